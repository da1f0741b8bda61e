import PyProof.Rows.All
import Wide.All
import OpenK.AllK
import Wide.FinOn
import HandS.ForMost
import HandS.Exc
import HandS.TryOnly
import HandS.Defaults
import HandS.Deep
import HandS.AnyAll
import KE.DataEq
import KE.KeyNested
import KE.KDictKeyed
import HandS.TupAny
import HandS.TupMul
import HandS.Wide
import HandS.IsInst
import KE.DataCmp
import HandS.Style
import HandS.WordsDict
import HandS.Codes
import HandS.Zip
import HandS.Comp
import HandS.GenList
import HandS.CallSlots
import HandS.WordsExc
import HandS.Sort
import KE.SortData
import PyProof.Rows.ListMulArg
import HandS.SetFor
import HandS.TupSets
import HandS.Strs
import HandS.Conv
import HandS.Ends
import HandS.EndTab
import HandS.HeadWalk
import HandS.HeadEnd
import HandS.HeadHook1
import HandS.HeadHook2
import HandS.HeadHook3
import HandS.HeadHook4
import HandS.Head0
import HandS.Head1
import HandS.Head2
import KE.KNestM
import KE.KDictDisplayH
import KE.GoesEnum
import KE.KDictCopyH
import KE.KDictOf
import HandS.DictComp
import HandS.ExcOwn
import PySem.Challenge.RW_letterhalls_k09_whole_likes
set_option Elab.async false
set_option linter.all false
set_option maxRecDepth 100000
set_option maxHeartbeats 1000000
namespace TL
open PySem PySem.Spec PyProof.Rows L2

/-! ### values, environments, the monad -/
/-- a field of an instance: data, or a list of its own -/
inductive FV where
  | d (x : PyData)
  | l (xs : List PyData)
/-- a dict whose keys are tuples; a list of dicts, all its own; an instance -/
inductive XV where
  | dn (kvs : List (NestedKey × PyData))
  | ldd (ds : List (List (Int × PyData)))
  | ins (c : Str) (fs : List (Str × FV))
inductive OV where
  | d (x : PyData)
  | lst (xs : List PyData)
  | dct (kvs : List (Int × PyData))
  | ext (e : XV)

abbrev Env := List (Option OV)
structure Exn where
  cls : Str
  args : List PyData
inductive Out (α : Type) where
  | ok (a : α) (e : Env)
  | exc (x : Exn) (e : Env)
abbrev M (α : Type) := Env → Option (Out α)
@[reducible] def M.ret {α : Type} (a : α) : M α := fun e => some (.ok a e)
def Out.andThen {α β : Type} (o : Option (Out α)) (f : α → M β) : Option (Out β) := match o with
  | none => none
  | some (.exc x e') => some (.exc x e')
  | some (.ok a e') => f a e'
def M.bind {α β : Type} (m : M α) (f : α → M β) : M β := fun e => Out.andThen (m e) f
def M.opt {α : Type} (o : Option α) : M α := fun e => match o with
  | none => none
  | some a => some (.ok a e)
instance : Monad M where
  pure := M.ret
  bind := M.bind
theorem Out.andThen_ok {α β : Type} (a : α) (e : Env) (f : α → M β) : Out.andThen (some (.ok a e)) f = f a e := rfl
theorem Out.andThen_exc {α β : Type} (x : Exn) (e : Env) (f : α → M β) : Out.andThen (some (.exc x e)) f = some (.exc x e) := rfl
theorem Out.andThen_none {α β : Type} (f : α → M β) : Out.andThen none f = none := rfl
theorem M.bind_at {α β : Type} (m : M α) (f : α → M β) (e : Env) : (m >>= f) e = Out.andThen (m e) f := rfl
theorem M.pure_at {α : Type} (a : α) (e : Env) : (pure a : M α) e = some (.ok a e) := rfl
/-- dicts as data -/
def dictI (kvs : List (Int × PyData)) : PyData := .dict (kvs.map fun p => (.int p.1, p.2))
/-- (marked, so that it is told from a dict of ints) -/
def dictN (kvs : List (NestedKey × PyData)) : PyData := .dict ((.str "#", .none) :: kvs.map fun p => (p.1.data, p.2))
def isIntK : PyData → Bool
  | .int _ => true
  | _ => false
def OV.dat : OV → Option PyData
  | .d x => some x
  | .lst xs => some (.list xs)
  | .dct kvs => some (dictI kvs)
  | .ext (.dn kvs) => some (dictN kvs)
  | .ext (.ldd ds) => some (.list (ds.map dictI))
  | .ext (.ins _ _) => none
/-- as data, for good -/
def frz (m : M OV) : M PyData := m >>= fun v => M.opt v.dat

/-! ### how they lie in the heap -/
/-- no written part: what data lies in is tracked -/
abbrev K0 : PySem.W.Frag := []
theorem toK_L {K : PySem.W.Frag} {H : Hp} {a : Addr} {xs : List V} (h : SqL K0 H a xs) : SqL K H a xs := by
  rcases h with h | ⟨o, its, n, e, _⟩
  · exact .inl h
  · cases e
theorem toK_T {K : PySem.W.Frag} {H : Hp} {a : Addr} {xs : List V} (h : SqT K0 H a xs) : SqT K H a xs := by
  rcases h with h | ⟨o, its, n, e, _⟩
  · exact .inl h
  · cases e
/-- where the classes stand -/
abbrev CT := Str → Option Addr
structure Cc where
  F : Hp
  kp : Nat → Option V
  tabs : List Addr
  exc : Str → Option Addr
/-- what a part of the heap that is not changed is made of -/
def Fz : HO → Prop
  | .tbl _ => False
  | .frz _ (.tup _) => False
  | _ => True
/-- what is held beside: no tuple -/
def Fw : HO → Prop
  | .tbl _ => False
  | .tup _ => False
  | .frz _ (.tup _) => False
  | _ => True
theorem Fw.fz {o : HO} (h : Fw o) : Fz o := by
  cases o with
  | frz ob u => cases u <;> first | exact trivial | exact h
  | _ => first | exact trivial | exact h
def Le (a b : Hp) : Prop := ∀ x o, a x = some o → b x = some o
theorem Le.refl (a : Hp) : Le a a := fun _ _ e => e
theorem Le.trans {a b c : Hp} (h : Le a b) (k : Le b c) : Le a c := fun x o e => k x o (h x o e)
theorem Le.sqL {K : PySem.W.Frag} {H H' : Hp} {a : Addr} {xs : List V} (l : Le H H') (h : SqL K H a xs) : SqL K H' a xs := by
  rcases h with (h | ⟨o, h⟩) | h
  · exact .inl (.inl (l _ _ h))
  · exact .inl (.inr ⟨o, l _ _ h⟩)
  · exact .inr h
theorem Le.sqT {K : PySem.W.Frag} {H H' : Hp} {a : Addr} {xs : List V} (l : Le H H') (h : SqT K H a xs) : SqT K H' a xs := by
  rcases h with (h | ⟨o, h⟩) | h
  · exact .inl (.inl (l _ _ h))
  · exact .inl (.inr ⟨o, l _ _ h⟩)
  · exact .inr h
/-! a key: a tuple of whole numbers, None, tuples, no texts -/
mutual
def kOk : NestedKey → Bool
  | .none => true
  | .num _ => true
  | .text _ => false
  | .tup ks => kOks ks
def kOks : List NestedKey → Bool
  | [] => true
  | k :: ks => kOk k && kOks ks
end
def kTop : NestedKey → Bool
  | .tup ks => kOks ks && decide (NestedKey.depth (.tup ks) ≤ 8)
  | _ => false
mutual
/-- its hash -/
def hN : NestedKey → Int
  | .none => reduceHash 0xFCA86420
  | .num i => hashInt i
  | .text _ => 0
  | .tup ks => reduceHash (Builtin.Tuple.tupleHashOf (hNs ks))
def hNs : List NestedKey → List Int
  | [] => []
  | k :: ks => hN k :: hNs ks
end
mutual
theorem hN_eq (w : World) : ∀ k : NestedKey, kOk k = true → NestedKey.hash w k = hN k
  | .none, _ => rfl
  | .num _, _ => rfl
  | .text _, h => by simp [kOk] at h
  | .tup ks, h => by rw [NestedKey.hash, hN, hNs_eq w ks (by simpa [kOk] using h)]
theorem hNs_eq (w : World) : ∀ ks : List NestedKey, kOks ks = true → NestedKey.hashes w ks = hNs ks
  | [], _ => rfl
  | k :: ks, h => by
    rw [kOks, Bool.and_eq_true] at h
    rw [NestedKey.hashes, hNs, hN_eq w k h.1, hNs_eq w ks h.2]
end
def entN (x : NestedKey × Addr × Value) : DictEntry := ⟨hN x.1, .ref x.2.1, x.2.2⟩
/-- what is true of a dict whose keys are tuples -/
def phN (a : Addr) (es : List (NestedKey × Addr × Value)) : Heap → Prop := fun h => (a == sysModules) = false ∧ (es.map (·.1)).Nodup ∧ ∃ o ar ep, h.get? a = some o ∧ o.ExactDict ∧ o.data = .dict ar ep ∧ ar.toList = es.map entN
mutual
/-- frozen data -/
inductive Dd (P : Hp) : V → PyData → Prop
  | non : Dd P .non .none
  | bl (b : Bool) : Dd P (.bl b) (.bool b)
  | int (i : Int) : Dd P (.int i) (.int i)
  | str (x : Str) : Dd P (.str x) (.str x)
  | lst {a : Addr} {vs : List V} {xs : List PyData} : SqL K0 P a vs → DdAll P vs xs → Dd P (.ref a) (.list xs)
  | tup {a : Addr} {vs : List V} {xs : List PyData} : SqT K0 P a vs → DdAll P vs xs → Dd P (.ref a) (.tuple xs)
  | dic {a : Addr} {ob : Obj} {vs : List (Key × V)} {xs : List (PyData × PyData)} : P a = some (.frz ob (.dK vs)) → DdI P vs xs → Dd P (.ref a) (.dict xs)
  | din {a : Addr} {ob : Obj} {es : List (NestedKey × Addr × Value)} {xs : List (PyData × PyData)} : P a = some (.frz ob (.ext (phN a es))) → DdN P es xs → Dd P (.ref a) (.dict ((.str "#", .none) :: xs))
inductive DdAll (P : Hp) : List V → List PyData → Prop
  | nil : DdAll P [] []
  | cons {v : V} {vs : List V} {x : PyData} {xs : List PyData} : Dd P v x → DdAll P vs xs → DdAll P (v :: vs) (x :: xs)
inductive DdI (P : Hp) : List (Key × V) → List (PyData × PyData) → Prop
  | nil : DdI P [] []
  | cons {k : Int} {v : V} {vs : List (Key × V)} {x : PyData} {xs : List (PyData × PyData)} : Dd P v x → DdI P vs xs → DdI P ((.inl k, v) :: vs) ((.int k, x) :: xs)
inductive DdN (P : Hp) : List (NestedKey × Addr × Value) → List (PyData × PyData) → Prop
  | nil : DdN P [] []
  | cons {k : NestedKey} {q : Addr} {v : V} {u : Value} {es : List (NestedKey × Addr × Value)} {x : PyData} {xs : List (PyData × PyData)} : kTop k = true → Dd P (.ref q) k.data → RelV v u → Dd P v x → DdN P es xs → DdN P ((k, q, u) :: es) ((k.data, x) :: xs)
end
mutual
theorem Le.dp {H H' : Hp} (l : Le H H') : ∀ {v : V} {x : PyData}, Dd H v x → Dd H' v x
  | _, _, .non => .non
  | _, _, .bl b => .bl b
  | _, _, .int i => .int i
  | _, _, .str x => .str x
  | _, _, .lst h a => .lst (l.sqL h) (l.dpAll a)
  | _, _, .tup h a => .tup (l.sqT h) (l.dpAll a)
  | _, _, .dic h a => .dic (l _ _ h) (l.ddI a)
  | _, _, .din h a => .din (l _ _ h) (l.ddN a)
theorem Le.dpAll {H H' : Hp} (l : Le H H') : ∀ {vs : List V} {xs : List PyData}, DdAll H vs xs → DdAll H' vs xs
  | _, _, .nil => .nil
  | _, _, .cons h t => .cons (l.dp h) (l.dpAll t)
theorem Le.ddI {H H' : Hp} (l : Le H H') : ∀ {vs : List (Key × V)} {xs : List (PyData × PyData)}, DdI H vs xs → DdI H' vs xs
  | _, _, .nil => .nil
  | _, _, .cons h t => .cons (l.dp h) (l.ddI t)
theorem Le.ddN {H H' : Hp} (l : Le H H') : ∀ {vs : List (NestedKey × Addr × Value)} {xs : List (PyData × PyData)}, DdN H vs xs → DdN H' vs xs
  | _, _, .nil => .nil
  | _, _, .cons h k r d t => .cons h (l.dp k) r (l.dp d) (l.ddN t)
end
mutual
/-- such data as the library tells it -/
theorem toK {K : PySem.W.Frag} {H : Hp} : ∀ {v : V} {x : PyData}, PyData.plain x = true → Dd H v x → Dp K H v x
  | _, _, _, .non => .non
  | _, _, _, .bl b => .bl b
  | _, _, _, .int i => .int i
  | _, _, _, .str x => .str x
  | _, _, n, .lst h a => .lst (toK_L h) (toK_all (by simpa [PyData.plain] using n) a)
  | _, _, n, .tup h a => .tup (toK_T h) (toK_all (by simpa [PyData.plain] using n) a)
  | _, _, n, .dic _ _ => by simp [PyData.plain] at n
  | _, _, n, .din _ _ => by simp [PyData.plain] at n
theorem toK_all {K : PySem.W.Frag} {H : Hp} : ∀ {vs : List V} {xs : List PyData}, PyData.plainAll xs = true → DdAll H vs xs → DpAll K H vs xs
  | _, _, _, .nil => .nil
  | _, _, n, .cons h t => by
    rw [PyData.plainAll, Bool.and_eq_true] at n
    exact .cons (toK n.1 h) (toK_all n.2 t)
end
theorem dpAll_length {H : Hp} : ∀ {vs : List V} {xs : List PyData}, DdAll H vs xs → vs.length = xs.length
  | _, _, .nil => rfl
  | _, _, .cons _ t => by rw [List.length_cons, List.length_cons, dpAll_length t]
theorem dpAll_get {H : Hp} : ∀ {vs : List V} {xs : List PyData} {i : Nat} {x : PyData}, DdAll H vs xs → xs[i]? = some x → ∃ v, vs[i]? = some v ∧ Dd H v x
  | _, _, _, _, .nil, e => by simp at e
  | _, _, 0, x, .cons h _, e => by
    simp only [List.getElem?_cons_zero, Option.some.injEq] at e
    subst e
    exact ⟨_, rfl, h⟩
  | _, _, i + 1, x, .cons _ t, e => by
    obtain ⟨v, h1, h2⟩ := dpAll_get (i := i) (x := x) t (by simpa using e)
    exact ⟨v, by simpa using h1, h2⟩
theorem dpAll_get' {H : Hp} : ∀ {vs : List V} {xs : List PyData} {i : Nat} {v : V}, DdAll H vs xs → vs[i]? = some v → ∃ x, xs[i]? = some x ∧ Dd H v x
  | _, _, _, _, .nil, e => by simp at e
  | _, _, 0, v, .cons h _, e => by
    simp only [List.getElem?_cons_zero, Option.some.injEq] at e
    subst e
    exact ⟨_, rfl, h⟩
  | _, _, i + 1, v, .cons _ t, e => by
    obtain ⟨x, h1, h2⟩ := dpAll_get' (i := i) (v := v) t (by simpa using e)
    exact ⟨x, by simpa using h1, h2⟩
theorem dpAll_append {H : Hp} : ∀ {vs ws : List V} {xs ys : List PyData}, DdAll H vs xs → DdAll H ws ys → DdAll H (vs ++ ws) (xs ++ ys)
  | _, _, _, _, .nil, k => k
  | _, _, _, _, .cons h t, k => .cons h (dpAll_append t k)
theorem dpAll_take {H : Hp} : ∀ {vs : List V} {xs : List PyData} (n : Nat), DdAll H vs xs → DdAll H (vs.take n) (xs.take n)
  | _, _, 0, _ => .nil
  | _, _, _ + 1, .nil => .nil
  | _, _, n + 1, .cons h t => .cons h (dpAll_take n t)
theorem dpAll_drop {H : Hp} : ∀ {vs : List V} {xs : List PyData} (n : Nat), DdAll H vs xs → DdAll H (vs.drop n) (xs.drop n)
  | _, _, 0, h => h
  | _, _, _ + 1, .nil => .nil
  | _, _, n + 1, .cons _ t => dpAll_drop n t
theorem dpAll_eraseIdx {H : Hp} : ∀ {vs : List V} {xs : List PyData} (n : Nat), DdAll H vs xs → DdAll H (vs.eraseIdx n) (xs.eraseIdx n)
  | _, _, _, .nil => .nil
  | _, _, 0, .cons _ t => t
  | _, _, n + 1, .cons h t => .cons h (dpAll_eraseIdx n t)
theorem dpAll_set {H : Hp} {v : V} {x : PyData} (d : Dd H v x) : ∀ {vs : List V} {xs : List PyData} (n : Nat), DdAll H vs xs → DdAll H (vs.set n v) (xs.set n x)
  | _, _, _, .nil => .nil
  | _, _, 0, .cons _ t => .cons d t
  | _, _, n + 1, .cons h t => .cons h (dpAll_set d n t)
theorem dpAll_reverse {H : Hp} : ∀ {vs : List V} {xs : List PyData}, DdAll H vs xs → DdAll H vs.reverse xs.reverse
  | _, _, .nil => .nil
  | _, _, .cons h t => by
    rw [List.reverse_cons, List.reverse_cons]
    exact dpAll_append (dpAll_reverse t) (.cons h .nil)

/-- a dict whose keys are whole numbers -/
inductive DctAll (H : Hp) : List (Key × V) → List (Int × PyData) → Prop
  | nil : DctAll H [] []
  | cons {k : Int} {v : V} {kvs : List (Key × V)} {x : PyData} {r : List (Int × PyData)} : Dd H v x → DctAll H kvs r → DctAll H ((.inl k, v) :: kvs) ((k, x) :: r)
theorem Le.dctAll {H H' : Hp} (l : Le H H') : ∀ {vs : List (Key × V)} {xs : List (Int × PyData)}, DctAll H vs xs → DctAll H' vs xs
  | _, _, .nil => .nil
  | _, _, .cons h t => .cons (l.dp h) (l.dctAll t)

theorem DctAll.ddI {H : Hp} : ∀ {vs : List (Key × V)} {xs : List (Int × PyData)}, DctAll H vs xs → DdI H vs (xs.map fun p => (.int p.1, p.2))
  | _, _, .nil => .nil
  | _, _, .cons h t => .cons h t.ddI
/-- a dict whose keys are tuples -/
inductive DnAll (P : Hp) : List (NestedKey × Addr × Value) → List (NestedKey × PyData) → Prop
  | nil : DnAll P [] []
  | cons {k : NestedKey} {q : Addr} {v : V} {u : Value} {es : List (NestedKey × Addr × Value)} {x : PyData} {xs : List (NestedKey × PyData)} : kTop k = true → Dd P (.ref q) k.data → RelV v u → Dd P v x → DnAll P es xs → DnAll P ((k, q, u) :: es) ((k, x) :: xs)
theorem Le.dnAll {H H' : Hp} (l : Le H H') : ∀ {vs : List (NestedKey × Addr × Value)} {xs : List (NestedKey × PyData)}, DnAll H vs xs → DnAll H' vs xs
  | _, _, .nil => .nil
  | _, _, .cons h k r d t => .cons h (l.dp k) r (l.dp d) (l.dnAll t)
theorem DnAll.ddN {H : Hp} : ∀ {vs : List (NestedKey × Addr × Value)} {xs : List (NestedKey × PyData)}, DnAll H vs xs → DdN H vs (xs.map fun p => (p.1.data, p.2))
  | _, _, .nil => .nil
  | _, _, .cons h k r d t => .cons h k r d t.ddN
/-- dicts of one's own -/
inductive LddAll (P H : Hp) : List V → List (List (Int × PyData)) → List Addr → Prop
  | nil : LddAll P H [] [] []
  | cons {a : Addr} {vs : List (Key × V)} {kvs : List (Int × PyData)} {us : List V} {ds : List (List (Int × PyData))} {as : List Addr} : H a = some (.dK vs) → DctAll P vs kvs → LddAll P H us ds as → LddAll P H (.ref a :: us) (kvs :: ds) (a :: as)
theorem LddAll.frame {P P' H H' : Hp} (l : Le P P') : ∀ {us : List V} {ds : List (List (Int × PyData))} {as : List Addr}, LddAll P H us ds as → (∀ a ∈ as, H' a = H a) → LddAll P' H' us ds as
  | _, _, _, .nil, _ => .nil
  | _, _, _, .cons h d t, k => .cons ((k _ List.mem_cons_self).trans h) (l.dctAll d) (t.frame l fun a ha => k a (List.mem_cons_of_mem _ ha))
theorem LddAll.there {P H : Hp} : ∀ {us : List V} {ds : List (List (Int × PyData))} {as : List Addr}, LddAll P H us ds as → ∀ a ∈ as, ∃ u, H a = some u ∧ Fw u
  | _, _, _, .cons h d t, a, ha => by
    rcases List.mem_cons.mp ha with e | ha
    · rw [e]; exact ⟨_, h, trivial⟩
    · exact t.there a ha
/-- an instance's fields -/
inductive FldAll (P H : Hp) : List (Str × V) → List (Str × FV) → List Addr → Prop
  | nil : FldAll P H [] [] []
  | d {n : Str} {v : V} {x : PyData} {vs : List (Str × V)} {fs : List (Str × FV)} {as : List Addr} : Dd P v x → FldAll P H vs fs as → FldAll P H ((n, v) :: vs) ((n, .d x) :: fs) as
  | l {n : Str} {a : Addr} {us : List V} {xs : List PyData} {vs : List (Str × V)} {fs : List (Str × FV)} {as : List Addr} : H a = some (.lst us) → DdAll P us xs → FldAll P H vs fs as → FldAll P H ((n, .ref a) :: vs) ((n, .l xs) :: fs) (a :: as)
theorem FldAll.frame {P P' H H' : Hp} (l : Le P P') : ∀ {us : List (Str × V)} {ds : List (Str × FV)} {as : List Addr}, FldAll P H us ds as → (∀ a ∈ as, H' a = H a) → FldAll P' H' us ds as
  | _, _, _, .nil, _ => .nil
  | _, _, _, FldAll.d h t, k => .d (l.dp h) (t.frame l k)
  | _, _, _, .l h e t, k => .l ((k _ List.mem_cons_self).trans h) (l.dpAll e) (t.frame l fun a ha => k a (List.mem_cons_of_mem _ ha))
theorem FldAll.there {P H : Hp} : ∀ {us : List (Str × V)} {ds : List (Str × FV)} {as : List Addr}, FldAll P H us ds as → ∀ a ∈ as, ∃ u, H a = some u ∧ Fw u
  | _, _, _, FldAll.d _ t, a, ha => t.there a ha
  | _, _, _, .l h e t, a, ha => by
    rcases List.mem_cons.mp ha with z | ha
    · rw [z]; exact ⟨_, h, trivial⟩
    · exact t.there a ha
inductive OwnX (ct : CT) (P H : Hp) : XV → V → List Addr → Prop
  | dn {a : Addr} {es : List (NestedKey × Addr × Value)} {xs : List (NestedKey × PyData)} : H a = some (.ext (phN a es)) → DnAll P es xs → OwnX ct P H (.dn xs) (.ref a) [a]
  | ldd {a : Addr} {us : List V} {ds : List (List (Int × PyData))} {as : List Addr} : H a = some (.lst us) → LddAll P H us ds as → (a :: as).Nodup → OwnX ct P H (.ldd ds) (.ref a) (a :: as)
  | ins {c : Str} {cl a dx : Addr} {vs : List (Str × V)} {fs : List (Str × FV)} {as : List Addr} : ct c = some cl → H a = some (.ins cl dx vs) → H dx = some (.own a) → FldAll P H vs fs as → (a :: dx :: as).Nodup → OwnX ct P H (.ins c fs) (.ref a) (a :: dx :: as)
theorem OwnX.frame {ct : CT} {P P' H H' : Hp} {o : XV} {v : V} {f : List Addr} (h : OwnX ct P H o v f) (l : Le P P') (k : ∀ a ∈ f, H' a = H a) : OwnX ct P' H' o v f := by
  cases h with
  | dn h t => exact .dn ((k _ List.mem_cons_self).trans h) (l.dnAll t)
  | ldd h t n => exact .ldd ((k _ List.mem_cons_self).trans h) (t.frame l fun a ha => k a (List.mem_cons_of_mem _ ha)) n
  | ins c h h2 t n => exact .ins c ((k _ List.mem_cons_self).trans h) ((k _ (List.mem_cons_of_mem _ List.mem_cons_self)).trans h2) (t.frame l fun a ha => k a (List.mem_cons_of_mem _ (List.mem_cons_of_mem _ ha))) n
theorem OwnX.there {ct : CT} {P H : Hp} {o : XV} {v : V} {f : List Addr} (h : OwnX ct P H o v f) : ∀ a ∈ f, ∃ u, H a = some u ∧ Fw u := by
  intro a ha
  cases h with
  | dn h t =>
    rw [List.mem_singleton.mp ha]
    exact ⟨_, h, trivial⟩
  | ldd h t n =>
    rcases List.mem_cons.mp ha with e | ha
    · rw [e]; exact ⟨_, h, trivial⟩
    · exact t.there a ha
  | ins c h h2 t n =>
    rcases List.mem_cons.mp ha with e | ha
    · rw [e]; exact ⟨_, h, trivial⟩
    rcases List.mem_cons.mp ha with e | ha
    · rw [e]; exact ⟨_, h2, trivial⟩
    · exact t.there a ha

/-- a value at v, whose own objects are fp -/
inductive Own (ct : CT) (P H : Hp) : OV → V → List Addr → Prop
  | d {x : PyData} {v : V} : Dd P v x → Own ct P H (.d x) v []
  | lst {a : Addr} {vs : List V} {xs : List PyData} : H a = some (.lst vs) → DdAll P vs xs → Own ct P H (.lst xs) (.ref a) [a]
  | dct {a : Addr} {vs : List (Key × V)} {xs : List (Int × PyData)} : H a = some (.dK vs) → DctAll P vs xs → Own ct P H (.dct xs) (.ref a) [a]
  | ext {e : XV} {v : V} {f : List Addr} : OwnX ct P H e v f → Own ct P H (.ext e) v f
theorem Own.frame {ct : CT} {P P' H H' : Hp} {o : OV} {v : V} {f : List Addr} (h : Own ct P H o v f) (l : Le P P') (k : ∀ a ∈ f, H' a = H a) : Own ct P' H' o v f := by
  cases h with
  | d h => exact .d (l.dp h)
  | lst h t => exact .lst ((k _ List.mem_cons_self).trans h) (l.dpAll t)
  | dct h t => exact .dct ((k _ List.mem_cons_self).trans h) (l.dctAll t)
  | ext h => exact .ext (h.frame l k)
theorem Own.there {ct : CT} {P H : Hp} {o : OV} {v : V} {f : List Addr} (h : Own ct P H o v f) : ∀ a ∈ f, ∃ u, H a = some u ∧ Fw u := by
  intro a ha
  cases h with
  | d h => cases ha
  | lst h t =>
    have e : a = _ := List.mem_singleton.mp ha
    rw [e]
    exact ⟨_, h, trivial⟩
  | dct h t =>
    have e : a = _ := List.mem_singleton.mp ha
    rw [e]
    exact ⟨_, h, trivial⟩
  | ext h => exact h.there a ha

structure StOk (C : Cc) (P : Hp) (env : Env) (fp : Nat → List Addr) (σ : L2.St) (H : Hp) : Prop where
  phi : ∀ b o, P b = some o → H b = some o ∧ Fz o
  frm : ∀ b o, C.F b = some o → H b = some o ∧ Fw o ∧ P b = none
  own : ∀ i ov, env[i]? = some (some ov) → ∃ v, σ[i]? = some (some v) ∧ Own C.exc P H ov v (fp i)
  dis : ∀ i j a, a ∈ fp i → a ∈ fp j → i = j
  fre : ∀ i a, a ∈ fp i → P a = none ∧ C.F a = none ∧ ∃ u, H a = some u ∧ Fw u
  keep : ∀ i v, C.kp i = some v → σ[i]? = some (some v)
  tabs : ∀ p ∈ C.tabs, GxR.TabG H p
  len : env.length = σ.length
/-- a value in the hand: apart from all else -/
structure Tmp (C : Cc) (P : Hp) (fp : Nat → List Addr) (ft : List Addr) : Prop where
  dis : ∀ i a, a ∈ fp i → a ∉ ft
  fre : ∀ a, a ∈ ft → P a = none ∧ C.F a = none
theorem Tmp.nil {C : Cc} {P : Hp} {fp : Nat → List Addr} : Tmp C P fp [] := ⟨fun _ _ _ h => by simp at h, fun _ h => by simp at h⟩

section
variable {C : Cc} {P P' : Hp} {env env' : Env} {fp fp' : Nat → List Addr} {σ : L2.St} {H H' : Hp} {ov : OV} {v : V} {ft : List Addr}
theorem StOk.le (s : StOk C P env fp σ H) : Le P H := fun b o e => (s.phi b o e).1
/-- the value in the hand is made data for good; its dicts are locked -/
def pinAt (f : Addr → Obj) (H : Hp) (as : List Addr) : Hp := fun b => if b ∈ as then (H b).map (HO.frz (f b)) else H b
theorem pinAt_nil {f : Addr → Obj} {H : Hp} : pinAt f H [] = H := by
  funext b
  unfold pinAt
  rw [if_neg (by simp)]
theorem pinAt_in {f : Addr → Obj} {H : Hp} {as : List Addr} {b : Addr} {u : HO} (hb : b ∈ as) (h : H b = some u) : pinAt f H as b = some (.frz (f b) u) := by
  unfold pinAt
  rw [if_pos hb, h]
  rfl
theorem pinAt_out {f : Addr → Obj} {H : Hp} {as : List Addr} {b : Addr} (hb : b ∉ as) : pinAt f H as b = H b := by
  unfold pinAt
  rw [if_neg hb]
def pinsOf (ov : OV) (ft : List Addr) : List Addr := match ov with
  | .dct _ => ft
  | .ext (.dn _) => ft
  | .ext (.ldd _) => ft.tail
  | _ => []
theorem pinsOf_sub {ov : OV} {ft : List Addr} : ∀ a ∈ pinsOf ov ft, a ∈ ft := by
  intro a ha
  unfold pinsOf at ha
  split at ha
  · exact ha
  · exact ha
  · exact List.mem_of_mem_tail ha
  · cases ha
theorem Fw.fzp {u : HO} {ob : Obj} (h : Fw u) : Fz (.frz ob u) := by
  cases u <;> first | exact trivial | exact h.elim
theorem StOk.freezeG (s : StOk C P env fp σ H) (th : ∀ a ∈ ft, ∃ u, H a = some u ∧ Fw u) (t : Tmp C P fp ft) (f : Addr → Obj) {as : List Addr} (hs : ∀ a ∈ as, a ∈ ft) :
    ∃ P', Le P P' ∧ StOk C P' env fp σ (pinAt f H as) ∧ ∀ a ∈ ft, P' a = pinAt f H as a := by
  refine ⟨fun b => open Classical in if b ∈ ft then pinAt f H as b else P b, fun b u q => ?_, ⟨fun b u q => ?_, fun b u q => ?_, fun i w q => ?_, s.dis, fun i b hb => ?_, s.keep, fun p hp => ?_, s.len⟩, fun a ha => if_pos ha⟩
  · have hn : b ∉ ft := fun z => by rw [(t.fre b z).1] at q; cases q
    show (if b ∈ ft then pinAt f H as b else P b) = some u
    rw [if_neg hn]
    exact q
  · have q : (if b ∈ ft then pinAt f H as b else P b) = some u := q
    by_cases hb : b ∈ ft
    · rw [if_pos hb] at q
      refine ⟨q, ?_⟩
      obtain ⟨w, hw, fw⟩ := th b hb
      by_cases ha : b ∈ as
      · rw [pinAt_in ha hw] at q
        cases q
        exact fw.fzp
      · rw [pinAt_out ha, hw] at q
        cases q
        exact fw.fz
    · rw [if_neg hb] at q
      rw [pinAt_out fun z => hb (hs b z)]
      exact s.phi b u q
  · have hn : b ∉ ft := fun z => by rw [(t.fre b z).2] at q; cases q
    obtain ⟨q1, q2, q3⟩ := s.frm b u q
    refine ⟨by rw [pinAt_out fun z => hn (hs b z)]; exact q1, q2, ?_⟩
    show (if b ∈ ft then pinAt f H as b else P b) = none
    rw [if_neg hn]
    exact q3
  · obtain ⟨u, q1, q2⟩ := s.own i w q
    refine ⟨u, q1, q2.frame (fun b u q => ?_) fun b hb => pinAt_out fun z => t.dis i b hb (hs b z)⟩
    have hn : b ∉ ft := fun z => by rw [(t.fre b z).1] at q; cases q
    show (if b ∈ ft then pinAt f H as b else P b) = some u
    rw [if_neg hn]
    exact q
  · obtain ⟨q1, q2, u, q3, q4⟩ := s.fre i b hb
    refine ⟨?_, q2, u, by rw [pinAt_out fun z => t.dis i b hb (hs b z)]; exact q3, q4⟩
    show (if b ∈ ft then pinAt f H as b else P b) = none
    rw [if_neg (t.dis i b hb)]
    exact q1
  · obtain ⟨ps, q1, q2⟩ := s.tabs p hp
    refine ⟨ps, ?_, q2⟩
    rw [pinAt_out fun z => ?_]
    · exact q1
    · obtain ⟨u, h1, h2⟩ := th p (hs p z)
      rw [q1] at h1
      cases h1
      exact h2
theorem ldd_frz {P P' H : Hp} {f : Addr → Obj} (l : Le P P') : ∀ {us : List V} {ds : List (List (Int × PyData))} {as : List Addr}, LddAll P H us ds as → (∀ a ∈ as, ∀ u, H a = some u → P' a = some (.frz (f a) u)) → DdAll P' us (ds.map dictI)
  | _, _, _, .nil, _ => .nil
  | _, _, _, .cons h d t, k => .cons (.dic (k _ List.mem_cons_self _ h) (l.dctAll d).ddI) (ldd_frz l t fun a ha => k a (List.mem_cons_of_mem _ ha))
theorem StOk.freeze (s : StOk C P env fp σ H) (o : Own C.exc P H ov v ft) (t : Tmp C P fp ft) {x : PyData} (e : ov.dat = some x) (f : Addr → Obj) :
    ∃ P', Le P P' ∧ StOk C P' env fp σ (pinAt f H (pinsOf ov ft)) ∧ Dd P' v x := by
  obtain ⟨P', l, s', k⟩ := s.freezeG o.there t f (pinsOf_sub (ov := ov))
  refine ⟨P', l, s', ?_⟩
  cases o with
  | d h =>
    cases e
    exact l.dp h
  | @lst a vs xs h d =>
    cases e
    refine .lst (SqL.of ?_) (l.dpAll d)
    rw [k a List.mem_cons_self]
    exact (pinAt_out (by simp [pinsOf])).trans h
  | @dct a vs xs h d =>
    cases e
    refine .dic (ob := f a) ?_ (l.dctAll d).ddI
    rw [k a List.mem_cons_self]
    exact pinAt_in (show a ∈ [a] from List.mem_cons_self) h
  | ext o =>
    cases o with
    | @dn a es xs h d =>
      cases e
      refine .din (ob := f a) ?_ (l.dnAll d).ddN
      rw [k a List.mem_cons_self]
      exact pinAt_in (show a ∈ [a] from List.mem_cons_self) h
    | @ldd a us ds as h d n =>
      cases e
      have ha : a ∉ as := (List.nodup_cons.mp n).1
      refine .lst (SqL.of ?_) (ldd_frz (f := f) l d fun b hb u hu => ?_)
      · rw [k a List.mem_cons_self]
        exact (pinAt_out (show a ∉ as from ha)).trans h
      · rw [k b (List.mem_cons_of_mem _ hb)]
        exact pinAt_in (show b ∈ as from hb) hu
    | ins c h h2 d n => cases e
theorem LddAll.muts {P H : Hp} : ∀ {us : List V} {ds : List (List (Int × PyData))} {as : List Addr}, LddAll P H us ds as → ∀ a ∈ as, ∃ u, H a = some u ∧ Mut (some u)
  | _, _, _, .cons h d t, a, ha => by
    rcases List.mem_cons.mp ha with e | ha
    · rw [e]; exact ⟨_, h, trivial⟩
    · exact t.muts a ha
theorem pins_ok (s : StOk C P env fp σ H) (o : Own C.exc P H ov v ft) : (pinsOf ov ft).Nodup ∧ ∀ a ∈ pinsOf ov ft, ∃ u, H a = some u ∧ Mut (some u) := by
  cases o with
  | d h => exact ⟨by simp [pinsOf], fun a ha => by simp [pinsOf] at ha⟩
  | lst h d => exact ⟨by simp [pinsOf], fun a ha => by simp [pinsOf] at ha⟩
  | dct h d => exact ⟨by simp [pinsOf], fun a ha => by
    obtain rfl : a = _ := List.mem_singleton.mp ha
    exact ⟨_, h, trivial⟩⟩
  | ext o =>
    cases o with
    | dn h d => exact ⟨by simp [pinsOf], fun a ha => by
    obtain rfl : a = _ := List.mem_singleton.mp ha
    exact ⟨_, h, trivial⟩⟩
    | ldd h d n => exact ⟨(List.nodup_cons.mp n).2, d.muts⟩
    | ins c h h2 d n => exact ⟨by simp [pinsOf], fun a ha => by simp [pinsOf] at ha⟩
/-- a new immutable object -/
theorem StOk.laid (s : StOk C P env fp σ H) {a : Addr} {u : HO} (hn : H a = none) (z : Fz u) : Le P (upd P a u) ∧ StOk C (upd P a u) env fp σ (upd H a u) := by
  have hp : P a = none := by
    cases q : P a with
    | none => rfl
    | some w => rw [(s.phi a w q).1] at hn; cases hn
  have hf : ∀ i, a ∉ fp i := fun i hi => by
    obtain ⟨_, _, w, q, _⟩ := s.fre i a hi
    rw [q] at hn; cases hn
  have l : Le P (upd P a u) := fun b w q => by
    rw [upd_ne (fun z => by rw [z, hp] at q; cases q)]
    exact q
  have ne : ∀ b w, H b = some w → b ≠ a := fun b w q z => by rw [z, hn] at q; cases q
  refine ⟨l, ⟨fun b w q => ?_, fun b w q => ?_, fun i w q => ?_, s.dis, fun i b hb => ?_, s.keep, fun p hpp => ?_, s.len⟩⟩
  · by_cases hb : b = a
    · rw [hb, upd_same] at q
      cases q
      rw [hb]
      exact ⟨upd_same, z⟩
    · rw [upd_ne hb] at q
      rw [upd_ne hb]
      exact s.phi b w q
  · obtain ⟨q1, q2, q3⟩ := s.frm b w q
    rw [upd_ne (ne b w q1), upd_ne (ne b w q1)]
    exact ⟨q1, q2, q3⟩
  · obtain ⟨y, q1, q2⟩ := s.own i w q
    exact ⟨y, q1, q2.frame l fun b hb => upd_ne (show b ≠ a from fun z => hf i (by rw [← z]; exact hb))⟩
  · obtain ⟨q1, q2, y, q3, q4⟩ := s.fre i b hb
    have nb : b ≠ a := fun z => hf i (by rw [← z]; exact hb)
    rw [upd_ne nb, upd_ne nb]
    exact ⟨q1, q2, y, q3, q4⟩
  · obtain ⟨ps, q1, q2⟩ := s.tabs p hpp
    exact ⟨ps, by rw [upd_ne (ne p _ q1)]; exact q1, q2⟩
/-- a new object of one's own -/
theorem StOk.newt (s : StOk C P env fp σ H) {a : Addr} {u : HO} (hn : H a = none) (z : Fz u) : StOk C P env fp σ (upd H a u) ∧ Tmp C P fp [a] := by
  have hp : P a = none := by
    cases q : P a with
    | none => rfl
    | some w => rw [(s.phi a w q).1] at hn; cases hn
  have hF : C.F a = none := by
    cases q : C.F a with
    | none => rfl
    | some w => rw [(s.frm a w q).1] at hn; cases hn
  have hf : ∀ i, a ∉ fp i := fun i hi => by
    obtain ⟨_, _, w, q, _⟩ := s.fre i a hi
    rw [q] at hn; cases hn
  have ne : ∀ b w, H b = some w → b ≠ a := fun b w q z => by rw [z, hn] at q; cases q
  refine ⟨⟨fun b w q => ?_, fun b w q => ?_, fun i w q => ?_, s.dis, fun i b hb => ?_, s.keep, fun p hpp => ?_, s.len⟩, fun i b hb hm => ?_, fun b hm => ?_⟩
  · obtain ⟨q1, q2⟩ := s.phi b w q
    rw [upd_ne (ne b w q1)]
    exact ⟨q1, q2⟩
  · obtain ⟨q1, q2, q3⟩ := s.frm b w q
    rw [upd_ne (ne b w q1)]
    exact ⟨q1, q2, q3⟩
  · obtain ⟨y, q1, q2⟩ := s.own i w q
    exact ⟨y, q1, q2.frame (Le.refl _) fun b hb => upd_ne (show b ≠ a from fun z => hf i (by rw [← z]; exact hb))⟩
  · obtain ⟨q1, q2, y, q3, q4⟩ := s.fre i b hb
    have nb : b ≠ a := fun z => hf i (by rw [← z]; exact hb)
    rw [upd_ne nb]
    exact ⟨q1, q2, y, q3, q4⟩
  · obtain ⟨ps, q1, q2⟩ := s.tabs p hpp
    exact ⟨ps, by rw [upd_ne (ne p _ q1)]; exact q1, q2⟩
  · exact hf i ((List.mem_singleton.mp hm) ▸ hb)
  · rw [List.mem_singleton.mp hm]
    exact ⟨hp, hF⟩
end
end TL
set_option Elab.async false
set_option linter.all false
set_option maxRecDepth 100000
set_option maxHeartbeats 1000000
namespace TL
open PySem PySem.Spec PyProof.Rows L2

theorem PE.imp {X : Cx} {e : Expr} {t t' : TE} (h : PE X e t) (i : ∀ σ H Q, t' σ H Q → t σ H Q) : PE X e t' := ⟨fun pins s σ H Q I q => h.run pins s σ H Q I (i σ H Q q)⟩
theorem PT.imp {X : Cx} {e : Expr} {t t' : TT} (h : PT X e t) (i : ∀ σ H Q, t' σ H Q → t σ H Q) : PT X e t' := ⟨fun pins s σ H Q I q => h.run pins s σ H Q I (i σ H Q q)⟩
theorem PW.imp {X : Cx} {e : Expr} {t t' : TT} (h : PW X e t) (i : ∀ σ H Q, t' σ H Q → t σ H Q) : PW X e t' := ⟨fun w pins s σ H Q I q => h.run w pins s σ H Q I (i σ H Q q)⟩
theorem PA.imp {X : Cx} {e : List Expr} {t t' : TA} (h : PA X e t) (i : ∀ σ H Q, t' σ H Q → t σ H Q) : PA X e t' := ⟨fun pos pins s σ H Q I q => h.run pos pins s σ H Q I (i σ H Q q)⟩
theorem PS.imp {X : Cx} {e : Stmt} {t t' : TS} (h : PS X e t) (i : ∀ D σ H, t' D σ H → t D σ H) : PS X e t' := ⟨fun pins s σ H D I q => h.run pins s σ H D I (i D σ H q)⟩
theorem PSs.imp {X : Cx} {e : List Stmt} {t t' : TS} (h : PSs X e t) (i : ∀ D σ H, t' D σ H → t D σ H) : PSs X e t' := ⟨fun pins s σ H D I q => h.run pins s σ H D I (i D σ H q)⟩

/-! ### what a monad's outcome is worth -/
/-- an exception lies in the heap: its class; its own dict with its fields -/
def ExcIs (C : Cc) (x : Exn) (cls : Value) (d : Option Addr) (H : Hp) : Prop := ∃ a, C.exc x.cls = some a ∧ cls = .ref a ∧ (x.args = [] ∨ ∃ dd fs, d = some dd ∧ H dd = some (.xd fs) ∧ fs.map (fun p => p.2) = x.args.map (fun z => match z with | .int i => V.int i | .str y => V.str y | .bool b => V.bl b | _ => V.non))
/-- R: how a result a and what stands for it, b, belong together -/
abbrev RelR (α β : Type) := Hp → (Nat → List Addr) → Hp → α → β → Prop
def postG {α β : Type} (C : Cc) (W : WX) (R : RelR α β) (P : Hp) (Q : β → Hp → Prop) (σ : L2.St) : Option (Out α) → Prop
  | none => False
  | some (.ok r env') => ∀ P' fp' H' v, Le P P' → StOk C P' env' fp' σ H' → R P' fp' H' r v → Q v H'
  | some (.exc x env') => ∀ P' fp' H' cls d, Le P P' → StOk C P' env' fp' σ H' → ExcIs C x cls d H' → W cls d σ H'
def liftG {α β : Type} (C : Cc) (W : WX) (R : RelR α β) (m : M α) : L2.St → Hp → (β → Hp → Prop) → Prop := fun σ H Q => ∃ P env fp, StOk C P env fp σ H ∧ postG C W R P Q σ (m env)
def rOV (C : Cc) : RelR OV V := fun P fp H r v => ∃ ft, Own C.exc P H r v ft ∧ Tmp C P fp ft
def rD (C : Cc) : RelR PyData V := fun P _ _ r v => Dd P v r
def rB : RelR Bool Bool := fun _ _ _ r v => v = r
def rDs (C : Cc) : RelR (List PyData) (List V) := fun P _ _ r v => DdAll P v r
abbrev liftE (C : Cc) (W : WX) (m : M OV) : TE := liftG C W (rOV C) m
abbrev liftD (C : Cc) (W : WX) (m : M PyData) : TE := liftG C W (rD C) m
abbrev liftT (C : Cc) (W : WX) (m : M Bool) : TT := liftG C W rB m
abbrev liftA (C : Cc) (W : WX) (m : M (List PyData)) : TA := liftG C W (rDs C) m
section
variable {α β γ δ : Type} {C : Cc} {W : WX} {P P' : Hp} {σ : L2.St}
theorem postG.mono {R : RelR α β} {Q : β → Hp → Prop} (l : Le P P') : ∀ {o : Option (Out α)}, postG C W R P Q σ o → postG C W R P' Q σ o
  | none, h => h
  | some (.ok r e), h => fun P1 fp1 H1 v l1 s1 r1 => h P1 fp1 H1 v (l.trans l1) s1 r1
  | some (.exc x e), h => fun P1 fp1 H1 c d l1 s1 r1 => h P1 fp1 H1 c d (l.trans l1) s1 r1
/-- two in a row -/
theorem postG.seq {R : RelR α β} {R2 : RelR γ δ} {Q : δ → Hp → Prop} {N : β → Hp → Prop} {f : α → M γ} : ∀ {o : Option (Out α)}, postG C W R2 P Q σ (Out.andThen o f) →
    (∀ a env' P' fp' H' v, Le P P' → StOk C P' env' fp' σ H' → R P' fp' H' a v → postG C W R2 P' Q σ (f a env') → N v H') → postG C W R P N σ o
  | none, h, _ => h
  | some (.ok r e), h, k => fun P1 fp1 H1 v l1 s1 r1 => k r e P1 fp1 H1 v l1 s1 r1 (postG.mono l1 h)
  | some (.exc x e), h, _ => h
theorem liftG.seq {R : RelR α β} {R2 : RelR γ δ} {H : Hp} {Q : δ → Hp → Prop} {N : β → Hp → Prop} {m : M α} {f : α → M γ} (h : liftG C W R2 (m >>= f) σ H Q)
    (k : ∀ a env' P' fp' H' v, StOk C P' env' fp' σ H' → R P' fp' H' a v → postG C W R2 P' Q σ (f a env') → N v H') : liftG C W R m σ H N := by
  obtain ⟨P, env, fp, s, h⟩ := h
  exact ⟨P, env, fp, s, postG.seq h fun a env' P' fp' H' v _ s' r q => k a env' P' fp' H' v s' r q⟩
end
section
variable {X : Cx} {C : Cc} {W : WX} {e : Expr} {m : M OV}
theorem Inv.pinAll {X : Cx} {pins : List (Addr × Obj)} {σ : L2.St} {H : Hp} {s : Shared} (I : Inv X pins σ H s) : ∀ {as : List Addr}, as.Nodup → (∀ a ∈ as, ∃ u, H a = some u ∧ Mut (some u)) → ∃ f, Inv X pins σ (pinAt f H as) s
  | [], _, _ => by
    refine ⟨fun a => { cls := .none, data := .fields #[] }, ?_⟩
    rw [pinAt_nil]
    exact I
  | a :: as, n, k => by
    obtain ⟨n1, n2⟩ := List.nodup_cons.mp n
    obtain ⟨f, I1⟩ := Inv.pinAll I n2 fun b hb => k b (List.mem_cons_of_mem _ hb)
    obtain ⟨u, hu, mu⟩ := k a List.mem_cons_self
    obtain ⟨od, I2⟩ := I1.lock (d := a) (u := u) ((pinAt_out n1).trans hu) mu
    refine ⟨fun b => if b = a then od else f b, ?_⟩
    have e : pinAt (fun b => if b = a then od else f b) H (a :: as) = upd (pinAt f H as) a (.frz od u) := by
      funext b
      by_cases hb : b = a
      · rw [hb, upd_same, pinAt_in List.mem_cons_self hu, if_pos rfl]
      · rw [upd_ne hb]
        unfold pinAt
        by_cases hm : b ∈ as
        · rw [if_pos (List.mem_cons_of_mem _ hm), if_pos hm]
          show Option.map (HO.frz (if b = a then od else f b)) (H b) = _
          rw [if_neg hb]
        · rw [if_neg (fun z => (List.mem_cons.mp z).elim hb hm), if_neg hm]
    rw [e]
    exact I2
/-- behind an expression things may be locked for good -/
theorem PE.pins {X : Cx} {e : Expr} {t : TE} (h : PE X e t) : PE X e (fun σ H Q => t σ H fun v H' => ∃ as : List Addr, (as.Nodup ∧ ∀ a ∈ as, ∃ u, H' a = some u ∧ Mut (some u)) ∧ ∀ f, Q v (pinAt f H' as)) :=
  ⟨fun pins s σ H Q I q => thn (h.run pins s σ H _ I q) fun u s1 ⟨v, H1, I1, r, as, ⟨n, k⟩, q1⟩ => by
    obtain ⟨f, I2⟩ := Inv.pinAll I1 n k
    exact ⟨v, _, I2, r, q1 f⟩⟩
theorem sE_frz (h : PE X e (liftE C W m)) : PE X e (liftD C W (frz m)) := PE.imp (PE.pins h) fun σ H Q q => by
  refine liftG.seq q fun a env' P' fp' H' v s r q => ?_
  obtain ⟨ft, o, t⟩ := r
  cases ed : a.dat with
  | none =>
    have q' : postG C W (rD C) P' Q σ (M.opt a.dat env') := q
    rw [ed] at q'
    exact q'.elim
  | some x =>
    have q' : postG C W (rD C) P' Q σ (M.opt a.dat env') := q
    rw [ed] at q'
    refine ⟨_, pins_ok s o, fun f => ?_⟩
    obtain ⟨P2, l2, s2, d2⟩ := s.freeze o t ed f
    exact q' P2 fp' _ v l2 s2 d2
/-- data as a value in the hand -/
theorem sE_dat {m : M PyData} (h : PE X e (liftD C W m)) : PE X e (liftE C W (m >>= fun x => pure (.d x))) := PE.imp h fun σ H Q q => by
  refine liftG.seq q fun a env' P' fp' H' v s r q => ?_
  exact q P' fp' H' v (Le.refl _) s ⟨[], .d r, Tmp.nil⟩
end

theorem Own.dp {ct : CT} {P H : Hp} {x : PyData} {v : V} {f : List Addr} (h : Own ct P H (.d x) v f) : Dd P v x := by
  cases h with
  | d h => exact h
theorem Own.of_lst {ct : CT} {P H : Hp} {xs : List PyData} {v : V} {f : List Addr} (h : Own ct P H (.lst xs) v f) : ∃ a vs, v = .ref a ∧ f = [a] ∧ H a = some (.lst vs) ∧ DdAll P vs xs := by
  cases h with
  | lst h d => exact ⟨_, _, rfl, rfl, h, d⟩
theorem Own.of_dct {ct : CT} {P H : Hp} {xs : List (Int × PyData)} {v : V} {f : List Addr} (h : Own ct P H (.dct xs) v f) : ∃ a vs, v = .ref a ∧ f = [a] ∧ H a = some (.dK vs) ∧ DctAll P vs xs := by
  cases h with
  | dct h d => exact ⟨_, _, rfl, rfl, h, d⟩
/-! ### names and constants -/
def mVar (i : Nat) : M OV := fun e => match e[i]? with
  | some (some (.d x)) => some (.ok (.d x) e)
  | _ => none
section
variable {X : Cx} {C : Cc} {W : WX} {pos : Pos}
theorem sE_var {i : Nat} {x : Str} (hN : X.N[i]? = some x) (hv : Vis X.env.scope x) (hd : (x == ("__debug__" : Str)) = false) (hcd : (x == ("__classdict__" : Str)) = false) : PE X (.Name x pos) (liftE C W (mVar i)) :=
  PE.imp (pe_var (i := i) hN hv hd hcd) fun σ H Q q => by
    obtain ⟨P, env, fp, s, h⟩ := q
    unfold mVar at h
    split at h
    · rename_i x e
      obtain ⟨v, e1, o⟩ := s.own i _ e
      exact ⟨v, e1, h P fp H v (Le.refl _) s ⟨[], .d o.dp, Tmp.nil⟩⟩
    · exact h.elim
/-- a value of its own is taken out of its slot -/
def mMove (i : Nat) : M OV := fun e => match e[i]? with
  | some (some v) => some (.ok v (e.set i none))
  | _ => none
theorem StOk.drop {P : Hp} {env : Env} {fp : Nat → List Addr} {σ : L2.St} {H : Hp} (s : StOk C P env fp σ H) (i : Nat) : StOk C P (env.set i none) (fun j => if j = i then [] else fp j) σ H := by
  refine ⟨s.phi, s.frm, fun j w q => ?_, fun j k a h1 h2 => ?_, fun j a h => ?_, s.keep, s.tabs, by rw [List.length_set]; exact s.len⟩
  · by_cases hj : j = i
    · subst hj
      by_cases hl : j < env.length
      · rw [List.getElem?_set_self hl] at q; cases q
      · rw [List.getElem?_eq_none (by rw [List.length_set]; omega)] at q; cases q
    · rw [List.getElem?_set_ne (Ne.symm hj)] at q
      obtain ⟨v, e, o⟩ := s.own j w q
      exact ⟨v, e, by rw [if_neg hj]; exact o⟩
  · by_cases hj : j = i
    · rw [if_pos hj] at h1; cases h1
    · by_cases hk : k = i
      · rw [if_pos hk] at h2; cases h2
      · rw [if_neg hj] at h1
        rw [if_neg hk] at h2
        exact s.dis j k a h1 h2
  · by_cases hj : j = i
    · rw [if_pos hj] at h; cases h
    · rw [if_neg hj] at h
      exact s.fre j a h
theorem sE_move {i : Nat} {x : Str} (hN : X.N[i]? = some x) (hv : Vis X.env.scope x) (hd : (x == ("__debug__" : Str)) = false) (hcd : (x == ("__classdict__" : Str)) = false) : PE X (.Name x pos) (liftE C W (mMove i)) :=
  PE.imp (pe_var (i := i) hN hv hd hcd) fun σ H Q q => by
    obtain ⟨P, env, fp, s, h⟩ := q
    unfold mMove at h
    split at h
    · rename_i w e
      obtain ⟨v, e1, o⟩ := s.own i _ e
      refine ⟨v, e1, h P _ H v (Le.refl _) (s.drop i) ⟨fp i, o, fun j a h1 h2 => ?_, fun a ha => ⟨(s.fre i a ha).1, (s.fre i a ha).2.1⟩⟩⟩
      by_cases hj : j = i
      · rw [if_pos hj] at h1; cases h1
      · rw [if_neg hj] at h1
        exact hj (s.dis j i a h1 h2)
    · exact h.elim
/-- a slot is made data for good -/
def mFrz (i : Nat) : M OV := fun e => match e[i]? with
  | some (some v) => (match v.dat with
    | some x => some (.ok (.d x) (e.set i (some (.d x))))
    | none => none)
  | _ => none
theorem StOk.put {P : Hp} {env : Env} {fp : Nat → List Addr} {σ : L2.St} {H : Hp} {ov : OV} {v : V} {ft : List Addr} (s : StOk C P env fp σ H) (i : Nat) (hs : σ[i]? = some (some v)) (o : Own C.exc P H ov v ft) (t : Tmp C P fp ft) :
    StOk C P (env.set i (some ov)) (fun j => if j = i then ft else fp j) σ H := by
  refine ⟨s.phi, s.frm, fun j w q => ?_, fun j k a h1 h2 => ?_, fun j a h => ?_, s.keep, s.tabs, by rw [List.length_set]; exact s.len⟩
  · by_cases hj : j = i
    · subst hj
      by_cases hl : j < env.length
      · rw [List.getElem?_set_self hl] at q
        cases q
        exact ⟨v, hs, by rw [if_pos rfl]; exact o⟩
      · rw [List.getElem?_eq_none (by rw [List.length_set]; omega)] at q; cases q
    · rw [List.getElem?_set_ne (Ne.symm hj)] at q
      obtain ⟨v, e, o⟩ := s.own j w q
      exact ⟨v, e, by rw [if_neg hj]; exact o⟩
  · by_cases hj : j = i
    · rw [if_pos hj] at h1
      by_cases hk : k = i
      · rw [hj, hk]
      · rw [if_neg hk] at h2
        exact absurd h1 (t.dis k a h2)
    · rw [if_neg hj] at h1
      by_cases hk : k = i
      · rw [if_pos hk] at h2
        exact absurd h2 (t.dis j a h1)
      · rw [if_neg hk] at h2
        exact s.dis j k a h1 h2
  · by_cases hj : j = i
    · rw [if_pos hj] at h
      obtain ⟨h1, h2⟩ := t.fre a h
      exact ⟨h1, h2, o.there a h⟩
    · rw [if_neg hj] at h
      exact s.fre j a h
theorem sE_frzv {i : Nat} {x : Str} (hN : X.N[i]? = some x) (hv : Vis X.env.scope x) (hd : (x == ("__debug__" : Str)) = false) (hcd : (x == ("__classdict__" : Str)) = false) : PE X (.Name x pos) (liftE C W (mFrz i)) :=
  PE.imp (PE.pins (pe_var (i := i) hN hv hd hcd)) fun σ H Q q => by
    obtain ⟨P, env, fp, s, h⟩ := q
    unfold mFrz at h
    split at h
    · rename_i w e
      obtain ⟨v, e1, o⟩ := s.own i _ e
      cases ed : w.dat with
      | none => rw [ed] at h; exact h.elim
      | some x =>
        rw [ed] at h
        have t : Tmp C P (fun j => if j = i then [] else fp j) (fp i) := ⟨fun j a h1 h2 => by
          by_cases hj : j = i
          · rw [if_pos hj] at h1; cases h1
          · rw [if_neg hj] at h1
            exact hj (s.dis j i a h1 h2), fun a ha => ⟨(s.fre i a ha).1, (s.fre i a ha).2.1⟩⟩
        refine ⟨v, e1, _, pins_ok s o, fun f => ?_⟩
        obtain ⟨P2, l2, s2, d2⟩ := (s.drop i).freeze o t ed f
        have s3 := s2.put i e1 (ov := .d x) (.d d2) Tmp.nil
        rw [List.set_set] at s3
        exact h P2 _ _ v l2 s3 ⟨[], .d d2, Tmp.nil⟩
    · exact h.elim
def mC (x : PyData) : M OV := pure (.d x)
theorem sE_c {e : Expr} {v : V} {x : PyData} (h : PE X e (tC v)) (d : ∀ H, Dd H v x) : PE X e (liftE C W (mC x)) := PE.imp h fun σ H Q q => by
  obtain ⟨P, env, fp, s, h⟩ := q
  exact h P fp H v (Le.refl _) s ⟨[], .d (d _), Tmp.nil⟩
theorem sE_int {i : Int} {j : Nat} : PE X (.Constant (.int i) j pos) (liftE C W (mC (.int i))) := sE_c pe_int fun _ => .int i
theorem sE_bool {b : Bool} {j : Nat} : PE X (.Constant (.bool b) j pos) (liftE C W (mC (.bool b))) := sE_c pe_bl fun _ => .bl b
theorem sE_none {j : Nat} : PE X (.Constant .none j pos) (liftE C W (mC .none)) := sE_c pe_non fun _ => .non
theorem sE_str {x : Str} {j : Nat} : PE X (.Constant (.str x) j pos) (liftE C W (mC (.str x))) := sE_c pe_str fun _ => .str x
theorem sE_globI {x : Str} {i : Int} {t : Tok} (hg : Gl X x) (hm : X.mg x = some (.int i t)) (hd : (x == ("__debug__" : Str)) = false) : PE X (.Name x pos) (liftE C W (mC (.int i))) := sE_c (pe_glob (v := .int i) hg hm ⟨_, rfl⟩ hd) fun _ => .int i
theorem sE_globS {x y : Str} {t : Tok} (hg : Gl X x) (hm : X.mg x = some (.str y t)) (hd : (x == ("__debug__" : Str)) = false) : PE X (.Name x pos) (liftE C W (mC (.str y))) := sE_c (pe_glob (v := .str y) hg hm ⟨_, rfl⟩ hd) fun _ => .str y
end

/-! ### operators over data -/
/-- f on data is g -/
def OD (X : Cx) (C : Cc) (f : Value → Value → Sem Value) (g : PyData → PyData → Option OV) : Prop :=
  ∀ (P : Hp) (env : Env) (fp : Nat → List Addr) (σ : L2.St) (H : Hp) (x y : V) (dx dy : PyData) (r : OV) (Q : VK), StOk C P env fp σ H → Dd P x dx → Dd P y dy → g dx dy = some r →
    (∀ P' fp' H' v, Le P P' → StOk C P' env fp' σ H' → rOV C P' fp' H' r v → Q v H') → ∃ rr : R2, OpR X f rr ∧ rr x y H Q
def mBin (g : PyData → PyData → Option OV) (a b : M PyData) : M OV := a >>= fun x => b >>= fun y => M.opt (g x y)
section
variable {X : Cx} {C : Cc} {W : WX} {pos : Pos} {a b : Expr} {ma mb : M PyData} {g : PyData → PyData → Option OV}
/-- as one operator rule -/
def rOD (C : Cc) (g : PyData → PyData → Option OV) : R2 := fun x y H Q => ∃ P env fp σ dx dy r, StOk C P env fp σ H ∧ Dd P x dx ∧ Dd P y dy ∧ g dx dy = some r ∧ ∀ P' fp' H' v, Le P P' → StOk C P' env fp' σ H' → rOV C P' fp' H' r v → Q v H'
theorem OD.r {f : Value → Value → Sem Value} (h : OD X C f g) : OpR X f (rOD C g) := by
  intro pins s σ H x y v u Q I rx ry ⟨P, env, fp, σ', dx, dy, r, st, d1, d2, e, k⟩
  obtain ⟨rr, o, q⟩ := h P env fp σ' H x y dx dy r Q st d1 d2 e k
  exact o pins s σ H x y v u Q I rx ry q
theorem rOD.of {σ : L2.St} {H : Hp} {Q : VK} (h : liftE C W (mBin g ma mb) σ H Q) : tOp (rOD C g) (liftD C W ma) (liftD C W mb) σ H Q := by
  refine liftG.seq h fun x env1 P1 fp1 H1 v s1 r1 h1 => ?_
  refine ⟨P1, env1, fp1, s1, postG.seq h1 fun y env2 P2 fp2 H2 u l2 s2 r2 h2 => ?_⟩
  cases e : g x y with
  | none =>
    have h3 : postG C W (rOV C) P2 Q σ (M.opt (g x y) env2) := h2
    rw [e] at h3
    exact h3.elim
  | some r =>
    have h3 : postG C W (rOV C) P2 Q σ (M.opt (g x y) env2) := h2
    rw [e] at h3
    exact ⟨P2, env2, fp2, σ, x, y, r, s2, l2.dp r1, r2, e, h3⟩
theorem sE_bin {op : Operator} (h : OD X C (binaryOp op) g) (ha : PE X a (liftD C W ma)) (hb : PE X b (liftD C W mb)) : PE X (.BinOp a op b pos) (liftE C W (mBin g ma mb)) :=
  PE.imp (pe_op h.r ha hb) fun _ _ _ q => rOD.of q
theorem sE_cmp {op : CmpOp} (h : OD X C (compareOp op) g) (ha : PE X a (liftD C W ma)) (hb : PE X b (liftD C W mb)) (hm : behindInMarks op b = false) : PE X (.Compare a [op] [b] pos) (liftE C W (mBin g ma mb)) :=
  PE.imp (pe_cmpR h.r ha hb hm) fun _ _ _ q => rOD.of q
/-- a value that is a bool -/
def asB (m : M OV) : M Bool := m >>= fun v => match v with
  | .d (.bool b) => pure b
  | _ => fun _ => none
theorem asB.of {t : TE} {m : M OV} {σ : L2.St} {H : Hp} {Q : Bool → Hp → Prop} (h : liftT C W (asB m) σ H Q) (i : ∀ σ H Q, liftE C W m σ H Q → t σ H Q) : t σ H fun x H' => ∃ k, x = .bl k ∧ Q k H' := by
  refine i _ _ _ (liftG.seq h fun v env1 P1 fp1 H1 u s1 r1 h1 => ?_)
  obtain ⟨ft, o, t⟩ := r1
  cases o with
  | d d =>
    cases d with
    | bl b => exact ⟨b, rfl, h1 P1 fp1 H1 b (Le.refl _) s1 rfl⟩
    | _ => exact False.elim h1
  | _ => exact False.elim h1
theorem sT_cmp {op : CmpOp} (h : OD X C (compareOp op) g) (ha : PE X a (liftD C W ma)) (hb : PE X b (liftD C W mb)) (hm : behindInMarks op b = false) : PT X (.Compare a [op] [b] pos) (liftT C W (asB (mBin g ma mb))) :=
  PT.imp (pt_cmpR h.r ha hb hm) fun _ _ _ q => asB.of q fun _ _ _ q => rOD.of q
/-- f(..) of a bool, as a test -/
theorem sT_val {m : M OV} (h : PE X a (liftE C W m)) (he : ∀ whole, isTrue a X.env whole = (do let v ← whole; standAt a.pos; holding [v] (truthy v))) : PT X a (liftT C W (asB m)) :=
  PT.imp (pt_val h he) fun _ _ _ q => asB.of (t := liftE C W m) q fun _ _ _ q => q
end
/-- a value just made of data: no object -/
theorem rOV.d {C : Cc} {P : Hp} {fp : Nat → List Addr} {H : Hp} {v : V} {x : PyData} (h : Dd P v x) : rOV C P fp H (.d x) v := ⟨[], .d h, Tmp.nil⟩
section
variable {C : Cc} {P : Hp} {env : Env} {fp : Nat → List Addr} {σ : L2.St} {H : Hp} {Q : VK}
/-- a new list in the hand -/
theorem rOV.newL (s : StOk C P env fp σ H) {vs : List V} {xs : List PyData} (d : DdAll P vs xs) (k : ∀ P' fp' H' v, Le P P' → StOk C P' env fp' σ H' → rOV C P' fp' H' (.lst xs) v → Q v H') {p : Addr} (hp : H p = none) : Q (.ref p) (upd H p (.lst vs)) := by
  obtain ⟨s2, t⟩ := s.newt hp (u := .lst vs) trivial
  exact k P fp _ _ (Le.refl _) s2 ⟨[p], .lst upd_same d, t⟩
/-- a new tuple -/
theorem rOV.newT (s : StOk C P env fp σ H) {vs : List V} {xs : List PyData} (d : DdAll P vs xs) (k : ∀ P' fp' H' v, Le P P' → StOk C P' env fp' σ H' → rOV C P' fp' H' (.d (.tuple xs)) v → Q v H') {p : Addr} (hp : H p = none) : Q (.ref p) (upd H p (.tup vs)) := by
  obtain ⟨l, s2⟩ := s.laid hp (u := .tup vs) trivial
  exact k _ fp _ _ l s2 (.d (.tup (SqT.of upd_same) (l.dpAll d)))
end
end TL
set_option Elab.async false
set_option linter.all false
set_option maxRecDepth 100000
set_option maxHeartbeats 1000000
namespace TL
open PySem PySem.Spec PyProof.Rows L2
theorem units_lt {X : Cx} {n : Nat} (hu : X.A.units + 200 < cLine) (h : n ≤ 200) : X.A.units + n < cLine := by omega
/-- plain data, not too deep -/
def okD (x : PyData) : Bool := x.plain && decide (x.depth ≤ 64)
theorem okD_plain {x : PyData} (h : okD x = true) : x.plain = true := (Bool.and_eq_true_iff.mp h).1
theorem okD_depth {x : PyData} (h : okD x = true) : x.depth ≤ 64 := of_decide_eq_true (Bool.and_eq_true_iff.mp h).2
section
variable {X : Cx} {C : Cc}
theorem OD.int {f : Value → Value → Sem Value} {g : PyData → PyData → Option OV} {c : Int → Int → Prop} {h : Int → Int → PyData} {hv : Int → Int → V} (hr : OpR X f (rI c hv)) (hd : ∀ H i j, Dd H (hv i j) (h i j))
    (hg : ∀ x y r, g x y = some r → ∃ i j, x = .int i ∧ y = .int j ∧ c i j ∧ r = .d (h i j)) : OD X C f g := by
  intro P env fp σ H x y dx dy r Q s d1 d2 e k
  obtain ⟨i, j, rfl, rfl, hc, rfl⟩ := hg dx dy r e
  cases d1
  cases d2
  exact ⟨_, hr, i, j, rfl, rfl, hc, k P fp H _ (Le.refl _) s (rOV.d (hd _ _ _))⟩
theorem rI0_rI {h : Int → Int → V} {f : Value → Value → Sem Value} (hr : OpR X f (rI0 h)) : OpR X f (rI (fun _ _ => True) h) := by
  intro pins s σ H x y v u Q I rx ry ⟨i, j, e1, e2, _, q⟩
  exact hr pins s σ H x y v u Q I rx ry ⟨i, j, e1, e2, q⟩
/-! ### + -/
def gAdd : PyData → PyData → Option OV
  | .int i, .int j => some (.d (.int (i + j)))
  | .str x, .str y => if x.length + y.length ≤ sizeLine then some (.d (.str (x ++ y))) else none
  | .tuple xs, .tuple ys => if xs.length + ys.length ≤ sizeLine then some (.d (.tuple (xs ++ ys))) else none
  | .list xs, .list ys => if xs.length + ys.length ≤ sizeLine then some (.lst (xs ++ ys)) else none
  | _, _ => none
/-- list + list, read in any way -/
def rCatL : R2 := fun x y H Q => ∃ l b xs zs, x = .ref l ∧ y = .ref b ∧ SqL K0 H l xs ∧ SqL K0 H b zs ∧ xs.length + zs.length ≤ sizeLine ∧ ∀ p, H p = none → Q (.ref p) (upd H p (.lst (xs ++ zs)))
theorem Inv.lstR {pins : List (Addr × Obj)} {σ : L2.St} {H : Hp} {s : Shared} {l : Addr} {xs : List V} (I : Inv X pins σ H s) (h : SqL K0 H l xs) : xs.length ≤ sizeLine ∧ ∃ (its : List Value) (n : Nat), Vals xs its ∧ xs.length = its.length ∧ s.heap.get? l = some { cls := .type "list", data := .seq its.toArray n } := by
  rcases h with h | ⟨o, its, n, e, _⟩
  · obtain ⟨z, its, n, r, e⟩ := h.ok I.hok
    exact ⟨z, its, n, r, r.length, e⟩
  · cases e
theorem op_catL : OpR X (binaryOp .Add) rCatL := by
  intro pins s σ H x y v u Q I rx ry h
  obtain ⟨l, b, xs, zs, rfl, rfl, hH, hB, hz, q⟩ := h
  cases rx
  cases ry
  obtain ⟨z, its, n, r, hl, e⟩ := Inv.lstR I hH
  obtain ⟨z2, its2, n2, r2, hl2, e2⟩ := Inv.lstR I hB
  refine PySem.P.add_list e e2 ?_ (by rw [List.size_toArray, List.size_toArray]; omega)
  have ea : its.toArray ++ its2.toArray = (its ++ its2).toArray := by simp
  rw [ea]
  exact ⟨.ref _, _, I.lnew (t' := s.toks) (r.append r2) (by rw [List.length_append]; omega), rfl, q _ I.fresh⟩
theorem od_add : OD X C (binaryOp .Add) gAdd := by
  intro P env fp σ H x y dx dy r Q s d1 d2 e k
  have hl := s.le
  cases dx <;> cases dy <;> try (simp [gAdd] at e; done)
  · cases e
    cases d1
    cases d2
    exact ⟨_, op_add, _, _, rfl, rfl, k P fp H _ (Le.refl _) s (rOV.d (.int _))⟩
  · rename_i x y
    cases d1
    cases d2
    by_cases hz : x.length + y.length ≤ sizeLine
    · rw [gAdd, if_pos hz] at e
      cases e
      exact ⟨_, op_add_str, _, _, rfl, rfl, hz, k P fp H _ (Le.refl _) s (rOV.d (.str _))⟩
    · rw [gAdd, if_neg hz] at e
      cases e
  · rename_i xs ys
    cases d1 with
    | lst h1 a1 =>
      cases d2 with
      | lst h2 a2 =>
        by_cases hz : xs.length + ys.length ≤ sizeLine
        · rw [gAdd, if_pos hz] at e
          cases e
          refine ⟨_, op_catL, _, _, _, _, rfl, rfl, hl.sqL h1, hl.sqL h2, by rw [dpAll_length a1, dpAll_length a2]; exact hz, fun p hp => ?_⟩
          exact rOV.newL s (dpAll_append a1 a2) k hp
        · rw [gAdd, if_neg hz] at e
          cases e
  · rename_i xs ys
    cases d1 with
    | tup h1 a1 =>
      cases d2 with
      | tup h2 a2 =>
        by_cases hz : xs.length + ys.length ≤ sizeLine
        · rw [gAdd, if_pos hz] at e
          cases e
          have n1 := dpAll_length a1
          have n2 := dpAll_length a2
          refine ⟨_, op_catA, _, _, _, _, rfl, rfl, toK_T (hl.sqT h1), toK_T (hl.sqT h2), by rw [n1, n2]; exact hz, fun e0 => ?_, fun _ e0 => ?_, fun _ _ p hp => ?_⟩
          · rw [e0] at n1
            have ex : xs = [] := List.eq_nil_of_length_eq_zero n1.symm
            rw [ex] at k
            exact k P fp H _ (Le.refl _) s (rOV.d (.tup h2 a2))
          · rw [e0] at n2
            have ex : ys = [] := List.eq_nil_of_length_eq_zero n2.symm
            rw [ex, List.append_nil] at k
            exact k P fp H _ (Le.refl _) s (rOV.d (.tup h1 a1))
          · exact rOV.newT s (dpAll_append a1 a2) k hp
        · rw [gAdd, if_neg hz] at e
          cases e
def gSub : PyData → PyData → Option OV
  | .int i, .int j => some (.d (.int (i - j)))
  | _, _ => none
theorem od_sub : OD X C (binaryOp .Sub) gSub := OD.int (h := fun i j => .int (i - j)) (rI0_rI op_sub) (fun _ _ _ => .int _) fun x y r e => by
  cases x <;> cases y <;> try (simp [gSub] at e; done)
  cases e
  exact ⟨_, _, rfl, rfl, trivial, rfl⟩
def gMod : PyData → PyData → Option OV
  | .int i, .int j => if 0 < j then some (.d (.int (i % j))) else none
  | _, _ => none
theorem od_mod : OD X C (binaryOp .Mod) gMod := OD.int (h := fun i j => .int (i % j)) op_mod (fun _ _ _ => .int _) fun x y r e => by
  cases x <;> cases y <;> try (simp [gMod] at e; done)
  rename_i i j
  by_cases h : 0 < j
  · rw [gMod, if_pos h] at e
    cases e
    exact ⟨_, _, rfl, rfl, h, rfl⟩
  · rw [gMod, if_neg h] at e
    cases e
def gFdiv : PyData → PyData → Option OV
  | .int i, .int j => if 0 < j ∧ j < 1073741824 then some (.d (.int (i / j))) else none
  | _, _ => none
theorem od_fdiv : OD X C (binaryOp .FloorDiv) gFdiv := OD.int (h := fun i j => .int (i / j)) op_fdiv (fun _ _ _ => .int _) fun x y r e => by
  cases x <;> cases y <;> try (simp [gFdiv] at e; done)
  rename_i i j
  by_cases h : 0 < j ∧ j < 1073741824
  · rw [gFdiv, if_pos h] at e
    cases e
    exact ⟨_, _, rfl, rfl, h, rfl⟩
  · rw [gFdiv, if_neg h] at e
    cases e
def gPow : PyData → PyData → Option OV
  | .int i, .int j => if 0 ≤ j ∧ j ≤ 1000000 ∧ i.natAbs < 2 ^ 64 then some (.d (.int (i ^ j.toNat))) else none
  | _, _ => none
theorem od_pow : OD X C (binaryOp .Pow) gPow := OD.int (h := fun i j => .int (i ^ j.toNat)) op_pow (fun _ _ _ => .int _) fun x y r e => by
  cases x <;> cases y <;> try (simp [gPow] at e; done)
  rename_i i j
  by_cases h : 0 ≤ j ∧ j ≤ 1000000 ∧ i.natAbs < 2 ^ 64
  · rw [gPow, if_pos h] at e
    cases e
    exact ⟨_, _, rfl, rfl, h, rfl⟩
  · rw [gPow, if_neg h] at e
    cases e
/-! ### * -/
def gMul : PyData → PyData → Option OV
  | .int i, .int j => if (-(2 ^ 64) < i ∧ i < 2 ^ 64) ∨ (-(2 ^ 64) < j ∧ j < 2 ^ 64) then some (.d (.int (i * j))) else none
  | .tuple xs, .int k => if xs ≠ [] ∧ 2 ≤ k ∧ k ≤ 1000 ∧ xs.length ≤ 1000 then some (.d (.tuple (List.replicate k.toNat xs).flatten)) else if k = 1 then some (.d (.tuple xs)) else none
  | .list xs, .int k => if -(2 ^ 63) ≤ k ∧ k < 2 ^ 63 ∧ xs.length * k.toNat ≤ sizeLine then some (.lst (List.replicate k.toNat xs).flatten) else none
  | _, _ => none
theorem dpAll_rep {H : Hp} {vs : List V} {xs : List PyData} (h : DdAll H vs xs) : ∀ n : Nat, DdAll H (List.replicate n vs).flatten (List.replicate n xs).flatten
  | 0 => .nil
  | n + 1 => by
    rw [List.replicate_succ, List.replicate_succ, List.flatten_cons, List.flatten_cons]
    exact dpAll_append h (dpAll_rep h n)
/-! ### ==, != -/
def gEq (x y : PyData) : Option OV := if okD x && okD y then some (.d (.bool (PyData.eqv x y))) else none
def gNe (x y : PyData) : Option OV := if okD x && okD y then some (.d (.bool (!PyData.eqv x y))) else none
def rEqP (K : PySem.W.Frag) : R2 := fun x y H Q => ∃ d e, Dp K H x d ∧ Dp K H y e ∧ okD d = true ∧ okD e = true ∧ Q (.bl (PyData.eqv d e)) H
def rNeP (K : PySem.W.Frag) : R2 := fun x y H Q => ∃ d e, Dp K H x d ∧ Dp K H y e ∧ okD d = true ∧ okD e = true ∧ Q (.bl (!PyData.eqv d e)) H
theorem op_eqP (hu : X.A.units + 200 < cLine) : OpR X (compareOp .Eq) (rEqP X.K) := by
  intro pins s σ H x y v u Q I rx ry ⟨d, e, hd, he, sd, se, q⟩
  obtain ⟨as, r1⟩ := Dp.reads I d x v hd rx
  obtain ⟨bs, r2⟩ := Dp.reads I e y u he ry
  have h1 := okD_depth sd
  exact PySem.SeqAt.eq_plain r1 r2 (okD_plain sd) (okD_plain se) (by have := Nat.min_le_left d.depth e.depth; omega) ⟨.bl _, H, I, rfl, q⟩
theorem op_neP (hu : X.A.units + 200 < cLine) : OpR X (compareOp .NotEq) (rNeP X.K) := by
  intro pins s σ H x y v u Q I rx ry ⟨d, e, hd, he, sd, se, q⟩
  obtain ⟨as, r1⟩ := Dp.reads I d x v hd rx
  obtain ⟨bs, r2⟩ := Dp.reads I e y u he ry
  have h1 := okD_depth sd
  exact PySem.SeqAt.ne_plain r1 r2 (okD_plain sd) (okD_plain se) (by have := Nat.min_le_left d.depth e.depth; omega) ⟨.bl _, H, I, rfl, q⟩
theorem od_eq (hu : X.A.units + 200 < cLine) : OD X C (compareOp .Eq) gEq := by
  intro P env fp σ H x y dx dy r Q s d1 d2 e k
  unfold gEq at e
  split at e
  · rename_i h
    cases e
    obtain ⟨h1, h2⟩ := Bool.and_eq_true_iff.mp h
    exact ⟨_, op_eqP hu, dx, dy, toK (okD_plain h1) (s.le.dp d1), toK (okD_plain h2) (s.le.dp d2), h1, h2, k P fp H _ (Le.refl _) s (rOV.d (.bl _))⟩
  · cases e
theorem od_ne (hu : X.A.units + 200 < cLine) : OD X C (compareOp .NotEq) gNe := by
  intro P env fp σ H x y dx dy r Q s d1 d2 e k
  unfold gNe at e
  split at e
  · rename_i h
    cases e
    obtain ⟨h1, h2⟩ := Bool.and_eq_true_iff.mp h
    exact ⟨_, op_neP hu, dx, dy, toK (okD_plain h1) (s.le.dp d1), toK (okD_plain h2) (s.le.dp d2), h1, h2, k P fp H _ (Le.refl _) s (rOV.d (.bl _))⟩
  · cases e
/-! ### <, <=, >, >= -/
def isNone : PyData → Bool
  | .none => true
  | _ => false
def gLt (x y : PyData) : Option OV := if PySem.W.alike x y && (!isNone x && (okD x && okD y)) then some (.d (.bool (PySem.W.dataLt x y))) else none
def gGt (x y : PyData) : Option OV := if PySem.W.alike x y && (!isNone x && (okD x && okD y)) then some (.d (.bool (PySem.W.dataLt y x))) else none
def gLe (x y : PyData) : Option OV := if PySem.W.alike x y && (!isNone x && (okD x && okD y)) then some (.d (.bool (!PySem.W.dataLt y x))) else none
def gGe (x y : PyData) : Option OV := if PySem.W.alike x y && (!isNone x && (okD x && okD y)) then some (.d (.bool (!PySem.W.dataLt x y))) else none
def rOrd (K : PySem.W.Frag) (f : PyData → PyData → Bool) : R2 := fun x y H Q => ∃ d e, Dp K H x d ∧ Dp K H y e ∧ PySem.W.alike d e = true ∧ d ≠ .none ∧ d.depth ≤ 64 ∧ Q (.bl (f d e)) H
theorem op_ord {op : CmpOp} {f : PyData → PyData → Bool} (hu : X.A.units + 200 < cLine) (rule : ∀ {A : Around} {E : Value → Shared → Prop} {s : Shared} {a b : Value} {da db : PyData} {as bs : List Addr} {Q : Value → Shared → Prop}, Reads s.heap a da as → Reads s.heap b db bs → PySem.W.alike da db = true → da ≠ .none → A.units + min da.depth db.depth < cLine → Q (.bool (f da db)) s → wpAny (model X.prog X.w) A (compareOp op a b) Q E s) :
    OpR X (compareOp op) (rOrd X.K f) := by
  intro pins s σ H x y v u Q I rx ry ⟨d, e, hd, he, ha, hn, hz, q⟩
  obtain ⟨as, r1⟩ := Dp.reads I d x v hd rx
  obtain ⟨bs, r2⟩ := Dp.reads I e y u he ry
  exact rule r1 r2 ha hn (by have := Nat.min_le_left d.depth e.depth; omega) ⟨.bl _, H, I, rfl, q⟩
theorem od_ord {op : CmpOp} {f : PyData → PyData → Bool} {g : PyData → PyData → Option OV} (ho : OpR X (compareOp op) (rOrd X.K f)) (hg : g = fun x y => if PySem.W.alike x y && (!isNone x && (okD x && okD y)) then some (.d (.bool (f x y))) else none) : OD X C (compareOp op) g := by
  intro P env fp σ H x y dx dy r Q s d1 d2 e k
  rw [hg] at e
  simp only at e
  split at e
  · rename_i h
    cases e
    obtain ⟨h1, h2⟩ := Bool.and_eq_true_iff.mp h
    obtain ⟨h3, h4⟩ := Bool.and_eq_true_iff.mp h2
    obtain ⟨h5, h6⟩ := Bool.and_eq_true_iff.mp h4
    exact ⟨_, ho, dx, dy, toK (okD_plain h5) (s.le.dp d1), toK (okD_plain h6) (s.le.dp d2), h1, (fun z => by rw [z] at h3; cases h3), okD_depth h5, k P fp H _ (Le.refl _) s (rOV.d (.bl _))⟩
  · cases e
theorem od_lt (hu : X.A.units + 200 < cLine) : OD X C (compareOp .Lt) gLt := od_ord (f := fun x y => PySem.W.dataLt x y) (op_ord hu fun r1 r2 h hn hz q => PySem.W.lt_data r1 r2 h hn hz q) rfl
theorem od_gt (hu : X.A.units + 200 < cLine) : OD X C (compareOp .Gt) gGt := od_ord (f := fun x y => PySem.W.dataLt y x) (op_ord hu fun r1 r2 h hn hz q => PySem.W.gt_data r1 r2 h hn hz q) rfl
theorem od_le (hu : X.A.units + 200 < cLine) : OD X C (compareOp .LtE) gLe := od_ord (f := fun x y => !PySem.W.dataLt y x) (op_ord hu fun r1 r2 h hn hz q => PySem.W.le_data r1 r2 h hn hz q) rfl
theorem od_ge (hu : X.A.units + 200 < cLine) : OD X C (compareOp .GtE) gGe := od_ord (f := fun x y => !PySem.W.dataLt x y) (op_ord hu fun r1 r2 h hn hz q => PySem.W.ge_data r1 r2 h hn hz q) rfl
/-! ### in, not in: a tuple, a list -/
def gIn (x y : PyData) : Option OV := match y with
  | .list ys => if okD x && okD (.list ys) then some (.d (.bool (ys.any fun z => PyData.eqv z x))) else none
  | .tuple ys => if okD x && okD (.tuple ys) then some (.d (.bool (ys.any fun z => PyData.eqv z x))) else none
  | _ => none
def gNotIn (x y : PyData) : Option OV := match y with
  | .list ys => if okD x && okD (.list ys) then some (.d (.bool (!ys.any fun z => PyData.eqv z x))) else none
  | .tuple ys => if okD x && okD (.tuple ys) then some (.d (.bool (!ys.any fun z => PyData.eqv z x))) else none
  | _ => none
def rInP (K : PySem.W.Frag) (neg : Bool) : R2 := fun x y H Q => ∃ d ys, Dp K H x d ∧ (Dp K H y (.list ys) ∨ Dp K H y (.tuple ys)) ∧ okD d = true ∧ PyData.plainAll ys = true ∧ PyData.depthAll ys ≤ 64 ∧ Q (.bl (if neg then !(ys.any fun z => PyData.eqv z d) else ys.any fun z => PyData.eqv z d)) H
theorem op_inP (hu : X.A.units + 200 < cLine) : OpR X (compareOp .In) (rInP X.K false) := by
  intro pins s σ H x y v u Q I rx ry ⟨d, ys, hd, he, sd, hp, hz, q⟩
  obtain ⟨as, r1⟩ := Dp.reads I d x v hd rx
  have h1 := okD_depth sd
  rcases he with he | he
  · obtain ⟨bs, r2⟩ := Dp.reads I _ y u he ry
    exact PySem.SeqAt.in_list_data r2 r1 hp (okD_plain sd) (by have := Nat.min_le_right (PyData.depthAll ys) d.depth; omega) ⟨.bl _, H, I, rfl, q⟩
  · obtain ⟨bs, r2⟩ := Dp.reads I _ y u he ry
    exact PySem.SeqAt.in_tuple_data r2 r1 hp (okD_plain sd) (by have := Nat.min_le_right (PyData.depthAll ys) d.depth; omega) ⟨.bl _, H, I, rfl, q⟩
theorem op_notInP (hu : X.A.units + 200 < cLine) : OpR X (compareOp .NotIn) (rInP X.K true) := by
  intro pins s σ H x y v u Q I rx ry ⟨d, ys, hd, he, sd, hp, hz, q⟩
  obtain ⟨as, r1⟩ := Dp.reads I d x v hd rx
  have h1 := okD_depth sd
  rcases he with he | he
  · obtain ⟨bs, r2⟩ := Dp.reads I _ y u he ry
    exact PySem.SeqAt.notIn_list_data r2 r1 hp (okD_plain sd) (by have := Nat.min_le_right (PyData.depthAll ys) d.depth; omega) ⟨.bl _, H, I, rfl, q⟩
  · obtain ⟨bs, r2⟩ := Dp.reads I _ y u he ry
    exact PySem.SeqAt.notIn_tuple_data r2 r1 hp (okD_plain sd) (by have := Nat.min_le_right (PyData.depthAll ys) d.depth; omega) ⟨.bl _, H, I, rfl, q⟩
theorem okD_seq {ys : List PyData} (h : okD (.list ys) = true) : PyData.plainAll ys = true ∧ PyData.depthAll ys ≤ 64 := by
  have h1 := okD_plain h
  have h2 := okD_depth h
  simp only [PyData.plain] at h1
  simp only [PyData.depth] at h2
  exact ⟨h1, by omega⟩
theorem okD_seqT {ys : List PyData} (h : okD (.tuple ys) = true) : PyData.plainAll ys = true ∧ PyData.depthAll ys ≤ 64 := by
  have h1 := okD_plain h
  have h2 := okD_depth h
  simp only [PyData.plain] at h1
  simp only [PyData.depth] at h2
  exact ⟨h1, by omega⟩
theorem od_in (hu : X.A.units + 200 < cLine) : OD X C (compareOp .In) gIn := by
  intro P env fp σ H x y dx dy r Q s d1 d2 e k
  unfold gIn at e
  split at e
  · split at e
    · rename_i h
      cases e
      obtain ⟨h1, h2⟩ := Bool.and_eq_true_iff.mp h
      obtain ⟨h3, h4⟩ := okD_seq h2
      exact ⟨_, op_inP hu, dx, _, toK (okD_plain h1) (s.le.dp d1), .inl (toK (by simpa [PyData.plain] using h3) (s.le.dp d2)), h1, h3, h4, k P fp H _ (Le.refl _) s (rOV.d (.bl _))⟩
    · cases e
  · split at e
    · rename_i h
      cases e
      obtain ⟨h1, h2⟩ := Bool.and_eq_true_iff.mp h
      obtain ⟨h3, h4⟩ := okD_seqT h2
      exact ⟨_, op_inP hu, dx, _, toK (okD_plain h1) (s.le.dp d1), .inr (toK (by simpa [PyData.plain] using h3) (s.le.dp d2)), h1, h3, h4, k P fp H _ (Le.refl _) s (rOV.d (.bl _))⟩
    · cases e
  · cases e
theorem od_notIn (hu : X.A.units + 200 < cLine) : OD X C (compareOp .NotIn) gNotIn := by
  intro P env fp σ H x y dx dy r Q s d1 d2 e k
  unfold gNotIn at e
  split at e
  · split at e
    · rename_i h
      cases e
      obtain ⟨h1, h2⟩ := Bool.and_eq_true_iff.mp h
      obtain ⟨h3, h4⟩ := okD_seq h2
      exact ⟨_, op_notInP hu, dx, _, toK (okD_plain h1) (s.le.dp d1), .inl (toK (by simpa [PyData.plain] using h3) (s.le.dp d2)), h1, h3, h4, k P fp H _ (Le.refl _) s (rOV.d (.bl _))⟩
    · cases e
  · split at e
    · rename_i h
      cases e
      obtain ⟨h1, h2⟩ := Bool.and_eq_true_iff.mp h
      obtain ⟨h3, h4⟩ := okD_seqT h2
      exact ⟨_, op_notInP hu, dx, _, toK (okD_plain h1) (s.le.dp d1), .inr (toK (by simpa [PyData.plain] using h3) (s.le.dp d2)), h1, h3, h4, k P fp H _ (Le.refl _) s (rOV.d (.bl _))⟩
    · cases e
  · cases e
/-! ### is, is not -/
def gIs (x y : PyData) : Option OV := match y with
  | .none => some (.d (.bool (isNone x)))
  | _ => none
def gIsNot (x y : PyData) : Option OV := match y with
  | .none => some (.d (.bool (!isNone x)))
  | _ => none
theorem dp_none {H : Hp} {x : V} {d : PyData} (h : Dd H x d) : decide (x = .non) = isNone d := by
  cases h <;> rfl
theorem od_is : OD X C (compareOp .Is) gIs := by
  intro P env fp σ H x y dx dy r Q s d1 d2 e k
  unfold gIs at e
  split at e
  · cases e
    cases d2
    refine ⟨_, op_isN, rfl, ?_⟩
    rw [dp_none d1]
    exact k P fp H _ (Le.refl _) s (rOV.d (.bl _))
  · cases e
theorem od_isNot : OD X C (compareOp .IsNot) gIsNot := by
  intro P env fp σ H x y dx dy r Q s d1 d2 e k
  unfold gIsNot at e
  split at e
  · cases e
    cases d2
    refine ⟨_, op_notN, rfl, ?_⟩
    rw [dp_none d1]
    exact k P fp H _ (Le.refl _) s (rOV.d (.bl _))
  · cases e
end
end TL
set_option Elab.async false
set_option linter.all false
set_option maxRecDepth 100000
set_option maxHeartbeats 1000000
namespace TL
open PySem PySem.Spec PyProof.Rows L2
/-! ### dicts by whole numbers -/
def look (kvs : List (Int × PyData)) (k : Int) : Option PyData := (kvs.find? fun p => decide (p.1 = k)).map (·.2)
def put (kvs : List (Int × PyData)) (k : Int) (x : PyData) : List (Int × PyData) := if (kvs.any fun p => decide (p.1 = k)) then kvs.map fun p => if p.1 = k then (p.1, x) else p else kvs ++ [(k, x)]
section
variable {H : Hp}
theorem DctAll.look (k : Int) : ∀ {kvs : List (Key × V)} {r : List (Int × PyData)}, DctAll H kvs r → (look r k = none ∧ valV kvs (Sum.inl k) = none) ∨ ∃ x v, look r k = some x ∧ valV kvs (Sum.inl k) = some v ∧ Dd H v x
  | _, _, .nil => .inl ⟨rfl, rfl⟩
  | _, _, .cons (k := j) (v := v) (x := x) h t => by
    by_cases e : j = k
    · subst e
      refine .inr ⟨x, v, ?_, valV_pos rfl, h⟩
      simp [TL.look]
    · have e' : ¬ (Sum.inl j : Key) = Sum.inl k := fun z => e (Sum.inl.inj z)
      rcases DctAll.look k t with ⟨h1, h2⟩ | ⟨y, w, h1, h2, h3⟩
      · refine .inl ⟨?_, ?_⟩
        · simpa [TL.look, List.find?_cons, e] using h1
        · rw [valV_neg e']; exact h2
      · refine .inr ⟨y, w, ?_, ?_, h3⟩
        · simpa [TL.look, List.find?_cons, e] using h1
        · rw [valV_neg e']; exact h2
theorem DctAll.any (k : Int) : ∀ {kvs : List (Key × V)} {r : List (Int × PyData)}, DctAll H kvs r → (kvs.any fun p => decide (p.1 = Sum.inl k)) = r.any fun p => decide (p.1 = k)
  | _, _, .nil => rfl
  | _, _, .cons (k := j) h t => by
    rw [List.any_cons, List.any_cons, DctAll.any k t]
    congr 1
    by_cases e : j = k
    · subst e; simp
    · have e' : ¬ (Sum.inl j : Key) = Sum.inl k := fun z => e (Sum.inl.inj z)
      simp [e]
theorem DctAll.repl (k : Int) {v : V} {x : PyData} (d : Dd H v x) : ∀ {kvs : List (Key × V)} {r : List (Int × PyData)}, DctAll H kvs r → DctAll H (kvs.map fun p => if p.1 = Sum.inl k then (p.1, v) else p) (r.map fun p => if p.1 = k then (p.1, x) else p)
  | _, _, .nil => .nil
  | _, _, .cons (k := j) h t => by
    rw [List.map_cons, List.map_cons]
    by_cases e : j = k
    · subst e
      rw [if_pos rfl, if_pos rfl]
      exact .cons d (DctAll.repl j d t)
    · have e' : ¬ (Sum.inl j : Key) = Sum.inl k := fun z => e (Sum.inl.inj z)
      rw [if_neg e', if_neg e]
      exact .cons h (DctAll.repl k d t)
theorem DctAll.snoc {k : Int} {v : V} {x : PyData} (d : Dd H v x) : ∀ {kvs : List (Key × V)} {r : List (Int × PyData)}, DctAll H kvs r → DctAll H (kvs ++ [(.inl k, v)]) (r ++ [(k, x)])
  | _, _, .nil => .cons d .nil
  | _, _, .cons h t => .cons h (DctAll.snoc d t)
theorem DctAll.put (k : Int) {v : V} {x : PyData} (d : Dd H v x) {kvs : List (Key × V)} {r : List (Int × PyData)} (h : DctAll H kvs r) : DctAll H (putK kvs (.inl k) v) (put r k x) := by
  unfold putK TL.put
  rw [h.any k]
  split
  · exact h.repl k d
  · exact h.snoc d
theorem DctAll.length : ∀ {kvs : List (Key × V)} {r : List (Int × PyData)}, DctAll H kvs r → kvs.length = r.length
  | _, _, .nil => rfl
  | _, _, .cons h t => by rw [List.length_cons, List.length_cons, t.length]
end
/-! ### a slot's own object is changed -/
section
variable {C : Cc} {P : Hp} {env : Env} {fp : Nat → List Addr} {σ : L2.St} {H : Hp}
theorem StOk.mut (s : StOk C P env fp σ H) {i : Nat} {ov ov' : OV} {a : Addr} {u : HO} (he : env[i]? = some (some ov)) (hs : σ[i]? = some (some (.ref a))) (hf : fp i = [a]) (z : Fw u) (new : ∀ H', H' a = some u → Own C.exc P H' ov' (.ref a) [a]) :
    StOk C P (env.set i (some ov')) fp σ (upd H a u) := by
  have ha : a ∈ fp i := by rw [hf]; exact List.mem_cons_self
  obtain ⟨hp, hF, w, hw, hz⟩ := s.fre i a ha
  have ne : ∀ j b, b ∈ fp j → j ≠ i → b ≠ a := fun j b hb hj q => hj (s.dis j i b hb (by rw [q]; exact ha))
  refine ⟨fun b o q => ?_, fun b o q => ?_, fun j w' q => ?_, s.dis, fun j b hb => ?_, s.keep, fun p hpp => ?_, by rw [List.length_set]; exact s.len⟩
  · rw [upd_ne (fun q2 => by rw [q2, hp] at q; cases q)]
    exact s.phi b o q
  · rw [upd_ne (fun q2 => by rw [q2, hF] at q; cases q)]
    exact s.frm b o q
  · by_cases hj : j = i
    · subst hj
      have hl : j < env.length := by
        by_cases hl : j < env.length
        · exact hl
        · rw [List.getElem?_eq_none (by omega)] at he; cases he
      rw [List.getElem?_set_self hl] at q
      cases q
      exact ⟨_, hs, by rw [hf]; exact new _ upd_same⟩
    · rw [List.getElem?_set_ne (Ne.symm hj)] at q
      obtain ⟨v, e, o⟩ := s.own j w' q
      exact ⟨v, e, o.frame (Le.refl _) fun b hb => upd_ne (ne j b hb hj)⟩
  · obtain ⟨q1, q2, y, q3, q4⟩ := s.fre j b hb
    by_cases hj : j = i
    · subst hj
      rw [hf] at hb
      have e := List.mem_singleton.mp hb
      subst e
      exact ⟨q1, q2, u, upd_same, z⟩
    · rw [upd_ne (ne j b hb hj)]
      exact ⟨q1, q2, y, q3, q4⟩
  · obtain ⟨ps, q1, q2⟩ := s.tabs p hpp
    refine ⟨ps, ?_, q2⟩
    rw [upd_ne (fun q => ?_)]
    · exact q1
    · rw [q, hw] at q1
      cases q1
      exact hz
/-- a slot that holds a list of its own -/
theorem StOk.lstAt (s : StOk C P env fp σ H) {i : Nat} {xs : List PyData} (he : env[i]? = some (some (.lst xs))) : ∃ a vs, σ[i]? = some (some (.ref a)) ∧ fp i = [a] ∧ H a = some (.lst vs) ∧ DdAll P vs xs := by
  obtain ⟨v, e, o⟩ := s.own i _ he
  obtain ⟨a, vs, rfl, hf, hH, d⟩ := o.of_lst
  exact ⟨a, vs, e, hf, hH, d⟩
theorem StOk.dctAt (s : StOk C P env fp σ H) {i : Nat} {xs : List (Int × PyData)} (he : env[i]? = some (some (.dct xs))) : ∃ a vs, σ[i]? = some (some (.ref a)) ∧ fp i = [a] ∧ H a = some (.dK vs) ∧ DctAll P vs xs := by
  obtain ⟨v, e, o⟩ := s.own i _ he
  obtain ⟨a, vs, rfl, hf, hH, d⟩ := o.of_dct
  exact ⟨a, vs, e, hf, hH, d⟩
end
/-! ### len, truth, items -/
def xvLen : XV → Option Nat
  | .ldd ds => some ds.length
  | _ => none
theorem lddAll_length {P H : Hp} : ∀ {vs : List V} {ds : List (List (Int × PyData))} {as : List Addr}, LddAll P H vs ds as → vs.length = ds.length
  | _, _, _, .nil => rfl
  | _, _, _, .cons _ _ t => by rw [List.length_cons, List.length_cons, lddAll_length t]
/-- what a frozen list or tuple is made of -/
theorem Dd.seqL {P : Hp} {v : V} {xs : List PyData} (h : Dd P v (.list xs)) : ∃ a vs, v = .ref a ∧ SqL K0 P a vs ∧ DdAll P vs xs := by
  cases h with
  | lst h a => exact ⟨_, _, rfl, h, a⟩
theorem Dd.seqT {P : Hp} {v : V} {xs : List PyData} (h : Dd P v (.tuple xs)) : ∃ a vs, v = .ref a ∧ SqT K0 P a vs ∧ DdAll P vs xs := by
  cases h with
  | tup h a => exact ⟨_, _, rfl, h, a⟩
def ovLen : OV → Option Nat
  | .d (.str x) => if x.length ≤ sizeLine then some x.length else none
  | .d (.list xs) => some xs.length
  | .d (.tuple xs) => some xs.length
  | .lst xs => some xs.length
  | .d (.dict kvs) => if kvs.all fun p => isIntK p.1 then some kvs.length else none
  | .dct kvs => some kvs.length
  | .ext e => xvLen e
  | _ => none
theorem ddI_len {P : Hp} : ∀ {vs : List (Key × V)} {xs : List (PyData × PyData)}, DdI P vs xs → vs.length = xs.length
  | _, _, .nil => rfl
  | _, _, .cons _ t => by rw [List.length_cons, List.length_cons, ddI_len t]
theorem call_lenR {X : Cx} : CallR X (.builtin "len") (fun xs H Q => ∃ (a : Addr) (kvs : List (Key × V)), xs = [.ref a] ∧ Rd H a (.dK kvs) ∧ Q (.int kvs.length) H) := by
  intro pins s σ H xs us Q I r ⟨a, kvs, ex, e, q⟩
  subst ex
  rw [Vals.ref1 r]
  exact d_len I e fun t s2 I2 => ⟨.int kvs.length, H, I2, ⟨t, rfl⟩, q⟩
/-- the value in a slot, read where it stands -/
def mPeek {α : Type} (i : Nat) (f : OV → Option α) : M α := fun e => match e[i]? with
  | some (some v) => (match f v with
    | some a => some (.ok a e)
    | none => none)
  | _ => none
section
variable {X : Cx} {C : Cc} {W : WX} {pos : Pos}
theorem len_of {ct : CT} {P H : Hp} {ov : OV} {v : V} {ft : List Addr} {n : Nat} {Q : VK} (l : Le P H) (o : Own ct P H ov v ft) (e : ovLen ov = some n) (q : Q (.int n) H) :
    ∃ r : List V → Hp → VK → Prop, CallR X (.builtin "len") r ∧ r [v] H Q := by
  cases o with
  | d d =>
    cases d with
    | str x =>
      have e' : (if x.length ≤ sizeLine then some x.length else none) = some n := e
      by_cases hz : x.length ≤ sizeLine
      · rw [if_pos hz] at e'
        cases e'
        exact ⟨_, call_len, _, _, rfl, ⟨hz, rfl⟩, q⟩
      · rw [if_neg hz] at e'
        cases e'
    | lst h a =>
      cases e
      exact ⟨_, call_len, _, _, rfl, .inl ⟨_, toK_L (l.sqL h), (dpAll_length a).symm⟩, q⟩
    | tup h a =>
      cases e
      exact ⟨_, call_len, _, _, rfl, .inr ⟨_, toK_T (l.sqT h), (dpAll_length a).symm⟩, q⟩
    | @dic a ob vs xs h d =>
      have e' : (if xs.all fun p => isIntK p.1 then some xs.length else none) = some n := e
      split at e'
      · cases e'
        exact ⟨_, call_lenR, a, vs, rfl, .inr ⟨ob, l _ _ h⟩, by rw [ddI_len d]; exact q⟩
      · cases e'
    | @din a ob es xs h d => cases e
    | _ => cases e
  | lst h a =>
    cases e
    exact ⟨_, call_len, _, _, rfl, .inl ⟨_, SqL.of h, (dpAll_length a).symm⟩, q⟩
  | dct h a =>
    cases e
    exact ⟨_, call_lenD, _, _, rfl, h, by rw [a.length]; exact q⟩
  | ext o =>
    cases o with
    | dn h t => cases e
    | ldd h t n =>
      cases e
      exact ⟨_, call_len, _, _, rfl, .inl ⟨_, SqL.of h, (lddAll_length t).symm⟩, q⟩
    | ins c h h2 t n => cases e
theorem CallR.ex {f : Value} {r : List V → Hp → VK → Prop} (h : ∀ vs H Q, r vs H Q → ∃ r' : List V → Hp → VK → Prop, CallR X f r' ∧ r' vs H Q) : CallR X f r := by
  intro pins s σ H xs us Q I rx q
  obtain ⟨r', c, q'⟩ := h xs H Q q
  exact c pins s σ H xs us Q I rx q'
/-- not a starred expression -/
def NS (e : Expr) : Prop := ∀ es env, starEach (e :: es) env = (false, eval e env) :: starEach es env
theorem backTo_nil {p : Pos} {env : PySem.Env} : (backTo p (starEach [] env)).any (·.1) = false := rfl
/-- f(e), f a built-in, on a value -/
def rOne (C : Cc) (g : OV → Option OV) : List V → Hp → VK → Prop := fun vs H Q => ∃ v P env fp σ ov ft r, vs = [v] ∧ StOk C P env fp σ H ∧ Own C.exc P H ov v ft ∧ Tmp C P fp ft ∧ g ov = some r ∧ ∀ P' fp' H' u, Le P P' → StOk C P' env fp' σ H' → rOV C P' fp' H' r u → Q u H'
def mOne (g : OV → Option OV) (m : M OV) : M OV := m >>= fun v => M.opt (g v)
theorem opt_some {C : Cc} {W : WX} {α β : Type} {R : RelR α β} {P : Hp} {Q : β → Hp → Prop} {σ : L2.St} {o : Option α} {env : Env} (h : postG C W R P Q σ (M.opt o env)) : ∃ a, o = some a ∧ postG C W R P Q σ (some (.ok a env)) := by
  cases o with
  | none => exact h.elim
  | some a => exact ⟨a, rfl, h⟩
theorem sE_callB {x : Str} {id : String} {p : Pos} {e : Expr} {m : M OV} {g : OV → Option OV} (hc : CallR X (.builtin id) (rOne C g)) (hg : Gl X x) (hm : X.mg x = none) (hv : bootBuiltins x = some (.builtin id)) (h : PE X e (liftE C W m)) (ns : NS e) (hn : x ≠ "__name__") (hdb : (x == ("__debug__" : Str)) = false) :
    PE X (.Call (.Name x p) [e] [] pos) (liftE C W (mOne g m)) :=
  PE.imp (pe_callB (r := rOne C g) hc hg hm hv (pa_cons h pa_nil (ns [] _)) hn hdb (ns [] _) backTo_nil) fun σ H Q q => by
    refine liftG.seq q fun v env' P' fp' H' u s r q => ?_
    obtain ⟨ft, o, t⟩ := r
    obtain ⟨a, e, q'⟩ := opt_some q
    exact ⟨u, P', env', fp', σ, v, ft, a, rfl, s, o, t, e, q'⟩
theorem sE_callTy {x : Str} {id : String} {p : Pos} {e : Expr} {m : M OV} {g : OV → Option OV} (hc : CallR X (.type id) (rOne C g)) (hg : Gl X x) (hm : X.mg x = none) (hv : bootBuiltins x = some (.type id)) (h : PE X e (liftE C W m)) (ns : NS e) (hn : x ≠ "__name__") (hdb : (x == ("__debug__" : Str)) = false) :
    PE X (.Call (.Name x p) [e] [] pos) (liftE C W (mOne g m)) :=
  PE.imp (pe_callTy (r := rOne C g) hc hg hm hv (pa_cons h pa_nil (ns [] _)) hn hdb (ns [] _) backTo_nil) fun σ H Q q => by
    refine liftG.seq q fun v env' P' fp' H' u s r q => ?_
    obtain ⟨ft, o, t⟩ := r
    obtain ⟨a, e, q'⟩ := opt_some q
    exact ⟨u, P', env', fp', σ, v, ft, a, rfl, s, o, t, e, q'⟩
def gLen (v : OV) : Option OV := (ovLen v).map fun n => .d (.int n)
theorem cr_len : CallR X (.builtin "len") (rOne C gLen) := CallR.ex fun vs H Q h => by
  obtain ⟨v, P, env, fp, σ, ov, ft, r, rfl, s, o, t, e, k⟩ := h
  unfold gLen at e
  cases en : ovLen ov with
  | none => rw [en] at e; cases e
  | some n =>
    rw [en] at e
    cases e
    exact len_of s.le o en (k P fp H _ (Le.refl _) s (rOV.d (.int _)))
/-! int(..), tuple(..), list(..) -/
def gInt : OV → Option OV
  | .d (.int i) => some (.d (.int i))
  | .d (.bool b) => some (.d (.int (if b then 1 else 0)))
  | _ => none
theorem cr_int : CallR X (.type "int") (rOne C gInt) := CallR.ex fun vs H Q h => by
  obtain ⟨v, P, env, fp, σ, ov, ft, r, rfl, s, o, t, e, k⟩ := h
  cases o with
  | d d =>
    cases d with
    | int i =>
      cases e
      exact ⟨_, call_int1, .inl ⟨i, rfl, k P fp H _ (Le.refl _) s (rOV.d (.int _))⟩⟩
    | bl b =>
      cases e
      exact ⟨_, call_int1, .inr ⟨b, rfl, k P fp H _ (Le.refl _) s (rOV.d (.int _))⟩⟩
    | _ => cases e
  | _ => cases e
def gTuple : OV → Option OV
  | .d (.list xs) => some (.d (.tuple xs))
  | .d (.tuple xs) => some (.d (.tuple xs))
  | .lst xs => some (.d (.tuple xs))
  | _ => none
theorem cr_tuple : CallR X (.type "tuple") (rOne C gTuple) := CallR.ex fun vs H Q h => by
  obtain ⟨v, P, env, fp, σ, ov, ft, r, rfl, s, o, t, e, k⟩ := h
  cases o with
  | d d =>
    cases d with
    | lst h a =>
      cases e
      exact ⟨_, call_tuple_of, _, _, rfl, .inl ⟨toK_L (s.le.sqL h), fun l hl => rOV.newT s a k hl⟩⟩
    | tup h a =>
      cases e
      exact ⟨_, call_tuple_of, _, _, rfl, .inr ⟨toK_T (s.le.sqT h), k P fp H _ (Le.refl _) s (rOV.d (.tup h a))⟩⟩
    | _ => cases e
  | lst h a =>
    cases e
    exact ⟨_, call_tuple_of, _, _, rfl, .inl ⟨SqL.of h, fun l hl => rOV.newT s a k hl⟩⟩
  | _ => cases e
def gList : OV → Option OV
  | .d (.list xs) => some (.lst xs)
  | .d (.tuple xs) => some (.lst xs)
  | .lst xs => some (.lst xs)
  | _ => none
theorem cr_list : CallR X (.type "list") (rOne C gList) := CallR.ex fun vs H Q h => by
  obtain ⟨v, P, env, fp, σ, ov, ft, r, rfl, s, o, t, e, k⟩ := h
  cases o with
  | d d =>
    cases d with
    | lst h a =>
      cases e
      exact ⟨_, call_list_of, _, _, rfl, .inl (toK_L (s.le.sqL h)), fun l hl => rOV.newL s a k hl⟩
    | tup h a =>
      cases e
      exact ⟨_, call_list_of, _, _, rfl, .inr (toK_T (s.le.sqT h)), fun l hl => rOV.newL s a k hl⟩
    | _ => cases e
  | lst h a =>
    cases e
    exact ⟨_, call_list_of, _, _, rfl, .inl (SqL.of h), fun l hl => rOV.newL s a k hl⟩
  | _ => cases e
/-! truth -/
def ovTru : OV → Option Bool
  | .d .none => some false
  | .d (.bool b) => some b
  | .d (.int i) => some (i != 0)
  | .d (.str x) => if x.length ≤ sizeLine then some ((x.length : Int) != 0) else none
  | .d (.list xs) => some (!xs.isEmpty)
  | .d (.tuple xs) => some (!xs.isEmpty)
  | .lst xs => some (!xs.isEmpty)
  | .dct kvs => some (!kvs.isEmpty)
  | _ => none
theorem isEmpty_dpAll {P : Hp} {vs : List V} {xs : List PyData} (a : DdAll P vs xs) : vs.isEmpty = xs.isEmpty := by
  cases a <;> rfl
theorem tru_of {ct : CT} {K : PySem.W.Frag} {P H : Hp} {ov : OV} {v : V} {ft : List Addr} {b : Bool} (l : Le P H) (o : Own ct P H ov v ft) (e : ovTru ov = some b) : TruV K v H b := by
  cases o with
  | d d =>
    cases d with
    | str x =>
      have e' : (if x.length ≤ sizeLine then some ((x.length : Int) != 0) else none) = some b := e
      by_cases hz : x.length ≤ sizeLine
      · rw [if_pos hz] at e'
        cases e'
        exact ⟨hz, rfl⟩
      · rw [if_neg hz] at e'
        cases e'
    | lst h a =>
      cases e
      exact .inl ⟨_, toK_L (l.sqL h), by rw [isEmpty_dpAll a]⟩
    | tup h a =>
      cases e
      exact .inr (.inl ⟨_, toK_T (l.sqT h), by rw [isEmpty_dpAll a]⟩)
    | dic h a => cases e
    | din h a => cases e
    | _ => cases e; rfl
  | lst h a =>
    cases e
    exact .inl ⟨_, SqL.of h, by rw [isEmpty_dpAll a]⟩
  | dct h a =>
    cases e
    exact .inr (.inr ⟨_, h, by cases a <;> rfl⟩)
  | ext o => cases e
/-- the test of an expression is its value's truth -/
def PlainT (X : Cx) (e : Expr) : Prop := ∀ whole, isTrue e X.env whole = (do let v ← whole; standAt e.pos; holding [v] (truthy v))
def mTru (m : M OV) : M Bool := m >>= fun v => M.opt (ovTru v)
theorem sT_tru {e : Expr} {m : M OV} (h : PE X e (liftE C W m)) (he : PlainT X e) : PT X e (liftT C W (mTru m)) := PT.imp (pt_truth h he) fun σ H Q q => by
  refine liftG.seq q fun v env' P' fp' H' u s r q => ?_
  obtain ⟨ft, o, t⟩ := r
  obtain ⟨b, e, q'⟩ := opt_some q
  exact ⟨b, tru_of s.le o e, q' P' fp' H' b (Le.refl _) s rfl⟩
/-- of a slot's own object, where it stands -/
theorem sT_truS {i : Nat} {x : Str} (hN : X.N[i]? = some x) (hv : Vis X.env.scope x) (hd : (x == ("__debug__" : Str)) = false) (hcd : (x == ("__classdict__" : Str)) = false) (he : PlainT X (.Name x pos)) : PT X (.Name x pos) (liftT C W (mPeek i ovTru)) :=
  PT.imp (pt_truth (pe_var (i := i) hN hv hd hcd) he) fun σ H Q q => by
    obtain ⟨P, env, fp, s, h⟩ := q
    unfold mPeek at h
    split at h
    · rename_i ov e
      obtain ⟨v, e1, o⟩ := s.own i _ e
      cases et : ovTru ov with
      | none => rw [et] at h; exact h.elim
      | some b =>
        rw [et] at h
        exact ⟨v, e1, b, tru_of s.le o et, h P fp H b (Le.refl _) s rfl⟩
    · exact h.elim
theorem sE_lenS {i : Nat} {x : Str} {p p2 : Pos} (hN : X.N[i]? = some x) (hv : Vis X.env.scope x) (hd : (x == ("__debug__" : Str)) = false) (hcd : (x == ("__classdict__" : Str)) = false) (hg : Gl X "len") (hm : X.mg "len" = none) :
    PE X (.Call (.Name "len" p) [.Name x p2] [] pos) (liftE C W (mPeek i gLen)) := by
  let r : List V → Hp → VK → Prop := fun vs H Q => ∃ v P ov ft n, vs = [v] ∧ Le P H ∧ Own C.exc P H ov v ft ∧ ovLen ov = some n ∧ Q (.int (n : Nat)) H
  have cr : CallR X (.builtin "len") r := CallR.ex fun vs H Q ⟨v, P, ov, ft, n, e, l, o, en, q⟩ => by
    subst e
    exact len_of l o en q
  refine PE.imp (pe_callB (r := r) cr hg hm boot_len (pa_cons (pe_var (i := i) hN hv hd hcd) pa_nil rfl) (by decide) (by decide) rfl backTo_nil) fun σ H Q q => ?_
  obtain ⟨P, env, fp, s, h⟩ := q
  unfold mPeek at h
  split at h
  · rename_i ov e
    obtain ⟨v, e1, o⟩ := s.own i _ e
    unfold gLen at h
    cases en : ovLen ov with
    | none => rw [en] at h; exact h.elim
    | some n =>
      rw [en] at h
      exact ⟨v, e1, v, P, ov, fp i, n, rfl, s.le, o, en, h P fp H _ (Le.refl _) s (rOV.d (.int _))⟩
  · exact h.elim
end
end TL
set_option Elab.async false
set_option linter.all false
set_option maxRecDepth 100000
set_option maxHeartbeats 1000000
namespace TL
open PySem PySem.Spec PyProof.Rows L2
theorem PE.ex {X : Cx} {e : Expr} {t : TE} (h : ∀ σ H Q, t σ H Q → ∃ t', PE X e t' ∧ t' σ H Q) : PE X e t := ⟨fun pins s σ H Q I q => let ⟨_, p, q'⟩ := h σ H Q q; p.run pins s σ H Q I q'⟩
theorem PT.ex {X : Cx} {e : Expr} {t : TT} (h : ∀ σ H Q, t σ H Q → ∃ t', PT X e t' ∧ t' σ H Q) : PT X e t := ⟨fun pins s σ H Q I q => let ⟨_, p, q'⟩ := h σ H Q q; p.run pins s σ H Q I q'⟩
theorem PS.ex {X : Cx} {e : Stmt} {t : TS} (h : ∀ D σ H, t D σ H → ∃ t', PS X e t' ∧ t' D σ H) : PS X e t := ⟨fun pins s σ H D I q => let ⟨_, p, q'⟩ := h D σ H q; p.run pins s σ H D I q'⟩
theorem IxR.ex {X : Cx} {r : R2} (h : ∀ x y H Q, r x y H Q → ∃ r', IxR X r' ∧ r' x y H Q) : IxR X r := by
  intro value slice pins s σ H x y v u Q I rx ry q hs
  obtain ⟨r', p, q'⟩ := h x y H Q q
  exact p value slice pins s σ H x y v u Q I rx ry q' hs
/-! ### items -/
def gIx : PyData → PyData → Option OV
  | .list xs, .int i => (atI xs i).map .d
  | .tuple xs, .int i => (atI xs i).map .d
  | .str z, .int i => if z.length ≤ sizeLine then (atI z.cps.toList i).map fun c => .d (.str ⟨#[c]⟩) else none
  | _, _ => none
theorem atI_dp {P : Hp} {vs : List V} {xs : List PyData} {i : Int} {x : PyData} (a : DdAll P vs xs) (e : atI xs i = some x) : ∃ v, atI vs i = some v ∧ Dd P v x := by
  unfold atI at e ⊢
  rw [dpAll_length a]
  cases hj : ixN xs.length i with
  | none => rw [hj] at e; cases e
  | some j =>
    rw [hj] at e
    have e' : xs[j]? = some x := e
    obtain ⟨v, h1, h2⟩ := dpAll_get a e'
    exact ⟨v, h1, h2⟩
section
variable {X : Cx} {C : Cc} {W : WX} {pos : Pos}
theorem ix_data : IxR X (rOD C gIx) := IxR.ex fun x y H Q ⟨P, env, fp, σ, dx, dy, r, s, d1, d2, e, k⟩ => by
  cases d1 with
  | lst h a =>
    cases d2 with
    | int i =>
      have e' : (atI _ i).map OV.d = some r := e
      obtain ⟨z, e1, e2⟩ := Option.map_eq_some_iff.mp e'
      obtain ⟨v, h1, h2⟩ := atI_dp a e1
      subst e2
      exact ⟨_, ix_list, _, _, i, v, rfl, rfl, toK_L (s.le.sqL h), h1, k P fp H v (Le.refl _) s (rOV.d h2)⟩
    | _ => cases e
  | tup h a =>
    cases d2 with
    | int i =>
      have e' : (atI _ i).map OV.d = some r := e
      obtain ⟨z, e1, e2⟩ := Option.map_eq_some_iff.mp e'
      obtain ⟨v, h1, h2⟩ := atI_dp a e1
      subst e2
      exact ⟨_, ix_tup, _, _, i, v, rfl, rfl, toK_T (s.le.sqT h), h1, k P fp H v (Le.refl _) s (rOV.d h2)⟩
    | _ => cases e
  | str z =>
    cases d2 with
    | int i =>
      have e' : (if z.length ≤ sizeLine then (atI z.cps.toList i).map fun c => OV.d (.str ⟨#[c]⟩) else none) = some r := e
      by_cases hz : z.length ≤ sizeLine
      · rw [if_pos hz] at e'
        obtain ⟨c, e1, e2⟩ := Option.map_eq_some_iff.mp e'
        subst e2
        exact ⟨_, ix_str, _, i, c, rfl, rfl, hz, e1, k P fp H _ (Le.refl _) s (rOV.d (.str _))⟩
      · rw [if_neg hz] at e'
        cases e'
    | _ => cases e
  | _ => cases dy <;> cases e
theorem sE_ix {a b : Expr} {ma mb : M PyData} (ha : PE X a (liftD C W ma)) (hb : PE X b (liftD C W mb)) (hs : PlainIx b) : PE X (.Subscript a b pos) (liftE C W (mBin gIx ma mb)) :=
  PE.imp (pe_ix ix_data ha hb hs) fun _ _ _ q => rOD.of q
/-- the slot holds something -/
def mHas (i : Nat) (p : OV → Bool) : M Unit := fun e => match e[i]? with
  | some (some v) => if p v then some (.ok () e) else none
  | _ => none
def isAny (_ : OV) : Bool := true
def isLst : OV → Bool
  | .lst _ => true
  | _ => false
def isDct : OV → Bool
  | .dct _ => true
  | _ => false
def gIxL (y : PyData) : OV → Option OV
  | .lst xs => gIx (.list xs) y
  | _ => none
def gIxD (y : PyData) : OV → Option OV
  | .dct kvs => (match y with
    | .int k => (look kvs k).map .d
    | _ => none)
  | _ => none
def mIxL (i : Nat) (mk : M PyData) : M OV := mHas i isLst >>= fun _ => mk >>= fun y => mPeek i (gIxL y)
def mIxD (i : Nat) (mk : M PyData) : M OV := mHas i isDct >>= fun _ => mk >>= fun y => mPeek i (gIxD y)
theorem has_at {α : Type} {i : Nat} {p : OV → Bool} {f : Unit → M α} {env : Env} {o : Out α} (h : (mHas i p >>= f) env = some o) : ∃ v, env[i]? = some (some v) ∧ p v = true ∧ f () env = some o := by
  rw [M.bind_at] at h
  unfold mHas at h
  split at h
  · rename_i v e
    split at h
    · rename_i hp
      exact ⟨v, e, hp, h⟩
    · cases h
  · cases h
theorem postG_some {α β : Type} {R : RelR α β} {P : Hp} {Q : β → Hp → Prop} {σ : L2.St} {o : Option (Out α)} (h : postG C W R P Q σ o) : ∃ z, o = some z := by
  cases o with
  | none => exact h.elim
  | some z => exact ⟨z, rfl⟩
theorem peek_at {α β : Type} {R : RelR α β} {P : Hp} {Q : β → Hp → Prop} {σ : L2.St} {i : Nat} {f : OV → Option α} {env : Env} (h : postG C W R P Q σ (mPeek i f env)) : ∃ v a, env[i]? = some (some v) ∧ f v = some a ∧ postG C W R P Q σ (some (.ok a env)) := by
  unfold mPeek at h
  split at h
  · rename_i v e
    cases hf : f v with
    | none => rw [hf] at h; exact h.elim
    | some a => rw [hf] at h; exact ⟨v, a, e, hf, h⟩
  · exact h.elim
/-- what a name's slot holds: the same value through a part's run -/
theorem slot_inj {σ : L2.St} {i : Nat} {v w : V} (h : σ[i]? = some (some v)) (k : σ[i]? = some (some w)) : v = w := by
  rw [h] at k
  cases k
  rfl
structure NameOk (X : Cx) (i : Nat) (x : Str) : Prop where
  n : X.N[i]? = some x
  v : Vis X.env.scope x
  d : (x == ("__debug__" : Str)) = false
  c : (x == ("__classdict__" : Str)) = false
theorem NameOk.pe {i : Nat} {x : Str} (n : NameOk X i x) : PE X (.Name x pos) (tVar i) := pe_var n.n n.v n.d n.c
/-- a slot, then more -/
theorem slot_start {α β : Type} {R : RelR α β} {Q : β → Hp → Prop} {σ : L2.St} {H : Hp} {i : Nat} {p : OV → Bool} {f : Unit → M α} (q : liftG C W R (mHas i p >>= f) σ H Q) :
    ∃ v0 ov P env fp, σ[i]? = some (some v0) ∧ env[i]? = some (some ov) ∧ p ov = true ∧ Own C.exc P H ov v0 (fp i) ∧ StOk C P env fp σ H ∧ postG C W R P Q σ (f () env) := by
  obtain ⟨P, env, fp, s, h⟩ := q
  obtain ⟨z, ez⟩ := postG_some h
  obtain ⟨ov, e0, hp, e1⟩ := has_at ez
  obtain ⟨v0, f0, o0⟩ := s.own i _ e0
  exact ⟨v0, ov, P, env, fp, f0, e0, hp, o0, s, by rw [e1, ← ez]; exact h⟩
theorem gIxD_some {y : PyData} {ov r : OV} (h : gIxD y ov = some r) : ∃ kvs k x, ov = .dct kvs ∧ y = .int k ∧ look kvs k = some x ∧ r = .d x := by
  cases ov with
  | dct kvs =>
    cases y with
    | int k =>
      obtain ⟨x, e1, e2⟩ := Option.map_eq_some_iff.mp (show (look kvs k).map OV.d = some r from h)
      exact ⟨kvs, k, x, rfl, rfl, e1, e2.symm⟩
    | _ => cases h
  | _ => cases h
theorem gIxL_some {y : PyData} {ov r : OV} (h : gIxL y ov = some r) : ∃ xs k x, ov = .lst xs ∧ y = .int k ∧ atI xs k = some x ∧ r = .d x := by
  cases ov with
  | lst xs =>
    cases y with
    | int k =>
      obtain ⟨x, e1, e2⟩ := Option.map_eq_some_iff.mp (show (atI xs k).map OV.d = some r from h)
      exact ⟨xs, k, x, rfl, rfl, e1, e2.symm⟩
    | _ => cases h
  | _ => cases h
theorem dp_int {H : Hp} {v : V} {k : Int} (h : Dd H v (.int k)) : v = .int k := by
  cases h
  rfl
/-- d[k] of a slot's own dict -/
theorem sE_ixD {i : Nat} {x : Str} {p : Pos} {b : Expr} {mk : M PyData} (hu : X.A.units + 200 < cLine) (n : NameOk X i x) (hb : PE X b (liftD C W mk)) (hs : NoSl b) : PE X (.Subscript (.Name x p) b pos) (liftE C W (mIxD i mk)) :=
  PE.imp (pe_dget (by omega) n.pe hb hs) fun σ H Q q => by
    obtain ⟨v0, ov, P, env, fp, f0, e0, hp, o0, s, h⟩ := slot_start q
    refine ⟨v0, f0, P, env, fp, s, ?_⟩
    rw [M.bind_at] at h
    refine postG.seq h fun y env' P' fp' H' u l s' r q => ?_
    obtain ⟨v1, a1, g1, g2, q'⟩ := peek_at q
    obtain ⟨kvs, k, z, rfl, rfl, hl, rfl⟩ := gIxD_some g2
    obtain ⟨a, vs, f1, _, hH, d⟩ := s'.dctAt g1
    have ew := slot_inj f0 f1
    subst ew
    obtain rfl := dp_int r
    rcases d.look k with ⟨h1, _⟩ | ⟨z', v, h1, h2, h3⟩
    · rw [h1] at hl; cases hl
    · rw [hl] at h1
      cases h1
      exact ⟨a, v, rfl, h2 ▸ DGet.k (k := Sum.inl k) hH, q' P' fp' H' v (Le.refl _) s' (rOV.d h3)⟩
/-- xs[i] of a slot's own list -/
theorem sE_ixL {i : Nat} {x : Str} {p : Pos} {b : Expr} {mk : M PyData} (n : NameOk X i x) (hb : PE X b (liftD C W mk)) (hs : PlainIx b) : PE X (.Subscript (.Name x p) b pos) (liftE C W (mIxL i mk)) :=
  PE.imp (pe_ix ix_list n.pe hb hs) fun σ H Q q => by
    obtain ⟨v0, ov, P, env, fp, f0, e0, hp, o0, s, h⟩ := slot_start q
    refine ⟨v0, f0, P, env, fp, s, ?_⟩
    rw [M.bind_at] at h
    refine postG.seq h fun y env' P' fp' H' u l s' r q => ?_
    obtain ⟨v1, a1, g1, g2, q'⟩ := peek_at q
    obtain ⟨xs, k, z, rfl, rfl, hl, rfl⟩ := gIxL_some g2
    obtain ⟨a, vs, f1, _, hH, d⟩ := s'.lstAt g1
    have ew := slot_inj f0 f1
    subst ew
    obtain rfl := dp_int r
    obtain ⟨v, h1, h2⟩ := atI_dp d hl
    exact ⟨a, vs, k, v, rfl, rfl, SqL.of hH, h1, q' P' fp' H' v (Le.refl _) s' (rOV.d h2)⟩
/-- k in d, k not in d -/
def gInD (neg : Bool) (y : PyData) : OV → Option OV
  | .dct kvs => (match y with
    | .int k => some (.d (.bool (if neg then !(look kvs k).isSome else (look kvs k).isSome)))
    | _ => none)
  | _ => none
def mInD (neg : Bool) (i : Nat) (mk : M PyData) : M OV := mHas i isDct >>= fun _ => mk >>= fun y => mPeek i (gInD neg y)
theorem gInD_some {neg : Bool} {y : PyData} {ov r : OV} (h : gInD neg y ov = some r) : ∃ kvs k, ov = .dct kvs ∧ y = .int k ∧ r = .d (.bool (if neg then !(look kvs k).isSome else (look kvs k).isSome)) := by
  cases ov with
  | dct kvs =>
    cases y with
    | int k =>
      cases h
      exact ⟨kvs, k, rfl, rfl, rfl⟩
    | _ => cases h
  | _ => cases h
theorem sE_inD_aux {neg : Bool} {i : Nat} {mk : M PyData} {σ : L2.St} {H : Hp} {Q : VK} (q : liftE C W (mInD neg i mk) σ H Q) :
    liftD C W mk σ H fun y H1 => ∃ v, σ[i]? = some (some v) ∧ ∃ a o, v = .ref a ∧ DGet H1 a y o ∧ Q (.bl (if neg then !o.isSome else o.isSome)) H1 := by
  obtain ⟨v0, ov, P, env, fp, f0, e0, hp, o0, s, h⟩ := slot_start q
  refine ⟨P, env, fp, s, ?_⟩
  rw [M.bind_at] at h
  refine postG.seq h fun y env' P' fp' H' u l s' r q => ?_
  obtain ⟨v1, a1, g1, g2, q'⟩ := peek_at q
  obtain ⟨kvs, k, rfl, rfl, rfl⟩ := gInD_some g2
  obtain ⟨a, vs, f1, _, hH, d⟩ := s'.dctAt g1
  have ew := slot_inj f0 f1
  subst ew
  obtain rfl := dp_int r
  refine ⟨_, f0, a, _, rfl, DGet.k (k := Sum.inl k) hH, ?_⟩
  have e : (valV vs (Sum.inl k)).isSome = (look kvs k).isSome := by
    rcases d.look k with ⟨h1, h2⟩ | ⟨z', v, h1, h2, h3⟩
    · rw [h1, h2]; rfl
    · rw [h1, h2]; rfl
  rw [e]
  exact q' P' fp' H' _ (Le.refl _) s' (rOV.d (.bl _))
theorem sE_inD {i : Nat} {x : Str} {p : Pos} {b : Expr} {mk : M PyData} (hu : X.A.units + 200 < cLine) (n : NameOk X i x) (hb : PE X b (liftD C W mk)) : PE X (.Compare b [.In] [.Name x p] pos) (liftE C W (mInD false i mk)) :=
  PE.imp (pe_cmp (pc_din (by omega) hb n.pe) rfl) fun σ H Q q => sE_inD_aux q
theorem sE_notInD {i : Nat} {x : Str} {p : Pos} {b : Expr} {mk : M PyData} (hu : X.A.units + 200 < cLine) (n : NameOk X i x) (hb : PE X b (liftD C W mk)) : PE X (.Compare b [.NotIn] [.Name x p] pos) (liftE C W (mInD true i mk)) :=
  PE.imp (pe_cmp (pc_dnotin (by omega) hb n.pe) rfl) fun σ H Q q => sE_inD_aux q
theorem sT_inD {i : Nat} {x : Str} {p : Pos} {b : Expr} {mk : M PyData} (hu : X.A.units + 200 < cLine) (n : NameOk X i x) (hb : PE X b (liftD C W mk)) : PT X (.Compare b [.In] [.Name x p] pos) (liftT C W (asB (mInD false i mk))) :=
  PT.imp (pt_cmp (pc_din (by omega) hb n.pe) rfl) fun σ H Q q => asB.of q fun _ _ _ q => sE_inD_aux q
theorem sT_notInD {i : Nat} {x : Str} {p : Pos} {b : Expr} {mk : M PyData} (hu : X.A.units + 200 < cLine) (n : NameOk X i x) (hb : PE X b (liftD C W mk)) : PT X (.Compare b [.NotIn] [.Name x p] pos) (liftT C W (asB (mInD true i mk))) :=
  PT.imp (pt_cmp (pc_dnotin (by omega) hb n.pe) rfl) fun σ H Q q => asB.of q fun _ _ _ q => sE_inD_aux q
/-! ### lists changed -/
/-- a slot's own object is changed, a value is given -/
def mMut {α : Type} (i : Nat) (f : OV → Option (OV × α)) : M α := fun e => match e[i]? with
  | some (some v) => (match f v with
    | some (v', a) => some (.ok a (e.set i (some v')))
    | none => none)
  | _ => none
theorem mut_at {α β : Type} {R : RelR α β} {P : Hp} {Q : β → Hp → Prop} {σ : L2.St} {i : Nat} {f : OV → Option (OV × α)} {env : Env} (h : postG C W R P Q σ (mMut i f env)) : ∃ v v' a, env[i]? = some (some v) ∧ f v = some (v', a) ∧ postG C W R P Q σ (some (.ok a (env.set i (some v')))) := by
  unfold mMut at h
  split at h
  · rename_i v e
    cases hf : f v with
    | none => rw [hf] at h; exact h.elim
    | some a => rw [hf] at h; exact ⟨v, a.1, a.2, e, hf, h⟩
  · exact h.elim
def gApp (x : PyData) : OV → Option (OV × OV)
  | .lst xs => if xs.length < sizeLine then some (.lst (xs ++ [x]), .d .none) else none
  | _ => none
def mAppend (i : Nat) (mk : M PyData) : M OV := mHas i isLst >>= fun _ => mk >>= fun y => mMut i (gApp y)
theorem isLst_some {ov : OV} (h : isLst ov = true) : ∃ xs, ov = .lst xs := by
  cases ov with
  | lst xs => exact ⟨xs, rfl⟩
  | _ => cases h
theorem tyL {ct : CT} {K : PySem.W.Frag} {P H : Hp} {ov : OV} {v : V} {f : List Addr} (o : Own ct P H ov v f) (h : isLst ov = true) : tyV K "list" v H := by
  obtain ⟨xs, rfl⟩ := isLst_some h
  obtain ⟨a, vs, rfl, _, hH, _⟩ := o.of_lst
  exact Or.inl ⟨rfl, _, Or.inl (Or.inl hH)⟩
structure MethOk (X : Cx) (x name : Str) (p apos cpos : Pos) : Prop where
  base : attributeBase (.Name x p) name X.env (eval (.Name x p) X.env) = eval (.Name x p) X.env
  line : (apos.endLine == cpos.line) = true
theorem few1 {cpos : Pos} {e : Expr} {env : PySem.Env} (ns : NS e) : ((backTo cpos (starEach (e :: []) env)).all (fun x => !x.1) && (backToKw cpos (keywordEach [] env)).all (fun x => x.1.isSome)
      && decide ((e :: ([] : List Expr)).length + ([] : List Keyword).length + (if ([] : List Keyword).isEmpty then 0 else 1) < 30)) = true := by
  rw [ns [] env]
  rfl
theorem sE_append {i : Nat} {x : Str} {p apos : Pos} {b : Expr} {mk : M PyData} (n : NameOk X i x) (m : MethOk X x "append" p apos pos) (ns : NS b) (hb' : PE X b (liftD C W mk)) :
    PE X (.Call (.Attribute (.Name x p) "append" apos) [b] [] pos) (liftE C W (mAppend i mk)) :=
  PE.imp (pe_bm PySem.F.plainAttrs_list PySem.F.slot_list_append PySem.F.type_list_append mt_append n.pe (pa_cons hb' pa_nil (ns [] _)) m.base (few1 ns) m.line (ns [] _) backTo_nil) fun σ H Q q => by
    obtain ⟨v0, ov, P, env, fp, f0, e0, hp, o0, s, h⟩ := slot_start q
    refine ⟨v0, f0, tyL o0 hp, P, env, fp, s, ?_⟩
    rw [M.bind_at] at h
    refine postG.seq h fun y env' P' fp' H' u l s' r q => ?_
    obtain ⟨w, w', a, g1, g2, q'⟩ := mut_at q
    cases w with
    | lst xs =>
      have g2' : (if xs.length < sizeLine then some (OV.lst (xs ++ [y]), OV.d .none) else none) = some (w', a) := g2
      by_cases hz : xs.length < sizeLine
      · rw [if_pos hz] at g2'
        cases g2'
        obtain ⟨ad, vs, f1, hf, hH, d⟩ := s'.lstAt g1
        have ew := slot_inj f0 f1
        subst ew
        refine ⟨ad, vs, u, rfl, rfl, hH, by rw [dpAll_length d]; exact hz, q' P' fp' _ _ (Le.refl _) (s'.mut g1 f1 hf trivial fun H2 e2 => .lst e2 (dpAll_append d (.cons r .nil))) (rOV.d .non)⟩
      · rw [if_neg hz] at g2'
        cases g2'
    | _ => cases g2
end
end TL
set_option Elab.async false
set_option linter.all false
set_option maxRecDepth 100000
set_option maxHeartbeats 1000000
namespace TL
open PySem PySem.Spec PyProof.Rows L2
section
variable {X : Cx} {C : Cc} {W : WX} {pos : Pos}
/-! ### pop, extend -/
def gPop : OV → Option (OV × OV)
  | .lst xs => (xs[xs.length - 1]?).map fun y => (.lst xs.dropLast, .d y)
  | _ => none
def mPop (i : Nat) : M OV := mHas i isLst >>= fun _ => mMut i gPop
theorem dpAll_dropLast {P : Hp} {vs : List V} {xs : List PyData} (a : DdAll P vs xs) : DdAll P vs.dropLast xs.dropLast := by
  rw [List.dropLast_eq_take, List.dropLast_eq_take, dpAll_length a]
  exact dpAll_take _ a
theorem sE_pop {i : Nat} {x : Str} {p apos : Pos} (n : NameOk X i x) (m : MethOk X x "pop" p apos pos) : PE X (.Call (.Attribute (.Name x p) "pop" apos) [] [] pos) (liftE C W (mPop i)) :=
  PE.imp (pe_bm0 PySem.F.plainAttrs_list PySem.F.slot_list_pop PySem.F.type_list_pop mt_pop n.pe m.base m.line) fun σ H Q q => by
    obtain ⟨v0, ov, P, env, fp, f0, e0, hp, o0, s, h⟩ := slot_start q
    refine ⟨v0, f0, tyL o0 hp, ?_⟩
    obtain ⟨w, w', a, g1, g2, q'⟩ := mut_at h
    cases w with
    | lst xs =>
      obtain ⟨y, e1, e2⟩ := Option.map_eq_some_iff.mp (show (xs[xs.length - 1]?).map (fun y => (OV.lst xs.dropLast, OV.d y)) = some (w', a) from g2)
      cases e2
      obtain ⟨ad, vs, f1, hf, hH, d⟩ := s.lstAt g1
      have ew := slot_inj f0 f1
      subst ew
      obtain ⟨v, h1, h2⟩ := dpAll_get d e1
      exact ⟨ad, vs, v, rfl, rfl, hH, by rw [dpAll_length d]; exact h1, q' P fp _ _ (Le.refl _) (s.mut g1 f1 hf trivial fun H2 e2 => .lst e2 (dpAll_dropLast d)) (rOV.d h2)⟩
    | _ => cases g2
def gPopAt (y : PyData) : OV → Option (OV × OV)
  | .lst xs => (match y with
    | .int i => if xs.length ≤ sizeLine then (ixN xs.length i).bind fun k => (xs[k]?).map fun z => (.lst (xs.eraseIdx k), .d z) else none
    | _ => none)
  | _ => none
def mPopAt (i : Nat) (mk : M PyData) : M OV := mHas i isLst >>= fun _ => mk >>= fun y => mMut i (gPopAt y)
theorem gPopAt_some {y : PyData} {ov w' a : OV} (h : gPopAt y ov = some (w', a)) : ∃ xs i k z, ov = .lst xs ∧ y = .int i ∧ xs.length ≤ sizeLine ∧ ixN xs.length i = some k ∧ xs[k]? = some z ∧ w' = .lst (xs.eraseIdx k) ∧ a = .d z := by
  cases ov with
  | lst xs =>
    cases y with
    | int i =>
      have h' : (if xs.length ≤ sizeLine then (ixN xs.length i).bind fun k => (xs[k]?).map fun z => (OV.lst (xs.eraseIdx k), OV.d z) else none) = some (w', a) := h
      by_cases hz : xs.length ≤ sizeLine
      · rw [if_pos hz] at h'
        obtain ⟨k, e1, e2⟩ := Option.bind_eq_some_iff.mp h'
        obtain ⟨z, e3, e4⟩ := Option.map_eq_some_iff.mp e2
        cases e4
        exact ⟨xs, i, k, z, rfl, rfl, hz, e1, e3, rfl, rfl⟩
      · rw [if_neg hz] at h'
        cases h'
    | _ => cases h
  | _ => cases h
theorem sE_popAt {i : Nat} {x : Str} {p apos : Pos} {b : Expr} {mk : M PyData} (n : NameOk X i x) (m : MethOk X x "pop" p apos pos) (ns : NS b) (hb : PE X b (liftD C W mk)) : PE X (.Call (.Attribute (.Name x p) "pop" apos) [b] [] pos) (liftE C W (mPopAt i mk)) :=
  PE.imp (pe_bm PySem.F.plainAttrs_list PySem.F.slot_list_pop PySem.F.type_list_pop mt_popAt n.pe (pa_cons hb pa_nil (ns [] _)) m.base (few1 ns) m.line (ns [] _) backTo_nil) fun σ H Q q => by
    obtain ⟨v0, ov, P, env, fp, f0, e0, hp, o0, s, h⟩ := slot_start q
    refine ⟨v0, f0, tyL o0 hp, P, env, fp, s, ?_⟩
    rw [M.bind_at] at h
    refine postG.seq h fun y env' P' fp' H' u l s' r q => ?_
    obtain ⟨w, w', a, g1, g2, q'⟩ := mut_at q
    obtain ⟨xs, j, k, z, rfl, rfl, hz, e1, e2, rfl, rfl⟩ := gPopAt_some g2
    obtain ⟨ad, vs, f1, hf, hH, d⟩ := s'.lstAt g1
    have ew := slot_inj f0 f1
    subst ew
    obtain rfl := dp_int r
    obtain ⟨v, h1, h2⟩ := dpAll_get d e2
    obtain ⟨h3, _, h5, h6⟩ := ixN_seq e1
    have hs := sizeLine_eq
    exact ⟨ad, vs, j, k, v, rfl, rfl, hH, by omega, by omega, by rw [dpAll_length d]; exact h3, h1, q' P' fp' _ _ (Le.refl _) (s'.mut g1 f1 hf trivial fun H2 e2 => .lst e2 (dpAll_eraseIdx k d)) (rOV.d h2)⟩
def gExt (y : PyData) : OV → Option (OV × OV)
  | .lst xs => (match y with
    | .list ys => if xs.length + ys.length ≤ sizeLine then some (.lst (xs ++ ys), .d .none) else none
    | _ => none)
  | _ => none
def mExtend (i : Nat) (mk : M PyData) : M OV := mHas i isLst >>= fun _ => mk >>= fun y => mMut i (gExt y)
def rExtend2 : V → List V → Hp → VK → Prop := fun x vs H Q => ∃ l b xs zs, x = .ref l ∧ vs = [.ref b] ∧ H l = some (.lst xs) ∧ SqL K0 H b zs ∧ xs.length + zs.length ≤ sizeLine ∧ Q .non (upd H l (.lst (xs ++ zs)))
/-! ### tests and connectives -/
def mNot (m : M Bool) : M Bool := m >>= fun b => pure (!b)
def mAnd (a b : M Bool) : M Bool := a >>= fun x => if x then b else pure false
def mOr (a b : M Bool) : M Bool := a >>= fun x => if x then pure true else b
theorem sT_not {a : Expr} {m : M Bool} (h : PT X a (liftT C W m)) : PT X (.UnaryOp .Not a pos) (liftT C W (mNot m)) := PT.imp (pt_not h) fun σ H Q q => by
  refine liftG.seq q fun v env' P' fp' H' u s r q => ?_
  have e : u = v := r
  subst e
  exact q P' fp' H' _ (Le.refl _) s rfl
theorem sW_one {op : BoolOp} {a : Expr} {m : M Bool} (h : PT X a (liftT C W m)) : PW X (.BoolOp op [a] pos) (liftT C W m) := by
  cases op with
  | And => exact pw_and1 h
  | Or => exact pw_or1 h
theorem sW_and {a b : Expr} {rest : List Expr} {ma mb : M Bool} (ha : PT X a (liftT C W ma)) (hb : PW X (.BoolOp .And (b :: rest) pos) (liftT C W mb)) : PW X (.BoolOp .And (a :: b :: rest) pos) (liftT C W (mAnd ma mb)) := PW.imp (pw_and ha hb) fun σ H Q q => by
  refine liftG.seq q fun v env' P' fp' H' u s r q => ?_
  have e : u = v := r
  subst e
  cases u with
  | true => exact ⟨P', env', fp', s, q⟩
  | false => exact q P' fp' H' _ (Le.refl _) s rfl
theorem sW_or {a b : Expr} {rest : List Expr} {ma mb : M Bool} (ha : PT X a (liftT C W ma)) (hb : PW X (.BoolOp .Or (b :: rest) pos) (liftT C W mb)) : PW X (.BoolOp .Or (a :: b :: rest) pos) (liftT C W (mOr ma mb)) := PW.imp (pw_or ha hb) fun σ H Q q => by
  refine liftG.seq q fun v env' P' fp' H' u s r q => ?_
  have e : u = v := r
  subst e
  cases u with
  | true => exact q P' fp' H' _ (Le.refl _) s rfl
  | false => exact ⟨P', env', fp', s, q⟩
/-- and, or, not as values: of bools -/
def mAndV (a b : M OV) : M OV := asB a >>= fun x => if x then b else pure (.d (.bool false))
def mOrV (a b : M OV) : M OV := asB a >>= fun x => if x then pure (.d (.bool true)) else b
def mNotV (a : M OV) : M OV := asB a >>= fun x => pure (.d (.bool (!x)))
theorem asB_seq {γ δ : Type} {R2 : RelR γ δ} {m : M OV} {f : Bool → M γ} {σ : L2.St} {H : Hp} {Q : δ → Hp → Prop} (q : liftG C W R2 (asB m >>= f) σ H Q) {N : V → Hp → Prop}
    (k : ∀ b env' P' fp' H', StOk C P' env' fp' σ H' → postG C W R2 P' Q σ (f b env') → N (.bl b) H') : liftE C W m σ H N := by
  obtain ⟨P, env, fp, s, h⟩ := q
  refine ⟨P, env, fp, s, ?_⟩
  have h' : postG C W R2 P Q σ (Out.andThen (m env) fun v => (match v with | .d (.bool b) => (pure b : M Bool) | _ => fun _ => none) >>= f) := by
    have e : (asB m >>= f) env = Out.andThen (m env) fun v => (match v with | .d (.bool b) => (pure b : M Bool) | _ => fun _ => none) >>= f := by
      rw [M.bind_at]
      unfold asB
      rw [M.bind_at]
      cases m env with
      | none => rfl
      | some o => cases o <;> rfl
    rw [← e]
    exact h
  refine postG.seq h' fun v env' P' fp' H' u l s' r q => ?_
  obtain ⟨ft, o, t⟩ := r
  cases o with
  | d d =>
    cases d with
    | bl b => exact k b env' P' fp' H' s' q
    | _ => exact False.elim q
  | _ => exact False.elim q
theorem sE_one {op : BoolOp} {a : Expr} {m : M OV} (h : PE X a (liftE C W m)) : PE X (.BoolOp op [a] pos) (liftE C W m) := pe_one h
theorem sE_and {a b : Expr} {rest : List Expr} {ma mb : M OV} (ha : PE X a (liftE C W ma)) (hb : PE X (.BoolOp .And (b :: rest) pos) (liftE C W mb)) : PE X (.BoolOp .And (a :: b :: rest) pos) (liftE C W (mAndV ma mb)) := PE.imp (pe_and ha hb) fun σ H Q q =>
  asB_seq q fun b env' P' fp' H' s q => ⟨b, rfl, by
    cases b with
    | true => exact ⟨P', env', fp', s, q⟩
    | false => exact q P' fp' H' _ (Le.refl _) s (rOV.d (.bl _))⟩
theorem sE_or {a b : Expr} {rest : List Expr} {ma mb : M OV} (ha : PE X a (liftE C W ma)) (hb : PE X (.BoolOp .Or (b :: rest) pos) (liftE C W mb)) : PE X (.BoolOp .Or (a :: b :: rest) pos) (liftE C W (mOrV ma mb)) := PE.imp (pe_or ha hb) fun σ H Q q =>
  asB_seq q fun b env' P' fp' H' s q => ⟨b, rfl, by
    cases b with
    | true => exact q P' fp' H' _ (Le.refl _) s (rOV.d (.bl _))
    | false => exact ⟨P', env', fp', s, q⟩⟩
theorem sE_not {a : Expr} {ma : M OV} (ha : PE X a (liftE C W ma)) : PE X (.UnaryOp .Not a pos) (liftE C W (mNotV ma)) := PE.imp (pe_not ha) fun σ H Q q =>
  asB_seq q fun b env' P' fp' H' s q => ⟨b, rfl, q P' fp' H' _ (Le.refl _) s (rOV.d (.bl _))⟩
/-- a if t else b -/
def mIf {α : Type} (t : M Bool) (a b : M α) : M α := t >>= fun x => if x then a else b
theorem sE_if {c a b : Expr} {t : M Bool} {ma mb : M OV} (hc : PT X c (liftT C W t)) (ha : PE X a (liftE C W ma)) (hb : PE X b (liftE C W mb)) : PE X (.IfExp c a b pos) (liftE C W (mIf t ma mb)) := PE.imp (pe_ifExp hc ha hb) fun σ H Q q => by
  refine liftG.seq q fun v env' P' fp' H' u s r q => ?_
  have e : u = v := r
  subst e
  cases u with
  | true => exact ⟨P', env', fp', s, q⟩
  | false => exact ⟨P', env', fp', s, q⟩
/-- a <= b <= c -/
def mChain (g g' : PyData → PyData → Option OV) (a b c : M PyData) : M OV := a >>= fun x => b >>= fun y => M.opt (g x y) >>= fun r => match r with
  | .d (.bool true) => c >>= fun z => M.opt (g' y z)
  | .d (.bool false) => pure (.d (.bool false))
  | _ => fun _ => none
theorem chain_of {g g' : PyData → PyData → Option OV} {ma mb mc : M PyData} {σ : L2.St} {H : Hp} {Q : VK} (q : liftE C W (mChain g g' ma mb mc) σ H Q) : tChain (rOD C g) (rOD C g') (liftD C W ma) (liftD C W mb) (liftD C W mc) σ H Q := by
  refine liftG.seq q fun x env1 P1 fp1 H1 v s1 r1 h1 => ?_
  refine ⟨P1, env1, fp1, s1, postG.seq h1 fun y env2 P2 fp2 H2 u l2 s2 r2 h2 => ?_⟩
  rw [M.bind_at] at h2
  cases e : g x y with
  | none => rw [e] at h2; exact h2.elim
  | some r =>
    rw [e] at h2
    refine ⟨P2, env2, fp2, σ, x, y, r, s2, l2.dp r1, r2, e, fun P3 fp3 H3 w l3 s3 r3 => ?_⟩
    obtain ⟨ft, o, t⟩ := r3
    cases o with
    | d d =>
      cases d with
      | bl b =>
        refine ⟨b, rfl, ?_⟩
        cases b with
        | true =>
          refine ⟨P3, env2, fp3, s3, postG.seq (postG.mono l3 h2) fun z env4 P4 fp4 H4 w l4 s4 r4 h4 => ?_⟩
          obtain ⟨r', e', q'⟩ := opt_some h4
          exact ⟨P4, env4, fp4, σ, y, z, r', s4, (l3.trans l4).dp r2, r4, e', q'⟩
        | false => exact h2 P3 fp3 H3 _ l3 s3 (rOV.d (.bl _))
      | _ => exact False.elim h2
    | _ => exact False.elim h2
theorem sE_chain {op op' : CmpOp} {g g' : PyData → PyData → Option OV} {a b c : Expr} {ma mb mc : M PyData} (h : OD X C (compareOp op) g) (h' : OD X C (compareOp op') g') (ha : PE X a (liftD C W ma)) (hb : PE X b (liftD C W mb)) (hc : PE X c (liftD C W mc)) (hm : lastMarks [op, op'] [b, c] = false) :
    PE X (.Compare a [op, op'] [b, c] pos) (liftE C W (mChain g g' ma mb mc)) := PE.imp (pe_chain h.r h'.r ha hb hc hm) fun σ H Q q => chain_of q
theorem sT_chain {op op' : CmpOp} {g g' : PyData → PyData → Option OV} {a b c : Expr} {ma mb mc : M PyData} (h : OD X C (compareOp op) g) (h' : OD X C (compareOp op') g') (ha : PE X a (liftD C W ma)) (hb : PE X b (liftD C W mb)) (hc : PE X c (liftD C W mc)) (hm : lastMarks [op, op'] [b, c] = false) :
    PT X (.Compare a [op, op'] [b, c] pos) (liftT C W (asB (mChain g g' ma mb mc))) := PT.imp (pt_chain h.r h'.r ha hb hc hm) fun σ H Q q => asB.of q fun _ _ _ q => chain_of q
/-! ### displays -/
def mCons (a : M PyData) (r : M (List PyData)) : M (List PyData) := a >>= fun x => r >>= fun xs => pure (x :: xs)
theorem sA_nil : PA X [] (liftA C W (pure [])) := PA.imp pa_nil fun σ H Q q => by
  obtain ⟨P, env, fp, s, h⟩ := q
  exact h P fp H [] (Le.refl _) s .nil
theorem sA_cons {a : Expr} {r : List Expr} {ma : M PyData} {mr : M (List PyData)} (ha : PE X a (liftD C W ma)) (hr : PA X r (liftA C W mr)) (ns : NS a) : PA X (a :: r) (liftA C W (mCons ma mr)) := PA.imp (pa_cons ha hr (ns r _)) fun σ H Q q => by
  refine liftG.seq q fun x env1 P1 fp1 H1 v s1 r1 h1 => ?_
  refine ⟨P1, env1, fp1, s1, postG.seq h1 fun y env2 P2 fp2 H2 u l2 s2 r2 h2 => ?_⟩
  exact h2 P2 fp2 H2 _ (Le.refl _) s2 (.cons (l2.dp r1) r2)
def mTup (m : M (List PyData)) : M OV := m >>= fun xs => if xs.length ≤ sizeLine then pure (.d (.tuple xs)) else fun _ => none
def mLst (m : M (List PyData)) : M OV := m >>= fun xs => if xs.length ≤ sizeLine then pure (.lst xs) else fun _ => none
theorem sE_tup {es : List Expr} {k : Nat} {m : M (List PyData)} (h : PA X es (liftA C W m)) : PE X (.Tuple es k pos) (liftE C W (mTup m)) := PE.imp (pe_tup h) fun σ H Q q => by
  refine liftG.seq q fun x env1 P1 fp1 H1 v s1 r1 h1 => ?_
  by_cases hz : x.length ≤ sizeLine
  · have h2 : postG C W (rOV C) P1 Q σ (some (.ok (.d (.tuple x)) env1)) := by
      have h3 : postG C W (rOV C) P1 Q σ ((if x.length ≤ sizeLine then (pure (.d (.tuple x)) : M OV) else fun _ => none) env1) := h1
      rw [if_pos hz] at h3
      exact h3
    exact ⟨by rw [dpAll_length r1]; exact hz, fun p hp => rOV.newT s1 r1 h2 hp⟩
  · have h3 : postG C W (rOV C) P1 Q σ ((if x.length ≤ sizeLine then (pure (.d (.tuple x)) : M OV) else fun _ => none) env1) := h1
    rw [if_neg hz] at h3
    exact h3.elim
theorem sE_lst {es : List Expr} {m : M (List PyData)} (h : PA X es (liftA C W m)) : PE X (.List es pos) (liftE C W (mLst m)) := PE.imp (pe_lst h) fun σ H Q q => by
  refine liftG.seq q fun x env1 P1 fp1 H1 v s1 r1 h1 => ?_
  by_cases hz : x.length ≤ sizeLine
  · have h2 : postG C W (rOV C) P1 Q σ (some (.ok (.lst x) env1)) := by
      have h3 : postG C W (rOV C) P1 Q σ ((if x.length ≤ sizeLine then (pure (.lst x) : M OV) else fun _ => none) env1) := h1
      rw [if_pos hz] at h3
      exact h3
    exact ⟨by rw [dpAll_length r1]; exact hz, fun p hp => rOV.newL s1 r1 h2 hp⟩
  · have h3 : postG C W (rOV C) P1 Q σ ((if x.length ≤ sizeLine then (pure (.lst x) : M OV) else fun _ => none) env1) := h1
    rw [if_neg hz] at h3
    exact h3.elim
def mNewD : M OV := pure (.dct [])
theorem sE_newD : PE X (.Dict [] [] pos) (liftE C W mNewD) := PE.imp pe_dnewK fun σ H Q q => by
  obtain ⟨P, env, fp, s, h⟩ := q
  intro p hp
  obtain ⟨s2, t⟩ := s.newt hp (u := .dK []) trivial
  exact h P fp _ _ (Le.refl _) s2 ⟨[p], .dct upd_same .nil, t⟩
/-! ### while something else is held -/
def join (a b : Hp) : Hp := fun x => match a x with
  | some o => some o
  | none => b x
theorem join_l {a b : Hp} {x : Addr} {o : HO} (h : a x = some o) : join a b x = some o := by
  unfold join
  rw [h]
theorem join_r {a b : Hp} {x : Addr} (h : a x = none) : join a b x = b x := by
  unfold join
  rw [h]
theorem join_none {a b : Hp} {x : Addr} (h : join a b x = none) : a x = none ∧ b x = none := by
  unfold join at h
  cases e : a x with
  | none => rw [e] at h; exact ⟨rfl, h⟩
  | some o => rw [e] at h; cases h
abbrev Cc.withF (C : Cc) (F : Hp) : Cc := { C with F := F }
/-- G stands beside -/
structure Beside (C : Cc) (P : Hp) (fp : Nat → List Addr) (H G : Hp) : Prop where
  at_ : ∀ b o, G b = some o → H b = some o ∧ Fw o ∧ P b = none ∧ C.F b = none
  fp : ∀ i b, b ∈ fp i → G b = none
theorem StOk.hold {P : Hp} {env : Env} {fp : Nat → List Addr} {σ : L2.St} {H G : Hp} (s : StOk C P env fp σ H) (g : Beside C P fp H G) : StOk (C.withF (join C.F G)) P env fp σ H := by
  refine ⟨s.phi, fun b o q => ?_, s.own, s.dis, fun i b hb => ?_, s.keep, s.tabs, s.len⟩
  · have q' : join C.F G b = some o := q
    cases e : C.F b with
    | none =>
      rw [join_r e] at q'
      obtain ⟨h1, h2, h3, _⟩ := g.at_ b o q'
      exact ⟨h1, h2, h3⟩
    | some w =>
      rw [join_l e] at q'
      cases q'
      exact s.frm b _ e
  · obtain ⟨h1, h2, h3⟩ := s.fre i b hb
    exact ⟨h1, (join_r h2).trans (g.fp i b hb), h3⟩
theorem StOk.unhold {P : Hp} {env : Env} {fp : Nat → List Addr} {σ : L2.St} {H G : Hp} (s : StOk (C.withF (join C.F G)) P env fp σ H) : StOk C P env fp σ H := by
  refine ⟨s.phi, fun b o q => s.frm b o (join_l q), s.own, s.dis, fun i b hb => ?_, s.keep, s.tabs, s.len⟩
  obtain ⟨h1, h2, h3⟩ := s.fre i b hb
  exact ⟨h1, (join_none h2).1, h3⟩
theorem StOk.besides {P P0 : Hp} {env : Env} {fp fp0 : Nat → List Addr} {σ : L2.St} {H H0 G : Hp} (s : StOk (C.withF (join C.F G)) P env fp σ H) (g : Beside C P0 fp0 H0 G) : Beside C P fp H G := by
  refine ⟨fun b o q => ?_, fun i b hb => ?_⟩
  · obtain ⟨_, _, _, h4⟩ := g.at_ b o q
    obtain ⟨h1, h2, h3⟩ := s.frm b o ((join_r h4).trans q)
    exact ⟨h1, h2, h3, h4⟩
  · exact (join_none (s.fre i b hb).2.1).2
theorem postG.seqF {α β γ δ : Type} {R : RelR α β} {R2 : RelR γ δ} {P G : Hp} {σ : L2.St} {Q : δ → Hp → Prop} {N : β → Hp → Prop} {f : α → M γ} : ∀ {o : Option (Out α)}, postG C W R2 P Q σ (Out.andThen o f) →
    (∀ a env' P' fp' H' v, Le P P' → StOk (C.withF (join C.F G)) P' env' fp' σ H' → R P' fp' H' a v → postG C W R2 P' Q σ (f a env') → N v H') → postG (C.withF (join C.F G)) W R P N σ o
  | none, h, _ => h
  | some (.ok r e), h, k => fun P1 fp1 H1 v l1 s1 r1 => k r e P1 fp1 H1 v l1 s1 r1 (postG.mono l1 h)
  | some (.exc x e), h, _ => fun P1 fp1 H1 c d l1 s1 r1 => h P1 fp1 H1 c d l1 s1.unhold r1
/-- {k: v} -/
def mDict1 (mk mv : M PyData) : M OV := mk >>= fun k => mv >>= fun v => match k with
  | .int i => pure (.dct [(i, v)])
  | _ => fun _ => none
/-- an expression, whatever stands beside -/
def PEF (X : Cx) (C : Cc) (W : WX) (e : Expr) (m : M PyData) : Prop := ∀ F, PE X e (liftD (C.withF F) W m)
theorem PEF.pe {e : Expr} {m : M PyData} (h : PEF X C W e m) : PE X e (fun σ H Q => ∃ F, liftD (C.withF F) W m σ H Q) := PE.ex fun σ H Q ⟨F, q⟩ => ⟨_, h F, q⟩
theorem sE_dict1 {k v : Expr} {mk mv : M PyData} (hk : PEF X C W k mk) (hv : PEF X C W v mv) : PE X (.Dict [some k] [v] pos) (liftE C W (mDict1 mk mv)) := PE.imp (pe_disp (pps_cons hk.pe hv.pe pps_nil) rfl rfl (by simp) (by simp)) fun σ H Q q => by
  intro p hp
  obtain ⟨P, env, fp, s, h⟩ := q
  obtain ⟨s0, t0⟩ := s.newt hp (u := .dK []) trivial
  let G : Hp := fun b => if b = p then some (.dK []) else none
  have gp : G p = some (.dK []) := if_pos rfl
  have gn : ∀ b, b ≠ p → G b = none := fun b hb => if_neg hb
  have g0 : Beside C P fp (upd H p (.dK [])) G := by
    refine ⟨fun b o q => ?_, fun i b hb => gn b fun z => t0.dis i b hb (by rw [z]; exact List.mem_cons_self)⟩
    by_cases hb : b = p
    · subst hb
      have e : some (HO.dK []) = some o := gp.symm.trans q
      cases e
      obtain ⟨h1, h2⟩ := t0.fre b List.mem_cons_self
      exact ⟨upd_same, trivial, h1, h2⟩
    · rw [gn b hb] at q
      cases q
  refine ⟨join C.F G, P, env, fp, s0.hold g0, postG.seqF h fun x env1 P1 fp1 H1 v l1 s1 r1 h1 => ?_⟩
  refine ⟨join C.F G, P1, env1, fp1, s1, postG.seqF h1 fun y env2 P2 fp2 H2 u l2 s2 r2 h2 => ?_⟩
  have g2 := s2.besides g0
  refine ⟨(g2.at_ p _ gp).1, ?_⟩
  have fin : ∀ i : Int, x = .int i → postG C W (rOV C) P2 Q σ (some (.ok (.dct [(i, y)]) env2)) → ∃ kvs : List (Key × V), [(v, u)] = kvs.map (fun kv => (kV kv.1, kv.2)) ∧ kvs.length ≤ 15 ∧ Q (.ref p) (upd H2 p (.dK (mergeK [] kvs))) := fun i ei h3 => by
    subst ei
    obtain rfl := dp_int r1
    refine ⟨[(.inl i, u)], rfl, by simp, ?_⟩
    have s3 := s2.unhold
    have hpn : P2 p = none := (g2.at_ p _ gp).2.2.1
    have hFn : C.F p = none := (g2.at_ p _ gp).2.2.2
    have hH := (g2.at_ p _ gp).1
    have ne : ∀ j b, b ∈ fp2 j → b ≠ p := fun j b hb z => by
      have := g2.fp j b hb
      rw [z, gp] at this
      cases this
    have sN : StOk C P2 env2 fp2 σ (upd H2 p (.dK (mergeK [] [(.inl i, u)]))) := by
      refine ⟨fun b o q => ?_, fun b o q => ?_, fun j w q => ?_, s3.dis, fun j b hb => ?_, s3.keep, fun t ht => ?_, s3.len⟩
      · rw [upd_ne (fun z => by rw [z, hpn] at q; cases q)]
        exact s3.phi b o q
      · rw [upd_ne (fun z => by rw [z, hFn] at q; cases q)]
        exact s3.frm b o q
      · obtain ⟨w1, q1, q2⟩ := s3.own j w q
        exact ⟨w1, q1, q2.frame (Le.refl _) fun b hb => upd_ne (ne j b hb)⟩
      · rw [upd_ne (ne j b hb)]
        exact s3.fre j b hb
      · obtain ⟨ps, q1, q2⟩ := s3.tabs t ht
        exact ⟨ps, by rw [upd_ne (fun z => by rw [z, hH] at q1; cases q1)]; exact q1, q2⟩
    refine h3 P2 fp2 _ _ (Le.refl _) sN ⟨[p], .dct upd_same (.cons r2 .nil), ⟨fun j b hb hm => ne j b hb (List.mem_singleton.mp hm), fun b hm => ?_⟩⟩
    rw [List.mem_singleton.mp hm]
    exact ⟨hpn, hFn⟩
  cases x with
  | int i => exact fin i rfl h2
  | _ => exact False.elim h2
end
end TL
set_option Elab.async false
set_option linter.all false
set_option maxRecDepth 100000
set_option maxHeartbeats 1000000
namespace TL
open PySem PySem.Spec PyProof.Rows L2
inductive Fl where
  | nx | bk | ct
  | rt (r : OV)
section
variable {X : Cx} {C : Cc} {W : WX} {pos : Pos}
def postS (C : Cc) (W : WX) (P : Hp) (D : Ends) : Option (Out Fl) → Prop
  | none => False
  | some (.ok .nx env') => ∀ P' fp' σ' H', Le P P' → StOk C P' env' fp' σ' H' → D.nx σ' H'
  | some (.ok .bk env') => ∀ P' fp' σ' H', Le P P' → StOk C P' env' fp' σ' H' → D.bk σ' H'
  | some (.ok .ct env') => ∀ P' fp' σ' H', Le P P' → StOk C P' env' fp' σ' H' → D.ct σ' H'
  | some (.ok (.rt r) env') => ∀ P' fp' σ' H' v, Le P P' → StOk C P' env' fp' σ' H' → rOV C P' fp' H' r v → D.rt v H'
  | some (.exc x env') => ∀ P' fp' σ' H' cls d, Le P P' → StOk C P' env' fp' σ' H' → ExcIs C x cls d H' → W cls d σ' H'
def liftS (C : Cc) (W : WX) (m : M Fl) : TS := fun D σ H => ∃ P env fp, StOk C P env fp σ H ∧ postS C W P D (m env)
theorem postS.mono {P P' : Hp} {D : Ends} (l : Le P P') : ∀ {o : Option (Out Fl)}, postS C W P D o → postS C W P' D o
  | none, h => h
  | some (.ok .nx e), h => fun P1 fp1 σ1 H1 l1 s1 => h P1 fp1 σ1 H1 (l.trans l1) s1
  | some (.ok .bk e), h => fun P1 fp1 σ1 H1 l1 s1 => h P1 fp1 σ1 H1 (l.trans l1) s1
  | some (.ok .ct e), h => fun P1 fp1 σ1 H1 l1 s1 => h P1 fp1 σ1 H1 (l.trans l1) s1
  | some (.ok (.rt r) e), h => fun P1 fp1 σ1 H1 v l1 s1 r1 => h P1 fp1 σ1 H1 v (l.trans l1) s1 r1
  | some (.exc x e), h => fun P1 fp1 σ1 H1 c d l1 s1 r1 => h P1 fp1 σ1 H1 c d (l.trans l1) s1 r1
/-- an expression, then statements -/
theorem postS.seq {α β : Type} {R : RelR α β} {P : Hp} {σ : L2.St} {D : Ends} {N : β → Hp → Prop} {f : α → M Fl} : ∀ {o : Option (Out α)}, postS C W P D (Out.andThen o f) →
    (∀ a env' P' fp' H' v, Le P P' → StOk C P' env' fp' σ H' → R P' fp' H' a v → postS C W P' D (f a env') → N v H') → postG C W R P N σ o
  | none, h, _ => h
  | some (.ok r e), h, k => fun P1 fp1 H1 v l1 s1 r1 => k r e P1 fp1 H1 v l1 s1 r1 (postS.mono l1 h)
  | some (.exc x e), h, _ => fun P1 fp1 H1 c d l1 s1 r1 => h P1 fp1 σ H1 c d l1 s1 r1
theorem liftS.seq {α β : Type} {R : RelR α β} {σ : L2.St} {H : Hp} {D : Ends} {N : β → Hp → Prop} {m : M α} {f : α → M Fl} (h : liftS C W (m >>= f) D σ H)
    (k : ∀ a env' P' fp' H' v, StOk C P' env' fp' σ H' → R P' fp' H' a v → postS C W P' D (f a env') → N v H') : liftG C W R m σ H N := by
  obtain ⟨P, env, fp, s, h⟩ := h
  exact ⟨P, env, fp, s, postS.seq h fun a env' P' fp' H' v _ s' r q => k a env' P' fp' H' v s' r q⟩
/-- a statement, then more -/
def mThen (a b : M Fl) : M Fl := a >>= fun f => match f with
  | .nx => b
  | f => pure f
theorem postS.then {P : Hp} {D : Ends} {b : M Fl} : ∀ {o : Option (Out Fl)}, postS C W P D (Out.andThen o fun f => match f with | .nx => b | f => pure f) →
    postS C W P { D with nx := liftS C W b D } o
  | none, h => h
  | some (.ok .nx e), h => fun P1 fp1 σ1 H1 l1 s1 => ⟨P1, e, fp1, s1, postS.mono l1 h⟩
  | some (.ok .bk e), h => h
  | some (.ok .ct e), h => h
  | some (.ok (.rt r) e), h => h
  | some (.exc x e), h => h
theorem sSs_nil : PSs X [] (liftS C W (pure .nx)) := PSs.imp pss_nil fun D σ H q => by
  obtain ⟨P, env, fp, s, h⟩ := q
  exact h P fp σ H (Le.refl _) s
theorem sSs_cons {st : Stmt} {r : List Stmt} {a b : M Fl} (h1 : PS X st (liftS C W a)) (h2 : PSs X r (liftS C W b)) : PSs X (st :: r) (liftS C W (mThen a b)) := PSs.imp (pss_cons h1 h2) fun D σ H q => by
  obtain ⟨P, env, fp, s, h⟩ := q
  exact ⟨P, env, fp, s, postS.then h⟩
theorem sSs_one {st : Stmt} {a : M Fl} (h1 : PS X st (liftS C W a)) : PSs X [st] (liftS C W a) := pss_one h1
theorem sS_pass : PS X (.Pass pos) (liftS C W (pure .nx)) := PS.imp ps_pass fun D σ H q => by
  obtain ⟨P, env, fp, s, h⟩ := q
  exact h P fp σ H (Le.refl _) s
/-- e; -/
def mDrop (m : M OV) : M Fl := m >>= fun _ => pure .nx
theorem sS_expr {e : Expr} {m : M OV} (h : PE X e (liftE C W m)) (hs : swapsWith e none pos.line X.env = pure false) : PS X (.Expr e pos) (liftS C W (mDrop m)) := PS.imp (ps_expr h hs) fun D σ H q =>
  liftS.seq q fun a env' P' fp' H' v s r q => q P' fp' σ H' (Le.refl _) s
def mRet (m : M OV) : M Fl := m >>= fun v => pure (.rt v)
theorem sS_ret {e : Expr} {m : M OV} (h : PE X e (liftE C W m)) : PS X (.Return (some e) pos) (liftS C W (mRet m)) := PS.imp (ps_ret h) fun D σ H q =>
  liftS.seq q fun a env' P' fp' H' v s r q => q P' fp' σ H' v (Le.refl _) s r
theorem sS_retN : PS X (.Return none pos) (liftS C W (pure (.rt (.d .none)))) := PS.imp ps_retN fun D σ H q => by
  obtain ⟨P, env, fp, s, h⟩ := q
  exact h P fp σ H .non (Le.refl _) s (rOV.d .non)
theorem sS_if {c : Expr} {a b : List Stmt} {t : M Bool} {ma mb : M Fl} (hc : PT X c (liftT C W t)) (ha : PSs X a (liftS C W ma)) (hb : PSs X b (liftS C W mb)) : PS X (.If c a b pos) (liftS C W (mIf t ma mb)) := PS.imp (ps_if hc ha hb) fun D σ H q =>
  liftS.seq q fun v env' P' fp' H' u s r q => by
    have e : u = v := r
    subst e
    cases u with
    | true => exact ⟨P', env', fp', s, q⟩
    | false => exact ⟨P', env', fp', s, q⟩
/-! ### stores -/
theorem StOk.store {P : Hp} {env : Env} {fp : Nat → List Addr} {σ : L2.St} {H : Hp} {ov : OV} {v : V} {ft : List Addr} (s : StOk C P env fp σ H) {i : Nat} (hk : C.kp i = none) (o : Own C.exc P H ov v ft) (t : Tmp C P fp ft) :
    ∃ fp', StOk C P (env.set i (some ov)) fp' (σ.set i (some v)) H := by
  have s1 := s.drop i
  by_cases hi : i < σ.length
  · have t1 : Tmp C P (fun j => if j = i then [] else fp j) ft := ⟨fun j a h1 h2 => by
      by_cases hj : j = i
      · rw [if_pos hj] at h1; cases h1
      · rw [if_neg hj] at h1
        exact t.dis j a h1 h2, t.fre⟩
    have s2 : StOk C P (env.set i none) (fun j => if j = i then [] else fp j) (σ.set i (some v)) H := by
      refine ⟨s1.phi, s1.frm, fun j w q => ?_, s1.dis, s1.fre, fun j w q => ?_, s1.tabs, by rw [List.length_set, List.length_set]; exact s.len⟩
      · by_cases hj : j = i
        · subst hj
          rw [List.getElem?_set_self (by rw [s.len]; exact hi)] at q
          cases q
        · obtain ⟨y, e, z⟩ := s1.own j w q
          exact ⟨y, by rw [List.getElem?_set_ne (Ne.symm hj)]; exact e, z⟩
      · have hj : j ≠ i := fun z => by rw [z, hk] at q; cases q
        rw [List.getElem?_set_ne (Ne.symm hj)]
        exact s.keep j w q
    have s3 := s2.put i (List.getElem?_set_self hi) o t1
    rw [List.set_set] at s3
    exact ⟨_, s3⟩
  · refine ⟨fp, ?_⟩
    rw [List.set_eq_of_length_le (by rw [s.len]; omega), List.set_eq_of_length_le (by omega)]
    exact s
def mSet (i : Nat) (m : M OV) : M Fl := m >>= fun v => fun e => some (.ok .nx (e.set i (some v)))
/-- x = e, kept as it is; as data: e is frz .. -/
theorem sS_set {i : Nat} {x : Str} {e : Expr} {m : M OV} {p : Pos} (hN : X.N.Nodup) (hi : X.N[i]? = some x) (hx : Loc X.env.scope x) (hf : X.fn x = true ∨ X.env.scope.names.lookup x = some .local) (hk : C.kp i = none) (h : PE X e (liftE C W m)) (hs : swapsWith e (some (.Name x p)) pos.line X.env = pure false) :
    PS X (.Assign [.Name x p] e pos) (liftS C W (mSet i m)) := PS.imp (ps_set hN hi hx h hs hf) fun D σ H q =>
  liftS.seq q fun a env' P' fp' H' v s r q => by
    obtain ⟨ft, o, t⟩ := r
    obtain ⟨fp2, s2⟩ := s.store hk o t
    exact q P' fp2 _ H' (Le.refl _) s2
/-! ### targets -/
inductive Tg where
  | n (i : Nat)
  | t (ts : List Tg)
theorem wipe_set_out {σ : L2.St} {i : Nat} {x : Option V} : ∀ {vs : List Nat}, i ∉ vs → wipe (σ.set i x) vs = (wipe σ vs).set i x
  | [], _ => rfl
  | v :: vs, h => by
    have h1 : v ≠ i := fun e => h (by rw [e]; exact List.mem_cons_self)
    have h2 : i ∉ vs := fun m => h (List.mem_cons_of_mem _ m)
    show (wipe (σ.set i x) vs).set v none = ((wipe σ vs).set v none).set i x
    rw [wipe_set_out h2, List.set_comm _ _ (Ne.symm h1)]
theorem wipe_set {σ : L2.St} {i : Nat} {x : Option V} : ∀ {vs : List Nat}, i ∈ vs → wipe (σ.set i x) vs = wipe σ vs
  | v :: vs, h => by
    show (wipe (σ.set i x) vs).set v none = (wipe σ vs).set v none
    by_cases hm : i ∈ vs
    · rw [wipe_set hm]
    · have e : i = v := by
        rcases List.mem_cons.mp h with e | e
        · exact e
        · exact absurd e hm
      subst e
      rw [wipe_set_out hm, List.set_set]
/-- a target's store of data; vs: what it stores to -/
def liftPG (C : Cc) (vs : List Nat) (g : PyData → M Unit) : TG := fun v σ H Q => ∃ P env fp x env', StOk C P env fp σ H ∧ Dd P v x ∧ g x env = some (.ok () env') ∧ ∀ P' fp' σ' H', Le P P' → StOk C P' env' fp' σ' H' → wipe σ' vs = wipe σ vs → Q σ' H'
def liftPGs (C : Cc) (vs : List Nat) (g : List PyData → M Unit) : TGs := fun us σ H Q => ∃ P env fp xs env', StOk C P env fp σ H ∧ DdAll P us xs ∧ g xs env = some (.ok () env') ∧ ∀ P' fp' σ' H', Le P P' → StOk C P' env' fp' σ' H' → wipe σ' vs = wipe σ vs → Q σ' H'
theorem PG.imp {tg : Expr} {t t' : TG} (h : PG X tg t) (i : ∀ v σ H Q, t' v σ H Q → t v σ H Q) : PG X tg t' := ⟨fun pins s σ H v u Q I r q => h.run pins s σ H v u Q I r (i v σ H Q q)⟩
theorem PGs.imp {tg : List Expr} {t t' : TGs} (h : PGs X tg t) (i : ∀ v σ H Q, t' v σ H Q → t v σ H Q) : PGs X tg t' := ⟨fun pins s σ H v u Q I r q => h.run pins s σ H v u Q I r (i v σ H Q q)⟩
def gN (i : Nat) (x : PyData) : M Unit := fun e => some (.ok () (e.set i (some (.d x))))
structure LocOk (X : Cx) (C : Cc) (i : Nat) (x : Str) : Prop where
  nd : X.N.Nodup
  n : X.N[i]? = some x
  l : Loc X.env.scope x
  f : X.fn x = true ∨ X.env.scope.names.lookup x = some .local
  k : C.kp i = none
theorem sG_name {vs : List Nat} {i : Nat} {x : Str} (l : LocOk X C i x) (hi : i ∈ vs) : PG X (.Name x pos) (liftPG C vs (gN i)) := PG.imp (pg_name l.nd l.n l.l l.f) fun v σ H Q q => by
  obtain ⟨P, env, fp, x, env', s, d, e, k⟩ := q
  cases e
  obtain ⟨fp2, s2⟩ := s.store l.k (.d d) Tmp.nil
  exact k P fp2 _ H (Le.refl _) s2 (wipe_set hi)
def gsNil (xs : List PyData) : M Unit := match xs with
  | [] => pure ()
  | _ => fun _ => none
def gsCons (g : PyData → M Unit) (r : List PyData → M Unit) (xs : List PyData) : M Unit := match xs with
  | x :: xs => g x >>= fun _ => r xs
  | [] => fun _ => none
theorem sGs_nil {vs : List Nat} : PGs X [] (liftPGs C vs gsNil) := PGs.imp pgs_nil fun v σ H Q q => by
  obtain ⟨P, env, fp, xs, env', s, d, e, k⟩ := q
  cases d with
  | nil =>
    cases e
    exact ⟨rfl, k P fp σ H (Le.refl _) s rfl⟩
  | cons => cases e
theorem sGs_cons {vs : List Nat} {t : Expr} {ts : List Expr} {g : PyData → M Unit} {r : List PyData → M Unit} (h1 : PG X t (liftPG C vs g)) (h2 : PGs X ts (liftPGs C vs r)) (hs : (assignEach (t :: ts) X.env).map (·.2) = assign t X.env :: (assignEach ts X.env).map (·.2)) : PGs X (t :: ts) (liftPGs C vs (gsCons g r)) := PGs.imp (pgs_cons h1 h2 hs) fun v σ H Q q => by
  obtain ⟨P, env, fp, xs, env', s, d, e, k⟩ := q
  cases d with
  | nil => cases e
  | cons d ds =>
    rename_i v us x xs
    have e' : Out.andThen (g x env) (fun _ => r xs) = some (.ok () env') := e
    cases eg : g x env with
    | none => rw [eg] at e'; cases e'
    | some o =>
      rw [eg] at e'
      cases o with
      | exc y en => cases e'
      | ok a env1 =>
        refine ⟨v, us, rfl, P, env, fp, x, env1, s, d, eg, fun P1 fp1 σ1 H1 l1 s1 w1 => ?_⟩
        exact ⟨P1, env1, fp1, xs, env', s1, l1.dpAll ds, e', fun P2 fp2 σ2 H2 l2 s2 w2 => k P2 fp2 σ2 H2 (l1.trans l2) s2 (w2.trans w1)⟩
def gT (n : Nat) (g : List PyData → M Unit) (x : PyData) : M Unit := match x with
  | .tuple xs => if xs.length = n then g xs else fun _ => none
  | _ => fun _ => none
theorem sG_tup {vs : List Nat} {ts : List Expr} {k : Nat} {n : Nat} {g : List PyData → M Unit} (hc : X.calm = true) (h : PGs X ts (liftPGs C vs g)) (hn : (assignEach ts X.env).length = n) (hst : (assignEach ts X.env).findIdx? (·.1) = none) : PG X (.Tuple ts k pos) (liftPG C vs (gT n g)) := PG.imp (pg_tup hc h hn hst) fun v σ H Q q => by
  obtain ⟨P, env, fp, x, env', s, d, e, k⟩ := q
  cases d with
  | tup hq a =>
    rename_i ad us xs
    have e' : (if xs.length = n then g xs else fun _ => none) env = some (.ok () env') := e
    by_cases hl : xs.length = n
    · rw [if_pos hl] at e'
      exact ⟨ad, us, rfl, toK_T (s.le.sqT hq), by rw [dpAll_length a]; exact hl, P, env, fp, xs, env', s, a, e', k⟩
    · rw [if_neg hl] at e'
      cases e'
  | _ => cases e
/-- target = data -/
def mAsg (g : PyData → M Unit) (m : M PyData) : M Fl := m >>= fun x => g x >>= fun _ => pure .nx
theorem sS_asg {vs : List Nat} {tg e : Expr} {g : PyData → M Unit} {m : M PyData} (hg : PG X tg (liftPG C vs g)) (he : PE X e (liftD C W m)) (h0 : ∀ x env o, g x env = some o → ∃ env', o = .ok () env') (hs : swapsWithSole [tg] e pos.line X.env = pure false) (hw : swappedStores [tg] e X.env = pure none)
    (h1 : (assignEach [tg] X.env).map (·.2) = [assign tg X.env]) : PS X (.Assign [tg] e pos) (liftS C W (mAsg g m)) := PS.imp (ps_asg he hg hs hw h1) fun D σ H q =>
  liftS.seq q fun x env' P' fp' H' v s r q => by
    rw [M.bind_at] at q
    cases eg : g x env' with
    | none => rw [eg] at q; exact q.elim
    | some o =>
      obtain ⟨env2, rfl⟩ := h0 x env' o eg
      rw [eg] at q
      exact ⟨P', env', fp', x, env2, s, r, eg, fun P2 fp2 σ2 H2 l2 s2 _ => q P2 fp2 σ2 H2 l2 s2⟩
/-! ### items stored -/
/-- x[k] = v of a slot's own dict: v, then k -/
def gPutD (y x : PyData) : OV → Option (OV × OV)
  | .dct kvs => (match y with
    | .int k => if kvs.length < sizeLine then some (.dct (put kvs k x), .d .none) else none
    | _ => none)
  | _ => none
def mPutD (i : Nat) (mk mv : M PyData) : M Fl := mv >>= fun x => mHas i isDct >>= fun _ => mk >>= fun y => mMut i (gPutD y x) >>= fun _ => pure .nx
def mMutS {α : Type} (i : Nat) (f : OV → Option (OV × α)) : M Fl := mMut i f >>= fun _ => pure .nx
theorem mutS_at {α : Type} {P : Hp} {D : Ends} {i : Nat} {f : OV → Option (OV × α)} {env : Env} (h : postS C W P D ((mMut i f >>= fun _ => (pure .nx : M Fl)) env)) : ∃ v v' a, env[i]? = some (some v) ∧ f v = some (v', a) ∧ postS C W P D (some (.ok .nx (env.set i (some v')))) := by
  rw [M.bind_at] at h
  unfold mMut at h
  split at h
  · rename_i v e
    cases hf : f v with
    | none => rw [hf] at h; exact h.elim
    | some a => rw [hf] at h; exact ⟨v, a.1, a.2, e, hf, h⟩
  · exact h.elim
theorem hasS {P : Hp} {D : Ends} {i : Nat} {p : OV → Bool} {f : Unit → M Fl} {env : Env} (h : postS C W P D ((mHas i p >>= f) env)) : ∃ v, env[i]? = some (some v) ∧ p v = true ∧ postS C W P D (f () env) := by
  rw [M.bind_at] at h
  unfold mHas at h
  split at h
  · rename_i v e
    split at h
    · rename_i hp
      exact ⟨v, e, hp, h⟩
    · exact h.elim
  · exact h.elim
theorem gPutD_some {y x : PyData} {ov w' a : OV} (h : gPutD y x ov = some (w', a)) : ∃ kvs k, ov = .dct kvs ∧ y = .int k ∧ kvs.length < sizeLine ∧ w' = .dct (put kvs k x) := by
  cases ov with
  | dct kvs =>
    cases y with
    | int k =>
      have h' : (if kvs.length < sizeLine then some (OV.dct (put kvs k x), OV.d .none) else none) = some (w', a) := h
      by_cases hz : kvs.length < sizeLine
      · rw [if_pos hz] at h'
        cases h'
        exact ⟨kvs, k, rfl, rfl, hz, rfl⟩
      · rw [if_neg hz] at h'
        cases h'
    | _ => cases h
  | _ => cases h
theorem sS_putD {i : Nat} {x : Str} {p p2 : Pos} {b e : Expr} {mk mv : M PyData} (hu : X.A.units + 200 < cLine) (n : NameOk X i x) (hb : PE X b (liftD C W mk)) (he : PE X e (liftD C W mv)) (hs : swapsWith e (some (.Subscript (.Name x p) b p2)) pos.line X.env = pure false) :
    PS X (.Assign [.Subscript (.Name x p) b p2] e pos) (liftS C W (mPutD i mk mv)) := PS.imp (ps_dput (by omega) n.pe hb he hs) fun D σ H q =>
  liftS.seq q fun z env1 P1 fp1 H1 v s1 r1 q1 => by
    obtain ⟨ov, e0, hp, q2⟩ := hasS q1
    obtain ⟨v0, f0, o0⟩ := s1.own i _ e0
    refine ⟨v0, f0, P1, env1, fp1, s1, ?_⟩
    rw [M.bind_at] at q2
    refine postS.seq q2 fun y env' P' fp' H' u l s' r q => ?_
    obtain ⟨w, w', a, g1, g2, q'⟩ := mutS_at q
    obtain ⟨kvs, k, rfl, rfl, hz, rfl⟩ := gPutD_some g2
    obtain ⟨ad, vs, f1, hf, hH, d⟩ := s'.dctAt g1
    have ew := slot_inj f0 f1
    subst ew
    obtain rfl := dp_int r
    exact ⟨ad, _, rfl, DPut.k (k := Sum.inl k) hH (by rw [d.length]; exact hz), q' P' fp' σ _ (Le.refl _) (s'.mut g1 f1 hf trivial fun H2 e2 => .dct e2 (d.put k (l.dp r1)))⟩
/-- x[i] = v of a slot's own list -/
def gSetL (y x : PyData) : OV → Option (OV × OV)
  | .lst xs => (match y with
    | .int k => (ixN xs.length k).map fun j => (.lst (xs.set j x), .d .none)
    | _ => none)
  | _ => none
def mSetL (i : Nat) (mk mv : M PyData) : M Fl := mv >>= fun x => mHas i isLst >>= fun _ => mk >>= fun y => mMut i (gSetL y x) >>= fun _ => pure .nx
theorem gSetL_some {y x : PyData} {ov w' a : OV} (h : gSetL y x ov = some (w', a)) : ∃ xs k j, ov = .lst xs ∧ y = .int k ∧ ixN xs.length k = some j ∧ w' = .lst (xs.set j x) := by
  cases ov with
  | lst xs =>
    cases y with
    | int k =>
      obtain ⟨j, e1, e2⟩ := Option.map_eq_some_iff.mp (show (ixN xs.length k).map (fun j => (OV.lst (xs.set j x), OV.d .none)) = some (w', a) from h)
      cases e2
      exact ⟨xs, k, j, rfl, rfl, e1, rfl⟩
    | _ => cases h
  | _ => cases h
/-- an item's store is the plain one -/
def SubT (X : Cx) (o i : Expr) (pos : Pos) : Prop := ∀ v, assign (.Subscript o i pos) X.env v = (do
      let ov ← holding [v] (eval o X.env)
      let iv ← holding [v, ov] (eval i X.env)
      standAt pos
      holding [v, ov, iv] (setItem ov iv v)
      release [v, ov, iv] [])
theorem sS_setL {i : Nat} {x : Str} {p p2 : Pos} {b e : Expr} {mk mv : M PyData} (n : NameOk X i x) (hb : PE X b (liftD C W mk)) (he : PE X e (liftD C W mv)) (ht : SubT X (.Name x p) b p2) (hs : swapsWithSole [.Subscript (.Name x p) b p2] e pos.line X.env = pure false) (hw : swappedStores [.Subscript (.Name x p) b p2] e X.env = pure none) :
    PS X (.Assign [.Subscript (.Name x p) b p2] e pos) (liftS C W (mSetL i mk mv)) := PS.imp (ps_asg he (pg_sub n.pe hb set_list ht) hs hw rfl) fun D σ H q =>
  liftS.seq q fun z env1 P1 fp1 H1 v s1 r1 q1 => by
    obtain ⟨ov, e0, hp, q2⟩ := hasS q1
    obtain ⟨v0, f0, o0⟩ := s1.own i _ e0
    refine ⟨v0, f0, P1, env1, fp1, s1, ?_⟩
    rw [M.bind_at] at q2
    refine postS.seq q2 fun y env' P' fp' H' u l s' r q => ?_
    obtain ⟨w, w', a, g1, g2, q'⟩ := mutS_at q
    obtain ⟨xs, k, j, rfl, rfl, hj, rfl⟩ := gSetL_some g2
    obtain ⟨ad, vs, f1, hf, hH, d⟩ := s'.lstAt g1
    have ew := slot_inj f0 f1
    subst ew
    obtain rfl := dp_int r
    exact ⟨ad, vs, k, j, rfl, rfl, hH, by rw [dpAll_length d]; exact hj, q' P' fp' σ _ (Le.refl _) (s'.mut g1 f1 hf trivial fun H2 e2 => .lst e2 (dpAll_set (l.dp r1) j d))⟩
end
end TL
set_option Elab.async false
set_option linter.all false
set_option maxRecDepth 100000
set_option maxHeartbeats 1000000
namespace TL
open PySem PySem.Spec PyProof.Rows L2
section
variable {X : Cx} {C : Cc} {W : WX} {pos : Pos}
/-! ### what is walked -/
/-- the items, drawn one by one -/
def Wk (C : Cc) (J : It) (P0 : Hp) (items : List PyData) : Prop := ∀ (i : Nat) (P : Hp) (env : Env) (fp : Nat → List Addr) (F : Hp) (σ : L2.St) (H : Hp), Le P0 P → StOk (C.withF F) P env fp σ H →
  (items.length ≤ i → J.stop i H) ∧ ∀ x, items[i]? = some x → J.go i H ∧ ∀ v H', J.yld i H v H' → ∃ P', Le P P' ∧ StOk (C.withF F) P' env fp σ H' ∧ Dd P' v x
def postI (C : Cc) (W : WX) (P : Hp) (R : It → Hp → Prop) (σ : L2.St) : Option (Out (List PyData)) → Prop
  | none => False
  | some (.ok xs env') => ∀ P' fp' H' J, Le P P' → StOk C P' env' fp' σ H' → Wk C J P' xs → R J H'
  | some (.exc x env') => ∀ P' fp' H' cls d, Le P P' → StOk C P' env' fp' σ H' → ExcIs C x cls d H' → W cls d σ H'
def liftI (C : Cc) (W : WX) (m : M (List PyData)) : TI := fun σ H R => ∃ P env fp, StOk C P env fp σ H ∧ postI C W P R σ (m env)
theorem PI.imp {tg e : Expr} {t t' : TI} (h : PI X tg e t) (i : ∀ σ H R, t' σ H R → t σ H R) : PI X tg e t' := ⟨fun pins s σ H R I q => h.run pins s σ H R I (i σ H R q)⟩
theorem PI.ex {tg e : Expr} {t : TI} (h : ∀ σ H R, t σ H R → ∃ t', PI X tg e t' ∧ t' σ H R) : PI X tg e t := ⟨fun pins s σ H R I q => let ⟨_, p, q'⟩ := h σ H R q; p.run pins s σ H R I q'⟩
theorem postI.mono {P P' : Hp} {R : It → Hp → Prop} {σ : L2.St} (l : Le P P') : ∀ {o : Option (Out (List PyData))}, postI C W P R σ o → postI C W P' R σ o
  | none, h => h
  | some (.ok r e), h => fun P1 fp1 H1 J l1 s1 r1 => h P1 fp1 H1 J (l.trans l1) s1 r1
  | some (.exc x e), h => fun P1 fp1 H1 c d l1 s1 r1 => h P1 fp1 H1 c d (l.trans l1) s1 r1
theorem postI.seq {α β : Type} {R : RelR α β} {P : Hp} {σ : L2.St} {D : It → Hp → Prop} {N : β → Hp → Prop} {f : α → M (List PyData)} : ∀ {o : Option (Out α)}, postI C W P D σ (Out.andThen o f) →
    (∀ a env' P' fp' H' v, o = some (.ok a env') → Le P P' → StOk C P' env' fp' σ H' → R P' fp' H' a v → postI C W P' D σ (f a env') → N v H') → postG C W R P N σ o
  | none, h, _ => h
  | some (.ok r e), h, k => fun P1 fp1 H1 v l1 s1 r1 => k r e P1 fp1 H1 v rfl l1 s1 r1 (postI.mono l1 h)
  | some (.exc x e), h, _ => h
theorem wk_list {P : Hp} {a : Addr} {vs : List V} {xs : List PyData} {K : PySem.W.Frag} (h : SqL K0 P a vs) (d : DdAll P vs xs) : Wk C (Itl K a) P xs := fun i P' env fp F σ H l s => by
  have hq : SqL K H a vs := toK_L ((l.trans s.le).sqL h)
  have hl := dpAll_length d
  refine ⟨fun hi => ⟨vs, hq, by omega⟩, fun x hx => ?_⟩
  obtain ⟨v, h1, h2⟩ := dpAll_get d hx
  refine ⟨⟨vs, v, hq, h1⟩, fun w H' y => ?_⟩
  obtain ⟨rfl, y⟩ := y
  have e := y vs hq
  rw [h1] at e
  cases e
  exact ⟨P', Le.refl _, s, l.dp h2⟩
theorem wk_tup {P : Hp} {a : Addr} {vs : List V} {xs : List PyData} {K : PySem.W.Frag} (h : SqT K0 P a vs) (d : DdAll P vs xs) : Wk C (Itt K a) P xs := fun i P' env fp F σ H l s => by
  have hq : SqT K H a vs := toK_T ((l.trans s.le).sqT h)
  have hl := dpAll_length d
  refine ⟨fun hi => ⟨vs, hq, by omega⟩, fun x hx => ?_⟩
  obtain ⟨v, h1, h2⟩ := dpAll_get d hx
  refine ⟨⟨vs, v, hq, h1⟩, fun w H' y => ?_⟩
  obtain ⟨rfl, y⟩ := y
  have e := y vs hq
  rw [h1] at e
  cases e
  exact ⟨P', Le.refl _, s, l.dp h2⟩
/-- lo, lo + 1, .. -/
def rngD (lo : Int) (n : Nat) : List PyData := (List.range n).map fun i => .int (lo + (i : Nat))
theorem rngD_get {lo : Int} {n i : Nat} {x : PyData} (h : (rngD lo n)[i]? = some x) : i < n ∧ x = .int (lo + (i : Nat)) := by
  unfold rngD at h
  rw [List.getElem?_map] at h
  by_cases hi : i < n
  · rw [List.getElem?_range hi] at h
    cases h
    exact ⟨hi, rfl⟩
  · rw [List.getElem?_eq_none (by rw [List.length_range]; omega)] at h
    cases h
theorem rngD_length {lo : Int} {n : Nat} : (rngD lo n).length = n := by
  unfold rngD
  rw [List.length_map, List.length_range]
theorem wk_range {P : Hp} {lo : Int} {n : Nat} : Wk C (Itr lo n) P (rngD lo n) := fun i P' env fp F σ H l s => by
  refine ⟨fun hi => by rw [rngD_length] at hi; exact hi, fun x hx => ?_⟩
  obtain ⟨h1, rfl⟩ := rngD_get hx
  refine ⟨h1, fun w H' y => ?_⟩
  obtain ⟨rfl, rfl⟩ := y
  exact ⟨P', Le.refl _, s, .int _⟩
/-- a list or a tuple -/
def mItems (m : M PyData) : M (List PyData) := m >>= fun x => match x with
  | .list xs => pure xs
  | .tuple xs => pure xs
  | _ => fun _ => none
theorem sI_seq {tg e : Expr} {m : M PyData} (h : PE X e (liftD C W m)) : PI X tg e (liftI C W (mItems m)) := PI.ex fun σ H R q => by
  obtain ⟨P, env, fp, s, h'⟩ := q
  by_cases hl : ∃ xs env1, m env = some (.ok (.list xs) env1)
  · obtain ⟨xs, env1, em⟩ := hl
    refine ⟨_, pi_list h, P, env, fp, s, postI.seq h' fun x env' P' fp' H' v e l s' r q => ?_⟩
    rw [em] at e
    cases e
    cases r with
    | lst hq a =>
      exact ⟨_, rfl, ⟨_, toK_L (s'.le.sqL hq)⟩, q P' fp' H' _ (Le.refl _) s' (wk_list hq a)⟩
  · refine ⟨_, pi_tup h, P, env, fp, s, postI.seq h' fun x env' P' fp' H' v e l s' r q => ?_⟩
    cases r with
    | lst hq a => exact absurd ⟨_, _, e⟩ hl
    | tup hq a => exact ⟨_, rfl, ⟨_, toK_T (s'.le.sqT hq)⟩, q P' fp' H' _ (Le.refl _) s' (wk_tup hq a)⟩
    | _ => exact False.elim q
def mRange1 (m : M PyData) : M (List PyData) := m >>= fun x => match x with
  | .int j => if -(2 ^ 62) ≤ j ∧ j < 2 ^ 62 then pure (rngD 0 j.toNat) else fun _ => none
  | _ => fun _ => none
def mRange2 (a b : M PyData) : M (List PyData) := a >>= fun x => b >>= fun y => match x, y with
  | .int i, .int j => if -(2 ^ 62) ≤ i ∧ i < 2 ^ 62 ∧ -(2 ^ 62) ≤ j ∧ j < 2 ^ 62 then pure (rngD i (j - i).toNat) else fun _ => none
  | _, _ => fun _ => none
theorem sI_range1 {tg a : Expr} {p : Pos} {m : M PyData} (hg : Gl X "range") (hm : X.mg "range" = none) (h : PE X a (liftD C W m)) (ns : NS a) : PI X tg (.Call (.Name "range" p) [a] [] pos) (liftI C W (mRange1 m)) :=
  PI.imp (pi_range1 hg hm (pa_cons h pa_nil (ns [] _)) (ns [] _)) fun σ H R q => by
    obtain ⟨P, env, fp, s, h'⟩ := q
    refine ⟨P, env, fp, s, postI.seq h' fun x env' P' fp' H' v e l s' r q => ?_⟩
    cases r with
    | int j =>
      by_cases hz : -(2 ^ 62) ≤ j ∧ j < 2 ^ 62
      · have q' : postI C W P' R σ (some (.ok (rngD 0 j.toNat) env')) := by
          have q2 : postI C W P' R σ ((if -(2 ^ 62) ≤ j ∧ j < 2 ^ 62 then (pure (rngD 0 j.toNat) : M (List PyData)) else fun _ => none) env') := q
          rw [if_pos hz] at q2
          exact q2
        exact ⟨j, rfl, hz.1, hz.2, q' P' fp' H' _ (Le.refl _) s' wk_range⟩
      · have q2 : postI C W P' R σ ((if -(2 ^ 62) ≤ j ∧ j < 2 ^ 62 then (pure (rngD 0 j.toNat) : M (List PyData)) else fun _ => none) env') := q
        rw [if_neg hz] at q2
        exact q2.elim
    | _ => exact False.elim q
theorem sI_range2 {tg a b : Expr} {p : Pos} {ma mb : M PyData} (hg : Gl X "range") (hm : X.mg "range" = none) (ha : PE X a (liftD C W ma)) (hb : PE X b (liftD C W mb)) (na : NS a) (nb : NS b) : PI X tg (.Call (.Name "range" p) [a, b] [] pos) (liftI C W (mRange2 ma mb)) :=
  PI.imp (pi_range2 hg hm (pa_cons ha (pa_cons hb pa_nil (nb [] _)) (na [b] _)) ((na [b] _).trans (by rw [nb [] _]; rfl)) (nb [] _)) fun σ H R q => by
    obtain ⟨P, env, fp, s, h'⟩ := q
    refine ⟨P, env, fp, s, postI.seq h' fun x env' P' fp' H' v e l s' r q => ?_⟩
    refine ⟨P', env', fp', s', postI.seq q fun y env2 P2 fp2 H2 u e2 l2 s2 r2 q2 => ?_⟩
    cases r with
    | int i =>
      cases r2 with
      | int j =>
        by_cases hz : -(2 ^ 62) ≤ i ∧ i < 2 ^ 62 ∧ -(2 ^ 62) ≤ j ∧ j < 2 ^ 62
        · have q' : postI C W P2 R σ (some (.ok (rngD i (j - i).toNat) env2)) := by
            have q3 : postI C W P2 R σ ((if -(2 ^ 62) ≤ i ∧ i < 2 ^ 62 ∧ -(2 ^ 62) ≤ j ∧ j < 2 ^ 62 then (pure (rngD i (j - i).toNat) : M (List PyData)) else fun _ => none) env2) := q2
            rw [if_pos hz] at q3
            exact q3
          exact ⟨i, j, rfl, hz, q' P2 fp2 H2 _ (Le.refl _) s2 wk_range⟩
        · have q3 : postI C W P2 R σ ((if -(2 ^ 62) ≤ i ∧ i < 2 ^ 62 ∧ -(2 ^ 62) ≤ j ∧ j < 2 ^ 62 then (pure (rngD i (j - i).toNat) : M (List PyData)) else fun _ => none) env2) := q2
          rw [if_neg hz] at q3
          exact q3.elim
      | _ => exact False.elim q2
    | _ => exact False.elim q2
/-! ### for -/
def forM (g : PyData → M Unit) (b : M Fl) : List PyData → M Fl
  | [] => pure .nx
  | x :: xs => g x >>= fun _ => b >>= fun f => match f with
    | .nx => forM g b xs
    | .ct => forM g b xs
    | .bk => pure .nx
    | .rt r => pure (.rt r)
def mFor (mi : M (List PyData)) (g : PyData → M Unit) (b : M Fl) : M Fl := mi >>= forM g b
/-- a target's store gives nothing but stores -/
def GOk (g : PyData → M Unit) : Prop := ∀ x env o, g x env = some o → ∃ env', o = .ok () env'
theorem sS_for {vs : List Nat} {tg iter : Expr} {body : List Stmt} {mi : M (List PyData)} {g : PyData → M Unit} {b : M Fl} (hp : PassesOwn (model X.prog X.w) X.A X.env X.xe) (hc : X.calm = true) (hi : PI X tg iter (liftI C W mi)) (hg : PG X tg (liftPG C vs g)) (h0 : GOk g) (hb : PSs X body (liftS C W b))
    (hs : ∀ x, foldedSetIterable iter X.env x = pure x) : PS X (.For tg iter body [] pos) (liftS C W (mFor mi g b)) := PS.imp (ps_for hp hc hi hg hb hs) fun D σ H q => by
  obtain ⟨P, env, fp, s, h⟩ := q
  have h : postS C W P D (Out.andThen (mi env) (forM g b)) := h
  refine ⟨P, env, fp, s, ?_⟩
  cases em : mi env with
  | none => rw [em] at h; exact h.elim
  | some o =>
    rw [em] at h
    cases o with
    | exc y e1 => exact fun P1 fp1 H1 c d l1 s1 r1 => h P1 fp1 σ H1 c d l1 s1 r1
    | ok xs e1 =>
      intro P1 fp1 H1 J l1 s1 wk
      have h1 : postS C W P1 D (forM g b xs e1) := postS.mono l1 h
      refine ⟨fun i m σ H => m = xs.length - i ∧ i ≤ xs.length ∧ ∃ P env fp, Le P1 P ∧ StOk C P env fp σ H ∧ postS C W P D (forM g b (xs.drop i) env), ⟨xs.length, rfl, Nat.zero_le _, P1, e1, fp1, Le.refl _, s1, h1⟩, ?_⟩
      rintro i m σ2 H2 ⟨rfl, hi2, P2, env2, fp2, l2, s2, h2⟩
      obtain ⟨w1, w2⟩ := wk i P2 env2 fp2 C.F σ2 H2 l2 s2
      by_cases hlt : i < xs.length
      · refine .inr ?_
        obtain ⟨go, yl⟩ := w2 xs[i] (by simp [hlt])
        rw [List.drop_eq_getElem_cons hlt] at h2
        have h2 : postS C W P2 D (Out.andThen (g xs[i] env2) fun _ => b >>= fun f => match f with
          | .nx => forM g b (xs.drop (i + 1))
          | .ct => forM g b (xs.drop (i + 1))
          | .bk => pure .nx
          | .rt r => pure (.rt r)) := h2
        refine ⟨go, fun σ3 H3 => ∃ P env fp, Le P1 P ∧ StOk C P env fp σ3 H3 ∧ postS C W P D (forM g b (xs.drop (i + 1)) env), fun σ' H' w => ⟨xs.length - (i + 1), by omega, rfl, hlt, w⟩, fun v H' y => ?_⟩
        obtain ⟨P3, l3, s3, d3⟩ := yl v H' y
        cases eg : g xs[i] env2 with
        | none => rw [eg] at h2; exact h2.elim
        | some o =>
          obtain ⟨env3, rfl⟩ := h0 _ _ _ eg
          rw [eg] at h2
          refine ⟨P3, env2, fp2, xs[i], env3, s3, d3, eg, fun P4 fp4 σ4 H4 l4 s4 _ => ?_⟩
          have h4 := postS.mono (l3.trans l4) h2
          refine ⟨P4, env3, fp4, s4, ?_⟩
          have h4 : postS C W P4 D (Out.andThen (b env3) fun f => match f with
            | .nx => forM g b (xs.drop (i + 1))
            | .ct => forM g b (xs.drop (i + 1))
            | .bk => pure .nx
            | .rt r => pure (.rt r)) := h4
          have lP : Le P1 P4 := (l2.trans l3).trans l4
          cases eb : b env3 with
          | none => rw [eb] at h4; exact h4.elim
          | some o =>
            rw [eb] at h4
            cases o with
            | exc y e5 => exact h4
            | ok f e5 =>
              cases f with
              | nx => exact fun P5 fp5 σ5 H5 l5 s5 => ⟨P5, e5, fp5, lP.trans l5, s5, postS.mono l5 h4⟩
              | ct => exact fun P5 fp5 σ5 H5 l5 s5 => ⟨P5, e5, fp5, lP.trans l5, s5, postS.mono l5 h4⟩
              | bk => exact h4
              | rt r => exact h4
      · have e : i = xs.length := by omega
        subst e
        refine .inl ⟨w1 (Nat.le_refl _), ?_⟩
        rw [List.drop_length] at h2
        exact h2 P2 fp2 σ2 H2 (Le.refl _) s2
/-! ### while -/
def whileM (t : M Bool) (b : M Fl) : Nat → M Fl
  | 0 => fun _ => none
  | n + 1 => t >>= fun c => if c then b >>= fun f => match f with
    | .nx => whileM t b n
    | .ct => whileM t b n
    | .bk => pure .nx
    | .rt r => pure (.rt r)
    else pure .nx
/-- as long as it takes -/
noncomputable def mWhile (t : M Bool) (b : M Fl) : M Fl := fun env => open Classical in if h : ∃ n, (whileM t b n env).isSome = true then whileM t b (Classical.choose h) env else none
theorem sS_while {c : Expr} {body : List Stmt} {t : M Bool} {b : M Fl} (hp : PassesOwn (model X.prog X.w) X.A X.env X.xe) (hc : PT X c (liftT C W t)) (hb : PSs X body (liftS C W b)) : PS X (.While c body [] pos) (liftS C W (mWhile t b)) := PS.imp (ps_while hp hc hb) fun D σ H q => by
  obtain ⟨P, env, fp, s, h⟩ := q
  obtain ⟨n, h⟩ : ∃ n, postS C W P D (whileM t b n env) := by
    unfold mWhile at h
    split at h
    · exact ⟨_, h⟩
    · exact h.elim
  refine ⟨fun m σ H => ∃ P env fp, StOk C P env fp σ H ∧ postS C W P D (whileM t b m env), ⟨n, P, env, fp, s, h⟩, ?_⟩
  rintro m σ1 H1 ⟨P1, env1, fp1, s1, h1⟩
  cases m with
  | zero => exact h1.elim
  | succ m =>
    have h1 : liftS C W (t >>= fun c => if c then b >>= fun f => match f with
      | .nx => whileM t b m
      | .ct => whileM t b m
      | .bk => pure .nx
      | .rt r => pure (.rt r)
      else pure .nx) D σ1 H1 := ⟨P1, env1, fp1, s1, h1⟩
    refine liftS.seq h1 fun v env2 P2 fp2 H2 u s2 r2 q2 => ?_
    have e : u = v := r2
    subst e
    cases u with
    | false => exact q2 P2 fp2 σ1 H2 (Le.refl _) s2
    | true =>
      refine ⟨fun σ' H' => ∃ P env fp, StOk C P env fp σ' H' ∧ postS C W P D (whileM t b m env), fun σ' H' w => ⟨m, Nat.lt_succ_self _, w⟩, P2, env2, fp2, s2, ?_⟩
      have q3 : postS C W P2 D (Out.andThen (b env2) fun f => match f with
        | .nx => whileM t b m
        | .ct => whileM t b m
        | .bk => pure .nx
        | .rt r => pure (.rt r)) := q2
      cases eb : b env2 with
      | none => rw [eb] at q3; exact q3.elim
      | some o =>
        rw [eb] at q3
        cases o with
        | exc y e5 => exact q3
        | ok f e5 =>
          cases f with
          | nx => exact fun P5 fp5 σ5 H5 l5 s5 => ⟨P5, e5, fp5, s5, postS.mono l5 q3⟩
          | ct => exact fun P5 fp5 σ5 H5 l5 s5 => ⟨P5, e5, fp5, s5, postS.mono l5 q3⟩
          | bk => exact q3
          | rt r => exact q3
theorem whileM_more {t : M Bool} {b : M Fl} : ∀ {n m : Nat} {env : Env} {o : Out Fl}, whileM t b n env = some o → n ≤ m → whileM t b m env = some o
  | 0, _, _, _, h, _ => by cases h
  | n + 1, 0, _, _, _, h => by omega
  | n + 1, m + 1, env, o, h, hm => by
    have h : Out.andThen (t env) (fun c => if c then b >>= fun f => match f with
      | .nx => whileM t b n
      | .ct => whileM t b n
      | .bk => pure .nx
      | .rt r => pure (.rt r)
      else pure .nx) = some o := h
    show Out.andThen (t env) (fun c => if c then b >>= fun f => match f with
      | .nx => whileM t b m
      | .ct => whileM t b m
      | .bk => pure .nx
      | .rt r => pure (.rt r)
      else pure .nx) = some o
    cases et : t env with
    | none => rw [et] at h; cases h
    | some z =>
      rw [et] at h
      cases z with
      | exc y e => exact h
      | ok c e =>
        cases c with
        | false => exact h
        | true =>
          have h : Out.andThen (b e) (fun f => match f with
            | .nx => whileM t b n
            | .ct => whileM t b n
            | .bk => pure .nx
            | .rt r => pure (.rt r)) = some o := h
          show Out.andThen (b e) (fun f => match f with
            | .nx => whileM t b m
            | .ct => whileM t b m
            | .bk => pure .nx
            | .rt r => pure (.rt r)) = some o
          cases eb : b e with
          | none => rw [eb] at h; cases h
          | some z =>
            rw [eb] at h
            cases z with
            | exc y e => exact h
            | ok f e2 =>
              cases f with
              | nx => exact whileM_more (n := n) (m := m) h (by omega)
              | ct => exact whileM_more (n := n) (m := m) h (by omega)
              | bk => exact h
              | rt r => exact h
theorem mWhile_of {t : M Bool} {b : M Fl} {n : Nat} {env : Env} {o : Out Fl} (h : whileM t b n env = some o) : mWhile t b env = some o := by
  have hx : ∃ n, (whileM t b n env).isSome = true := ⟨n, by rw [h]; rfl⟩
  unfold mWhile
  rw [dif_pos hx]
  have h2 := Classical.choose_spec hx
  cases e : whileM t b (Classical.choose hx) env with
  | none => rw [e] at h2; cases h2
  | some o' =>
    rcases Nat.le_total n (Classical.choose hx) with l | l
    · rw [whileM_more h l] at e
      exact e.symm
    · rw [whileM_more e l] at h
      exact h
end
end TL
set_option Elab.async false
set_option linter.all false
set_option maxRecDepth 100000
set_option maxHeartbeats 1000000
namespace TL
open PySem PySem.Spec PyProof.Rows L2
/-! ### names of a comprehension of its own -/
def wipeE (env : Env) : List Nat → Env
  | [] => env
  | v :: vs => (wipeE env vs).set v none
def backE (env old : Env) : List Nat → Env
  | [] => env
  | v :: vs => (backE env old vs).set v (old[v]?.getD none)
/-- data, or nothing known -/
def flatAt (env : Env) (i : Nat) : Bool := match env[i]? with
  | some (some (.d _)) => true
  | some (some _) => false
  | _ => true
theorem wipeE_length (env : Env) : ∀ vs : List Nat, (wipeE env vs).length = env.length
  | [] => rfl
  | v :: vs => by unfold wipeE; rw [List.length_set, wipeE_length env vs]
theorem backE_length (env old : Env) : ∀ vs : List Nat, (backE env old vs).length = env.length
  | [] => rfl
  | v :: vs => by unfold backE; rw [List.length_set, backE_length env old vs]
theorem wipeE_some {env : Env} {i : Nat} {x : OV} : ∀ {vs : List Nat}, (wipeE env vs)[i]? = some (some x) → env[i]? = some (some x) ∧ i ∉ vs
  | [], h => ⟨h, by simp⟩
  | v :: vs, h => by
    unfold wipeE at h
    by_cases hi : v = i
    · subst hi
      by_cases hv : v < (wipeE env vs).length
      · rw [List.getElem?_set_self hv] at h; cases h
      · rw [List.getElem?_eq_none (by simpa using hv)] at h; cases h
    · rw [List.getElem?_set_ne hi] at h
      obtain ⟨h1, h2⟩ := wipeE_some h
      exact ⟨h1, by simp only [List.mem_cons, not_or]; exact ⟨fun e => hi e.symm, h2⟩⟩
theorem wipe_none {σ : L2.St} {i : Nat} : ∀ {vs : List Nat}, i ∉ vs → (wipe σ vs)[i]? = σ[i]? := fun h => wipe_out h
theorem backE_some {env old : Env} {i : Nat} {x : OV} (hl : old.length = env.length) : ∀ {vs : List Nat}, (backE env old vs)[i]? = some (some x) → (i ∈ vs ∧ old[i]? = some (some x)) ∨ (i ∉ vs ∧ env[i]? = some (some x))
  | [], h => .inr ⟨by simp, h⟩
  | v :: vs, h => by
    unfold backE at h
    by_cases hi : v = i
    · subst hi
      by_cases hv : v < (backE env old vs).length
      · rw [List.getElem?_set_self hv] at h
        refine .inl ⟨List.mem_cons_self, ?_⟩
        rw [backE_length] at hv
        have hv' : v < old.length := by omega
        rw [List.getElem?_eq_getElem hv'] at h ⊢
        exact h
      · rw [List.getElem?_eq_none (by simpa using hv)] at h; cases h
    · rw [List.getElem?_set_ne hi] at h
      rcases backE_some hl h with ⟨h1, h2⟩ | ⟨h1, h2⟩
      · exact .inl ⟨List.mem_cons_of_mem _ h1, h2⟩
      · exact .inr ⟨by simp only [List.mem_cons, not_or]; exact ⟨fun e => hi e.symm, h1⟩, h2⟩
theorem backE_set {env old : Env} {i : Nat} {x : Option OV} : ∀ {vs : List Nat}, (i ∈ vs → backE (env.set i x) old vs = backE env old vs) ∧ (i ∉ vs → backE (env.set i x) old vs = (backE env old vs).set i x)
  | [] => ⟨fun h => absurd h (by simp), fun _ => rfl⟩
  | v :: vs => by
    obtain ⟨h1, h2⟩ := @backE_set env old i x vs
    refine ⟨fun h => ?_, fun h => ?_⟩
    · show (backE (env.set i x) old vs).set v _ = (backE env old vs).set v _
      by_cases hm : i ∈ vs
      · rw [h1 hm]
      · have e : i = v := by
          rcases List.mem_cons.mp h with e | e
          · exact e
          · exact absurd e hm
        subst e
        rw [h2 hm, List.set_set]
    · have hv : v ≠ i := fun e => h (by rw [e]; exact List.mem_cons_self)
      have hm : i ∉ vs := fun m => h (List.mem_cons_of_mem _ m)
      show (backE (env.set i x) old vs).set v _ = ((backE env old vs).set v _).set i x
      rw [h2 hm, List.set_comm _ _ (Ne.symm hv)]
theorem backE_wipe {env old : Env} {vs : List Nat} : ∀ {ws : List Nat}, (∀ w ∈ ws, w ∈ vs) → backE (wipeE env ws) old vs = backE env old vs
  | [], _ => rfl
  | w :: ws, h => by
    show backE ((wipeE env ws).set w none) old vs = _
    rw [backE_set.1 (h w List.mem_cons_self)]
    exact backE_wipe fun z hz => h z (List.mem_cons_of_mem _ hz)
section
variable {X : Cx} {C : Cc} {W : WX} {pos : Pos} {P : Hp} {env : Env} {fp : Nat → List Addr} {σ : L2.St} {H : Hp}
theorem StOk.upd (s : StOk C P env fp σ H) {a : Addr} {u0 u : HO} (h0 : H a = some u0) (z0 : Fz u0) (hp : P a = none) (hF : C.F a = none) (hf : ∀ i, a ∉ fp i) : StOk C P env fp σ (L2.upd H a u) := by
  have ne : ∀ j b, b ∈ fp j → b ≠ a := fun j b hb z => hf j (by rw [← z]; exact hb)
  refine ⟨fun b o q => ?_, fun b o q => ?_, fun j w q => ?_, s.dis, fun j b hb => ?_, s.keep, fun t ht => ?_, s.len⟩
  · rw [upd_ne (fun z => by rw [z, hp] at q; cases q)]
    exact s.phi b o q
  · rw [upd_ne (fun z => by rw [z, hF] at q; cases q)]
    exact s.frm b o q
  · obtain ⟨w1, q1, q2⟩ := s.own j w q
    exact ⟨w1, q1, q2.frame (Le.refl _) fun b hb => upd_ne (ne j b hb)⟩
  · rw [upd_ne (ne j b hb)]
    exact s.fre j b hb
  · obtain ⟨ps, q1, q2⟩ := s.tabs t ht
    refine ⟨ps, ?_, q2⟩
    rw [upd_ne (fun z => ?_)]
    · exact q1
    · rw [z, h0] at q1
      cases q1
      exact z0
theorem StOk.wipes {P : Hp} {env : Env} {fp : Nat → List Addr} {σ : L2.St} {H : Hp} (s : StOk C P env fp σ H) {vs : List Nat} (hk : ∀ i ∈ vs, C.kp i = none) : StOk C P (wipeE env vs) fp (wipe σ vs) H := by
  refine ⟨s.phi, s.frm, fun i ov q => ?_, s.dis, s.fre, fun i v q => ?_, s.tabs, by rw [wipeE_length, wipe_length]; exact s.len⟩
  · obtain ⟨q1, q2⟩ := wipeE_some q
    obtain ⟨v, e, o⟩ := s.own i ov q1
    exact ⟨v, by rw [wipe_out q2]; exact e, o⟩
  · rw [wipe_out fun hm => by rw [hk i hm] at q; cases q]
    exact s.keep i v q
/-- the block's end: its names are let go, those of the same name around stand -/
theorem StOk.backs {P P0 : Hp} {env env0 : Env} {fp fp0 : Nat → List Addr} {σ : L2.St} {H H0 : Hp} (s : StOk C P env fp (wipe σ vs) H) (s0 : StOk C P0 env0 fp0 σ H0) (l : Le P0 P) (hfl : vs.all (flatAt env0) = true) :
    StOk C P (backE env env0 vs) (fun j => if j ∈ vs then [] else fp j) σ H := by
  have hl : env0.length = env.length := by rw [s0.len, s.len, wipe_length]
  refine ⟨s.phi, s.frm, fun i ov q => ?_, fun i j a h1 h2 => ?_, fun i a h => ?_, fun i v q => s0.keep i v q, s.tabs, by rw [backE_length, s.len, wipe_length]⟩
  · rcases backE_some hl q with ⟨q1, q2⟩ | ⟨q1, q2⟩
    · have hf := List.all_eq_true.mp hfl i q1
      unfold flatAt at hf
      rw [q2] at hf
      cases ov with
      | d x =>
        obtain ⟨v, e, o⟩ := s0.own i _ q2
        exact ⟨v, e, by rw [if_pos q1]; exact .d (l.dp o.dp)⟩
      | _ => cases hf
    · obtain ⟨v, e, o⟩ := s.own i ov q2
      rw [wipe_out q1] at e
      exact ⟨v, e, by rw [if_neg q1]; exact o⟩
  · by_cases hi : i ∈ vs
    · rw [if_pos hi] at h1; cases h1
    · by_cases hj : j ∈ vs
      · rw [if_pos hj] at h2; cases h2
      · rw [if_neg hi] at h1
        rw [if_neg hj] at h2
        exact s.dis i j a h1 h2
  · by_cases hi : i ∈ vs
    · rw [if_pos hi] at h; cases h
    · rw [if_neg hi] at h
      exact s.fre i a h
/-! ### [elt for tg in iter if t] -/
def W0 : WX := fun _ _ _ _ => False
def compM (vs : List Nat) (g : PyData → M Unit) (t : M Bool) (elt : M PyData) : List PyData → List PyData → M (List PyData)
  | [], acc => fun env => some (.ok acc env)
  | x :: xs, acc => fun env0 => (g x >>= fun _ => t >>= fun c => if c then elt >>= fun y => (if acc.length < sizeLine then fun env => compM vs g t elt xs (acc ++ [y]) env else fun _ => none) else fun env => compM vs g t elt xs acc env) (wipeE env0 vs)
def mComp (vs : List Nat) (mi : M (List PyData)) (g : PyData → M Unit) (t : M Bool) (elt : M PyData) : M OV := mi >>= fun xs => fun env1 =>
  if vs.all (flatAt env1) then (match compM vs g t elt xs [] env1 with
    | some (.ok acc env2) => some (.ok (.lst acc) (backE env2 env1 vs))
    | _ => none) else none
theorem PTs.imp {ifs : List Expr} {t t' : TT} (h : PTs X ifs t) (i : ∀ σ H Q, t' σ H Q → t σ H Q) : PTs X ifs t' := ⟨fun pins s σ H Q I q => h.run pins s σ H Q I (i σ H Q q)⟩
theorem sTs_nil : PTs X [] (liftT C W (pure true)) := PTs.imp pts_nil fun σ H Q q => by
  obtain ⟨P, env, fp, s, h⟩ := q
  exact h P fp H true (Le.refl _) s rfl
theorem sTs_one {c : Expr} {t : M Bool} (h : PT X c (liftT C W t)) : PTs X [c] (liftT C W t) := pts_one h
/-- a block's context -/
abbrev blkN (X : Cx) (s : Shared) (H : Hp) (scope : Scope) (c : Addr) (cl : List (Str × Addr)) (fp : List Addr) : Cx := X.blk s H scope (compEnvC scope cl c X.env) fp
/-- the readings within a block, whatever stands beside -/
structure BlkR (X : Cx) (C : Cc) (scope : Scope) (vs : List Nat) (tg : Expr) (ifs : List Expr) (elt : Expr) (g : PyData → M Unit) (t : M Bool) (m : M PyData) : Prop where
  tg : ∀ (s : Shared) (H : Hp) (c : Addr) (cl : List (Str × Addr)) (fp : List Addr) (F : Hp), PG (blkN X s H scope c cl fp) tg (liftPG (C.withF F) vs g)
  ifs : ∀ (s : Shared) (H : Hp) (c : Addr) (cl : List (Str × Addr)) (fp : List Addr) (F : Hp), PTs (blkN X s H scope c cl fp) ifs (liftT (C.withF F) W0 t)
  elt : ∀ (s : Shared) (H : Hp) (c : Addr) (cl : List (Str × Addr)) (fp : List Addr) (F : Hp), PE (blkN X s H scope c cl fp) elt (liftD (C.withF F) W0 m)
theorem PG.exF {α : Type} {tg : Expr} {t : α → TG} (h : ∀ F, PG X tg (t F)) : PG X tg (fun v σ H Q => ∃ F, t F v σ H Q) := ⟨fun pins s σ H v u Q I r ⟨F, q⟩ => (h F).run pins s σ H v u Q I r q⟩
theorem PTs.exF {α : Type} {ifs : List Expr} {t : α → TT} (h : ∀ F, PTs X ifs (t F)) : PTs X ifs (fun σ H Q => ∃ F, t F σ H Q) := ⟨fun pins s σ H Q I ⟨F, q⟩ => (h F).run pins s σ H Q I q⟩
theorem PE.exF {α : Type} {e : Expr} {t : α → TE} (h : ∀ F, PE X e (t F)) : PE X e (fun σ H Q => ∃ F, t F σ H Q) := ⟨fun pins s σ H Q I ⟨F, q⟩ => (h F).run pins s σ H Q I q⟩
/-- one address aside -/
def one (D : Addr) (o : HO) : Hp := fun b => if b = D then some o else none
theorem one_at {D : Addr} {o : HO} : one D o D = some o := if_pos rfl
theorem one_ne {D b : Addr} {o : HO} (h : b ≠ D) : one D o b = none := if_neg h
theorem Beside.mk1 {P : Hp} {fp : Nat → List Addr} {H : Hp} {D : Addr} {o : HO} (h : H D = some o) (z : Fw o) (hp : P D = none) (hF : C.F D = none) (hf : ∀ i, D ∉ fp i) : Beside C P fp H (one D o) := by
  refine ⟨fun b u q => ?_, fun i b hb => one_ne fun e => hf i (by rw [← e]; exact hb)⟩
  by_cases hb : b = D
  · subst hb
    rw [one_at] at q
    cases q
    exact ⟨h, z, hp, hF⟩
  · rw [one_ne hb] at q
    cases q
theorem Beside.of1 {P : Hp} {fp : Nat → List Addr} {H : Hp} {D : Addr} {o : HO} (b : Beside C P fp H (one D o)) : H D = some o ∧ P D = none ∧ C.F D = none ∧ ∀ i, D ∉ fp i :=
  ⟨(b.at_ D o one_at).1, (b.at_ D o one_at).2.2.1, (b.at_ D o one_at).2.2.2, fun i hi => by have := b.fp i D hi; rw [one_at] at this; cases this⟩
theorem wipe_wipe {σ : L2.St} {vs : List Nat} : wipe (wipe σ vs) vs = wipe σ vs := by
  have h : ∀ ws : List Nat, (∀ w ∈ ws, w ∈ vs) → wipe (wipe σ ws) vs = wipe σ vs := by
    intro ws
    induction ws with
    | nil => intro _; rfl
    | cons w ws ih =>
      intro hw
      show wipe ((wipe σ ws).set w none) vs = _
      rw [wipe_set (hw w List.mem_cons_self)]
      exact ih fun z hz => hw z (List.mem_cons_of_mem _ hz)
  exact h vs fun w hw => hw
theorem lcR {scope : Scope} {own : List (Str × Nat)} {tg iter elt : Expr} {ifs : List Expr} {mi : M (List PyData)} {g : PyData → M Unit} {t : M Bool} {m : M PyData} (h0 : GOk g) (hk : ∀ i ∈ own.map (·.2), C.kp i = none) {σ : L2.St} {H : Hp} {Q : VK} (q : liftE C W (mComp (own.map (·.2)) mi g t m) σ H Q) :
    tLc (liftI C W mi) (fun v σ H Q => ∃ F, liftPG (C.withF F) (own.map (·.2)) g v σ H Q) (fun σ H Q => ∃ F, liftT (C.withF F) W0 t σ H Q) (fun σ H Q => ∃ F, liftD (C.withF F) W0 m σ H Q) (own.map (·.2)) σ H Q := by
  generalize hvs : own.map (·.2) = vs at q hk ⊢
  obtain ⟨P, env, fp, s, h⟩ := q
  have h : postG C W (rOV C) P Q σ (Out.andThen (mi env) fun xs => fun env1 => if vs.all (flatAt env1) then (match compM vs g t m xs [] env1 with
    | some (.ok acc env2) => some (.ok (.lst acc) (backE env2 env1 vs))
    | _ => none) else none) := h
  refine ⟨P, env, fp, s, ?_⟩
  cases em : mi env with
  | none => rw [em] at h; exact h.elim
  | some o =>
    rw [em] at h
    cases o with
    | exc y e1 => exact h
    | ok xs e1 =>
      intro P1 fp1 H1 J l1 s1 wk D hD
      have h : postG C W (rOV C) P Q σ (if vs.all (flatAt e1) then (match compM vs g t m xs [] e1 with
        | some (.ok acc env2) => some (.ok (.lst acc) (backE env2 e1 vs))
        | _ => none) else none) := h
      by_cases hfl : vs.all (flatAt e1) = true
      · rw [if_pos hfl] at h
        cases er : compM vs g t m xs [] e1 with
        | none => rw [er] at h; exact h.elim
        | some o =>
          rw [er] at h
          cases o with
          | exc y e2 => exact h.elim
          | ok racc renv =>
            have h1 : postG C W (rOV C) P1 Q σ (some (.ok (.lst racc) (backE renv e1 vs))) := postG.mono l1 h
            obtain ⟨s2, t2⟩ := s1.newt hD (u := .lst []) trivial
            have s2w := s2.wipes hk
            have b2 : Beside C P1 fp1 (L2.upd H1 D (.lst [])) (one D (.lst [])) := Beside.mk1 upd_same trivial (t2.fre D List.mem_cons_self).1 (t2.fre D List.mem_cons_self).2 fun i hi => t2.dis i D hi List.mem_cons_self
            refine ⟨fun i n H => n = xs.length - i ∧ i ≤ xs.length ∧ ∃ P fp acc vacc en, Le P1 P ∧ StOk C P (wipeE en vs) fp (wipe σ vs) H ∧ Beside C P fp H (one D (.lst vacc)) ∧ DdAll P vacc acc ∧ compM vs g t m (xs.drop i) acc en = some (.ok racc renv), ⟨xs.length, rfl, Nat.zero_le _, P1, fp1, [], [], e1, Le.refl _, s2w, b2, .nil, er⟩, ?_⟩
            rintro i n H2 ⟨rfl, hi, P2, fp2, acc, vacc, en, l2, st2, bs2, da, run⟩
            have hold := st2.hold bs2
            obtain ⟨w1, w2⟩ := wk i P2 (wipeE en vs) fp2 (join C.F (one D (.lst vacc))) (wipe σ vs) H2 l2 hold
            by_cases hlt : i < xs.length
            · refine .inr ?_
              obtain ⟨go, yl⟩ := w2 xs[i] (by simp [hlt])
              rw [List.drop_eq_getElem_cons hlt] at run
              have run : Out.andThen (g xs[i] (wipeE en vs)) (fun _ => t >>= fun c => if c then m >>= fun y => (if acc.length < sizeLine then fun env => compM vs g t m (xs.drop (i + 1)) (acc ++ [y]) env else fun _ => none) else fun env => compM vs g t m (xs.drop (i + 1)) acc env) = some (.ok racc renv) := run
              refine ⟨go, fun H3 => ∃ P fp acc vacc en, Le P1 P ∧ StOk C P (wipeE en vs) fp (wipe σ vs) H3 ∧ Beside C P fp H3 (one D (.lst vacc)) ∧ DdAll P vacc acc ∧ compM vs g t m (xs.drop (i + 1)) acc en = some (.ok racc renv), fun H' w => ⟨xs.length - (i + 1), by omega, rfl, hlt, w⟩, fun v H' y => ?_⟩
              obtain ⟨P3, l3, s3, d3⟩ := yl v H' y
              cases eg : g xs[i] (wipeE en vs) with
              | none => rw [eg] at run; cases run
              | some o =>
                obtain ⟨env3, rfl⟩ := h0 _ _ _ eg
                rw [eg] at run
                have run : Out.andThen (t env3) (fun c => if c then m >>= fun y => (if acc.length < sizeLine then fun env => compM vs g t m (xs.drop (i + 1)) (acc ++ [y]) env else fun _ => none) else fun env => compM vs g t m (xs.drop (i + 1)) acc env) = some (.ok racc renv) := run
                refine ⟨join C.F (one D (.lst vacc)), P3, wipeE en vs, fp2, xs[i], env3, s3, d3, eg, fun P4 fp4 σ4 H4 l4 s4 w4 => ?_⟩
                have w4 : wipe σ4 vs = wipe (wipe σ vs) vs := w4
                have ww : wipe (wipe σ vs) vs = wipe σ vs := wipe_wipe
                refine ⟨w4.trans ww, join C.F (one D (.lst vacc)), P4, env3, fp4, s4, ?_⟩
                cases et : t env3 with
                | none => rw [et] at run; cases run
                | some o =>
                  rw [et] at run
                  cases o with
                  | exc y e => cases run
                  | ok c env5 =>
                    intro P5 fp5 H5 b l5 s5 r5
                    have rb : b = c := r5
                    subst rb
                    cases b with
                    | false =>
                      refine (?_ : (if false = true then _ else _))
                      rw [if_neg Bool.false_ne_true]
                      have s6 := s5.unhold.wipes hk
                      rw [w4, ww] at s6
                      have b6 := s5.besides bs2
                      exact ⟨P5, fp5, acc, vacc, env5, ((l2.trans l3).trans l4).trans l5, s6, b6, ((l3.trans l4).trans l5).dpAll da, run⟩
                    | true =>
                      rw [if_pos rfl]
                      have run : Out.andThen (m env5) (fun y => (if acc.length < sizeLine then fun env => compM vs g t m (xs.drop (i + 1)) (acc ++ [y]) env else fun _ => none)) = some (.ok racc renv) := run
                      refine ⟨join C.F (one D (.lst vacc)), P5, env5, fp5, s5, ?_⟩
                      cases ee : m env5 with
                      | none => rw [ee] at run; cases run
                      | some o =>
                        rw [ee] at run
                        cases o with
                        | exc y e => cases run
                        | ok y env6 =>
                          have run : (if acc.length < sizeLine then fun env => compM vs g t m (xs.drop (i + 1)) (acc ++ [y]) env else fun _ => none) env6 = some (.ok racc renv) := run
                          by_cases hz : acc.length < sizeLine
                          · rw [if_pos hz] at run
                            intro P6 fp6 H6 v6 l6 s6 r6
                            have s7 := s6.unhold.wipes hk
                            rw [w4, ww] at s7
                            have b6 := s6.besides bs2
                            obtain ⟨hD6, hP6, hF6, hf6⟩ := b6.of1
                            refine ⟨vacc, hD6, by rw [dpAll_length da]; exact hz, P6, fp6, acc ++ [y], vacc ++ [v6], env6, (((l2.trans l3).trans l4).trans l5).trans l6, s7.upd hD6 trivial hP6 hF6 hf6, Beside.mk1 upd_same trivial hP6 hF6 hf6, dpAll_append ((((l3.trans l4).trans l5).trans l6).dpAll da) (.cons r6 .nil), run⟩
                          · rw [if_neg hz] at run
                            cases run
            · have e : i = xs.length := by omega
              subst e
              refine .inl ⟨w1 (Nat.le_refl _), ?_⟩
              rw [List.drop_length] at run
              have run : (some (.ok acc en) : Option (Out (List PyData))) = some (.ok racc renv) := run
              cases run
              obtain ⟨hD2, hP2, hF2, hf2⟩ := bs2.of1
              have s3 := st2.backs s1 l2 hfl
              rw [backE_wipe fun w hw => hw] at s3
              refine h1 P2 _ H2 (.ref D) l2 s3 ⟨[D], .lst hD2 da, ⟨fun j b hb hm => ?_, fun b hm => ?_⟩⟩
              · have e := List.mem_singleton.mp hm
                subst e
                by_cases hj : j ∈ vs
                · rw [if_pos hj] at hb; cases hb
                · rw [if_neg hj] at hb
                  exact hf2 j hb
              · rw [List.mem_singleton.mp hm]
                exact ⟨hP2, hF2⟩
      · rw [if_neg hfl] at h
        exact h.elim
/-- [elt for tg in iter if ..] -/
theorem sE_lc {scope : Scope} {own : List (Str × Nat)} {tg iter elt : Expr} {ifs : List Expr} {mi : M (List PyData)} {g : PyData → M Unit} {t : M Bool} {m : M PyData} (hc : X.calm = true) (hN : X.N.Nodup) (hi : PI X tg iter (liftI C W mi)) (ok : BlkOk X.N X.env.scope scope own) (r : BlkR X C scope (own.map (·.2)) tg ifs elt g t m)
    (h0 : GOk g) (hk : ∀ i ∈ own.map (·.2), C.kp i = none) (hs : ∀ x, foldedSetIterable iter X.env x = pure x) : PE X (.ListComp elt [⟨tg, iter, ifs, 0⟩] scope pos) (liftE C W (mComp (own.map (·.2)) mi g t m)) :=
  PE.imp (pe_lc hc hN hi ok (fun s H c cl fp => PG.exF (r.tg s H c cl fp)) (fun s H c cl fp => PTs.exF (r.ifs s H c cl fp)) (fun s H c cl fp => PE.exF (r.elt s H c cl fp)) hs) fun σ H Q q => lcR (scope := scope) (elt := elt) (tg := tg) (iter := iter) (ifs := ifs) h0 hk q
/-- x = [..] on one line -/
theorem sS_setLc {i : Nat} {y : Str} {py spos : Pos} {scope : Scope} {own : List (Str × Nat)} {tg iter elt : Expr} {ifs : List Expr} {mi : M (List PyData)} {g : PyData → M Unit} {t : M Bool} {m : M PyData} (hc : X.calm = true) (hN : X.N.Nodup) (hy : X.N[i]? = some y) (hyl : X.env.scope.names.lookup y = some .local) (hky : C.kp i = none)
    (hsw : swapsWith (.ListComp elt [⟨tg, iter, ifs, 0⟩] scope pos) (some (.Name y py)) spos.line X.env = pure true) (hi : PI X tg iter (liftI C W mi)) (ok : BlkOk X.N X.env.scope scope own) (r : BlkR X C scope (own.map (·.2)) tg ifs elt g t m)
    (h0 : GOk g) (hk : ∀ i ∈ own.map (·.2), C.kp i = none) (hs : ∀ x, foldedSetIterable iter X.env x = pure x) : PS X (.Assign [.Name y py] (.ListComp elt [⟨tg, iter, ifs, 0⟩] scope pos) spos) (liftS C W (mSet i (mComp (own.map (·.2)) mi g t m))) :=
  PS.imp (ps_setLc hc hN hy hyl hsw hi ok (fun s H c cl fp => PG.exF (r.tg s H c cl fp)) (fun s H c cl fp => PTs.exF (r.ifs s H c cl fp)) (fun s H c cl fp => PE.exF (r.elt s H c cl fp)) hs) fun D σ H q => by
    refine lcR (scope := scope) (elt := elt) (tg := tg) (iter := iter) (ifs := ifs) h0 hk (Q := fun x H1 => gName i x σ H1 D.nx) ?_
    exact liftS.seq q fun a env' P' fp' H' v s r q => by
      obtain ⟨ft, o, t⟩ := r
      obtain ⟨fp2, s2⟩ := s.store hky o t
      exact q P' fp2 _ H' (Le.refl _) s2
end
end TL
set_option Elab.async false
set_option linter.all false
set_option maxRecDepth 100000
set_option maxHeartbeats 1000000
namespace TL
open PySem PySem.Spec PyProof.Rows L2 GenW GxR
/-! ### all(elt for tg in iter) -/
/-- the generator expression's scope: no cells of its own -/
structure GenSc (X : Cx) (scope : Scope) (own : List (Str × Nat)) : Prop where
  blk : BlkOk X.N X.env.scope scope own
  co : scope.isCoroutine = false
  cell : ∀ y ∈ scope.names, y.2 ≠ .cell
  dot : scope.names.lookup (".0" : Str) = some NameKind.local
/-- a generator's frame, made at s4 -/
abbrev genX (X : Cx) (s4 : Shared) (H : Hp) (cenv : PySem.Env) (fp : List Addr) : Cx :=
  { X with A := X.A.in1.in1.deeper cenv, s_0 := s4, H_0 := H, env := cenv, outer := X.stack, stack := cenv :: X.stack, ex := fp, fn := fun _ => false, pn := [], xe := fun _ _ => False }
abbrev genN (X : Cx) (s4 : Shared) (H : Hp) (scope : Scope) (code : Value) (fp : List Addr) : Cx :=
  genX X s4 H (genEnv scope (cloFrom X.env.cells scope.names []) s4.heap.objs.size code builtinsNs X.env) fp
theorem Room.gen {k : Nat} {X : Cx} (r : Room (k + 1) X.A) (env : PySem.Env) : Room k (X.A.in1.in1.deeper env) :=
  ⟨r.hd, by have := r.dp; show X.A.depth + 1 + 3 * k + 5 < _; omega, by have := r.un; show X.A.units + 1 + 1 + 3 + 16 * k + 200 < _; omega⟩
section
variable {X : Cx} {pins : List (Addr × Obj)} {σ : L2.St} {H : Hp} {s4 : Shared}
theorem gen_start {scope : Scope} {own : List (Str × Nat)} {fp : List Addr} {code it : Value} {h' : Heap} {g' : Array GenState} {tk : Nat} {gobj : Obj} (I : Inv X pins σ H s4) (G : GenSc X scope own) (hN : X.N.Nodup)
    (hfp : ∀ b ∈ fp, FpOk X pins H b ∧ b < s4.heap.objs.size) (hn : h'.Ns s4.heap.objs.size (fun y => if y = ".0" then some it else none)) (hs : Heap.SameBut s4.heap.objs.size (s4.heap.push { cls := .type "frame", data := .dict #[] }) h')
    (hg : AllBare g') (hgc : ∀ v, gobj.data ≠ .cell v) (hgf : gobj.isFreed = false) :
    Inv (genN X s4 H scope code fp) [(h'.objs.size, gobj)] (wipe σ (own.map (·.2))) H { s4 with gens := g', toks := tk, heap := h'.push gobj } := by
  have ok := G.blk
  have hfree : ∀ y ∈ scope.names, y.2 = .free → ∃ c, X.env.cells.lookup y.1 = some c := fun y hy e => by
    rcases ok.free y hy e with k | k
    · exact I.ok.has _ (.inl k)
    · exact I.ok.has _ (.inr k)
  have hsz : h'.objs.size = s4.heap.objs.size + 1 := by rw [hs.1, Heap.size_push]
  have kp : ∀ b o, s4.heap.get? b = some o → (h'.push gobj).get? b = some o := fun b o e => Heap.get?_push_of_some _ (hs.extBut b o (Nat.ne_of_lt (Heap.lt_size e)) (Heap.get?_push_of_some _ e))
  have cm : ∀ {y c}, (y, c) ∈ cloFrom X.env.cells scope.names [] → X.env.cells.lookup y = some c ∧ c < s4.heap.objs.size := fun {y c} hm => by
    rcases cloFrom_mem hm with hm | ⟨h1, rfl⟩
    · cases hm
    · obtain ⟨c, hc⟩ := hfree _ h1 rfl
      rw [hc]
      obtain ⟨w, z⟩ := I.cell _ _ hc
      exact ⟨rfl, z.lt⟩
  have look : ∀ {y}, scope.names.lookup y = some .free → ∃ c, (cloFrom X.env.cells scope.names []).lookup y = some c ∧ X.env.cells.lookup y = some c := fun {y} hl => by
    have hy : (y, NameKind.free) ∈ scope.names := PySem.mem_of_lookup hl
    obtain ⟨c', e'⟩ := mem_lookup (cloFrom_has (cells := X.env.cells) (acc := []) hy)
    exact ⟨c', e', (cm (PySem.mem_of_lookup e')).1⟩
  have okB : (genN X s4 H scope code fp).Ok := by
    refine ⟨I.ok.mod, ok.kind, I.ok.glob, rfl, Nat.le_refl _, fun y z c e1 e2 => ?_, fun y hy => ?_, fun y c z e => (by cases z), fun hc => I.ok.hd hc, ?_, .inr ⟨rfl, rfl⟩, fun b hb => ⟨?_, fun y c e z => ?_⟩, I.bs, Nat.le_trans I.ok.bsz I.sz,
      fun b o e hb => ?_, fun b hb z => ?_, I.stack, I.stkFree⟩
    · exact I.ok.inj y z c (cm (PySem.mem_of_lookup e1)).1 (cm (PySem.mem_of_lookup e2)).1
    · rcases hy with hy | hy
      · exact absurd rfl (G.cell _ (PySem.mem_of_lookup hy))
      · obtain ⟨c, h1, _⟩ := look hy
        exact ⟨c, h1⟩
    · show X.A.frames.map _ = _
      rw [I.ok.frames]
      rfl
    · exact Nat.ne_of_lt (hfp b hb).2
    · exact (hfp b hb).1.2.2.2.2.1 y c (cm (PySem.mem_of_lookup e)).1 z
    · rcases (hfp b hb).1.2.2.2.1 with z | z
      · exact I.ok.noex b o e z
      · exact absurd (Nat.lt_of_lt_of_le (Heap.lt_size e) (Nat.le_trans I.ok.bsz z)) (Nat.lt_irrefl _)
    · rcases List.mem_cons.mp (I.stkSub b z) with z | z
      · exact (hfp b hb).1.2.1 z
      · exact (hfp b hb).1.2.2.1 z
  refine ⟨okB, rfl, hg, Un.kept kp, ⟨_, hn.push _, fun i y av e1 e2 e3 => ?_⟩, fun y c e => ?_, I.hok.fresh (Nat.le_refl _), fun y c e => I.freeC y c (cm (PySem.mem_of_lookup e)).1, fun p hp => ?_, I.hok.kept kp, by rw [wipe_length]; exact I.len⟩
  · obtain ⟨e2, hne⟩ := wipe_some e2
    have no : ∀ k, scope.names.lookup y = some k → ¬ (k = .local ∨ k = .cell) := fun k e hh => by
      rcases ok.own _ (PySem.mem_of_lookup e) hh with e' | e'
      · obtain ⟨p, hp, hpy⟩ := List.mem_map.mp e'
        have e3 := ok.ix p hp
        have : p.1 = y := hpy
        rw [this] at e3
        exact hne (List.mem_map.mpr ⟨p, hp, nodup_ix hN e3 e1⟩)
      · exact e' (List.mem_of_getElem? e1)
    have hfr : scope.names.lookup y = some .free := by
      have e3 : Vis scope y := e3
      rcases e3 with e3 | e3 | e3
      · exact absurd (.inl rfl) (no _ e3)
      · exact absurd (.inr rfl) (no _ e3)
      · exact e3
    obtain ⟨m, hnm, hl⟩ := I.loc
    have hvis : Vis X.env.scope y := (ok.free _ (PySem.mem_of_lookup hfr) rfl).elim (fun k => .inr (.inl k)) (fun k => .inr (.inr k))
    obtain ⟨w, r, q⟩ := hl i y av e1 e2 hvis
    refine ⟨w, r, .inr ⟨.inr hfr, ?_⟩⟩
    obtain ⟨c, h1, h2⟩ := look hfr
    rcases q with ⟨k, _⟩ | ⟨_, c', e', z⟩
    · have k : X.env.scope.names.lookup y = some .local := k
      rcases ok.free _ (PySem.mem_of_lookup hfr) rfl with k' | k' <;> rw [show X.env.scope.names.lookup y = _ from k'] at k <;> cases k
    · rw [h2] at e'; cases e'
      exact ⟨c, h1, z.keeps kp⟩
  · obtain ⟨w, z⟩ := I.cell y c (cm (PySem.mem_of_lookup e)).1
    exact ⟨w, z.keeps kp⟩
  · have hp : p ∈ ([] : List (Addr × Obj)) ++ [(h'.objs.size, gobj)] := hp
    rw [List.nil_append] at hp
    rw [List.mem_singleton.mp hp]
    refine ⟨Heap.get?_push_size _ hgf, I.hok.fresh (by rw [hsz]; exact Nat.le_succ _), by show h'.objs.size ≠ s4.heap.objs.size; omega, fun z => ?_, hgc⟩
    obtain ⟨_, o, ho, _⟩ := I.stack.mem z
    have := Heap.lt_size ho
    have z2 : h'.objs.size < s4.heap.objs.size := this
    omega
end
theorem over_gen {A : Around} {elt tg iter : Expr} {scope : Scope} {pos : Pos} {it : Value} {cenv : PySem.Env} : A.over (.compLoop (.GeneratorExp elt [⟨tg, iter, [], 0⟩] scope pos) 0 it .none cenv) [] = A.deeper cenv := by
  first
    | rfl
    | (obtain ⟨hd, d, fr, gs, u⟩ := A; simp [Around.over, Around.deeper, marksOver, frameCount, unitsOf, envsOf, guardsOf, pushEnvs, pushGuards, Code.envs, Code.env?, Code.isFrame, Code.guards, Code.isGuard, Code.weight, Code.frames, Code.isCreation, Code.isCaller, Code.cUnits])
theorem over_genS {A : Around} {elt tg iter : Expr} {scope : Scope} {pos : Pos} {it : Value} {cenv : PySem.Env} : A.over (.compStart (.GeneratorExp elt [⟨tg, iter, [], 0⟩] scope pos) 0 it .none cenv) [] = A.deeper cenv := by
  first
    | rfl
    | (obtain ⟨hd, d, fr, gs, u⟩ := A; simp [Around.over, Around.deeper, marksOver, frameCount, unitsOf, envsOf, guardsOf, pushEnvs, pushGuards, Code.envs, Code.env?, Code.isFrame, Code.guards, Code.isGuard, Code.weight, Code.frames, Code.isCreation, Code.isCaller, Code.cUnits])
/-- it has run out -/
def FG (Y : Cx) (pl : List (Addr × Obj)) (σw : L2.St) (Q : VK) : Nat → Shared → Shared → Prop := fun _ _ s => ∃ H, Inv Y pl σw H s ∧ Q (.bl true) H
def RG (Y : Cx) (pl : List (Addr × Obj)) (σw : L2.St) (Q : VK) : GenEnd := fun n s₀ r s => ((r = .ok (.ret .none) ∨ r = .ok .next) ∧ FG Y pl σw Q n s₀ s) ∨ ∃ e, r = .error e ∧ False
/-- it hands out one bool -/
def YG (Y : Cx) (pl : List (Addr × Obj)) (Q : VK) : Protocol := fun _ _ v s kap => ∃ b σ H, v = .bool b ∧ Inv Y pl σ H s ∧
  if b = true then ∀ s'', s''.heap = s.heap → s''.os = s.os → AllBare s''.gens → kap (.send .none) s'' else Q (.bl false) H
theorem inv_same {Y : Cx} {pl : List (Addr × Obj)} {σ : L2.St} {H : Hp} {s s' : Shared} (I : Inv Y pl σ H s) (h : s'.heap = s.heap) (o : s'.os = s.os) (g : AllBare s'.gens) : Inv Y pl σ H s' :=
  ⟨I.ok, o.trans I.os, g, by rw [h]; exact I.base, by rw [h]; exact I.loc, by rw [h]; exact I.cell, I.free, I.freeC, by rw [h]; exact I.pin, by rw [h]; exact I.hok, I.len⟩
section
variable {X : Cx}
def tAllG (P : Addr) (wi : TI) (g : TG) (te : TE) (vs : List Nat) : TE := fun σ H Q => wi σ H fun J H1 => TabG H1 P ∧ ∀ H2, Tabbed P H1 H2 → ∃ W : Nat → Nat → Hp → Prop, (∃ m, W 0 m H2) ∧ ∀ i m H, W i m H →
  (J.stop i H ∧ Q (.bl true) H) ∨ (J.go i H ∧ ∃ Nx : Hp → Prop, (∀ H', Nx H' → ∃ m', m' < m ∧ W (i + 1) m' H') ∧ ∀ x H', J.yld i H x H' → g x (wipe σ vs) H' fun σ2 H2 => wipe σ2 vs = wipe σ vs ∧
    te σ2 H2 fun y H3 => ∃ b, y = .bl b ∧ if b = true then Nx H3 else Q (.bl false) H3)
theorem seg_all {elt tg iter : Expr} {scope : Scope} {gpos : Pos} {J : It} {fp : List Addr} {it : Addr} {tn : Nat → Heap → Prop} {W : Nat → Nat → Hp → Prop} {g : TG} {te : TE} {vs : List Nat} {σ : L2.St} {Q : VK} {s4 : Shared} {H4 : Hp} {cenv : PySem.Env} {pl : List (Addr × Obj)}
    (hc : X.calm = true) (hco : cenv.scope.isCoroutine = false) (T : Turn X.prog X.w X.K tg J fp it tn) (pg : PG (genX X s4 H4 cenv fp) tg g) (pe : PE (genX X s4 H4 cenv fp) elt te)
    (hpl : ∀ b ∈ fp, ∀ p ∈ pl, p.1 ≠ b)
    (turn : ∀ i m H, W i m H → (J.stop i H ∧ Q (.bl true) H) ∨ (J.go i H ∧ ∃ Nx : Hp → Prop, (∀ H', Nx H' → ∃ m', m' < m ∧ W (i + 1) m' H') ∧ ∀ x H', J.yld i H x H' → g x (wipe σ vs) H' fun σ2 H2 => wipe σ2 vs = wipe σ vs ∧
      te σ2 H2 fun y H3 => ∃ b, y = .bl b ∧ if b = true then Nx H3 else Q (.bl false) H3)) :
    ∀ (n i m : Nat) (s₀ s : Shared) (H : Hp), m < n → Inv (genX X s4 H4 cenv fp) pl (wipe σ vs) H s → tn i s.heap → (∀ b ∈ fp, H b = none) → W i m H →
      Seg (model X.prog X.w) X.A.in1.in1 (RG (genX X s4 H4 cenv fp) pl (wipe σ vs) Q) (YG (genX X s4 H4 cenv fp) pl Q) n s₀ (.compLoop (.GeneratorExp elt [⟨tg, iter, [], 0⟩] scope gpos) 0 (.ref it) .none cenv)
        ((model X.prog X.w).den (.compLoop (.GeneratorExp elt [⟨tg, iter, [], 0⟩] scope gpos) 0 (.ref it) .none cenv)) [] s := by
  have stat : ∀ {σ' : L2.St} {H' : Hp} {s' : Shared}, Inv (genX X s4 H4 cenv fp) pl σ' H' s' → (∀ b ∈ fp, H' b = none) → ∀ b ∈ fp, FpOk (genX X s4 H4 cenv fp) pl H' b := fun {σ' H' s'} I' hn b hb =>
    ⟨hn b hb, (I'.ok.exf b hb).1, I'.ok.exfs b hb, .inl hb, fun x c e => (I'.ok.exf b hb).2 x c e, fun p hp => hpl b hb p (by simpa using hp)⟩
  intro n
  induction n with
  | zero => intro i m s₀ s H hm; omega
  | succ n ih =>
    intro i m s₀ s H hm I st fr w
    show Seg _ _ _ _ _ s₀ _ ((compTurn (.GeneratorExp elt [⟨tg, iter, [], 0⟩] scope gpos) 0 (.ref it) .none cenv).onRaise (leaving cenv)) [] s
    rw [compTurn_gen, Sem.onRaise_eq_wrap]
    refine seg_bind_wrap (wpAny_standAt ?_)
    rcases turn i m H w with ⟨stop, qq⟩ | ⟨go, Nx, hNx, step⟩
    · refine seg_bind_wrap ?_
      rw [over_gen]
      refine wpAny_mono (T.done (genX X s4 H4 cenv fp) rfl rfl rfl hc i pl s _ H (fun _ _ => False) I (stat I fr) st stop) (fun r s6 hr => ?_) fun _ _ z => z.elim
      obtain ⟨rfl, I6⟩ := hr
      exact seg_end (.ok .next) (.inl ⟨.inr rfl, H, I6, qq⟩)
    · refine seg_bind_wrap ?_
      rw [over_gen]
      refine wpAny_mono (T.item (genX X s4 H4 cenv fp) rfl rfl rfl hc i pl s _ H (fun _ _ => False) I (stat I fr) st go) (fun r s6 hr => ?_) fun _ _ z => z.elim
      obtain ⟨u, rfl, h6⟩ := hr
      refine seg_bind_wrap ?_
      rw [over_gen]
      refine wpAny_mono h6 (fun _ s7 h7 => ?_) fun _ _ z => z.elim
      obtain ⟨x, H7, I7, r7, y7, st7, n7⟩ := h7
      have I7' := I7.pinned (stat I7 n7) (T.obj _ _ st7)
      refine seg_bind_wrap ?_
      rw [over_gen]
      refine wpAny_mono (pg.run _ s7 _ H7 x u _ I7' r7 (step x H7 y7)) (fun _ s8 h8 => ?_) fun _ _ z => z.elim
      obtain ⟨σ8, H8, I8, hw8, q8⟩ := h8
      simp only [List.forIn_nil]
      refine seg_bind_wrap (wpAny_pure ?_)
      simp only [if_true]
      have hy : ∀ v, yieldOut cenv v = yieldValue v := fun v => by simp only [yieldOut, hco, Bool.false_eq_true, if_false]
      simp only [hy]
      rw [Sem.bind_eq_wrap', Sem.bind_eq_wrap', Sem.wrap_wrap, Sem.wrap_wrap]
      refine seg_wrap ?_
      rw [over_gen]
      refine wpAny_mono (pe.run _ s8 σ8 H8 _ I8 q8) (fun z s10 h10 => ?_) fun _ _ z => z.elim
      obtain ⟨yv, H10, I10, r10, b, rfl, nx⟩ := h10
      have rz : z = .bool b := r10
      subst rz
      refine seg_at (seg_yield rfl rfl rfl ⟨b, σ8, H10, rfl, I10.unpinned, ?_⟩)
      cases b with
      | false => exact nx
      | true =>
        rw [if_pos rfl] at nx ⊢
        intro s'' e1 e2 e3
        obtain ⟨m', hm', w'⟩ := hNx H10 nx
        have pin' : ∀ b ∈ fp, ∀ o, s7.heap.get? b = some o → s10.heap.get? b = some o ∧ H10 b = none := fun b hb o e =>
          let z := I10.pin (b, o) (List.mem_append_right _ (List.mem_append_right _ (mem_pinsAt hb e)))
          ⟨z.1, z.2.1⟩
        have hl : (wipe σ vs).length = σ8.length := by rw [← hw8, wipe_length]
        have I11 : Inv (genX X s4 H4 cenv fp) pl (wipe σ vs) H10 s'' := inv_same (I10.unpinned.weak hl (fun j v e => by
          rw [← hw8] at e
          exact (wipe_some e).1)) e1 e2 e3
        refine seg_again rfl (ih (i + 1) m' s'' s'' H10 (by omega) I11 (T.keep _ _ _ st7 fun b hb o e => by rw [e1]; exact (pin' b hb o e).1) (fun b hb => ?_) w')
        obtain ⟨o, e, _⟩ := T.obj _ _ st7 b hb
        exact (pin' b hb o e).2
theorem segS_all {elt tg iter : Expr} {scope : Scope} {gpos : Pos} {J : It} {fp : List Addr} {it : Addr} {tn : Nat → Heap → Prop} {cenv : PySem.Env} {R : GenEnd} {Y : Protocol} {n : Nat} {s₀ s : Shared} {A : Around} (T : Turn X.prog X.w X.K tg J fp it tn) (st : tn 0 s.heap)
    (loop : Seg (model X.prog X.w) A R Y n s₀ (.compLoop (.GeneratorExp elt [⟨tg, iter, [], 0⟩] scope gpos) 0 (.ref it) .none cenv)
        ((model X.prog X.w).den (.compLoop (.GeneratorExp elt [⟨tg, iter, [], 0⟩] scope gpos) 0 (.ref it) .none cenv)) [] s) :
    Seg (model X.prog X.w) A R Y n s₀ (.compStart (.GeneratorExp elt [⟨tg, iter, [], 0⟩] scope gpos) 0 (.ref it) .none cenv)
        ((model X.prog X.w).den (.compStart (.GeneratorExp elt [⟨tg, iter, [], 0⟩] scope gpos) 0 (.ref it) .none cenv)) [] s := by
  show Seg _ A _ _ _ s₀ _ ((compStart (.GeneratorExp elt [⟨tg, iter, [], 0⟩] scope gpos) 0 (.ref it) .none cenv).onRaise (leaving cenv)) [] s
  unfold compStart
  rw [Sem.onRaise_eq_wrap]
  show Seg _ A _ _ _ s₀ _ ((ask >>= _).wrap _ _ _ _) [] s
  refine seg_bind_wrap (wpAny_askSetting ?_)
  split
  · exact seg_again rfl loop
  · first
      | exact seg_bind_wrap (wpAny_rule (seg_bind_wrap (wpAny_standAt (seg_bind_wrap (T.self _ 0 s _ _ st (seg_again rfl loop))))))
      | (refine seg_bind_wrap (wpAny_rule ?_); show Seg _ A _ _ _ s₀ _ ((standAt iter.pos >>= _).wrap _ _ _ _) [] s; exact seg_bind_wrap (wpAny_standAt (seg_bind_wrap (T.self _ 0 s _ _ st (seg_again rfl loop)))))
/-- the consumer -/
theorem codeAll_gen {Y : Cx} {pl : List (Addr × Obj)} {σw : L2.St} {Q : VK} {a : Addr} {gobj : Obj} {g : Nat} {R : Result → Shared → Prop} (hh : X.A.handled = none) (hd : X.A.depth < recursionLimit) (ha : (a, gobj) ∈ pl)
    (hgo : ∀ h : Heap, h.get? a = some gobj → h.IsGen a g) (hT : ∀ H s', Inv Y pl σw H s' → Q (.bl true) H → R (.ok (.ret (.bool true))) s') (hF : ∀ σ H s', Inv Y pl σ H s' → Q (.bl false) H → R (.ok (.ret (.bool false))) s') :
    ∀ (n : Nat) (σ : L2.St) (H : Hp) (s : Shared), Inv Y pl σ H s → (∃ gs, s.gens[g]? = some gs ∧ gs.Goes (model X.prog X.w) X.A.in1.in1 (RG Y pl σw Q) (YG Y pl Q) n (.send .none) (s.setGen g .running)) →
      codeAny (model X.prog X.w) X.A (.builtin "all.loop" ⟨[.ref a], []⟩) R s := by
  have isg : ∀ {σ : L2.St} {H : Hp} {s : Shared}, Inv Y pl σ H s → s.heap.IsGen a g := fun I => hgo _ (I.pin (a, gobj) (List.mem_append_right _ ha)).1
  intro n
  induction n with
  | zero =>
    intro σ H s I ⟨gs, hgs, go⟩
    refine codeAny_builtin F.entry_all_loop ?_
    rw [Around.under_plainId F.plain_all_loop _]
    show wpAny _ X.A.in1 (pyNext (.ref a) >>= _) _ _ s
    refine wpAny_bind (next_genG (A := X.A.in1) (F := FG Y pl σw Q) (Er := fun _ _ => False) hh I.nolimit hd (isg I) hgs go (fun v s₁ gs' hb hv => ?_) (fun s₁ hp h' hk => ?_) fun e s₁ he => he.elim)
    · obtain ⟨b, σ1, H1, rfl, I1, q⟩ := hv
      cases b with
      | true =>
        rw [if_pos rfl] at q
        exact False.elim (q s₁ rfl rfl I1.bare)
      | false =>
        refine wpAny_bind (wpAny_holding (wpAny_truthy_bool ?_))
        refine wpAny_bind (wpAny_letGo ?_)
        simp only [Bool.false_eq_true, if_false]
        exact wpAny_bind (wpAny_rule (wpAny_pure (hF σ1 H1 _ (inv_same I1 rfl rfl (allBare_setGen I1.bare hb)) q)))
    · obtain ⟨H1, I1, q⟩ := hp
      exact wpAny_bind (wpAny_rule (wpAny_pure (hT H1 _ (inv_same (I1.kept (t' := s₁.toks) hk) rfl rfl (allBare_setGen I1.bare rfl)) q)))
  | succ n ih =>
    intro σ H s I ⟨gs, hgs, go⟩
    have hgl : g < s.gens.size := (Array.getElem?_eq_some_iff.mp hgs).1
    refine codeAny_builtin F.entry_all_loop ?_
    rw [Around.under_plainId F.plain_all_loop _]
    show wpAny _ X.A.in1 (pyNext (.ref a) >>= _) _ _ s
    refine wpAny_bind (wpAny_gsz (n := g + 1) hgl (next_genG (A := X.A.in1) (F := FG Y pl σw Q) (Er := fun _ _ => False) hh I.nolimit hd (isg I) hgs go (fun v s₁ gs' hb hv => ?_) (fun s₁ hp h' hk => ?_) fun e s₁ he => he.elim))
    · intro hsz
      have hsz1 : g < s₁.gens.size := by
        have q : (s₁.setGen g gs').gens.size = s₁.gens.size := setGen_size _ _ _
        have hsz' : g + 1 ≤ (s₁.setGen g gs').gens.size := hsz
        omega
      obtain ⟨b, σ1, H1, rfl, I1, q⟩ := hv
      refine wpAny_bind (wpAny_holding (wpAny_truthy_bool ?_))
      refine wpAny_bind (wpAny_letGo ?_)
      have I2 := inv_same (s' := s₁.setGen g gs') I1 rfl rfl (allBare_setGen I1.bare hb)
      cases b with
      | true =>
        rw [if_pos rfl] at q
        simp only [if_true]
        refine wpAny_pure ⟨plainId_quiet F.plain_all_loop _, ih σ1 H1 _ I2 ⟨gs', setGen_at hsz1, ?_⟩⟩
        exact q _ rfl rfl (allBare_setGen I2.bare rfl)
      | false =>
        simp only [Bool.false_eq_true, if_false]
        exact wpAny_bind (wpAny_rule (wpAny_pure (hF σ1 H1 _ I2 q)))
    · intro _
      obtain ⟨H1, I1, q⟩ := hp
      exact wpAny_bind (wpAny_rule (wpAny_pure (hT H1 _ (inv_same (I1.kept (t' := s₁.toks) hk) rfl rfl (allBare_setGen I1.bare rfl)) q)))
theorem boot_all : bootBuiltins "all" = some (.builtin "all") := by kernel_rfl
theorem pe_allG {c P : Addr} {elt tg iter : Expr} {p pos gpos : Pos} {scope : Scope} {own : List (Str × Nat)} {wi : TI} {g : TG} {te : TE} {k : Nat} (hc : X.calm = true) (hN : X.N.Nodup) (hr : Room k X.A) (hg : Gl X "all") (hm : X.mg "all" = none)
    (TB : TabB X.base X.mg c P) (hcode : X.env.code = .ref c) (S : GenSc X scope own) (hi : PI X tg iter wi)
    (hpg : ∀ (s : Shared) (H : Hp) (code : Value) (fp : List Addr), PG (genN X s H scope code fp) tg g) (hpe : ∀ (s : Shared) (H : Hp) (code : Value) (fp : List Addr), PE (genN X s H scope code fp) elt te)
    (hs : ∀ v, genFold iter X.env v = pure v)
    (he : starEach [.GeneratorExp elt [⟨tg, iter, [], 0⟩] scope gpos] X.env = (false, eval (.GeneratorExp elt [⟨tg, iter, [], 0⟩] scope gpos) X.env) :: starEach [] X.env) :
    PE X (.Call (.Name "all" p) [.GeneratorExp elt [⟨tg, iter, [], 0⟩] scope gpos] [] pos) (tAllG P wi g te (own.map (·.2))) := by
  refine ⟨fun pins s σ H Q I h => ?_⟩
  have hfree : ∀ y ∈ scope.names, y.2 = .free → ∃ c, X.env.cells.lookup y.1 = some c := fun y hy e => by
    rcases S.blk.free y hy e with k | k
    · exact I.ok.has _ (.inl k)
    · exact I.ok.has _ (.inr k)
  refine wpAny_Call_Name_kw (ld_blt I hg hm boot_all ?_)
  refine PyProof.Rows.callWith_builtin1 ?_ he (by rfl)
  rw [he]
  show wpAny _ _ (spliced ((false, eval (.GeneratorExp elt [⟨tg, iter, [], 0⟩] scope gpos) X.env) :: backTo pos (starEach [] X.env))) _ _ s
  refine Calls.spliced_cons ?_
  refine wpAny_GeneratorExp_make S.co (closure_ok hfree) S.cell S.dot S.blk.kind (by have := hr.dp; omega) ?_ hs
  refine thn (hi.run pins s σ H _ I h) fun v s1 h1 => thn h1 fun itv s2 h2 => ?_
  obtain ⟨it, fp, tn, J, H1, rfl, I2, T, st2, f2, ⟨ps, hP, ht⟩, q⟩ := h2
  refine ⟨I2.nolimit, ?_⟩
  have hPs : s2.heap.get? P = some { cls := .none, data := .fields ps } := I2.hok P _ hP
  have hfpP : ∀ b ∈ fp, b ≠ P := fun b hb e => by rw [e] at hb; have := (f2 P hb).1; rw [hP] at this; cases this
  have szf : ∀ b ∈ fp, b < s2.heap.objs.size := fun b hb => by
    obtain ⟨o, e, _⟩ := T.obj _ _ st2 b hb
    exact Heap.lt_size e
  have cd : PySem.W.CodeHd s2.heap c P := TB.code.keeps fun b u e => I2.bk b u e
  have cont : ∀ (code : Value) (h3 : Heap) (tk : Nat) (ps' : Array Value), Heap.ExtBut P s2.heap h3 → s2.heap.objs.size ≤ h3.objs.size → h3.get? P = some { cls := .none, data := .fields ps' } → (∃ more, ps' = ps ++ more) → TriplesOk ps'.toList →
      wpAny (model X.prog X.w) X.A (builtinsFor X.env.globals X.env.builtins) (fun bi s₄ =>
        ∀ h', h'.Ns s₄.heap.objs.size (fun y => if y = ".0" then some (Value.ref it) else none) → Heap.SameBut s₄.heap.objs.size (s₄.heap.push { cls := .type "frame", data := .dict #[] }) h' →
          wpAny (model X.prog X.w) X.A (spliced (backTo pos (starEach [] X.env))) (fun us s6 => wpAny (model X.prog X.w) X.A (call (.builtin "all") (.ref h'.objs.size :: us)) (EP X pins σ Q) X.xe s6) X.xe { s₄ with
            gens := s₄.gens.push (.fresh (.compStart (.GeneratorExp elt [⟨tg, iter, [], 0⟩] scope gpos) 0 (.ref it) .none (genEnv scope (cloFrom X.env.cells scope.names []) s₄.heap.objs.size code bi X.env))),
            toks := s₄.toks + 1 + 1 + 1,
            heap := h'.push { cls := .type "generator", data := .fields #[.int s₄.gens.size 0, .str "<genexpr>" (s₄.toks + 1), .str (X.env.qual ++ "<genexpr>") (s₄.toks + 1 + 1)] } }) X.xe { s2 with heap := h3, toks := tk } := by
    intro code h3 tk ps' hx hsz hP3 hmore ht3
    obtain ⟨bm, ob, e1, e2, e3, e4, e5, e6, e7, e8⟩ := TB.bm
    have keep3 : ∀ b u, b ≠ P → s2.heap.get? b = some u → h3.get? b = some u := fun b u hb e => hx b u hb e
    obtain ⟨more, em⟩ := hmore
    have I3 : Inv X pins σ (upd H1 P (.tbl (ps ++ more))) { s2 with heap := h3, toks := tk } := inv_tab (g' := s2.gens) (d' := s2.drawn) (t' := tk) I2 hP keep3 (by rw [← em]; exact hP3) I2.bare
    refine wpAny_builtinsFor (m := X.mg) (by rw [I2.ok.glob]; exact (I2.mod.glob.keeps I2.bk).extBut hx TB.gP) e1 e2 (keep3 _ _ e4 (I2.bk _ _ e5)) e6 e7 e8 ?_
    intro h' hn' hs'
    refine Calls.spliced_nil ?_
    have hsz' : h'.objs.size = h3.objs.size + 1 := by rw [hs'.1, Heap.size_push]
    obtain ⟨W, ⟨m0, w0⟩, turn⟩ := q (upd H1 P (.tbl (ps ++ more))) ⟨⟨ps ++ more, upd_same, by rw [← em]; exact ht3⟩, fun b hb => upd_ne hb⟩
    have f3 : ∀ b ∈ fp, FpOk X pins (upd H1 P (.tbl (ps ++ more))) b ∧ b < h3.objs.size := fun b hb => by
      refine ⟨⟨?_, (f2 b hb).2⟩, Nat.lt_of_lt_of_le (szf b hb) hsz⟩
      rw [upd_ne (hfpP b hb)]
      exact (f2 b hb).1
    have I5 := gen_start (code := code) (it := .ref it) (g' := s2.gens.push (.fresh (.compStart (.GeneratorExp elt [⟨tg, iter, [], 0⟩] scope gpos) 0 (.ref it) .none (genEnv scope (cloFrom X.env.cells scope.names []) h3.objs.size code builtinsNs X.env)))) (tk := tk + 1 + 1 + 1)
      (gobj := { cls := .type "generator", data := .fields #[.int s2.gens.size 0, .str "<genexpr>" (tk + 1), .str (X.env.qual ++ "<genexpr>") (tk + 1 + 1)] })
      I3 S hN f3 hn' hs' (AllBare.push I2.bare rfl) (fun v z => by cases z) rfl
    have st5 : tn 0 (h'.push { cls := .type "generator", data := .fields #[.int s2.gens.size 0, .str "<genexpr>" (tk + 1), .str (X.env.qual ++ "<genexpr>") (tk + 1 + 1)] }) :=
      T.keep _ _ _ st2 fun b hb o e => Heap.get?_push_of_some _ (hs'.extBut b o (Nat.ne_of_lt (f3 b hb).2) (Heap.get?_push_of_some _ (keep3 b o (hfpP b hb) e)))
    refine call_function_tree F.kind_all F.plain_all F.entry_all (F.args_all1 _) ?_
    unfold Builtin.«all»
    refine wpAny_bind (m := oneArg "all" _) (wpAny_pure ?_)
    have isg : ∀ h : Heap, h.get? h'.objs.size = some { cls := .type "generator", data := .fields #[.int s2.gens.size 0, .str "<genexpr>" (tk + 1), .str (X.env.qual ++ "<genexpr>") (tk + 1 + 1)] } → h.IsGen h'.objs.size s2.gens.size :=
      fun h e => ⟨_, _, _, e, rfl, rfl, rfl⟩
    refine wpAny_bind (wpAny_pyIter_gen (isg _ (Heap.get?_push_size _ rfl)) ?_)
    refine wpAny_pure ⟨plainId_quiet F.plain_all_loop _, ?_⟩
    have fin : ∀ (σ' : L2.St) (b : Bool) (H' : Hp) (s' : Shared), Inv (genN X { s2 with heap := h3, toks := tk } (upd H1 P (.tbl (ps ++ more))) scope code fp) [(h'.objs.size, { cls := .type "generator", data := .fields #[.int s2.gens.size 0, .str "<genexpr>" (tk + 1), .str (X.env.qual ++ "<genexpr>") (tk + 1 + 1)] })] σ' H' s' → Q (.bl b) H' → EP X pins σ Q (.bool b) s' := fun σ' b H' s' I' q' =>
      ⟨.bl b, H', Inv.call' (ch := fp) I3 I'.os I'.base I'.hok I'.bare fun b hb => ⟨(f3 b hb).1.2.2.2.1, (f3 b hb).1.2.1, (f3 b hb).1.2.2.2.2.1, (f3 b hb).1.2.2.2.2.2⟩, rfl, q'⟩
    refine codeAll_gen (X := X) (n := m0 + 1) (Q := Q) (σw := wipe σ (own.map (·.2))) hr.hd (by have := hr.dp; omega) List.mem_cons_self isg (fun H' s' I' q' => fin _ true H' s' I' q') (fun σ' H' s' I' q' => fin σ' false H' s' I' q') _ _ _ I5 ⟨_, Array.getElem?_push_size .., rfl, ?_⟩
    refine segS_all T st5 ?_
    refine seg_all hc S.co T (hpg _ _ _ _) (hpe _ _ _ _) (fun b hb p hp => ?_) turn (m0 + 1) 0 m0 _ _ _ (Nat.lt_succ_self _) (inv_same I5 rfl rfl (allBare_setGen I5.bare rfl)) st5 (fun b hb => (f3 b hb).1.1) w0
    rw [List.mem_singleton.mp hp]
    have := (f3 b hb).2
    show h'.objs.size ≠ b
    exact Nat.ne_of_gt (by rw [hsz']; exact Nat.lt_succ_of_lt this)
  cases hf : codeAmong gpos ps.toList with
  | none =>
    refine wpAny_genexprCodeX hcode (cd.code hPs ht) (cd.tab hPs) hf fun c' h' tk hx hge hlt hco' _ htab' _ => ?_
    obtain ⟨o1, vs, f1, tf, fl, tg, inF, tx, tt, op, _, _, _, _, _, _, _, _, _, htr, _⟩ := hco'
    exact cont _ h' tk _ hx (Nat.le_trans hge (Nat.le_of_lt hlt)) htab'.2 ⟨_, rfl⟩ htr
  | some cv =>
    refine wpAny_genexprCode_hit hcode (cd.code hPs ht) hf ?_
    exact cont cv s2.heap s2.toks ps (Heap.ExtBut.refl _ _) (Nat.le_refl _) hPs ⟨#[], by simp⟩ ht
end
end TL
set_option Elab.async false
set_option linter.all false
set_option maxRecDepth 100000
set_option maxHeartbeats 1000000
namespace TL
open PySem PySem.Spec PyProof.Rows L2 GenW GxR
section
variable {X : Cx} {C : Cc} {W : WX} {pos : Pos}
theorem StOk.tabbed {P : Hp} {env : Env} {fp : Nat → List Addr} {σ : L2.St} {H H2 : Hp} {p : Addr} (s : StOk C P env fp σ H) (hT : TabG H p) (t : Tabbed p H H2) : StOk C P env fp σ H2 := by
  obtain ⟨t1, t2⟩ := t
  obtain ⟨ps, hp, _⟩ := hT
  have ne : ∀ b o, H b = some o → Fz o → b ≠ p := fun b o e z q => by
    rw [q, hp] at e
    cases e
    exact z
  refine ⟨fun b o q => ?_, fun b o q => ?_, fun i ov q => ?_, s.dis, fun i a q => ?_, s.keep, fun q hq => ?_, s.len⟩
  · obtain ⟨e, z⟩ := s.phi b o q
    exact ⟨(t2 b (ne b o e z)).trans e, z⟩
  · obtain ⟨e, z, n⟩ := s.frm b o q
    exact ⟨(t2 b (ne b o e z.fz)).trans e, z, n⟩
  · obtain ⟨v, e, o⟩ := s.own i ov q
    refine ⟨v, e, o.frame (Le.refl _) fun a ha => ?_⟩
    obtain ⟨_, _, u, hu, hz⟩ := s.fre i a ha
    exact t2 a (ne a u hu hz.fz)
  · obtain ⟨e1, e2, u, hu, hz⟩ := s.fre i a q
    exact ⟨e1, e2, u, (t2 a (ne a u hu hz.fz)).trans hu, hz⟩
  · by_cases hqp : q = p
    · rw [hqp]; exact t1
    · obtain ⟨ps2, e, k⟩ := s.tabs q hq
      exact ⟨ps2, (t2 q hqp).trans e, k⟩
def allM (vs : List Nat) (g : PyData → M Unit) (elt : M OV) : List PyData → M Bool
  | [] => fun env => some (.ok true env)
  | x :: xs => fun env0 => (g x >>= fun _ => asB elt >>= fun b => if b then fun env => allM vs g elt xs env else fun env => some (.ok false env)) (wipeE env0 vs)
def mAll (vs : List Nat) (mi : M (List PyData)) (g : PyData → M Unit) (elt : M OV) : M OV := mi >>= fun xs => fun env1 =>
  if vs.all (flatAt env1) then (match allM vs g elt xs env1 with
    | some (.ok b env2) => some (.ok (.d (.bool b)) (backE env2 env1 vs))
    | _ => none) else none
/-- the readings within the generator's frame -/
structure GenR (X : Cx) (C : Cc) (scope : Scope) (vs : List Nat) (tg : Expr) (elt : Expr) (g : PyData → M Unit) (m : M OV) : Prop where
  tg : ∀ (s : Shared) (H : Hp) (code : Value) (fp : List Addr), PG (genN X s H scope code fp) tg (liftPG C vs g)
  elt : ∀ (s : Shared) (H : Hp) (code : Value) (fp : List Addr), PE (genN X s H scope code fp) elt (liftE C W0 m)
theorem allR {p : Addr} {mi : M (List PyData)} {g : PyData → M Unit} {m : M OV} {vs : List Nat} (h0 : GOk g) (hk : ∀ i ∈ vs, C.kp i = none) (hp : p ∈ C.tabs) {σ : L2.St} {H : Hp} {Q : VK} (q : liftE C W (mAll vs mi g m) σ H Q) :
    tAllG p (liftI C W mi) (liftPG C vs g) (liftE C W0 m) vs σ H Q := by
  obtain ⟨P, env, fp, s, h⟩ := q
  have h : postG C W (rOV C) P Q σ (Out.andThen (mi env) fun xs => fun env1 => if vs.all (flatAt env1) then (match allM vs g m xs env1 with
    | some (.ok b env2) => some (.ok (.d (.bool b)) (backE env2 env1 vs))
    | _ => none) else none) := h
  refine ⟨P, env, fp, s, ?_⟩
  cases em : mi env with
  | none => rw [em] at h; exact h.elim
  | some o =>
    rw [em] at h
    cases o with
    | exc y e1 => exact h
    | ok xs e1 =>
      intro P1 fp1 H1 J l1 s1 wk
      refine ⟨s1.tabs p hp, fun H1' tb => ?_⟩
      have s1 := s1.tabbed (s1.tabs p hp) tb
      have h : postG C W (rOV C) P Q σ (if vs.all (flatAt e1) then (match allM vs g m xs e1 with
        | some (.ok b env2) => some (.ok (.d (.bool b)) (backE env2 e1 vs))
        | _ => none) else none) := h
      by_cases hfl : vs.all (flatAt e1) = true
      · rw [if_pos hfl] at h
        cases er : allM vs g m xs e1 with
        | none => rw [er] at h; exact h.elim
        | some o =>
          rw [er] at h
          cases o with
          | exc y e2 => exact h.elim
          | ok rb renv =>
            have h1 : postG C W (rOV C) P1 Q σ (some (.ok (.d (.bool rb)) (backE renv e1 vs))) := postG.mono l1 h
            have fin : ∀ P2 fp2 H2, Le P1 P2 → StOk C P2 (wipeE renv vs) fp2 (wipe σ vs) H2 → Q (.bl rb) H2 := fun P2 fp2 H2 l2 s2 => by
              have s3 := s2.backs s1 l2 hfl
              rw [backE_wipe fun w hw => hw] at s3
              exact h1 P2 _ H2 _ l2 s3 (rOV.d (.bl rb))
            have ww : wipe (wipe σ vs) vs = wipe σ vs := wipe_wipe
            refine ⟨fun i n H => n = xs.length - i ∧ i ≤ xs.length ∧ ∃ P fp en, Le P1 P ∧ StOk C P (wipeE en vs) fp (wipe σ vs) H ∧ allM vs g m (xs.drop i) en = some (.ok rb renv),
              ⟨xs.length, rfl, Nat.zero_le _, P1, fp1, e1, Le.refl _, s1.wipes hk, er⟩, ?_⟩
            rintro i n H2 ⟨rfl, hi, P2, fp2, en, l2, st2, run⟩
            obtain ⟨w1, w2⟩ := wk i P2 (wipeE en vs) fp2 C.F (wipe σ vs) H2 l2 st2
            by_cases hlt : i < xs.length
            · refine .inr ?_
              obtain ⟨go, yl⟩ := w2 xs[i] (by simp [hlt])
              rw [List.drop_eq_getElem_cons hlt] at run
              have run : Out.andThen (g xs[i] (wipeE en vs)) (fun _ => asB m >>= fun b => if b then fun env => allM vs g m (xs.drop (i + 1)) env else fun env => some (.ok false env)) = some (.ok rb renv) := run
              refine ⟨go, fun H3 => ∃ P fp en, Le P1 P ∧ StOk C P (wipeE en vs) fp (wipe σ vs) H3 ∧ allM vs g m (xs.drop (i + 1)) en = some (.ok rb renv), fun H' w => ⟨xs.length - (i + 1), by omega, rfl, hlt, w⟩, fun v H' y => ?_⟩
              obtain ⟨P3, l3, s3, d3⟩ := yl v H' y
              cases eg : g xs[i] (wipeE en vs) with
              | none => rw [eg] at run; cases run
              | some o =>
                obtain ⟨env3, rfl⟩ := h0 _ _ _ eg
                rw [eg] at run
                have run : Out.andThen (asB m env3) (fun b => if b then fun env => allM vs g m (xs.drop (i + 1)) env else fun env => some (.ok false env)) = some (.ok rb renv) := run
                refine ⟨P3, wipeE en vs, fp2, xs[i], env3, s3, d3, eg, fun P4 fp4 σ4 H4 l4 s4 w4 => ?_⟩
                have w4 : wipe σ4 vs = wipe (wipe σ vs) vs := w4
                refine ⟨w4.trans ww, ?_⟩
                refine asB.of (C := C) (W := W0) (t := liftE C W0 m) (m := m) (Q := fun b H3 => if b = true then ∃ P fp en, Le P1 P ∧ StOk C P (wipeE en vs) fp (wipe σ vs) H3 ∧ allM vs g m (xs.drop (i + 1)) en = some (.ok rb renv) else Q (.bl false) H3) ?_ fun _ _ _ q => q
                refine ⟨P4, env3, fp4, s4, ?_⟩
                cases ee : asB m env3 with
                | none => rw [ee] at run; cases run
                | some o =>
                  rw [ee] at run
                  cases o with
                  | exc y e => cases run
                  | ok b env5 =>
                    intro P5 fp5 H5 b' l5 s5 r5
                    have rb' : b' = b := r5
                    subst rb'
                    have s6 := s5.wipes hk
                    rw [w4, ww] at s6
                    have lP : Le P1 P5 := ((l2.trans l3).trans l4).trans l5
                    cases b' with
                    | true =>
                      rw [if_pos rfl]
                      exact ⟨P5, fp5, env5, lP, s6, run⟩
                    | false =>
                      rw [if_neg Bool.false_ne_true]
                      have run : (some (.ok false env5) : Option (Out Bool)) = some (.ok rb renv) := run
                      cases run
                      exact fin P5 fp5 H5 lP s6
            · have e : i = xs.length := by omega
              subst e
              refine .inl ⟨w1 (Nat.le_refl _), ?_⟩
              rw [List.drop_length] at run
              have run : (some (.ok true en) : Option (Out Bool)) = some (.ok rb renv) := run
              cases run
              exact fin P2 fp2 H2 l2 st2
      · rw [if_neg hfl] at h
        exact h.elim
/-- all(elt for tg in iter) -/
theorem sE_all {c p : Addr} {elt tg iter : Expr} {q pos gpos : Pos} {scope : Scope} {own : List (Str × Nat)} {mi : M (List PyData)} {g : PyData → M Unit} {m : M OV} {k : Nat} (hc : X.calm = true) (hN : X.N.Nodup) (hr : Room k X.A) (hg : Gl X "all") (hm : X.mg "all" = none)
    (TB : TabB X.base X.mg c p) (hcode : X.env.code = .ref c) (hp : p ∈ C.tabs) (S : GenSc X scope own) (hi : PI X tg iter (liftI C W mi)) (r : GenR X C scope (own.map (·.2)) tg elt g m) (h0 : GOk g) (hk : ∀ i ∈ own.map (·.2), C.kp i = none)
    (hs : ∀ v, genFold iter X.env v = pure v)
    (he : starEach [.GeneratorExp elt [⟨tg, iter, [], 0⟩] scope gpos] X.env = (false, eval (.GeneratorExp elt [⟨tg, iter, [], 0⟩] scope gpos) X.env) :: starEach [] X.env) :
    PE X (.Call (.Name "all" q) [.GeneratorExp elt [⟨tg, iter, [], 0⟩] scope gpos] [] pos) (liftE C W (mAll (own.map (·.2)) mi g m)) :=
  PE.imp (pe_allG hc hN hr hg hm TB hcode S hi r.tg r.elt hs he) fun σ H Q q => allR h0 hk hp q
end
end TL
set_option Elab.async false
set_option linter.all false
set_option maxRecDepth 100000
set_option maxHeartbeats 1000000
namespace TL
open PySem PySem.Spec PyProof.Rows L2 GenW GxR
/-! ### arguments -/
/-- one argument: data, or the slot of an own object that the callee may change -/
inductive Ag where
  | d (m : M PyData)
  | s (i : Nat)
def agsM : List Ag → M (List PyData)
  | [] => pure []
  | .d m :: r => m >>= fun x => agsM r >>= fun xs => pure (x :: xs)
  | .s i :: r => mHas i isAny >>= fun _ => agsM r
inductive AgRel (σ : L2.St) (P : Hp) : List Ag → List PyData → List V → Prop
  | nil : AgRel σ P [] [] []
  | d {m : M PyData} {r : List Ag} {x : PyData} {xs : List PyData} {v : V} {vs : List V} : Dd P v x → AgRel σ P r xs vs → AgRel σ P (.d m :: r) (x :: xs) (v :: vs)
  | s {i : Nat} {r : List Ag} {xs : List PyData} {v : V} {vs : List V} : σ[i]? = some (some v) → AgRel σ P r xs vs → AgRel σ P (.s i :: r) xs (v :: vs)
theorem AgRel.mono {σ : L2.St} {P P' : Hp} (l : Le P P') : ∀ {as : List Ag} {xs : List PyData} {vs : List V}, AgRel σ P as xs vs → AgRel σ P' as xs vs
  | _, _, _, .nil => .nil
  | _, _, _, .d h t => .d (l.dp h) (t.mono l)
  | _, _, _, .s h t => .s h (t.mono l)
/-- the callee's environment -/
def argE (env : Env) : List Ag → List PyData → Env
  | [], _ => []
  | .d _ :: r, x :: xs => some (.d x) :: argE env r xs
  | .d _ :: r, [] => none :: argE env r []
  | .s i :: r, xs => (env[i]?).join :: argE env r xs
/-- what it made of the caller's slots -/
def backA (env : Env) : List Ag → Env → Env
  | .s i :: r, o :: e => backA (env.set i o) r e
  | .d _ :: r, _ :: e => backA env r e
  | _, _ => env
/-- at which place slot i is handed over -/
def posOf (i : Nat) : List Ag → Option Nat
  | [] => none
  | .s j :: r => if j = i then some 0 else (posOf i r).map (· + 1)
  | .d _ :: r => (posOf i r).map (· + 1)
def agNd : List Ag → Prop
  | [] => True
  | .s j :: r => posOf j r = none ∧ agNd r
  | .d _ :: r => agNd r
def fpA (fp : Nat → List Addr) (as : List Ag) (k : Nat) : List Addr := match as[k]? with
  | some (.s i) => fp i
  | _ => []
theorem AgRel.len {σ : L2.St} {P : Hp} {env : Env} : ∀ {as : List Ag} {xs : List PyData} {vs : List V}, AgRel σ P as xs vs → (argE env as xs).length = vs.length ∧ as.length = vs.length
  | _, _, _, .nil => ⟨rfl, rfl⟩
  | _, _, _, .d h t => by
    obtain ⟨h1, h2⟩ := t.len (env := env)
    exact ⟨congrArg Nat.succ h1, congrArg Nat.succ h2⟩
  | _, _, _, .s h t => by
    obtain ⟨h1, h2⟩ := t.len (env := env)
    exact ⟨congrArg Nat.succ h1, congrArg Nat.succ h2⟩
/-- each argument -/
theorem AgRel.at {σ : L2.St} {P : Hp} {env : Env} : ∀ {as : List Ag} {xs : List PyData} {vs : List V} {k : Nat} {ov : OV}, AgRel σ P as xs vs → (argE env as xs)[k]? = some (some ov) →
    ∃ v, vs[k]? = some v ∧ ((∃ x m, ov = .d x ∧ as[k]? = some (.d m) ∧ Dd P v x) ∨ ∃ i, as[k]? = some (.s i) ∧ env[i]? = some (some ov) ∧ σ[i]? = some (some v))
  | _, _, _, k, ov, .nil, e => by simp [argE] at e
  | _, _, _, 0, ov, .d (m := m) h t, e => by
    have e' : some (some (OV.d _)) = some (some ov) := e
    cases e'
    exact ⟨_, rfl, .inl ⟨_, m, rfl, rfl, h⟩⟩
  | _, _, _, k + 1, ov, .d h t, e => by
    obtain ⟨v, h1, h2⟩ := t.at (k := k) (ov := ov) (env := env) e
    exact ⟨v, h1, h2⟩
  | _, _, _, 0, ov, .s (i := i) h t, e => by
    have e' : some ((env[i]?).join) = some (some ov) := e
    refine ⟨_, rfl, .inr ⟨i, rfl, ?_, h⟩⟩
    cases q : env[i]? with
    | none => rw [q] at e'; cases e'
    | some o => rw [q] at e'; cases e'; rfl
  | _, _, _, k + 1, ov, .s h t, e => by
    obtain ⟨v, h1, h2⟩ := t.at (k := k) (ov := ov) (env := env) e
    exact ⟨v, h1, h2⟩
theorem posOf_at : ∀ {as : List Ag} {i k : Nat}, posOf i as = some k → as[k]? = some (.s i)
  | .s j :: r, i, k, h => by
    unfold posOf at h
    split at h
    · rename_i e
      cases h
      rw [e]
      rfl
    · obtain ⟨k', h1, rfl⟩ := Option.map_eq_some_iff.mp h
      have h2 := posOf_at (as := r) h1
      simpa using h2
  | .d m :: r, i, k, h => by
    unfold posOf at h
    obtain ⟨k', h1, rfl⟩ := Option.map_eq_some_iff.mp h
    have h2 := posOf_at (as := r) h1
    simpa using h2
theorem at_posOf : ∀ {as : List Ag} {i k : Nat}, agNd as → as[k]? = some (.s i) → posOf i as = some k
  | .s j :: r, i, 0, n, h => by
    simp only [List.getElem?_cons_zero, Option.some.injEq, Ag.s.injEq] at h
    unfold posOf
    rw [if_pos h]
  | .s j :: r, i, k + 1, n, h => by
    have h' : r[k]? = some (.s i) := by simpa using h
    have h1 := at_posOf n.2 h'
    unfold posOf
    have ne : ¬ j = i := fun e => by
      have := n.1
      rw [e, h1] at this
      cases this
    rw [if_neg ne, h1]
    rfl
  | .d m :: r, i, 0, n, h => by simp at h
  | .d m :: r, i, k + 1, n, h => by
    have h' : r[k]? = some (.s i) := by simpa using h
    show (posOf i r).map (· + 1) = _
    rw [at_posOf (as := r) n h']
    rfl
theorem backA_length : ∀ {as : List Ag} {env e : Env}, (backA env as e).length = env.length
  | [], _, _ => by unfold backA; rfl
  | .s i :: r, env, o :: e => by
    show (backA (env.set i o) r e).length = _
    rw [backA_length, List.length_set]
  | .s i :: r, env, [] => rfl
  | .d _ :: r, env, o :: e => backA_length (as := r)
  | .d _ :: r, env, [] => rfl
theorem backA_some : ∀ {as : List Ag} {env e : Env} {i : Nat} {ov : OV}, agNd as → (backA env as e)[i]? = some (some ov) → e.length = as.length →
    (posOf i as = none ∧ env[i]? = some (some ov)) ∨ ∃ k, posOf i as = some k ∧ e[k]? = some (some ov)
  | [], env, e, i, ov, n, h, l => by
    unfold backA at h
    exact .inl ⟨rfl, h⟩
  | .s j :: r, env, o :: e, i, ov, n, h, l => by
    have h : (backA (env.set j o) r e)[i]? = some (some ov) := h
    rcases backA_some n.2 h (by simpa using l) with ⟨h1, h2⟩ | ⟨k, h1, h2⟩
    · by_cases e1 : j = i
      · subst e1
        refine .inr ⟨0, by unfold posOf; rw [if_pos rfl], ?_⟩
        by_cases hl : j < env.length
        · rw [List.getElem?_set_self hl] at h2
          exact h2
        · rw [List.getElem?_eq_none (by rw [List.length_set]; omega)] at h2
          cases h2
      · rw [List.getElem?_set_ne e1] at h2
        refine .inl ⟨?_, h2⟩
        unfold posOf
        rw [if_neg e1, h1]
        rfl
    · refine .inr ⟨k + 1, ?_, h2⟩
      have ne : ¬ j = i := fun e1 => by
        have := n.1
        rw [e1, h1] at this
        cases this
      unfold posOf
      rw [if_neg ne, h1]
      rfl
  | .s j :: r, env, [], i, ov, n, h, l => by simp at l
  | .d m :: r, env, o :: e, i, ov, n, h, l => by
    have h : (backA env r e)[i]? = some (some ov) := h
    rcases backA_some (as := r) n h (by simpa using l) with ⟨h1, h2⟩ | ⟨k, h1, h2⟩
    · refine .inl ⟨?_, h2⟩
      unfold posOf
      rw [h1]
      rfl
    · refine .inr ⟨k + 1, ?_, h2⟩
      unfold posOf
      rw [h1]
      rfl
  | .d m :: r, env, [], i, ov, n, h, l => by simp at l
theorem AgRel.val {σ : L2.St} {P : Hp} : ∀ {as : List Ag} {xs : List PyData} {vs : List V} {k i : Nat}, AgRel σ P as xs vs → as[k]? = some (.s i) → ∃ v, vs[k]? = some v ∧ σ[i]? = some (some v)
  | _, _, _, k, i, .nil, e => by simp at e
  | _, _, _, 0, i, .d h t, e => by simp at e
  | _, _, _, k + 1, i, .d h t, e => t.val (k := k) (i := i) (by simpa using e)
  | _, _, _, 0, i, .s h t, e => by
    simp only [List.getElem?_cons_zero, Option.some.injEq, Ag.s.injEq] at e
    subst e
    exact ⟨_, rfl, h⟩
  | _, _, _, k + 1, i, .s h t, e => t.val (k := k) (i := i) (by simpa using e)

/-! ### the callee's frame -/
/-- the own objects of the slots that are not handed over -/
noncomputable def restH (fp : Nat → List Addr) (as : List Ag) (H : Hp) : Hp := fun b => open Classical in if ∃ j, posOf j as = none ∧ b ∈ fp j then H b else none
theorem restH_in {fp : Nat → List Addr} {as : List Ag} {H : Hp} {b : Addr} {j : Nat} (h : posOf j as = none) (hb : b ∈ fp j) : restH fp as H b = H b := by
  unfold restH
  rw [if_pos ⟨j, h, hb⟩]
theorem restH_some {fp : Nat → List Addr} {as : List Ag} {H : Hp} {b : Addr} {o : HO} (h : restH fp as H b = some o) : ∃ j, posOf j as = none ∧ b ∈ fp j ∧ H b = some o := by
  unfold restH at h
  split at h
  · rename_i q
    obtain ⟨j, h1, h2⟩ := q
    exact ⟨j, h1, h2, h⟩
  · cases h
noncomputable abbrev callC (C : Cc) (fp : Nat → List Addr) (as : List Ag) (H : Hp) (vs : List V) : Cc := { C with F := join C.F (restH fp as H), kp := fun i => vs[i]? }
section
variable {C : Cc} {P P' : Hp} {env : Env} {fp : Nat → List Addr} {σ : L2.St} {H H' : Hp} {as : List Ag} {xs : List PyData} {vs : List V}
theorem map_some_at {i : Nat} {v : V} : (vs.map some)[i]? = some (some v) ↔ vs[i]? = some v := by
  rw [List.getElem?_map]
  constructor
  · intro h
    obtain ⟨w, h1, h2⟩ := Option.map_eq_some_iff.mp h
    cases h2
    exact h1
  · intro h
    rw [h]
    rfl
theorem fpA_mem {k : Nat} {a : Addr} (h : a ∈ fpA fp as k) : ∃ i, as[k]? = some (.s i) ∧ a ∈ fp i := by
  unfold fpA at h
  split at h
  · rename_i i e
    exact ⟨i, e, h⟩
  · cases h
theorem StOk.callIn (s : StOk C P env fp σ H) (r : AgRel σ P as xs vs) (n : agNd as) : StOk (callC C fp as H vs) P (argE env as xs) (fpA fp as) (vs.map some) H := by
  refine ⟨s.phi, fun b o q => ?_, fun k ov q => ?_, fun k k' a h1 h2 => ?_, fun k a h => ?_, fun i v q => map_some_at.mpr q, s.tabs, by rw [List.length_map]; exact (r.len).1⟩
  · have q : join C.F (restH fp as H) b = some o := q
    cases e : C.F b with
    | some w =>
      rw [join_l e] at q
      cases q
      exact s.frm b _ e
    | none =>
      rw [join_r e] at q
      obtain ⟨j, h1, h2, h3⟩ := restH_some q
      obtain ⟨h4, h5, u, h6, h7⟩ := s.fre j b h2
      rw [h3] at h6
      cases h6
      exact ⟨h3, h7, h4⟩
  · obtain ⟨v, h1, h2⟩ := r.at q
    refine ⟨v, map_some_at.mpr h1, ?_⟩
    rcases h2 with ⟨x, m, rfl, e, d⟩ | ⟨i, e1, e2, e3⟩
    · have ef : fpA fp as k = [] := by unfold fpA; rw [e]
      rw [ef]
      exact .d d
    · have ef : fpA fp as k = fp i := by unfold fpA; rw [e1]
      rw [ef]
      obtain ⟨v', h3, o⟩ := s.own i ov e2
      have := slot_inj e3 h3
      subst this
      exact o
  · obtain ⟨i, e1, m1⟩ := fpA_mem h1
    obtain ⟨i', e2, m2⟩ := fpA_mem h2
    have := s.dis i i' a m1 m2
    subst this
    have q1 := at_posOf n e1
    have q2 := at_posOf n e2
    rw [q1] at q2
    exact Option.some.inj q2
  · obtain ⟨i, e1, m1⟩ := fpA_mem h
    obtain ⟨h4, h5, h6⟩ := s.fre i a m1
    refine ⟨h4, (join_r h5).trans ?_, h6⟩
    cases q : restH fp as H a with
    | none => rfl
    | some o =>
      obtain ⟨j, g1, g2, _⟩ := restH_some q
      have := s.dis i j a m1 g2
      subst this
      rw [at_posOf n e1] at g1
      cases g1
/-- the caller's own objects behind the call -/
def fpB (fp fp2 : Nat → List Addr) (as : List Ag) (i : Nat) : List Addr := match posOf i as with
  | some k => fp2 k
  | none => fp i
theorem StOk.callOut {e2 : Env} {fp2 : Nat → List Addr} (s : StOk C P env fp σ H) (r : AgRel σ P as xs vs) (n : agNd as) (l : Le P P') (s2 : StOk (callC C fp as H vs) P' e2 fp2 (vs.map some) H') :
    StOk C P' (backA env as e2) (fpB fp fp2 as) σ H' := by
  have hl : e2.length = as.length := by rw [s2.len, List.length_map]; exact (r.len (env := env)).2.symm
  have rest : ∀ j a, posOf j as = none → a ∈ fp j → H' a = H a ∧ P' a = none ∧ C.F a = none ∧ ∃ u, H a = some u ∧ Fw u := fun j a hj ha => by
    obtain ⟨h4, h5, u, h6, h7⟩ := s.fre j a ha
    have e : (join C.F (restH fp as H)) a = some u := by rw [join_r h5, restH_in hj ha]; exact h6
    obtain ⟨q1, q2, q3⟩ := s2.frm a u e
    exact ⟨q1.trans h6.symm, q3, h5, u, h6, h7⟩
  have free2 : ∀ k a, a ∈ fp2 k → ∀ j, posOf j as = none → a ∉ fp j := fun k a hk j hj ha => by
    obtain ⟨_, q, _⟩ := s2.fre k a hk
    obtain ⟨_, q2⟩ := join_none q
    rw [restH_in hj ha] at q2
    obtain ⟨_, _, _, u, h6, _⟩ := rest j a hj ha
    rw [h6] at q2
    cases q2
  refine ⟨s2.phi, fun b o q => s2.frm b o (join_l q), fun i ov q => ?_, fun i j a h1 h2 => ?_, fun i a h => ?_, s.keep, s2.tabs, by rw [backA_length]; exact s.len⟩
  · rcases backA_some n q hl with ⟨h1, h2⟩ | ⟨k, h1, h2⟩
    · obtain ⟨v, h3, o⟩ := s.own i ov h2
      refine ⟨v, h3, ?_⟩
      have ef : fpB fp fp2 as i = fp i := by unfold fpB; rw [h1]
      rw [ef]
      exact o.frame l fun a ha => (rest i a h1 ha).1
    · obtain ⟨v, h3, o⟩ := s2.own k ov h2
      obtain ⟨v', h4, h5⟩ := r.val (posOf_at h1)
      have e3 := map_some_at.mp h3
      have ev : v' = v := Option.some.inj (h4.symm.trans e3)
      subst ev
      refine ⟨v', h5, ?_⟩
      have ef : fpB fp fp2 as i = fp2 k := by unfold fpB; rw [h1]
      rw [ef]
      exact o
  · unfold fpB at h1 h2
    cases p1 : posOf i as with
    | none =>
      rw [p1] at h1
      cases p2 : posOf j as with
      | none =>
        rw [p2] at h2
        exact s.dis i j a h1 h2
      | some k =>
        rw [p2] at h2
        exact absurd h1 (free2 k a h2 i p1)
    | some k =>
      rw [p1] at h1
      cases p2 : posOf j as with
      | none =>
        rw [p2] at h2
        exact absurd h2 (free2 k a h1 j p2)
      | some k' =>
        rw [p2] at h2
        have e := s2.dis k k' a h1 h2
        subst e
        have q1 := posOf_at p1
        rw [posOf_at p2] at q1
        cases q1
        rfl
  · unfold fpB at h
    cases p1 : posOf i as with
    | none =>
      rw [p1] at h
      obtain ⟨h1, h2, h3, u, h4, h5⟩ := rest i a p1 h
      exact ⟨h2, h3, u, h1.trans h4, h5⟩
    | some k =>
      rw [p1] at h
      obtain ⟨h1, h2, h3⟩ := s2.fre k a h
      exact ⟨h1, (join_none h2).1, h3⟩
theorem rOV.callOut {e2 : Env} {fp2 : Nat → List Addr} {ov : OV} {v : V} (s : StOk C P env fp σ H) (s2 : StOk (callC C fp as H vs) P' e2 fp2 (vs.map some) H') (o : rOV (callC C fp as H vs) P' fp2 H' ov v) : rOV C P' (fpB fp fp2 as) H' ov v := by
  obtain ⟨ft, ow, t⟩ := o
  refine ⟨ft, ow, fun i a h hm => ?_, fun a hm => ⟨(t.fre a hm).1, (join_none (t.fre a hm).2).1⟩⟩
  unfold fpB at h
  cases p1 : posOf i as with
  | none =>
    rw [p1] at h
    obtain ⟨_, q⟩ := join_none (t.fre a hm).2
    rw [restH_in p1 h] at q
    obtain ⟨_, _, u, h6, _⟩ := s.fre i a h
    rw [h6] at q
    cases q
  | some k =>
    rw [p1] at h
    exact t.dis k a h hm
end

/-! ### promises -/
def fnSp (np : Nat) (T : List Addr) (ex : Str → Option Addr) (mf : M OV) : Sp := fun vs H Q E => vs.length = np ∧ ∃ (C : Cc) (P : Hp) (env : Env) (fp : Nat → List Addr), C.tabs = T ∧ C.exc = ex ∧ (∀ i, C.kp i = vs[i]?) ∧ StOk C P env fp (vs.map some) H ∧
  postG C (fun cls d _ H => E cls d H) (rOV C) P Q (vs.map some) (mf env)
/-- the def of the module's name x -/
structure FnS (P : Program) (w : World) (K : PySem.W.Frag) (mg : Str → Option Value) (base : Heap) (T : List Addr) (ex : Str → Option Addr) (k : Nat) (x : Str) (np : Nat) (mf : M OV) : Prop where
  ok : ∃ (f : Addr) (fd : FuncData) (ps : List Str), ps.length = np ∧ mg x = some (.ref f) ∧ PySem.W.keepIn K (.ref f) = true ∧ Binds K fd ps [] ∧ FnOk P w K mg base (L2.CX P w) k f fd ps (fnSp np T ex mf)
theorem FnS.mono {P : Program} {w : World} {K : PySem.W.Frag} {mg : Str → Option Value} {base : Heap} {T : List Addr} {ex : Str → Option Addr} {j k : Nat} {x : Str} {np : Nat} {mf : M OV} (F : FnS P w K mg base T ex j x np mf) (h : j ≤ k) : FnS P w K mg base T ex k x np mf := by
  obtain ⟨f, fd, ps, h1, h2, h3, h4, h5⟩ := F.ok
  exact ⟨f, fd, ps, h1, h2, h3, h4, h5.mono h⟩
def mCall (as : List Ag) (mf : M OV) : M OV := agsM as >>= fun xs => fun env => match mf (argE env as xs) with
  | none => none
  | some (.ok r e) => some (.ok r (backA env as e))
  | some (.exc x e) => some (.exc x (backA env as e))
section
variable {X : Cx} {C : Cc} {W : WX} {pos : Pos}
def liftAg (C : Cc) (W : WX) (as : List Ag) : TA := fun σ H Q => liftG C W (fun P _ _ xs vs => AgRel σ P as xs vs) (agsM as) σ H Q
theorem sAg_nil : PA X [] (liftAg C W []) := PA.imp pa_nil fun σ H Q q => by
  obtain ⟨P, env, fp, s, h⟩ := q
  exact h P fp H [] (Le.refl _) s .nil
theorem sAg_d {e : Expr} {es : List Expr} {m : M PyData} {as : List Ag} (h : PE X e (liftD C W m)) (r : PA X es (liftAg C W as)) (ns : NS e) : PA X (e :: es) (liftAg C W (.d m :: as)) := PA.imp (pa_cons h r (ns es _)) fun σ H Q q => by
  refine liftG.seq q fun x env1 P1 fp1 H1 v s1 r1 h1 => ?_
  refine ⟨P1, env1, fp1, s1, postG.seq h1 fun xs env2 P2 fp2 H2 vs l2 s2 r2 h2 => ?_⟩
  exact h2 P2 fp2 H2 _ (Le.refl _) s2 (.d (l2.dp r1) r2)
theorem sAg_s {x : Str} {i : Nat} {p : Pos} {es : List Expr} {as : List Ag} (n : NameOk X i x) (r : PA X es (liftAg C W as)) : PA X (.Name x p :: es) (liftAg C W (.s i :: as)) := PA.imp (pa_cons n.pe r rfl) fun σ H Q q => by
  obtain ⟨v0, ov, P, env, fp, f0, e0, hp, o0, s, h⟩ := slot_start q
  refine ⟨v0, f0, P, env, fp, s, ?_⟩
  cases em : agsM as env with
  | none => rw [em] at h; exact h.elim
  | some o =>
    rw [em] at h
    cases o with
    | exc y e1 => exact h
    | ok xs e1 => exact fun P' fp' H' vs l' s' r' => h P' fp' H' (v0 :: vs) l' s' (.s f0 r')
theorem sE_call {k np : Nat} {x : Str} {p : Pos} {e : Expr} {es : List Expr} {as : List Ag} {mf : M OV} (F : FnS X.prog X.w X.K X.mg X.base C.tabs C.exc k x np mf) (hr : Room k X.A) (hg : Gl X x) (tk : Takes X W) (hnd : agNd as) (hl : as.length = np) (ha : PA X (e :: es) (liftAg C W as))
    (ns : NS e) (hdb : (x == ("__debug__" : Str)) = false) (hpl : (backTo pos (starEach es X.env)).any (·.1) = false) : PE X (.Call (.Name x p) (e :: es) [] pos) (liftE C W (mCall as mf)) := by
  obtain ⟨f, fd, ps, h1, h2, h3, h4, h5⟩ := F.ok
  refine PE.imp (pe_callSD (E := fun σ cls d H' => W cls d σ H') h5 hr hg h2 h3 h4 .nil (fun σ pins H s e s' I c => tk e s' (XE.of_call I (fun cls d H' h => h) c)) ha hdb (ns es _) hpl) fun σ H Q q => ?_
  refine liftG.seq q fun xs env1 P1 fp1 H1 vs s1 r1 h1' => ?_
  have q1 : postG C W (rOV C) P1 Q σ (match mf (argE env1 as xs) with
    | none => none
    | some (.ok r e) => some (.ok r (backA env1 as e))
    | some (.exc x e) => some (.exc x (backA env1 as e))) := h1'
  rw [List.append_nil]
  refine ⟨by rw [← (r1.len (env := env1)).2]; exact hl, callC C fp1 as H1 vs, P1, argE env1 as xs, fpA fp1 as, rfl, rfl, fun i => rfl, s1.callIn r1 hnd, ?_⟩
  cases em : mf (argE env1 as xs) with
  | none => rw [em] at q1; exact q1.elim
  | some o =>
    rw [em] at q1
    cases o with
    | ok r e2 => exact fun P' fp' H' v l' s' r' => q1 P' _ H' v l' (s1.callOut r1 hnd l' s') (rOV.callOut s1 s' r')
    | exc y e2 => exact fun P' fp' H' cls d l' s' r' => q1 P' _ H' cls d l' (s1.callOut r1 hnd l' s') r'
end
end TL
set_option Elab.async false
set_option linter.all false
set_option maxRecDepth 100000
set_option maxHeartbeats 1000000
namespace TL
open PySem PySem.Spec PyProof.Rows L2 GenW GxR
/-! ### a def's body -/
/-- what is left of the arguments -/
def endO (ow : List Nat) (i : Nat) (o n : Option OV) : Option OV := if ow.contains i then n else match o with
  | some (.d x) => some (.d x)
  | _ => none
def endE (ow : List Nat) : Nat → Env → Env → Env
  | _, [], _ => []
  | i, o :: env, [] => endO ow i o none :: endE ow (i + 1) env []
  | i, o :: env, n :: e => endO ow i o n :: endE ow (i + 1) env e
def fnM (np N : Nat) (ow : List Nat) (mb : M Fl) : M OV := fun env => match mb (env ++ List.replicate (N - np) none) with
  | none => none
  | some (.ok .nx e) => some (.ok (.d .none) (endE ow 0 env e))
  | some (.ok (.rt r) e) => some (.ok r (endE ow 0 env e))
  | some (.ok _ _) => none
  | some (.exc x e) => some (.exc x (endE ow 0 env e))
theorem endE_length {ow : List Nat} : ∀ {env e : Env} {i : Nat}, (endE ow i env e).length = env.length
  | [], _, _ => by unfold endE; rfl
  | o :: env, [], i => by unfold endE; rw [List.length_cons, List.length_cons, endE_length]
  | o :: env, n :: e, i => by unfold endE; rw [List.length_cons, List.length_cons, endE_length]
theorem endE_some {ow : List Nat} : ∀ {env e : Env} {i k : Nat} {ov : OV}, (endE ow i env e)[k]? = some (some ov) →
    (ow.contains (i + k) = true ∧ e[k]? = some (some ov)) ∨ (ow.contains (i + k) = false ∧ ∃ x, ov = .d x ∧ env[k]? = some (some (.d x)))
  | [], e, i, k, ov, h => by simp [endE] at h
  | o :: env, [], i, 0, ov, h => by
    have h : some (endO ow i o none) = some (some ov) := h
    unfold endO at h
    cases hc : ow.contains i with
    | true => rw [hc, if_pos rfl] at h; cases h
    | false =>
      rw [hc, if_neg Bool.false_ne_true] at h
      refine .inr ⟨(by first | exact hc | rfl), ?_⟩
      cases o with
      | none => cases h
      | some o =>
        cases o with
        | d x => cases h; exact ⟨x, rfl, rfl⟩
        | _ => cases h
  | o :: env, n :: e, i, 0, ov, h => by
    have h : some (endO ow i o n) = some (some ov) := h
    unfold endO at h
    cases hc : ow.contains i with
    | true =>
      rw [hc, if_pos rfl] at h
      exact .inl ⟨(by first | exact hc | rfl), h⟩
    | false =>
      rw [hc, if_neg Bool.false_ne_true] at h
      refine .inr ⟨(by first | exact hc | rfl), ?_⟩
      cases o with
      | none => cases h
      | some o =>
        cases o with
        | d x => cases h; exact ⟨x, rfl, rfl⟩
        | _ => cases h
  | o :: env, [], i, k + 1, ov, h => by
    have h : (endE ow (i + 1) env [])[k]? = some (some ov) := h
    rcases endE_some h with ⟨h1, h2⟩ | ⟨h1, x, h2, h3⟩
    · simp at h2
    · exact .inr ⟨by rw [← h1]; congr 1; omega, x, h2, h3⟩
  | o :: env, n :: e, i, k + 1, ov, h => by
    have h : (endE ow (i + 1) env e)[k]? = some (some ov) := h
    rcases endE_some h with ⟨h1, h2⟩ | ⟨h1, x, h2, h3⟩
    · exact .inl ⟨by rw [← h1]; congr 1; omega, h2⟩
    · exact .inr ⟨by rw [← h1]; congr 1; omega, x, h2, h3⟩
/-- the body's context -/
abbrev bodyC (C : Cc) (ow : List Nat) : Cc := { C with kp := fun i => if ow.contains i then C.kp i else none }
section
variable {C : Cc} {P P' : Hp} {env e : Env} {fp fp' : Nat → List Addr} {σ σ' : L2.St} {H H' : Hp} {vs : List V} {N : List Str} {ow : List Nat}
theorem start_at {i : Nat} {v : V} (h : vs[i]? = some v) : (start N vs)[i]? = some (some v) := by
  unfold L2.start
  have hl : i < vs.length := by
    by_cases hl : i < vs.length
    · exact hl
    · rw [List.getElem?_eq_none (by omega)] at h; cases h
  rw [List.getElem?_append_left (by rw [List.length_map]; exact hl)]
  exact map_some_at.mpr h
theorem StOk.begin (s : StOk C P env fp (vs.map some) H) (hk : ∀ i, C.kp i = vs[i]?) (hN : vs.length ≤ N.length) : StOk (bodyC C ow) P (env ++ List.replicate (N.length - vs.length) none) fp (start N vs) H := by
  have hl : env.length = vs.length := by rw [s.len, List.length_map]
  refine ⟨s.phi, s.frm, fun i ov q => ?_, s.dis, s.fre, fun i v q => ?_, s.tabs, ?_⟩
  · by_cases hi : i < env.length
    · rw [List.getElem?_append_left hi] at q
      obtain ⟨v, h1, o⟩ := s.own i ov q
      exact ⟨v, start_at (map_some_at.mp h1), o⟩
    · rw [List.getElem?_append_right (by omega)] at q
      rw [List.getElem?_replicate] at q
      split at q <;> cases q
  · have q : (if ow.contains i then C.kp i else none) = some v := q
    split at q
    · exact start_at (by rw [← hk]; exact q)
    · cases q
  · unfold L2.start
    rw [List.length_append, List.length_append, List.length_replicate, List.length_replicate, List.length_map, hl]
theorem StOk.finish (s0 : StOk C P env fp (vs.map some) H) (hk : ∀ i, C.kp i = vs[i]?) (l : Le P P') (s : StOk (bodyC C ow) P' e fp' σ' H') :
    StOk C P' (endE ow 0 env e) (fun i => if ow.contains i then fp' i else []) (vs.map some) H' := by
  have hl : env.length = vs.length := by rw [s0.len, List.length_map]
  refine ⟨s.phi, s.frm, fun i ov q => ?_, fun i j a h1 h2 => ?_, fun i a h => ?_, fun i v q => map_some_at.mpr (by rw [← hk]; exact q), s.tabs, by rw [endE_length, List.length_map]; exact hl⟩
  · have hi : i < env.length := by
      by_cases hi : i < (endE ow 0 env e).length
      · rw [endE_length] at hi; exact hi
      · rw [List.getElem?_eq_none (by omega)] at q; cases q
    rcases endE_some q with ⟨h1, h2⟩ | ⟨h1, x, rfl, h3⟩
    · rw [Nat.zero_add] at h1
      rw [if_pos h1]
      obtain ⟨v, h4, o⟩ := s.own i ov h2
      have hv : vs[i]? = some vs[i] := List.getElem?_eq_getElem (by omega)
      have q2 : (bodyC C ow).kp i = some vs[i] := by
        show (if ow.contains i then C.kp i else none) = _
        rw [if_pos h1, hk]
        exact hv
      have h5 := s.keep i _ q2
      have := slot_inj h4 h5
      subst this
      exact ⟨_, map_some_at.mpr hv, o⟩
    · rw [Nat.zero_add] at h1
      rw [if_neg (by rw [h1]; exact Bool.false_ne_true)]
      obtain ⟨v, h4, o⟩ := s0.own i _ h3
      exact ⟨v, h4, .d (l.dp o.dp)⟩
  · split at h1
    · split at h2
      · exact s.dis i j a h1 h2
      · cases h2
    · cases h1
  · split at h
    · exact s.fre i a h
    · cases h
theorem rOV.finish {ov : OV} {v : V} (o : rOV (bodyC C ow) P' fp' H' ov v) : rOV C P' (fun i => if ow.contains i then fp' i else []) H' ov v := by
  obtain ⟨ft, ow', t⟩ := o
  refine ⟨ft, ow', fun i a h hm => ?_, t.fre⟩
  split at h
  · exact t.dis i a h hm
  · cases h
end
/-- a def whose code object is at c -/
structure FunC (K : PySem.W.Frag) (x qual : Str) (params : Arguments) (body : List Stmt) (scope : Scope) (f : Addr) (fd : FuncData) (cdv : Value) : Prop where
  ex : ∃ (oc : Value) (od : Option Addr) (kV doc pm : Value) (an : Option Addr) (ct : Value) (osl : Array (Option Value)),
    fd = PySem.W.fnOf x qual params body scope .none kV doc pm an cdv ct ∧ K.lookup f = some ⟨oc, od, .func fd, osl⟩ ∧ PySem.W.codeIn K cdv qual = true
  kp : PySem.W.keepIn K (.ref f) = true
theorem FunC.binds {K : PySem.W.Frag} {x qual : Str} {params : Arguments} {body : List Stmt} {scope : Scope} {f : Addr} {fd : FuncData} {cdv : Value} {ps : List Str} (F : FunC K x qual params body scope f fd cdv)
    (h : ∀ (kV doc pm : Value) (an : Option Addr) (cdv ct : Value) (us : List Value), us.length = ps.length → bindArgs (PySem.W.fnOf x qual params body scope .none kV doc pm an cdv ct) ⟨us, []⟩ = pure (ps.zip us)) : Binds K fd ps [] := by
  obtain ⟨oc, od, kV, doc, pm, an, ct, osl, rfl, lk, hcd⟩ := F.ex
  exact .all (h kV doc pm an cdv ct)
section
variable {P : Program} {w : World} {K : PySem.W.Frag} {mg : Str → Option Value} {base : Heap} {T : List Addr} {ex : Str → Option Addr}
/-- the body's own context -/
abbrev fnX (P : Program) (w : World) (K : PySem.W.Frag) (mg : Str → Option Value) (base : Heap) (N : List Str) (qual : Str) (scope : Scope) (f : Addr) (cdv : Value) (A : Around) (outer : List PySem.Env) (s : Shared) (H : Hp) (E : XK) : Cx :=
  cxOf (L2.CX P w) P w K mg base N qual scope f cdv A outer s H E
abbrev fnW (E : XK) : WX := fun cls d _ H => E cls d H
theorem fnX_takes {N : List Str} {qual : Str} {scope : Scope} {f : Addr} {cdv : Value} {A : Around} {outer : List PySem.Env} {s : Shared} {H : Hp} {E : XK} : Takes (fnX P w K mg base N qual scope f cdv A outer s H E) (fnW E) :=
  takes_of rfl rfl rfl rfl
theorem fnX_passes {N : List Str} {qual : Str} {scope : Scope} {f : Addr} {cdv : Value} {A : Around} {outer : List PySem.Env} {s : Shared} {H : Hp} {E : XK} : PassesOwn (model P w) (fnX P w K mg base N qual scope f cdv A outer s H E).A (fnX P w K mg base N qual scope f cdv A outer s H E).env (fnX P w K mg base N qual scope f cdv A outer s H E).xe :=
  passes_of rfl
/-- THE RULE: the def runs as its mirror -/
theorem FunC.fnS {x qual : Str} {params : Arguments} {body : List Stmt} {scope : Scope} {f : Addr} {fd : FuncData} {cdv : Value} {ps N : List Str} {ow : List Nat} {k np : Nat} {mb : M Fl} (F : FunC K x qual params body scope f fd cdv) (hx : mg x = some (.ref f)) (S : FnScope N ps scope) (hnp : ps.length = np) (hN : np ≤ N.length)
    (hb : ∀ (kV doc pm : Value) (an : Option Addr) (cdv ct : Value) (us : List Value), us.length = ps.length → bindArgs (PySem.W.fnOf x qual params body scope .none kV doc pm an cdv ct) ⟨us, []⟩ = pure (ps.zip us))
    (hbody : ∀ (A : Around) (outer : List PySem.Env) (s : Shared) (H : Hp) (E : XK) (C : Cc), Room k (A.deeper (envOfC qual scope s.heap.objs.size f cdv)) → C.tabs = T → C.exc = ex → (∀ i, ow.contains i = false → C.kp i = none) →
      PSs (fnX P w K mg base N qual scope f cdv A outer s H E) body (liftS C (fnW E) mb)) : FnS P w K mg base T ex (k + 1) x np (fnM np N.length ow mb) := by
  refine ⟨⟨f, fd, ps, hnp, hx, F.kp, F.binds hb, ?_⟩⟩
  obtain ⟨oc, od, kV, doc, pm, an, ct, osl, rfl, lk, hcd⟩ := F.ex
  refine fn_of lk hcd S (fun vs H Q E q => by rw [hnp]; exact q.1) fun A outer s H vs Q E hr hsp => ?_
  obtain ⟨hl, C, P0, env, fp, hT, hE, hk, s0, q⟩ := hsp
  refine ⟨_, hbody A outer s H E (bodyC C ow) hr hT hE (fun i hi => if_neg (by rw [hi]; exact Bool.false_ne_true)), ?_⟩
  have hvl : vs.length ≤ N.length := by rw [hl]; exact hN
  refine ⟨P0, _, fp, s0.begin hk hvl, ?_⟩
  rw [hl]
  unfold fnM at q
  cases em : mb (env ++ List.replicate (N.length - np) none) with
  | none => rw [em] at q; exact q.elim
  | some o =>
    rw [em] at q
    cases o with
    | exc y e => exact fun P' fp' σ' H' cls d l s' r => q P' _ H' cls d l (s0.finish hk l s') r
    | ok fl e =>
      cases fl with
      | nx => exact fun P' fp' σ' H' l s' => q P' _ H' .non l (s0.finish hk l s') (rOV.d .non)
      | rt r => exact fun P' fp' σ' H' v l s' r => q P' _ H' v l (s0.finish hk l s') (rOV.finish r)
      | bk => exact q.elim
      | ct => exact q.elim
end
end TL
set_option Elab.async false
set_option linter.all false
set_option maxRecDepth 100000
set_option maxHeartbeats 1000000
namespace TL
open PySem PySem.Spec PyProof.Rows L2 GenW GxR
section
variable {X : Cx} {C : Cc} {W : WX} {pos : Pos}
/-! ### short forms -/
theorem NameOk.var {i : Nat} {x : Str} (n : NameOk X i x) : PE X (.Name x pos) (liftE C W (mVar i)) := sE_var n.n n.v n.d n.c
theorem NameOk.move {i : Nat} {x : Str} (n : NameOk X i x) : PE X (.Name x pos) (liftE C W (mMove i)) := sE_move n.n n.v n.d n.c
theorem NameOk.frz {i : Nat} {x : Str} (n : NameOk X i x) : PE X (.Name x pos) (liftE C W (mFrz i)) := sE_frzv n.n n.v n.d n.c
theorem NameOk.len {i : Nat} {x : Str} {p p2 : Pos} (n : NameOk X i x) (hg : Gl X "len") (hm : X.mg "len" = none) : PE X (.Call (.Name "len" p) [.Name x p2] [] pos) (liftE C W (mPeek i gLen)) := sE_lenS n.n n.v n.d n.c hg hm
theorem NameOk.tru {i : Nat} {x : Str} (n : NameOk X i x) (he : PlainT X (.Name x pos)) : PT X (.Name x pos) (liftT C W (mPeek i ovTru)) := sT_truS n.n n.v n.d n.c he
/-- data in the hand -/
def dat (m : M PyData) : M OV := m >>= fun x => pure (.d x)
theorem sE_dt {e : Expr} {m : M PyData} (h : PE X e (liftD C W m)) : PE X e (liftE C W (dat m)) := sE_dat h
theorem LocOk.set {i : Nat} {x : Str} {e : Expr} {m : M OV} {p : Pos} (l : LocOk X C i x) (h : PE X e (liftE C W m)) (hs : swapsWith e (some (.Name x p)) pos.line X.env = pure false) : PS X (.Assign [.Name x p] e pos) (liftS C W (mSet i m)) :=
  sS_set l.nd l.n l.l l.f l.k h hs
/-! ### * -/
theorem tuple_mul1W (l : Addr) (items : Array Value) (n : Nat) (dd : Option Addr) (sl : Array (Option Value)) (u : Tok) :
    Meets (Builtin.«tuple.__mul__» ⟨[.ref l, .int 1 u], []⟩) (fun _ R s => s.heap.get? l = some { cls := .type "tuple", dict := dd, data := .seq items n, slots := sl } ∧ R (.ok (.ret (Value.ref l))) s) :=
  .of_wp fun prog w A R s h => by
    obtain ⟨hp, g, d, tk, os⟩ := s
    obtain ⟨hl, h⟩ := h
    have f1 := AutoSeq1.idx_int
    wp_walk using wpAny_loadPart' hl
    exact ⟨_, rfl, h⟩
def rRepT1 (K : PySem.W.Frag) : R2 := fun x y H Q => ∃ l xs, x = .ref l ∧ y = .int 1 ∧ SqT K H l xs ∧ Q (.ref l) H
theorem op_repT1 {X : Cx} : OpR X (binaryOp .Mult) (rRepT1 X.K) := by
  intro pins s σ H x y v u Q I rx ry h
  obtain ⟨l, xs, rfl, rfl, hT, q⟩ := h
  cases rx
  obtain ⟨t, rfl⟩ := ry
  obtain ⟨its, r, ⟨⟨cls, dd, data, sl⟩, ho, hc, n, hd⟩, hs⟩ := I.tuple hT
  simp only at hc hd
  subst hc hd
  exact wpAny_binaryOp_repeat_ref (T := "tuple") (U := "int") (by decide) ⟨_, ho, rfl⟩ (fun s' => typeIs_int s' 1 t) noFill_tuple_mul F.fills_int_mul F.slot_int_rmul repeat_tuple F.slot_int_index.lookup
    (call_meets F.slot_int_rmul (typeIs_int s 1 t) F.entry_int_rmul (F.args_int_rmul_2 _ _) (int_rmul_tuple 1 t l its.toArray n dd sl)
      ⟨ho, rfl, ⟨_, ho, rfl⟩, call_meets F.slot_tuple_mul ⟨_, ho, rfl⟩ F.entry_tuple_mul (F.args_tuple_mul_2 _ _) (tuple_mul1W l its.toArray n dd sl t) ⟨ho, .ref l, _, I, rfl, q⟩⟩)
def gMulX : PyData → PyData → Option OV
  | .int i, .int j => if i.natAbs.log2 + j.natAbs.log2 < 1000000 then some (.d (.int (i * j))) else none
  | .list xs, .int k => if -(2 ^ 63) ≤ k ∧ k < 2 ^ 63 ∧ xs.length * k.toNat ≤ sizeLine then some (.lst (List.replicate k.toNat xs).flatten) else none
  | .list xs, .bool b => some (.lst (if b then xs else []))
  | .tuple xs, .int k => if xs ≠ [] ∧ 2 ≤ k ∧ k ≤ 1000 ∧ xs.length ≤ 1000 then some (.d (.tuple (List.replicate k.toNat xs).flatten)) else if xs ≠ [] ∧ k = 1 then some (.d (.tuple xs)) else none
  | _, _ => none
theorem vals_rep {vs : List V} {us : List Value} (r : Vals vs us) : ∀ n : Nat, Vals (List.replicate n vs).flatten (List.replicate n us).flatten
  | 0 => .nil
  | n + 1 => by
    rw [List.replicate_succ, List.replicate_succ, List.flatten_cons, List.flatten_cons]
    exact r.append (vals_rep r n)
theorem len_rep {α : Type} (xs : List α) : ∀ n : Nat, (List.replicate n xs).flatten.length = xs.length * n
  | 0 => by simp
  | n + 1 => by
    rw [List.replicate_succ, List.flatten_cons, List.length_append, len_rep xs n, Nat.mul_succ]
    omega
def rMulLI : R2 := fun x y H Q => ∃ a xs k, x = V.ref a ∧ y = V.int k ∧ SqL X.K H a xs ∧ -(2 ^ 63) ≤ k ∧ k < 2 ^ 63 ∧ xs.length * k.toNat ≤ sizeLine ∧ ∀ p, H p = none → Q (.ref p) (upd H p (.lst (List.replicate k.toNat xs).flatten))
theorem op_mulLI : OpR X (binaryOp .Mult) (rMulLI (X := X)) := by
  intro pins s σ H x y v u Q I rx ry h
  obtain ⟨a, xs, k, rfl, rfl, hs, hlo, hhi, hz, q⟩ := h
  obtain rfl : v = Value.ref a := rx
  obtain ⟨t, rfl⟩ := ry
  obtain ⟨its, rv, ⟨⟨cls, dd, data, sl⟩, n, ho, hc, hdn, hd⟩, hlen⟩ := I.list hs
  have hc1 : cls = Value.type "list" := hc
  have hd1 : data = Data.seq its.toArray n := hd
  subst hc1 hd1
  have hl := rv.length
  have hz2 : its.toArray.size * k.toNat ≤ sizeLine := by rw [List.size_toArray, ← hl]; exact hz
  have hsl := sizeLine_eq
  refine wpAny_binaryOp_repeat_ref (T := "list") (U := "int") (by decide) ⟨_, ho, rfl⟩ (fun s' => typeIs_int s' k t) noFill_list_mul F.fills_int_mul F.slot_int_rmul repeat_list F.slot_int_index.lookup
    (PySem.call_meets F.slot_int_rmul (typeIs_int s k t) F.entry_int_rmul (F.args_int_rmul_2 _ _) (lm_int_rmul_list_any k t a its.toArray n dd sl)
      ⟨ho, rfl, ⟨_, ho, rfl⟩, PySem.call_meets F.slot_list_mul ⟨_, ho, rfl⟩ F.entry_list_mul (F.args_list_mul_2 _ _)
        (lm_list_mul_any a its.toArray n dd sl k t (by simp [Builtin.List.listFitsIndex]; omega) (by omega) (by simp only [Builtin.List.listTooLong, decide_eq_true_eq]; omega))
        ⟨ho, ?_⟩⟩)
  have e : List.foldl (fun x1 x2 => x1 ++ x2) #[] (List.replicate (if its.toArray.isEmpty = true then 0 else k.toNat) its.toArray) = (List.replicate k.toNat its).flatten.toArray := by
    rw [listMul_foldl_if]
  rw [e]
  exact ⟨.ref s.heap.objs.size, upd H s.heap.objs.size (.lst (List.replicate k.toNat xs).flatten), I.laid (t' := s.toks) (fun b o e => Heap.get?_push_of_some _ e) (Nat.le_refl _) ⟨by rw [len_rep]; exact hz, _, 0, vals_rep rv _, Heap.get?_push_size _ rfl⟩, rfl, q _ (I.hok.fresh (Nat.le_refl _))⟩
theorem od_mul : OD X C (binaryOp .Mult) gMulX := by
  intro P env fp σ H x y dx dy r Q s d1 d2 e k
  cases d1 with
  | int i =>
    cases d2 with
    | int j =>
      have e' : (if i.natAbs.log2 + j.natAbs.log2 < 1000000 then some (OV.d (.int (i * j))) else none) = some r := e
      by_cases hz : i.natAbs.log2 + j.natAbs.log2 < 1000000
      · rw [if_pos hz] at e'
        cases e'
        exact ⟨_, op_mulW, i, j, rfl, rfl, hz, k P fp H _ (Le.refl _) s (rOV.d (.int _))⟩
      · rw [if_neg hz] at e'
        cases e'
    | _ => cases e
  | lst h a =>
    rename_i l vs xs
    cases d2 with
    | int j =>
      have e' : (if -(2 ^ 63) ≤ j ∧ j < 2 ^ 63 ∧ xs.length * j.toNat ≤ sizeLine then some (OV.lst (List.replicate j.toNat xs).flatten) else none) = some r := e
      by_cases hz : -(2 ^ 63) ≤ j ∧ j < 2 ^ 63 ∧ xs.length * j.toNat ≤ sizeLine
      · rw [if_pos hz] at e'
        cases e'
        exact ⟨_, op_mulLI, l, vs, j, rfl, rfl, toK_L (s.le.sqL h), hz.1, hz.2.1, by rw [dpAll_length a]; exact hz.2.2, fun p hp => rOV.newL s (dpAll_rep a _) k hp⟩
      · rw [if_neg hz] at e'
        cases e'
    | bl b =>
      cases e
      refine ⟨_, op_mul_lb, l, vs, b, rfl, rfl, toK_L (s.le.sqL h), fun p hp => ?_⟩
      cases b with
      | true => exact rOV.newL s a k hp
      | false => exact rOV.newL s (.nil : DdAll P [] []) k hp
    | _ => cases e
  | tup h a =>
    rename_i l vs xs
    cases d2 with
    | int j =>
      have e' : (if xs ≠ [] ∧ 2 ≤ j ∧ j ≤ 1000 ∧ xs.length ≤ 1000 then some (OV.d (.tuple (List.replicate j.toNat xs).flatten)) else if xs ≠ [] ∧ j = 1 then some (OV.d (.tuple xs)) else none) = some r := e
      by_cases hz : xs ≠ [] ∧ 2 ≤ j ∧ j ≤ 1000 ∧ xs.length ≤ 1000
      · rw [if_pos hz] at e'
        cases e'
        have hl := dpAll_length a
        refine ⟨_, op_repT, l, j, vs, rfl, rfl, toK_T (s.le.sqT h), fun e0 => ?_, hz.2.1, hz.2.2.1, by rw [hl]; exact hz.2.2.2, fun p hp => rOV.newT s (dpAll_rep a _) k hp⟩
        rw [e0] at hl
        exact hz.1 (List.eq_nil_of_length_eq_zero hl.symm)
      · rw [if_neg hz] at e'
        split at e'
        · rename_i h1
          cases e'
          refine ⟨_, op_repT1, l, vs, rfl, by rw [h1.2], toK_T (s.le.sqT h), k P fp H _ (Le.refl _) s (rOV.d (.tup h a))⟩
        · cases e'
    | _ => cases e
  | _ => cases e
/-! ### is, is not: None, bools -/
def gIsX : PyData → PyData → Option OV
  | .bool a, .bool b => some (.d (.bool (decide (a = b))))
  | _, _ => none
def gNotX : PyData → PyData → Option OV
  | .bool a, .bool b => some (.d (.bool (!decide (a = b))))
  | _, _ => none
theorem od_isB : OD X C (compareOp .Is) gIsX := by
  intro P env fp σ H x y dx dy r Q s d1 d2 e k
  cases d1 with
  | bl a =>
    cases d2 with
    | bl b =>
      cases e
      exact ⟨_, op_isBl, a, b, rfl, rfl, k P fp H _ (Le.refl _) s (rOV.d (.bl _))⟩
    | _ => cases e
  | _ => cases e
theorem od_notB : OD X C (compareOp .IsNot) gNotX := by
  intro P env fp σ H x y dx dy r Q s d1 d2 e k
  cases d1 with
  | bl a =>
    cases d2 with
    | bl b =>
      cases e
      exact ⟨_, op_notBl, a, b, rfl, rfl, k P fp H _ (Le.refl _) s (rOV.d (.bl _))⟩
    | _ => cases e
  | _ => cases e
/-! ### isinstance -/
def tyName : PyData → String
  | .none => "NoneType"
  | .bool _ => "bool"
  | .int _ => "int"
  | .str _ => "str"
  | .list _ => "list"
  | .tuple _ => "tuple"
  | .dict _ => "dict"
def tyIs (x : PyData) (T : String) : Option Bool := kitB (tyName x) T
/-- a value's type, wider than TyX -/
def TyY (K : PySem.W.Frag) (H : Hp) (v : V) (t : Value) : Prop := TyX K H v t ∨ ∃ a ob es, v = .ref a ∧ H a = some (.frz ob (.ext (phN a es))) ∧ t = .type "dict"
theorem kit_ofY {pins : List (Addr × Obj)} {σ : L2.St} {H : Hp} {s : Shared} {x : V} {u t : Value} (I : Inv X pins σ H s) (rx : RelV x u) (ty : TyY X.K H x t) : ∃ P : Heap → Prop, PySem.W.KitX X.K u t P ∧ P s.heap ∧ u ≠ .builtin "__main__.__loader__#opaque" := by
  rcases ty with ty | ⟨a, ob, es, rfl, e, rfl⟩
  · exact kit_of I rx ty
  · cases (show u = Value.ref a from rx)
    obtain ⟨_, ⟨_, _, o, ar, ep, h1, h2, _⟩, _⟩ := (show ObjOk X.prog X.w H s.heap a (.frz ob (.ext (phN a es))) from I.hok a _ e)
    exact ⟨_, PySem.W.kitx_dict, ⟨o, h1, h2.1⟩, fun z => nomatch z⟩
def rIsiY (K : PySem.W.Frag) : List V → Hp → VK → Prop := fun xs H Q => ∃ (x c : V) (t u : Value) (b : Bool), xs = [x, c] ∧ ClsV c u ∧ TyY K H x t ∧ PySem.W.kitOne K t u = some b ∧ Q (.bl b) H
def rIsiTY (K : PySem.W.Frag) : List V → Hp → VK → Prop := fun xs H Q => ∃ (x : V) (tp : Addr) (cs : List V) (t : Value) (us : List Value) (b : Bool), xs = [x, .ref tp] ∧ H tp = some (.tup cs) ∧ Paired ClsV cs us ∧ TyY K H x t ∧ PySem.W.kitAny K t us = some b ∧ Q (.bl b) H
theorem call_isiY : CallR X (.builtin "isinstance") (rIsiY X.K) := by
  intro pins s σ H xs us Q I r h
  obtain ⟨x, c, t, u, b, rfl, k, ty, e, q⟩ := h
  obtain ⟨u1, u2, rfl, r1, r2⟩ := vals2 r
  have e2 := k.eq r2
  subst e2
  obtain ⟨P, Z, p, hx⟩ := kit_ofY I r1 ty
  exact PySem.W.kia_one Z I.kIn p e hx fun tk => ⟨.bl b, H, I.tok tk, rfl, q⟩
theorem call_isiTY : CallR X (.builtin "isinstance") (rIsiTY X.K) := by
  intro pins s σ H xs us Q I r h
  obtain ⟨x, tp, cs, t, ws, b, rfl, hT, k, ty, e, q⟩ := h
  obtain ⟨u1, u2, rfl, r1, r2⟩ := vals2 r
  cases (show u2 = Value.ref tp from r2)
  obtain ⟨P, Z, p, hx⟩ := kit_ofY I r1 ty
  obtain ⟨_, its, rv, o, h1, h2, n, h3⟩ := (show ObjOk X.prog X.w H s.heap tp (.tup cs) from I.hok tp _ hT)
  have e3 := ClsV.all k rv
  subst e3
  obtain ⟨oc, od, dt, sl⟩ := o
  simp only at h2 h3
  subst h2 h3
  exact PySem.W.kia_tup Z I.kIn p h1 e hx fun tk => ⟨.bl b, H, I.tok tk, rfl, q⟩
theorem tyX_of {P H : Hp} {v : V} {x : PyData} (l : Le P H) (d : Dd P v x) : TyY X.K H v (.type (tyName x)) := by
  cases d with
  | non => exact .inl (.base .non)
  | bl b => exact .inl (.base (.bl b))
  | int i => exact .inl (.base (.int i))
  | str y => exact .inl (.base (.str y))
  | lst h a =>
    rcases l.sqL h with (h | ⟨o, h⟩) | ⟨o, its, n, e, _⟩
    · exact .inl (.base (.lst h))
    · exact .inl (.base (.frz h))
    · cases e
  | tup h a =>
    rcases l.sqT h with (h | ⟨o, h⟩) | ⟨o, its, n, e, _⟩
    · exact .inl (.base (.tup h))
    · exact .inl (.fTuple h)
    · cases e
  | dic h a => exact .inl (.fDict (l _ _ h))
  | din h a => exact .inr ⟨_, _, _, rfl, l _ _ h, rfl⟩
/-- isinstance(e, T), T a built-in type -/
def mIsI (T : String) (m : M PyData) : M OV := m >>= fun x => M.opt ((tyIs x T).map fun b => .d (.bool b))
theorem boot_isi : bootBuiltins "isinstance" = some (.builtin "isinstance") := by kernel_rfl
theorem sE_isi {T : Str} {id : String} {p q : Pos} {e : Expr} {m : M PyData} (hg : Gl X "isinstance") (hm : X.mg "isinstance" = none) (h : PE X e (liftD C W m)) (ns : NS e) (hgT : Gl X T) (hmT : X.mg T = none) (hbT : bootBuiltins T = some (.type id)) (hn : T ≠ "__name__")
    (hdb : (T == ("__debug__" : Str)) = false) : PE X (.Call (.Name "isinstance" p) [e, .Name T q] [] pos) (liftE C W (mIsI id m)) :=
  PE.imp (pe_callB (r := rIsiY X.K) call_isiY hg hm boot_isi (pa_cons h (pa_cons (pe_bltn (v := .ty id) hgT hmT hbT rfl hn hdb) pa_nil rfl) (ns [.Name T q] _)) (by decide) (by decide) (ns [.Name T q] _) rfl) fun σ H Q q => by
    refine liftG.seq q fun x env' P' fp' H' u s r q => ?_
    obtain ⟨o, e, q'⟩ := opt_some q
    obtain ⟨b, e1, rfl⟩ := Option.map_eq_some_iff.mp e
    exact ⟨u, .ty id, .type (tyName x), .type id, b, rfl, .ty id, tyX_of s.le r, kit_ty e1, q' P' fp' H' _ (Le.refl _) s (rOV.d (.bl b))⟩
/-- isinstance(e, (T1, T2)) -/
def mIsI2 (T1 T2 : String) (m : M PyData) : M OV := m >>= fun x => M.opt (match tyIs x T1, tyIs x T2 with
  | some a, some b => some (.d (.bool (a || b)))
  | _, _ => none)
theorem sE_isi2 {T1 T2 : Str} {id1 id2 : String} {p q q1 q2 : Pos} {e : Expr} {j : Nat} {m : M PyData} (hg : Gl X "isinstance") (hm : X.mg "isinstance" = none) (h : PE X e (liftD C W m)) (ns : NS e) (hgT : Gl X T1) (hmT : X.mg T1 = none) (hbT : bootBuiltins T1 = some (.type id1)) (hn : T1 ≠ "__name__")
    (hdb : (T1 == ("__debug__" : Str)) = false) (hgT2 : Gl X T2) (hmT2 : X.mg T2 = none) (hbT2 : bootBuiltins T2 = some (.type id2)) (hn2 : T2 ≠ "__name__") (hdb2 : (T2 == ("__debug__" : Str)) = false) :
    PE X (.Call (.Name "isinstance" p) [e, .Tuple [.Name T1 q1, .Name T2 q2] j q] [] pos) (liftE C W (mIsI2 id1 id2 m)) :=
  PE.imp (pe_callB (r := rIsiTY X.K) call_isiTY hg hm boot_isi (pa_cons h (pa_cons (pe_tup (pa_cons (pe_bltn (v := .ty id1) hgT hmT hbT rfl hn hdb) (pa_cons (pe_bltn (v := .ty id2) hgT2 hmT2 hbT2 rfl hn2 hdb2) pa_nil rfl) rfl)) pa_nil rfl) (ns [.Tuple [.Name T1 q1, .Name T2 q2] j q] _)) (by decide) (by decide) (ns [.Tuple [.Name T1 q1, .Name T2 q2] j q] _) rfl) fun σ H Q q => by
    refine liftG.seq q fun x env' P' fp' H' u s r q => ?_
    obtain ⟨o, e, q'⟩ := opt_some q
    refine ⟨by show 2 ≤ sizeLine; rw [sizeLine_eq]; omega, fun t ht => ?_⟩
    cases e1 : tyIs x id1 with
    | none => rw [e1] at e; cases e
    | some a =>
      cases e2 : tyIs x id2 with
      | none => rw [e1, e2] at e; cases e
      | some b =>
        rw [e1, e2] at e
        cases e
        obtain ⟨l, s2⟩ := s.laid ht (u := .tup [.ty id1, .ty id2]) trivial
        exact ⟨u, t, [.ty id1, .ty id2], .type (tyName x), [.type id1, .type id2], a || b, rfl, upd_same, .cons (.ty id1) (.cons (.ty id2) .nil), tyX_of s2.le (l.dp r),
          kitAny_cons (kit_ty e1) (fun ea => by
            subst ea
            exact kitAny_cons (kit_ty e2) (fun eb => by subst eb; exact kitAny_nil) (fun eb => by subst eb; rfl)) (fun ea => by subst ea; rfl), q' _ fp' _ _ l s2 (rOV.d (.bl _))⟩
/-! ### slices -/
def cutD (xs : List PyData) (lo hi : Option Int) : List PyData := (xs.drop (HT.sIx xs.length 0 lo)).take (HT.sIx xs.length xs.length hi - HT.sIx xs.length 0 lo)
theorem cutV_dp {P : Hp} {vs : List V} {xs : List PyData} (a : DdAll P vs xs) (lo hi : Option Int) : DdAll P (cutV vs lo hi) (cutD xs lo hi) := by
  unfold cutV cutD
  rw [dpAll_length a]
  exact dpAll_take _ (dpAll_drop _ a)
/-- a part of a slice -/
def mPart : Option (M PyData) → M (Option Int)
  | none => pure none
  | some m => m >>= fun x => match x with
    | .int i => pure (some i)
    | _ => fun _ => none
def mSlice (m : M PyData) (lo hi : Option (M PyData)) : M OV := m >>= fun x => mPart lo >>= fun l => mPart hi >>= fun h => M.opt (match x with
  | .tuple xs => some (.d (.tuple (cutD xs l h)))
  | .list xs => some (.lst (cutD xs l h))
  | _ => none)
/-- the part's reading -/
def rPart : RelR (Option Int) (Option Int) := fun _ _ _ a b => b = a
theorem PO.imp {e : Option Expr} {t t' : TO} (h : PO X e t) (i : ∀ σ H Q, t' σ H Q → t σ H Q) : PO X e t' := ⟨fun pins s σ H Q I q => h.run pins s σ H Q I (i σ H Q q)⟩
theorem sO_none : PO X none (liftG C W rPart (mPart none)) := PO.imp po_none fun σ H Q q => by
  obtain ⟨P, env, fp, s, h⟩ := q
  exact h P fp H none (Le.refl _) s rfl
theorem sO_some {e : Expr} {m : M PyData} (h : PE X e (liftD C W m)) : PO X (some e) (liftG C W rPart (mPart (some m))) := PO.imp (po_some h) fun σ H Q q => by
  refine liftG.seq q fun x env' P' fp' H' u s r q => ?_
  cases r with
  | int i => exact ⟨i, rfl, q P' fp' H' (some i) (Le.refl _) s rfl⟩
  | _ => exact False.elim q
theorem sE_slice {e : Expr} {lo hi : Option Expr} {p2 : Pos} {m : M PyData} {ml mh : Option (M PyData)} (h : PE X e (liftD C W m)) (hl : PO X lo (liftG C W rPart (mPart ml))) (hh : PO X hi (liftG C W rPart (mPart mh))) :
    PE X (.Subscript e (.Slice lo hi none p2) pos) (liftE C W (mSlice m ml mh)) := PE.imp (pe_slice (sl_tupA.or sl_list) h hl hh) fun σ H Q q => by
  refine liftG.seq q fun x env1 P1 fp1 H1 v s1 r1 h1 => ?_
  refine ⟨P1, env1, fp1, s1, postG.seq h1 fun l env2 P2 fp2 H2 l' l2 s2 e2 h2 => ?_⟩
  refine ⟨P2, env2, fp2, s2, postG.seq h2 fun u env3 P3 fp3 H3 u' l3 s3 e3 h3 => ?_⟩
  have e2 : l' = l := e2
  have e3 : u' = u := e3
  subst e2 e3
  obtain ⟨o, e, q'⟩ := opt_some h3
  have d := (l2.trans l3).dp r1
  cases d with
  | tup h a =>
    cases e
    refine .inl ⟨_, _, rfl, toK_T (s3.le.sqT h), fun hw => ?_, fun _ p hp => rOV.newT s3 (cutV_dp a _ _) q' hp⟩
    have hl := dpAll_length a
    rename_i vs xs
    have ec : cutD xs l' u' = xs := by
      unfold cutD
      rw [← hl, hw.1, hw.2, hl]
      simp
    rw [ec] at q'
    exact q' P3 fp3 H3 _ (Le.refl _) s3 (rOV.d (.tup h a))
  | lst h a =>
    cases e
    exact .inr ⟨_, _, rfl, toK_L (s3.le.sqL h), fun p hp => rOV.newL s3 (cutV_dp a _ _) q' hp⟩
  | _ => cases e
end
end TL
set_option Elab.async false
set_option linter.all false
set_option maxRecDepth 100000
set_option maxHeartbeats 4000000
namespace TL
open PySem PySem.Spec PyProof.Rows L2
/-! ### set(l), l a list of ints -/
abbrev newSet (w : World) : Obj := { cls := .type "set", dict := none, data := .set #[] 0 (.fresh 0 0 (!w.params.followText "set-order")) }
section
variable {P : Program} {w : World} {A : Around} {E : Value → Shared → Prop} {s : Shared}
theorem set_listI {l : Addr} {its : Array Value} (ns : List Int) {Q : Value → Shared → Prop} (hh : A.handled = none) (hl : s.heap.IsList l its) (hit : IntsAre its.toList ns) (hb : ns.length + 1 < scanBound)
    (h : ∀ (h' : Heap) (tk c : Nat), SetR w h' s.heap.objs.size (fun j => decide (j ∈ ns)) c → c ≤ ns.length → (∀ b o, s.heap.get? b = some o → h'.get? b = some o) → Q (.ref s.heap.objs.size) { s with heap := h', toks := tk }) :
    wpAny (model P w) A (call (.type "set") [.ref l]) Q E s := by
  have sz : its.size = ns.length := by
    have q := IntsAre.length hit
    rwa [Array.length_toList] at q
  obtain ⟨mc, mt, hmro⟩ := F.called_set.mro
  have u1 := F.called_set.made
  have u2 := F.called_set.sub
  have u3 := F.called_set.notType
  have u4 := F.called_set.canCreate
  have u5 := F.typeCall_set_1 (.ref l)
  refine wpAny_call (codeAny_of_tree ?_)
  show wpAny _ _ (callAny (.type "set") _) _ _ _
  refine wpAny_pure ⟨Code.quiet_builtin _ (by decide +kernel), codeAny_builtin F.entry_type_call ?_⟩
  rw [Around.under_plain (weight_type_call_type "set" [.ref l] []) rfl]
  repeat (any_goals (first | assumption | wp_step))
  refine codeAny_mono (code_set_led1 (.ref l) (E := E) (Q₁ := fun obj s₁ => obj = .ref s.heap.objs.size ∧ s₁ = { s with heap := s.heap.push (newSet w) }) ⟨rfl, rfl⟩) fun r s1 hr => ?_
  match r, hr with
  | .error e, hr => exact hr
  | .ok (.ret obj), hr =>
    obtain ⟨rfl, rfl⟩ := hr
    have gS : (s.heap.push (newSet w)).get? s.heap.objs.size = some (newSet w) := Heap.get?_push_size _ rfl
    have tS : Shared.TypeIs { s with heap := s.heap.push (newSet w) } (.ref s.heap.objs.size) "set" := ⟨_, gS, rfl⟩
    have v1 := F.called_set.init.lookup
    have v2 := F.called_set.init.bind (.ref s.heap.objs.size)
    repeat (any_goals (first | assumption | wp_step))
    refine codeAny_mono (codeAny_call_builtin (R := wants (fun r s2 => r = .none ∧ ∃ h' tk c, s2 = { s with heap := h', toks := tk } ∧ SetR w h' s.heap.objs.size (fun j => decide (j ∈ ns)) c ∧ c ≤ ns.length ∧
        (∀ b o, s.heap.get? b = some o → h'.get? b = some o)) E) F.called_set.init.plain F.entry_set_init (check_set_init_1 tS ?_)) fun r2 s2 hr2 => ?_
    · obtain ⟨⟨oc, od, odt, osl⟩, ho, hc, nl, hd⟩ := hl
      simp only at hc hd
      subst hc hd
      have lS : l < s.heap.objs.size := Heap.lt_size ho
      have ho1 : (s.heap.push (newSet w)).get? l = some { cls := .type "list", dict := od, data := .seq its nl, slots := osl } := Heap.get?_push_of_some _ ho
      have hl1 : (s.heap.push (newSet w)).IsList l its := ⟨_, ho1, rfl, nl, rfl⟩
      have w1 := F.sub_list_set
      have w2 := F.sub_list_frozenset
      have w3 : (Value.type "list" == Value.type "dict") = false := by decide
      unfold Builtin.«set.__init__» noKeywords Builtin.Frozenset.updateFrom
      generalize hPI : pyIter = PI
      wp_walk
      subst hPI
      refine wpAny_pyIter_list hl1 (wpAny_bind (wpAny_runValue ?_))
      have z1 : (s.heap.push (newSet w)).objs.size = s.heap.objs.size + 1 := Heap.size_push ..
      have ne1 : l ≠ (s.heap.push (newSet w)).objs.size := by rw [z1]; exact Nat.ne_of_lt (Nat.lt_succ_of_lt lS)
      have nin : s.heap.objs.size ∉ [(s.heap.push (newSet w)).objs.size, l] := by
        rw [z1]
        intro hm
        rcases List.mem_cons.mp hm with e | hm
        · omega
        · exact absurd (List.mem_singleton.mp hm) (Nat.ne_of_gt lS)
      have hval : ∀ (i : Nat) (v : Value), its[i]? = some v → ∃ k t, ns[i]? = some k ∧ v = .int k t := fun i v hv => by
        have hi : i < ns.length := by rw [← sz]; exact (Array.getElem?_eq_some_iff.mp hv).1
        obtain ⟨t, e⟩ := IntsAre.int_at hit i v (by rw [Array.getElem?_toList]; exact hv)
        exact ⟨ns[i], t, List.getElem?_eq_getElem hi, by rw [e, List.getD_eq_getElem?_getD, List.getElem?_eq_getElem hi]; rfl⟩
      refine set_update_ints ((Walks.list (show A.in1.in1.in1.handled = none by simp [hh]) _ l ne1 its).toS) s.heap.objs.size nin ns sz hb hval (its.size - 0) 0 _ (by omega) (Nat.zero_le _) ⟨⟨_, Heap.get?_push_size _ rfl, rfl, rfl⟩, hl1.push _⟩ ?s0 ?sR
      case s0 => exact ⟨0, Nat.le_refl 0, setR_new_at (Heap.get?_push_of_some _ gS)⟩
      case sR =>
        intro s' c' hm hc' hS'
        rw [sz] at hc'
        obtain ⟨h', g2, d2, tk', o2⟩ := s'
        obtain rfl : g2 = s.gens := hm.gens
        obtain rfl : d2 = s.drawn := hm.drawn
        obtain rfl : o2 = s.os := hm.os
        show wpAny _ _ _ _ _ _
        refine wpAny_pure ?_
        show wpAny _ _ (ret Value.none) _ _ _
        refine wpAny_pure ⟨rfl, h', tk', c', rfl, hS', hc', fun b o e => ?_⟩
        have hb0 : b < s.heap.objs.size := Heap.lt_size e
        refine hm.heap b o (fun hmem => ?_) (Heap.get?_push_of_some _ (Heap.get?_push_of_some _ e))
        rcases List.mem_cons.mp hmem with q | hmem
        · exact Nat.ne_of_lt hb0 q
        · have q := List.mem_singleton.mp hmem
          rw [z1] at q
          exact Nat.ne_of_lt (Nat.lt_succ_of_lt hb0) q
    · match r2, hr2 with
      | .error e, hr2 => exact hr2
      | .ok (.ret r), hr2 =>
        obtain ⟨rfl, h', tk, c', rfl, hS', hc', hk'⟩ := hr2
        repeat (any_goals (first | assumption | wp_step))
        exact h _ _ _ hS' hc' hk'
      | .ok .next, hr2 => exact hr2.elim
      | .ok .brk, hr2 => exact hr2.elim
      | .ok .cont, hr2 => exact hr2.elim
  | .ok .next, hr => exact hr.elim
  | .ok .brk, hr => exact hr.elim
  | .ok .cont, hr => exact hr.elim
end
end TL
set_option Elab.async false
set_option linter.all false
set_option maxRecDepth 100000
set_option maxHeartbeats 1000000
namespace TL
open PySem PySem.Spec PyProof.Rows L2
section
variable {X : Cx} {C : Cc} {W : WX} {pos : Pos}
/-! ### sorted -/
def alikeB (xs : List PyData) : Bool := xs.all fun x => xs.all fun y => PySem.W.alike x y
def isTup1 : PyData → Bool
  | .tuple (_ :: _) => true
  | _ => false
def isFlat : PyData → Bool
  | .none => false
  | .tuple _ => false
  | _ => true
def srtB (xs : List PyData) : Bool := alikeB xs && ((xs.all isTup1 || xs.all isFlat) && xs.all okD)
def dSort (xs : List PyData) : List PyData := xs.mergeSort (PySem.W.dataLe false fun x => x)
def gSorted : OV → Option OV
  | .d (.list xs) => if srtB xs then some (.lst (dSort xs)) else none
  | .lst xs => if srtB xs then some (.lst (dSort xs)) else none
  | _ => none
theorem srtB_alike {xs : List PyData} (h : srtB xs = true) : PySem.W.AllAlike (xs.map fun x => x) := by
  rw [List.map_id']
  obtain ⟨h1, _⟩ := Bool.and_eq_true_iff.mp h
  exact fun d hd d' hd' => List.all_eq_true.mp (List.all_eq_true.mp h1 d hd) d' hd'
theorem srtB_sort {xs : List PyData} (h : srtB xs = true) : PySem.W.Sortable (xs.map fun x => x) := by
  rw [List.map_id']
  obtain ⟨_, h2⟩ := Bool.and_eq_true_iff.mp h
  obtain ⟨h3, _⟩ := Bool.and_eq_true_iff.mp h2
  rcases Bool.or_eq_true_iff.mp h3 with h4 | h4
  · refine .inl fun d hd => ?_
    have q := List.all_eq_true.mp h4 d hd
    cases d with
    | tuple ys =>
      cases ys with
      | nil => cases q
      | cons y ys => exact ⟨y, ys, rfl⟩
    | _ => cases q
  · refine .inr fun d hd => ?_
    have q := List.all_eq_true.mp h4 d hd
    constructor
    · intro z; rw [z] at q; cases q
    · intro ys z; rw [z] at q; cases q
theorem srtB_depth {xs : List PyData} (h : srtB xs = true) : ∀ x ∈ xs, x.depth ≤ 64 := fun x hx => by
  obtain ⟨_, h2⟩ := Bool.and_eq_true_iff.mp h
  obtain ⟨_, h3⟩ := Bool.and_eq_true_iff.mp h2
  exact okD_depth (List.all_eq_true.mp h3 x hx)
theorem plainAll_of : ∀ {xs : List PyData}, (∀ x ∈ xs, okD x = true) → PyData.plainAll xs = true
  | [], _ => by simp [PyData.plainAll]
  | x :: xs, h => by
    rw [PyData.plainAll, okD_plain (h x List.mem_cons_self), plainAll_of fun y hy => h y (List.mem_cons_of_mem _ hy)]
    rfl
theorem srtB_plain {xs : List PyData} (h : srtB xs = true) : PyData.plainAll xs = true := by
  obtain ⟨_, h2⟩ := Bool.and_eq_true_iff.mp h
  obtain ⟨_, h3⟩ := Bool.and_eq_true_iff.mp h2
  exact plainAll_of fun x hx => List.all_eq_true.mp h3 x hx
theorem each_vals {P : Hp} : ∀ {vs : List V} {us : List Value} {xs : List PyData}, Vals vs us → DdAll P vs xs → PySem.W.EachIs (fun u d => ∃ v, RelV v u ∧ Dd P v d) us xs
  | _, _, _, .nil, .nil => .nil
  | _, _, _, .cons r t, .cons d t2 => .cons ⟨_, r, d⟩ (each_vals t t2)
theorem vals_each {P : Hp} : ∀ {us : List Value} {xs : List PyData}, PySem.W.EachIs (fun u d => ∃ v, RelV v u ∧ Dd P v d) us xs → ∃ vs, Vals vs us ∧ DdAll P vs xs
  | _, _, .nil => ⟨[], .nil, .nil⟩
  | _, _, .cons h t => by
    obtain ⟨v, r, d⟩ := h
    obtain ⟨vs, h1, h2⟩ := vals_each t
    exact ⟨v :: vs, .cons r h1, .cons d h2⟩
theorem each_reads {pins : List (Addr × Obj)} {σ : L2.St} {H : Hp} {s : Shared} (I : Inv X pins σ H s) : ∀ {vs : List V} {us : List Value} {xs : List PyData}, Vals vs us → DpAll X.K H vs xs → PySem.W.EachIs (fun u d => ∃ as, Reads s.heap u d as) us xs
  | _, _, _, .nil, .nil => .nil
  | _, _, _, .cons r t, .cons d t2 => .cons (Dp.reads I _ _ _ d r) (each_reads I t t2)
/-- sorted(l) over the heap -/
def rSortD (K : PySem.W.Frag) : List V → Hp → VK → Prop := fun us H Q => ∃ a vs xs P, us = [V.ref a] ∧ Le P H ∧ SqL K H a vs ∧ DdAll P vs xs ∧ srtB xs = true ∧ ∀ vs' p, DdAll P vs' (dSort xs) → H p = none → Q (.ref p) (upd H p (.lst vs'))
theorem cr_sortD (hu : X.A.units + 200 < cLine) : CallR X (.builtin "sorted") (rSortD X.K) := by
  intro pins s σ H us us' Q I r h
  obtain ⟨a, vs, xs, P, rfl, l, hs, d, hb, q⟩ := h
  obtain ⟨its, rv, hl, hz⟩ := I.list hs
  rw [Vals.ref1 r]
  have hlen := dpAll_length d
  refine PySem.W.sorted_data (R := fun u d => ∃ v, RelV v u ∧ Dd P v d) (enc := fun x => x) hl.isList (each_vals rv d) (each_reads I rv (toK_all (srtB_plain hb) (l.dpAll d))) (srtB_alike hb) (srtB_sort hb) (by rw [← hlen]; exact hz) (fun b hb' => by
    have := srtB_depth hb b hb'
    show X.A.units + 2 + b.depth < cLine
    omega) fun out h1 h2 => ?_
  obtain ⟨vs', rv', d'⟩ := vals_each h2
  obtain ⟨ep, he⟩ := sortedAll_at s.heap its out.toArray
  have hl' : vs'.length ≤ sizeLine := by
    have e1 := rv'.length
    rw [e1, h1, ← hlen]
    exact hz
  exact ⟨.ref _, upd H (s.heap.objs.size + 1) (.lst vs'), I.laid (t' := s.toks) (fun _ _ => sortedAll_old) (Nat.le_succ _) ⟨hl', out, ep, rv', he⟩, rfl, q vs' _ d' (I.hok.fresh (Nat.le_succ _))⟩
theorem cr_sorted (hu : X.A.units + 200 < cLine) : CallR X (.builtin "sorted") (rOne C gSorted) := CallR.ex fun vs H Q h => by
  obtain ⟨v, P, env, fp, σ, ov, ft, r, rfl, s, o, t, e, k⟩ := h
  have fin : ∀ (a : Addr) (vs : List V) (xs : List PyData), v = .ref a → SqL K0 H a vs → DdAll P vs xs → (if srtB xs then some (OV.lst (dSort xs)) else none) = some r → ∃ r' : List V → Hp → VK → Prop, CallR X (.builtin "sorted") r' ∧ r' [v] H Q := fun a vs xs ev hs d e => by
    subst ev
    by_cases hb : srtB xs = true
    · rw [if_pos hb] at e
      cases e
      exact ⟨_, cr_sortD hu, a, vs, xs, P, rfl, s.le, toK_L hs, d, hb, fun vs' p d' hp => rOV.newL s d' k hp⟩
    · rw [if_neg hb] at e
      cases e
  cases o with
  | d d =>
    cases d with
    | lst h a => exact fin _ _ _ rfl (s.le.sqL h) a e
    | _ => cases e
  | lst h a => exact fin _ _ _ rfl (SqL.of h) a e
  | _ => cases e
theorem boot_sorted : bootBuiltins "sorted" = some (.builtin "sorted") := by kernel_rfl
theorem boot_list : bootBuiltins "list" = some (.type "list") := by kernel_rfl
theorem boot_tuple : bootBuiltins "tuple" = some (.type "tuple") := by kernel_rfl
theorem boot_set : bootBuiltins "set" = some (.type "set") := by kernel_rfl
/-! ### sorted(set(l)), l a list of ints or of pairs -/
def intsOf : List PyData → Option (List Int)
  | [] => some []
  | .int i :: r => (intsOf r).map (i :: ·)
  | _ => none
def pairsOf : List PyData → Option (List (Int × Int))
  | [] => some []
  | .tuple [.int i, .int j] :: r => (pairsOf r).map ((i, j) :: ·)
  | _ => none
def pairD (p : Int × Int) : PyData := .tuple [.int p.1, .int p.2]
def pairLe (p q : Int × Int) : Bool := decide (p.1 < q.1 ∨ (p.1 = q.1 ∧ p.2 ≤ q.2))
def setI (ns : List Int) : List Int := ns.eraseDups.mergeSort (fun a b => decide (a ≤ b))
def setP (ps : List (Int × Int)) : List (Int × Int) := ps.eraseDups.mergeSort pairLe
theorem intsOf_eq : ∀ {xs : List PyData} {ns : List Int}, intsOf xs = some ns → xs = ns.map .int
  | [], ns, h => by cases h; rfl
  | .int i :: r, ns, h => by
    obtain ⟨ms, h1, h2⟩ := Option.map_eq_some_iff.mp (show (intsOf r).map (i :: ·) = some ns from h)
    subst h2
    rw [intsOf_eq h1]
    rfl
  | .none :: _, _, h => by cases h
  | .bool _ :: _, _, h => by cases h
  | .str _ :: _, _, h => by cases h
  | .list _ :: _, _, h => by cases h
  | .tuple _ :: _, _, h => by cases h
theorem pairsOf_eq : ∀ {xs : List PyData} {ns : List (Int × Int)}, pairsOf xs = some ns → xs = ns.map pairD
  | [], ns, h => by cases h; rfl
  | x :: r, ns, h => by
    unfold pairsOf at h
    split at h
    · rename_i e; cases e
    · rename_i i j r' e
      cases e
      obtain ⟨ms, h1, h2⟩ := Option.map_eq_some_iff.mp h
      subst h2
      rw [pairsOf_eq h1]
      rfl
    · cases h
theorem pairwise_lt_unique : ∀ {l m : List Int}, l.Pairwise (· < ·) → m.Pairwise (· < ·) → (∀ k, k ∈ l ↔ k ∈ m) → l = m
  | [], [], _, _, _ => rfl
  | [], y :: m, _, _, h => by simpa using (h y).mpr List.mem_cons_self
  | x :: l, [], _, _, h => by simpa using (h x).mp List.mem_cons_self
  | x :: l, y :: m, h1, h2, h => by
    obtain ⟨a1, a2⟩ := List.pairwise_cons.mp h1
    obtain ⟨b1, b2⟩ := List.pairwise_cons.mp h2
    have e : x = y := by
      rcases List.mem_cons.mp ((h x).mp List.mem_cons_self) with e | e
      · exact e
      · rcases List.mem_cons.mp ((h y).mpr List.mem_cons_self) with e' | e'
        · exact e'.symm
        · have := a1 y e'
          have := b1 x e
          omega
    subst e
    rw [pairwise_lt_unique a2 b2 fun k => ?_]
    constructor
    · intro hk
      rcases List.mem_cons.mp ((h k).mp (List.mem_cons_of_mem _ hk)) with e | e
      · have := a1 k hk
        omega
      · exact e
    · intro hk
      rcases List.mem_cons.mp ((h k).mpr (List.mem_cons_of_mem _ hk)) with e | e
      · have := b1 k hk
        omega
      · exact e
theorem eraseDups_nodup {α : Type} [BEq α] [LawfulBEq α] : ∀ (n : Nat) (l : List α), l.length ≤ n → l.eraseDups.Nodup
  | _, [], _ => by simp
  | 0, x :: l, h => by simp at h
  | n + 1, x :: l, h => by
    rw [List.eraseDups_cons]
    refine List.nodup_cons.mpr ⟨fun hm => ?_, eraseDups_nodup n _ (Nat.le_trans (List.length_filter_le ..) (by simpa using h))⟩
    rw [List.mem_eraseDups] at hm
    have := (List.mem_filter.mp hm).2
    simp at this
theorem setI_sorted (ns : List Int) : (setI ns).Pairwise (· < ·) := by
  have h1 : (setI ns).Pairwise (fun a b => decide (a ≤ b) = true) := List.pairwise_mergeSort (le := fun a b => decide (a ≤ b)) (fun a b c h1 h2 => by simp at *; omega) (fun a b => by simp; omega) _
  have h2 : (setI ns).Nodup := (List.mergeSort_perm _ _).nodup_iff.mpr (eraseDups_nodup _ _ (Nat.le_refl _))
  refine (List.Pairwise.and h1 h2).imp fun {a b} ⟨h3, h4⟩ => ?_
  have h3 := of_decide_eq_true h3
  omega
theorem mem_setI {ns : List Int} {k : Int} : k ∈ setI ns ↔ k ∈ ns := by
  unfold setI
  rw [(List.mergeSort_perm _ _).mem_iff, List.mem_eraseDups]
def rSetI (w : World) (K : PySem.W.Frag) : List V → Hp → VK → Prop := fun xs H Q => ∃ (l : Addr) (ns : List Int), xs = [V.ref l] ∧ SqL K H l (ns.map V.int) ∧ ns.length + 1 < scanBound ∧ ∀ a c, H a = none → c ≤ ns.length → Q (.ref a) (upd H a (SetO w a (fun j => decide (j ∈ ns)) c))
theorem cr_setI (hc : X.calm = true) : CallR X (.type "set") (rSetI X.w X.K) := by
  intro pins s σ H us us' Q I r h
  obtain ⟨l, ns, rfl, hl, hb, q⟩ := h
  rw [Vals.ref1 r]
  obtain ⟨its, rv, pl, hz⟩ := I.list hl
  refine set_listI ns (I.ok.hd hc) pl.isList (by simpa using intsAre_of rv) hb fun h' tk c R hcl k => ?_
  exact ⟨.ref s.heap.objs.size, upd H s.heap.objs.size (SetO X.w s.heap.objs.size (fun j => decide (j ∈ ns)) c), I.laid (t' := tk) k (Nat.le_refl _) (setO_new R), rfl, q _ c (I.hok.fresh (Nat.le_refl _)) hcl⟩
def pairOk (p : Int × Int) : Bool := decide (0 ≤ p.1 ∧ p.1 < 64 ∧ 0 ≤ p.2 ∧ p.2 < 64)
def gSset : PyData → Option OV
  | .list xs => if xs.length < 64 then (match intsOf xs with
    | some ns => some (.lst ((setI ns).map .int))
    | none => (match pairsOf xs with
      | some ps => if ps.all pairOk then some (.lst ((setP ps).map pairD)) else none
      | none => none)) else none
  | _ => none
def mSset (m : M PyData) : M OV := m >>= fun x => M.opt (gSset x)
theorem dpAll_ints {P : Hp} : ∀ {vs : List V} {ns : List Int}, DdAll P vs (ns.map .int) → vs = ns.map V.int
  | _, [], .nil => rfl
  | _, n :: ns, .cons h t => by
    rw [dp_int h, dpAll_ints t]
    rfl
theorem ints_dpAll {P : Hp} : ∀ (ns : List Int), DdAll P (ns.map V.int) (ns.map .int)
  | [] => .nil
  | n :: ns => .cons (.int n) (ints_dpAll ns)
theorem dpAll_pairs {P : Hp} : ∀ {vs : List V} {ps : List (Int × Int)}, DdAll P vs (ps.map pairD) → ∃ as : List Addr, as.length = ps.length ∧ vs = as.map V.ref ∧ ∀ (i : Nat) (a : Addr) (p : Int × Int), as[i]? = some a → ps[i]? = some p → SqT K0 P a [V.int p.1, V.int p.2]
  | _, [], .nil => ⟨[], rfl, rfl, fun i a p h => by simp at h⟩
  | _, p :: ps, .cons h t => by
    obtain ⟨as, h1, h2, h3⟩ := dpAll_pairs t
    cases h with
    | tup hq a =>
      cases a with
      | cons d1 r1 =>
        cases r1 with
        | cons d2 r2 =>
          cases r2
          obtain rfl := dp_int d1
          obtain rfl := dp_int d2
          refine ⟨_ :: as, congrArg Nat.succ h1, by rw [h2]; rfl, fun i b q e1 e2 => ?_⟩
          cases i with
          | zero =>
            simp only [List.getElem?_cons_zero, Option.some.injEq] at e1 e2
            subst e1 e2
            exact hq
          | succ i => exact h3 i b q (by simpa using e1) (by simpa using e2)
theorem pairs_dpAll {P : Hp} : ∀ {as : List Addr} {ps : List (Int × Int)}, as.length = ps.length → (∀ (i : Nat) (a : Addr) (p : Int × Int), as[i]? = some a → ps[i]? = some p → SqT K0 P a [V.int p.1, V.int p.2]) → DdAll P (as.map V.ref) (ps.map pairD)
  | [], [], _, _ => .nil
  | [], _ :: _, h, _ => by simp at h
  | _ :: _, [], h, _ => by simp at h
  | a :: as, p :: ps, h, k => .cons (.tup (k 0 a p rfl rfl) (.cons (.int _) (.cons (.int _) .nil))) (pairs_dpAll (by simpa using h) fun i b q e1 e2 => k (i + 1) b q (by simpa using e1) (by simpa using e2))
theorem pairLe_total (p q : Int × Int) : (pairLe p q || pairLe q p) = true := by
  unfold pairLe
  simp only [Bool.or_eq_true, decide_eq_true_eq]
  omega
theorem pairLe_trans (p q r : Int × Int) (h1 : pairLe p q = true) (h2 : pairLe q r = true) : pairLe p r = true := by
  unfold pairLe at *
  simp only [decide_eq_true_eq] at *
  omega
theorem pairLe_anti (p q : Int × Int) (h1 : pairLe p q = true) (h2 : pairLe q p = true) : p = q := by
  unfold pairLe at *
  simp only [decide_eq_true_eq] at *
  exact Prod.ext (by omega) (by omega)
theorem setP_sorted (ps : List (Int × Int)) : (setP ps).Pairwise (fun p q => pairLe p q = true) := List.pairwise_mergeSort pairLe_trans pairLe_total _
theorem setP_nodup (ps : List (Int × Int)) : (setP ps).Nodup := (List.mergeSort_perm _ _).nodup_iff.mpr (eraseDups_nodup _ _ (Nat.le_refl _))
theorem mem_setP {ps : List (Int × Int)} {k : Int × Int} : k ∈ setP ps ↔ k ∈ ps := by
  unfold setP
  rw [(List.mergeSort_perm _ _).mem_iff, List.mem_eraseDups]
theorem sortedP_unique : ∀ {l m : List (Int × Int)}, l.Pairwise (fun p q => pairLe p q = true) → m.Pairwise (fun p q => pairLe p q = true) → l.Nodup → m.Nodup → (∀ k, k ∈ l ↔ k ∈ m) → l = m := fun {l m} h1 h2 n1 n2 h => by
  have hp : l.Perm m := (List.perm_ext_iff_of_nodup n1 n2).mpr h
  exact hp.eq_of_pairwise (fun a b _ _ h3 h4 => pairLe_anti a b h3 h4) h1 h2
/-- the pairs as the library's tuples of ints -/
def kOf (p : Int × Int) : List Int := [p.1, p.2]
theorem code_kOf (p : Int × Int) : TS.code 64 (kOf p) = p.1 * 64 + p.2 := code_pair p.1 p.2
theorem sset_pairs {ps : List (Int × Int)} {ks L L' : List (Addr × List Int)} (hk : ks.map (·.2) = ps.map kOf) (hok : ps.all pairOk = true) (h1 : ∀ p ∈ L, p ∈ ks) (h2 : ∀ p ∈ ks, p.2 ∈ L.map (·.2)) (pm : L'.Perm L) (nd : (L'.map (·.2)).Nodup)
    (pw : L'.Pairwise (fun q r => TS.code 64 q.2 ≤ TS.code 64 r.2)) : L'.map (·.2) = (setP ps).map kOf := by
  have inj : ∀ p q : Int × Int, kOf p = kOf q → p = q := fun p q e => by
    unfold kOf at e
    simp only [List.cons.injEq, and_true] at e
    exact Prod.ext e.1 e.2
  have hin : ∀ x ∈ L'.map (·.2), ∃ p ∈ ps, x = kOf p := fun x hx => by
    obtain ⟨q, hq, rfl⟩ := List.mem_map.mp hx
    have hq2 := h1 q (pm.mem_iff.mp hq)
    have : q.2 ∈ ps.map kOf := by rw [← hk]; exact List.mem_map.mpr ⟨q, hq2, rfl⟩
    obtain ⟨p, hp, e⟩ := List.mem_map.mp this
    exact ⟨p, hp, e.symm⟩
  have hall : ∀ p ∈ ps, kOf p ∈ L'.map (·.2) := fun p hp => by
    have : kOf p ∈ ks.map (·.2) := by rw [hk]; exact List.mem_map.mpr ⟨p, hp, rfl⟩
    obtain ⟨q, hq, e⟩ := List.mem_map.mp this
    have := h2 q hq
    rw [e] at this
    exact (pm.map (·.2)).mem_iff.mpr this
  let toP : List Int → Int × Int := fun l => (l.getD 0 0, l.getD 1 0)
  have tk : ∀ p, toP (kOf p) = p := fun p => rfl
  have e1 : L'.map (·.2) = ((L'.map (·.2)).map toP).map kOf := by
    rw [List.map_map]
    conv => lhs; rw [← List.map_id (L'.map (·.2))]
    refine List.map_congr_left fun x hx => ?_
    obtain ⟨p, _, rfl⟩ := hin x hx
    rfl
  rw [e1]
  congr 1
  have bd : ∀ x ∈ L'.map (·.2), ∃ p ∈ ps, x = kOf p ∧ 0 ≤ p.1 ∧ p.1 < 64 ∧ 0 ≤ p.2 ∧ p.2 < 64 := fun x hx => by
    obtain ⟨p, hp, e⟩ := hin x hx
    exact ⟨p, hp, e, of_decide_eq_true (List.all_eq_true.mp hok p hp)⟩
  have pw2 : (L'.map (·.2)).Pairwise (fun x y => TS.code 64 x ≤ TS.code 64 y) := List.pairwise_map.mpr pw
  refine sortedP_unique ?_ (setP_sorted ps) ?_ (setP_nodup ps) fun k => ?_
  · refine List.pairwise_map.mpr (pw2.imp_of_mem fun {x y} hx hy hc => ?_)
    obtain ⟨p, _, rfl, b1, b2, b3, b4⟩ := bd x hx
    obtain ⟨q, _, rfl, c1, c2, c3, c4⟩ := bd y hy
    rw [code_kOf, code_kOf] at hc
    rw [tk, tk]
    unfold pairLe
    rw [decide_eq_true_eq]
    omega
  · refine List.pairwise_map.mpr (List.Pairwise.imp_of_mem (fun {x y} hx hy hne e => hne ?_) nd)
    obtain ⟨p, _, rfl, _⟩ := bd x hx
    obtain ⟨q, _, rfl, _⟩ := bd y hy
    rw [tk, tk] at e
    rw [e]
  · rw [mem_setP]
    constructor
    · intro h
      obtain ⟨x, hx, e⟩ := List.mem_map.mp h
      obtain ⟨p, hp, rfl, _⟩ := bd x hx
      rw [tk] at e
      rw [← e]
      exact hp
    · intro h
      exact List.mem_map.mpr ⟨kOf k, hall k h, tk k⟩
theorem sE_sset {p p2 q : Pos} {e : Expr} {m : M PyData} (hc : X.calm = true) (hu : X.A.units + 200 < cLine) (hg : Gl X "sorted") (hm : X.mg "sorted" = none) (hg2 : Gl X "set") (hm2 : X.mg "set" = none) (h : PE X e (liftD C W m)) (ns : NS e) :
    PE X (.Call (.Name "sorted" p) [.Call (.Name "set" p2) [e] [] q] [] pos) (liftE C W (mSset m)) := by
  let r1 : List V → Hp → VK → Prop := fun vs H Q => rSetI X.w X.K vs H Q ∨ rSetOfT X.K X.prog X.w vs H Q
  let r2 : List V → Hp → VK → Prop := fun vs H Q => rSortedSet X.w vs H Q ∨ rSortedT X.K X.prog X.w vs H Q
  have c1 : CallR X (.type "set") r1 := CallR.ex fun vs H Q h => by
    rcases h with h | h
    · exact ⟨_, cr_setI hc, h⟩
    · exact ⟨_, cr_setOfT hc (by omega), h⟩
  have c2 : CallR X (.builtin "sorted") r2 := CallR.ex fun vs H Q h => by
    rcases h with h | h
    · exact ⟨_, cr_sortedSet hc, h⟩
    · exact ⟨_, cr_sortedT hc, h⟩
  refine PE.imp (pe_callB (r := r2) c2 hg hm boot_sorted (pa_cons (pe_callTy (r := r1) c1 hg2 hm2 boot_set (pa_cons h pa_nil (ns [] _)) (by decide) (by decide) (ns [] _) backTo_nil) pa_nil rfl) (by decide) (by decide) rfl backTo_nil) fun σ H Q q => ?_
  refine liftG.seq q fun x env' P' fp' H' v s r q => ?_
  obtain ⟨o, eo, q'⟩ := opt_some q
  cases r with
  | lst hq a =>
    rename_i l vs xs
    have eo : (if xs.length < 64 then (match intsOf xs with
      | some ns => some (OV.lst ((setI ns).map .int))
      | none => (match pairsOf xs with
        | some ps => if ps.all pairOk then some (.lst ((setP ps).map pairD)) else none
        | none => none)) else none) = some o := eo
    by_cases hlen : xs.length < 64
    · rw [if_pos hlen] at eo
      cases ei : intsOf xs with
      | some ns' =>
        rw [ei] at eo
        cases eo
        have ex := intsOf_eq ei
        subst ex
        have ev := dpAll_ints a
        subst ev
        rw [List.length_map] at hlen
        refine .inl ⟨l, ns', rfl, toK_L (s.le.sqL hq), Nat.lt_of_lt_of_le (Nat.add_lt_add_right hlen 1) (by unfold scanBound; omega), fun b c hb hcl => ?_⟩
        obtain ⟨l2, s2⟩ := s.laid hb (u := SetO X.w b (fun j => decide (j ∈ ns')) c) trivial
        refine .inl ⟨b, _, c, rfl, upd_same, Nat.lt_of_le_of_lt hcl hlen, fun ms p h1 h2 h3 hp => ?_⟩
        have em : ms = setI ns' := pairwise_lt_unique h1 (setI_sorted ns') fun k => by
          rw [h2, mem_setI]
          exact decide_eq_true_iff
        subst em
        exact rOV.newL s2 (ints_dpAll _) (fun P2 fp2 H2 v2 l3 s3 r3 => q' P2 fp2 H2 v2 (l2.trans l3) s3 r3) hp
      | none =>
        rw [ei] at eo
        cases ep : pairsOf xs with
        | none => rw [ep] at eo; cases eo
        | some ps =>
          rw [ep] at eo
          have eo : (if ps.all pairOk then some (OV.lst ((setP ps).map pairD)) else none) = some o := eo
          by_cases hok : ps.all pairOk = true
          · rw [if_pos hok] at eo
            cases eo
            have ex := pairsOf_eq ep
            subst ex
            rw [List.length_map] at hlen
            obtain ⟨as, hl1, hl2, hl3⟩ := dpAll_pairs a
            subst hl2
            have hks : (as.zip (ps.map kOf)).map (·.2) = ps.map kOf := List.map_snd_zip (by rw [List.length_map, hl1]; exact Nat.le_refl _)
            have hk1 : (as.zip (ps.map kOf)).map (fun p => V.ref p.1) = as.map V.ref := by
              have : (as.zip (ps.map kOf)).map (fun p => V.ref p.1) = ((as.zip (ps.map kOf)).map (·.1)).map V.ref := by rw [List.map_map]; rfl
              rw [this, List.map_fst_zip (by rw [List.length_map, hl1]; exact Nat.le_refl _)]
            have hsq : ∀ p ∈ as.zip (ps.map kOf), SqT K0 P' p.1 (p.2.map V.int) ∧ ∃ z ∈ ps, p.2 = kOf z := fun p hp => by
              obtain ⟨i, hi, e⟩ := List.mem_iff_getElem.mp hp
              have e' : (as.zip (ps.map kOf))[i]? = some p := by rw [List.getElem?_eq_getElem hi, e]
              rw [List.getElem?_zip_eq_some] at e'
              obtain ⟨e1, e2⟩ := e'
              rw [List.getElem?_map] at e2
              obtain ⟨z, e3, e4⟩ := Option.map_eq_some_iff.mp e2
              have := hl3 i p.1 z e1 e3
              refine ⟨?_, z, List.mem_of_getElem? e3, e4.symm⟩
              rw [← e4]
              exact this
            refine .inr ⟨l, as.zip (ps.map kOf), rfl, by rw [hk1]; exact toK_L (s.le.sqL hq), fun p hp => toK_T (s.le.sqT (hsq p hp).1), by rw [List.length_zip, List.length_map, hl1]; omega, fun b L hb h1 h2 => ?_⟩
            obtain ⟨l2, s2⟩ := s.laid hb (u := SetTO X.prog X.w b L) trivial
            refine .inr ⟨b, L, 2, 64, rfl, upd_same, fun p hp => toK_T (s2.le.sqT (l2.sqT (hsq p (h1 p hp)).1)), by omega, fun p hp => ?_, fun L' p pm nd h64 pw hp => ?_⟩
            · obtain ⟨_, z, hz, e⟩ := hsq p (h1 p hp)
              have hz2 : 0 ≤ z.1 ∧ z.1 < 64 ∧ 0 ≤ z.2 ∧ z.2 < 64 := of_decide_eq_true (List.all_eq_true.mp hok z hz)
              rw [e]
              refine ⟨rfl, fun m hm => ?_⟩
              rcases List.mem_cons.mp hm with e | hm
              · rw [e]; exact ⟨hz2.1, hz2.2.1⟩
              · rw [List.mem_singleton.mp hm]; exact ⟨hz2.2.2.1, hz2.2.2.2⟩
            · have key := sset_pairs hks hok h1 h2 pm nd pw
              have hl' : (L'.map (·.1)).length = (setP ps).length := by
                have := congrArg List.length key
                rw [List.length_map, List.length_map] at this
                rw [List.length_map]
                exact this
              have hr : L'.map (fun q => V.ref q.1) = (L'.map (·.1)).map V.ref := by rw [List.map_map]; rfl
              rw [hr]
              refine rOV.newL s2 (pairs_dpAll hl' fun i b' z e1 e2 => ?_) (fun P2 fp2 H2 v2 l3 s3 r3 => q' P2 fp2 H2 v2 (l2.trans l3) s3 r3) hp
              rw [List.getElem?_map] at e1
              obtain ⟨w, e3, e4⟩ := Option.map_eq_some_iff.mp e1
              have e5 : (L'.map (·.2))[i]? = some w.2 := by rw [List.getElem?_map, e3]; rfl
              rw [key, List.getElem?_map, e2] at e5
              have e6 : kOf z = w.2 := Option.some.inj e5
              have hw := (hsq w (h1 w (pm.mem_iff.mp (List.mem_of_getElem? e3)))).1
              rw [← e4]
              have : w.2.map V.int = [V.int z.1, V.int z.2] := by rw [← e6]; rfl
              rw [this] at hw
              exact l2.sqT hw
          · rw [if_neg hok] at eo
            cases eo
    · rw [if_neg hlen] at eo
      cases eo
  | _ => cases eo
end
end TL
set_option Elab.async false
set_option linter.all false
set_option maxRecDepth 100000
set_option maxHeartbeats 1000000
namespace TL
open PySem PySem.Spec PyProof.Rows L2
section
variable {X : Cx} {C : Cc} {W : WX} {pos : Pos}
/-! ### zip -/
def zipD (xs ys : List PyData) : List PyData := List.zipWith (fun x y => .tuple [x, y]) xs ys
theorem zipD_get {xs ys : List PyData} {i : Nat} {z : PyData} (h : (zipD xs ys)[i]? = some z) : ∃ x y, xs[i]? = some x ∧ ys[i]? = some y ∧ z = .tuple [x, y] := by
  unfold zipD at h
  rw [List.getElem?_zipWith] at h
  split at h
  · rename_i x y h1 h2
    cases h
    exact ⟨x, y, h1, h2, rfl⟩
  · cases h
theorem zipD_length {xs ys : List PyData} : (zipD xs ys).length = min xs.length ys.length := List.length_zipWith
theorem wk_zip {P : Hp} {xs ys : List PyData} {vs us : List V} (d : DdAll P vs xs) (d2 : DdAll P us ys) {J : It} (hs : ∀ i H, Le P H → vs.length ≤ i ∨ us.length ≤ i → J.stop i H) (hg : ∀ i H x y, Le P H → vs[i]? = some x → us[i]? = some y → J.go i H ∧
    ∀ v H', J.yld i H v H' → ∃ T, v = .ref T ∧ H T = none ∧ H' = upd H T (.tup [x, y])) : Wk C J P (zipD xs ys) := fun i P' env fp F σ H l s => by
  have l1 := dpAll_length d
  have l2 := dpAll_length d2
  refine ⟨fun hi => hs i H (l.trans s.le) (by rw [zipD_length] at hi; omega), fun z hz => ?_⟩
  obtain ⟨x, y, h1, h2, rfl⟩ := zipD_get hz
  obtain ⟨v, h3, h4⟩ := dpAll_get d h1
  obtain ⟨u, h5, h6⟩ := dpAll_get d2 h2
  obtain ⟨g1, g2⟩ := hg i H v u (l.trans s.le) h3 h5
  refine ⟨g1, fun w H' yl => ?_⟩
  obtain ⟨T, rfl, hT, rfl⟩ := g2 w H' yl
  obtain ⟨l3, s3⟩ := s.laid hT (u := .tup [v, u]) trivial
  exact ⟨_, l3, s3, .tup (SqT.of upd_same) (.cons ((l.trans l3).dp h4) (.cons ((l.trans l3).dp h6) .nil))⟩
/-- zip(a, b): two lists or two tuples -/
def mZip (a b : M PyData) : M (List PyData) := a >>= fun x => b >>= fun y => match x, y with
  | .list xs, .list ys => pure (zipD xs ys)
  | .tuple xs, .tuple ys => pure (zipD xs ys)
  | _, _ => fun _ => none
theorem sI_zip {elts : List Expr} {kk : Nat} {tpos p : Pos} {a b : Expr} {ma mb : M PyData} (hg : Gl X "zip") (hm : X.mg "zip" = none) (ha : PE X a (liftD C W ma)) (hb : PE X b (liftD C W mb)) (na : NS a) (nb : NS b) :
    PI X (.Tuple elts kk tpos) (.Call (.Name "zip" p) [a, b] [] pos) (liftI C W (mZip ma mb)) :=
  PI.imp (RZ.pi_zipA hg hm (pa_cons ha (pa_cons hb pa_nil (nb [] _)) (na [b] _)) (na [b] _) (by rw [nb [] _]; rfl)) fun σ H R q => by
    obtain ⟨P, env, fp, s, h'⟩ := q
    refine ⟨P, env, fp, s, postI.seq h' fun x env' P' fp' H' v e l s' r q => ?_⟩
    refine ⟨P', env', fp', s', postI.seq q fun y env2 P2 fp2 H2 u e2 l2 s2 r2 q2 => ?_⟩
    have r1 := l2.dp r
    cases r1 with
    | lst h1 a1 =>
      rename_i ad vs xs
      cases r2 with
      | lst h2 a2 =>
        rename_i bd us ys
        refine ⟨ad, bd, vs, us, rfl, .inl ⟨toK_L (s2.le.sqL h1), toK_L (s2.le.sqL h2), q2 P2 fp2 H2 _ (Le.refl _) s2 (wk_zip a1 a2 (fun i H hH hi => ⟨vs, us, toK_L (hH.sqL h1), toK_L (hH.sqL h2), hi⟩) fun i H x y hH hx hy => ⟨⟨vs, us, x, y, toK_L (hH.sqL h1), toK_L (hH.sqL h2), hx, hy⟩, fun w H' yl => ?_⟩)⟩⟩
        obtain ⟨T, x', y', rfl, hT, rfl, q1, q3⟩ := yl
        have ex := q1 vs (toK_L (hH.sqL h1))
        have ey := q3 us (toK_L (hH.sqL h2))
        rw [hx] at ex
        rw [hy] at ey
        cases ex
        cases ey
        exact ⟨T, rfl, hT, rfl⟩
      | _ => exact False.elim q2
    | tup h1 a1 =>
      rename_i ad vs xs
      cases r2 with
      | tup h2 a2 =>
        rename_i bd us ys
        refine ⟨ad, bd, vs, us, rfl, .inr ⟨toK_T (s2.le.sqT h1), toK_T (s2.le.sqT h2), q2 P2 fp2 H2 _ (Le.refl _) s2 (wk_zip a1 a2 (fun i H hH hi => ⟨vs, us, toK_T (hH.sqT h1), toK_T (hH.sqT h2), hi⟩) fun i H x y hH hx hy => ⟨⟨vs, us, x, y, toK_T (hH.sqT h1), toK_T (hH.sqT h2), hx, hy⟩, fun w H' yl => ?_⟩)⟩⟩
        obtain ⟨T, x', y', rfl, hT, rfl, q1, q3⟩ := yl
        have ex := q1 vs (toK_T (hH.sqT h1))
        have ey := q3 us (toK_T (hH.sqT h2))
        rw [hx] at ex
        rw [hy] at ey
        cases ex
        cases ey
        exact ⟨T, rfl, hT, rfl⟩
      | _ => exact False.elim q2
    | _ => exact False.elim q2
/-! ### x, y = a, b stored side by side -/
def mPar (i j : Nat) (a b : M OV) : M Fl := a >>= fun x => b >>= fun y => fun e => some (.ok .nx ((e.set i (some x)).set j (some y)))
/-- an owned value held while more is run -/
def holdH (H : Hp) (ft : List Addr) : Hp := fun b => if b ∈ ft then H b else none
theorem hold_mk {P : Hp} {fp : Nat → List Addr} {H : Hp} {ov : OV} {v : V} {ft : List Addr} (o : Own C.exc P H ov v ft) (t : Tmp C P fp ft) : Beside C P fp H (holdH H ft) := by
  refine ⟨fun b u q => ?_, fun i b hb => ?_⟩
  · unfold holdH at q
    split at q
    · rename_i hm
      obtain ⟨w, hw, hz⟩ := o.there b hm
      rw [q] at hw
      cases hw
      exact ⟨q, hz, (t.fre b hm).1, (t.fre b hm).2⟩
    · cases q
  · unfold holdH
    rw [if_neg (t.dis i b hb)]
theorem hold_back {P P' : Hp} {fp : Nat → List Addr} {H H' : Hp} {ov : OV} {v : V} {ft : List Addr} (o : Own C.exc P H ov v ft) (l : Le P P') (b : Beside C P' fp H' (holdH H ft)) : Own C.exc P' H' ov v ft ∧ Tmp C P' fp ft := by
  have key : ∀ a ∈ ft, ∃ u, holdH H ft a = some u ∧ H a = some u := fun a ha => by
    obtain ⟨u, hu, _⟩ := o.there a ha
    exact ⟨u, by unfold holdH; rw [if_pos ha]; exact hu, hu⟩
  refine ⟨o.frame l fun a ha => ?_, ⟨fun i a h1 h2 => ?_, fun a ha => ?_⟩⟩
  · obtain ⟨u, h1, h2⟩ := key a ha
    exact (b.at_ a u h1).1.trans h2.symm
  · obtain ⟨u, h3, _⟩ := key a h2
    have := b.fp i a h1
    rw [h3] at this
    cases this
  · obtain ⟨u, h3, _⟩ := key a ha
    exact ⟨(b.at_ a u h3).2.2.1, (b.at_ a u h3).2.2.2⟩
/-- a value, then one more beside it -/
def PEH (X : Cx) (C : Cc) (W : WX) (e : Expr) (m : M OV) : Prop := ∀ F, PE X e (liftE (C.withF F) W m)
theorem PEH.pe {e : Expr} {m : M OV} (h : PEH X C W e m) : PE X e (fun σ H Q => ∃ F, liftE (C.withF F) W m σ H Q) := PE.ex fun σ H Q ⟨F, q⟩ => ⟨_, h F, q⟩
theorem postS.seqF {α β : Type} {R : RelR α β} {P G : Hp} {σ : L2.St} {D : Ends} {N : β → Hp → Prop} {f : α → M Fl} : ∀ {o : Option (Out α)}, postS C W P D (Out.andThen o f) →
    (∀ a env' P' fp' H' v, Le P P' → StOk (C.withF (join C.F G)) P' env' fp' σ H' → R P' fp' H' a v → postS C W P' D (f a env') → N v H') → postG (C.withF (join C.F G)) W R P N σ o
  | none, h, _ => h
  | some (.ok r e), h, k => fun P1 fp1 H1 v l1 s1 r1 => k r e P1 fp1 H1 v l1 s1 r1 (postS.mono l1 h)
  | some (.exc x e), h, _ => fun P1 fp1 H1 c d l1 s1 r1 => h P1 fp1 σ H1 c d l1 s1.unhold r1
theorem Own.lift {P H : Hp} {ov : OV} {v : V} {ft : List Addr} {C2 : Cc} {fp : Nat → List Addr} (o : rOV C2 P fp H ov v) : ∃ ft, Own C2.exc P H ov v ft ∧ Tmp C2 P fp ft := o
theorem StOk.store2 {P : Hp} {env : Env} {fp : Nat → List Addr} {σ : L2.St} {H : Hp} {o1 o2 : OV} {v1 v2 : V} {f1 f2 : List Addr} (s : StOk C P env fp σ H) {i j : Nat} (hi : C.kp i = none) (hj : C.kp j = none) (a1 : Own C.exc P H o1 v1 f1) (t1 : Tmp C P fp f1) (a2 : Own C.exc P H o2 v2 f2) (t2 : Tmp C P fp f2)
    (hd : ∀ a, a ∈ f1 → a ∉ f2) : ∃ fp', StOk C P ((env.set i (some o1)).set j (some o2)) fp' ((σ.set i (some v1)).set j (some v2)) H := by
  have t2' : ∃ fp', StOk C P (env.set i (some o1)) fp' (σ.set i (some v1)) H ∧ Tmp C P fp' f2 := by
    have s1 := s.drop i
    by_cases hl : i < σ.length
    · have u1 : Tmp C P (fun k => if k = i then [] else fp k) f1 := ⟨fun k a h1 h2 => by
        by_cases hk : k = i
        · rw [if_pos hk] at h1; cases h1
        · rw [if_neg hk] at h1
          exact t1.dis k a h1 h2, t1.fre⟩
      have s2 : StOk C P (env.set i none) (fun k => if k = i then [] else fp k) (σ.set i (some v1)) H := by
        refine ⟨s1.phi, s1.frm, fun k w q => ?_, s1.dis, s1.fre, fun k w q => ?_, s1.tabs, by rw [List.length_set, List.length_set]; exact s.len⟩
        · by_cases hk : k = i
          · subst hk
            rw [List.getElem?_set_self (by rw [s.len]; exact hl)] at q
            cases q
          · obtain ⟨y, e, z⟩ := s1.own k w q
            exact ⟨y, by rw [List.getElem?_set_ne (Ne.symm hk)]; exact e, z⟩
        · have hk : k ≠ i := fun z => by rw [z, hi] at q; cases q
          rw [List.getElem?_set_ne (Ne.symm hk)]
          exact s.keep k w q
      have s3 := s2.put i (List.getElem?_set_self hl) a1 u1
      rw [List.set_set] at s3
      refine ⟨_, s3, ⟨fun k a h1 h2 => ?_, t2.fre⟩⟩
      by_cases hk : k = i
      · rw [if_pos hk] at h1
        exact hd a h1 h2
      · rw [if_neg hk, if_neg hk] at h1
        exact t2.dis k a h1 h2
    · refine ⟨fp, ?_, t2⟩
      rw [List.set_eq_of_length_le (by rw [s.len]; omega), List.set_eq_of_length_le (by omega)]
      exact s
  obtain ⟨fp', s', t'⟩ := t2'
  exact s'.store hj a2 t'
theorem sS_par {i j : Nat} {x y : Str} {a b : Expr} {ma mb : M OV} {px py pt : Pos} {kt k2 : Nat} {pt2 : Pos} (hc : X.calm = true) (li : LocOk X C i x) (lj : LocOk X C j y) (hij : i ≠ j)
    (hx : X.env.scope.names.lookup x = some .local) (hy : X.env.scope.names.lookup y = some .local) (ha : PE X a (liftE C W ma)) (hb : PEH X C W b mb) (na : NS a) (nb : NS b)
    (hw : swappedStores [.Tuple [.Name x px, .Name y py] kt pt] (.Tuple [a, b] k2 pt2) X.env = pure (some [x, y]))
    (hs : swapsWithSole [.Tuple [.Name x px, .Name y py] kt pt] (.Tuple [a, b] k2 pt2) pos.line X.env = pure false) :
    PS X (.Assign [.Tuple [.Name x px, .Name y py] kt pt] (.Tuple [a, b] k2 pt2) pos) (liftS C W (mPar i j ma mb)) :=
  PS.imp (ps_par hc li.nd li.n lj.n hij hx hy (pa_cons ha (pa_cons hb.pe pa_nil (nb [] _)) (na [b] _)) hw hs) fun D σ H q => by
    refine liftS.seq q fun o1 env1 P1 fp1 H1 v1 s1 r1 h1 => ?_
    obtain ⟨f1, a1, t1⟩ := r1
    have bs := hold_mk a1 t1
    refine ⟨join C.F (holdH H1 f1), P1, env1, fp1, s1.hold bs, postS.seqF (R := rOV (C.withF (join C.F (holdH H1 f1)))) h1 fun o2 env2 P2 fp2 H2 v2 l2 s2 r2 h2 => ?_⟩
    refine ⟨v1, v2, rfl, ?_⟩
    obtain ⟨f2, a2, t2⟩ := r2
    obtain ⟨a1', t1'⟩ := hold_back a1 l2 (s2.besides bs)
    have t2' : Tmp C P2 fp2 f2 := ⟨t2.dis, fun a ha => ⟨(t2.fre a ha).1, (join_none (t2.fre a ha).2).1⟩⟩
    have hd : ∀ a, a ∈ f1 → a ∉ f2 := fun a h3 h4 => by
      obtain ⟨_, q⟩ := join_none (t2.fre a h4).2
      obtain ⟨u, hu, _⟩ := a1.there a h3
      unfold holdH at q
      rw [if_pos h3, hu] at q
      cases q
    obtain ⟨fp', s'⟩ := s2.unhold.store2 li.k lj.k a1' t1' a2 t2' hd
    exact h2 P2 fp' _ H2 (Le.refl _) s'
end
end TL
set_option Elab.async false
set_option linter.all false
set_option maxRecDepth 100000
set_option maxHeartbeats 1000000
namespace TL
open PySem PySem.Spec PyProof.Rows L2
section
variable {X : Cx} {C : Cc} {W : WX} {pos : Pos}
/-! ### data at once -/
def dV (i : Nat) : M PyData := fun e => match e[i]? with
  | some (some (.d x)) => some (.ok x e)
  | _ => none
theorem NameOk.dv {i : Nat} {x : Str} (n : NameOk X i x) : PE X (.Name x pos) (liftD C W (dV i)) := PE.imp (n.pe) fun σ H Q q => by
  obtain ⟨P, env, fp, s, h⟩ := q
  unfold dV at h
  split at h
  · rename_i x e
    obtain ⟨v, e1, o⟩ := s.own i _ e
    exact ⟨v, e1, h P fp H v (Le.refl _) s o.dp⟩
  · exact h.elim
def dC (x : PyData) : M PyData := pure x
theorem sD_c {e : Expr} {v : V} {x : PyData} (h : PE X e (tC v)) (d : ∀ H, Dd H v x) : PE X e (liftD C W (dC x)) := PE.imp h fun σ H Q q => by
  obtain ⟨P, env, fp, s, h⟩ := q
  exact h P fp H v (Le.refl _) s (d _)
theorem sD_int {i : Int} {j : Nat} : PE X (.Constant (.int i) j pos) (liftD C W (dC (.int i))) := sD_c pe_int fun _ => .int i
theorem sD_bool {b : Bool} {j : Nat} : PE X (.Constant (.bool b) j pos) (liftD C W (dC (.bool b))) := sD_c pe_bl fun _ => .bl b
theorem sD_none {j : Nat} : PE X (.Constant .none j pos) (liftD C W (dC .none)) := sD_c pe_non fun _ => .non
theorem sD_str {x : Str} {j : Nat} : PE X (.Constant (.str x) j pos) (liftD C W (dC (.str x))) := sD_c pe_str fun _ => .str x
theorem sD_globI {x : Str} {i : Int} {t : Tok} (hg : Gl X x) (hm : X.mg x = some (.int i t)) (hd : (x == ("__debug__" : Str)) = false) : PE X (.Name x pos) (liftD C W (dC (.int i))) := sD_c (pe_glob (v := .int i) hg hm ⟨_, rfl⟩ hd) fun _ => .int i
theorem sD_globS {x y : Str} {t : Tok} (hg : Gl X x) (hm : X.mg x = some (.str y t)) (hd : (x == ("__debug__" : Str)) = false) : PE X (.Name x pos) (liftD C W (dC (.str y))) := sD_c (pe_glob (v := .str y) hg hm ⟨_, rfl⟩ hd) fun _ => .str y
def datL : OV → Option PyData
  | .lst xs => some (.list xs)
  | _ => none
theorem mComp_lst {vs : List Nat} {mi : M (List PyData)} {g : PyData → M Unit} {t : M Bool} {m : M PyData} {env env' : Env} {v : OV} (h : mComp vs mi g t m env = some (.ok v env')) : ∃ xs, v = .lst xs := by
  unfold mComp at h
  rw [M.bind_at] at h
  cases e : mi env with
  | none => rw [e] at h; cases h
  | some o =>
    rw [e] at h
    cases o with
    | exc x e' => cases h
    | ok xs e1 =>
      rw [Out.andThen_ok] at h
      split at h
      · split at h
        · cases h; exact ⟨_, rfl⟩
        · cases h
      · cases h
/-- x = [..] on one line, kept as data -/
theorem sS_setLcD {i : Nat} {y : Str} {py spos : Pos} {scope : Scope} {own : List (Str × Nat)} {tg iter elt : Expr} {ifs : List Expr} {mi : M (List PyData)} {g : PyData → M Unit} {t : M Bool} {m : M PyData} (hc : X.calm = true) (hN : X.N.Nodup) (hy : X.N[i]? = some y) (hyl : X.env.scope.names.lookup y = some .local) (hky : C.kp i = none)
    (hsw : swapsWith (.ListComp elt [⟨tg, iter, ifs, 0⟩] scope pos) (some (.Name y py)) spos.line X.env = pure true) (hi : PI X tg iter (liftI C W mi)) (ok : BlkOk X.N X.env.scope scope own) (r : BlkR X C scope (own.map (·.2)) tg ifs elt g t m)
    (h0 : GOk g) (hk : ∀ i ∈ own.map (·.2), C.kp i = none) (hs : ∀ x, foldedSetIterable iter X.env x = pure x) : PS X (.Assign [.Name y py] (.ListComp elt [⟨tg, iter, ifs, 0⟩] scope pos) spos) (liftS C W (mSet i (dat (frz (mComp (own.map (·.2)) mi g t m))))) :=
  PS.imp (ps_setLc hc hN hy hyl hsw hi ok (fun s H c cl fp => PG.exF (r.tg s H c cl fp)) (fun s H c cl fp => PTs.exF (r.ifs s H c cl fp)) (fun s H c cl fp => PE.exF (r.elt s H c cl fp)) hs) fun D σ H q => by
    refine lcR (scope := scope) (elt := elt) (tg := tg) (iter := iter) (ifs := ifs) h0 hk (Q := fun x H1 => gName i x σ H1 D.nx) ?_
    have q' : liftS C W ((mComp (own.map (·.2)) mi g t m) >>= fun v => (M.opt (datL v) >>= fun x => fun e => some (.ok .nx (e.set i (some (.d x)))))) D σ H := by
      obtain ⟨P, env, fp, s, h⟩ := q
      refine ⟨P, env, fp, s, ?_⟩
      have e : (mSet i (dat (frz (mComp (own.map (·.2)) mi g t m)))) env = ((mComp (own.map (·.2)) mi g t m) >>= fun v => (M.opt (datL v) >>= fun x => fun e => some (.ok .nx (e.set i (some (.d x)))))) env := by
        unfold mSet dat frz
        rw [M.bind_at, M.bind_at, M.bind_at, M.bind_at]
        cases em : mComp (own.map (·.2)) mi g t m env with
        | none => rfl
        | some o =>
          cases o with
          | exc y e => rfl
          | ok v e =>
            obtain ⟨xs, rfl⟩ := mComp_lst em
            rfl
      rw [← e]
      exact h
    exact liftS.seq q' fun a env' P' fp' H' v s r q => by
      obtain ⟨ft, o, t⟩ := r
      rw [M.bind_at] at q
      cases a with
      | lst xs =>
        obtain ⟨P2, l2, s2, d2⟩ := s.freeze o t (x := .list xs) rfl (fun _ => { cls := .none, data := .fields #[] })
        have s2 : StOk C P2 env' fp' σ H' := by
          have e : pinsOf (OV.lst xs) ft = [] := rfl
          rw [e, pinAt_nil] at s2
          exact s2
        obtain ⟨fp2, s3⟩ := s2.store hky (.d d2) Tmp.nil
        exact q P2 fp2 _ H' l2 s3
      | _ => exact False.elim q
end
/-- the built-in names that no module's name hides -/
structure Blt (mg : Str → Option Value) : Prop where
  len : mg "len" = none
  isinstance : mg "isinstance" = none
  int : mg "int" = none
  bool : mg "bool" = none
  str : mg "str" = none
  tuple : mg "tuple" = none
  list : mg "list" = none
  dict : mg "dict" = none
  set : mg "set" = none
  range : mg "range" = none
  zip : mg "zip" = none
  enumerate : mg "enumerate" = none
  sorted : mg "sorted" = none
  all : mg "all" = none
  min : mg "min" = none
  max : mg "max" = none
  sum : mg "sum" = none
theorem boot_int : bootBuiltins "int" = some (.type "int") := by kernel_rfl
theorem boot_bool : bootBuiltins "bool" = some (.type "bool") := by kernel_rfl
theorem boot_str : bootBuiltins "str" = some (.type "str") := by kernel_rfl
end TL
set_option Elab.async false
set_option linter.all false
set_option maxRecDepth 100000
set_option maxHeartbeats 1000000
namespace TL
open PySem PySem.Spec PyProof.Rows L2
theorem Room.u {k : Nat} {A : Around} (r : Room k A) : A.units + 200 < cLine := by have := r.un; omega
section
variable {X : Cx} {C : Cc} {W : WX} {pos : Pos}
theorem sS_break : PS X (.Break pos) (liftS C W (pure .bk)) := PS.imp ps_break fun D σ H q => by
  obtain ⟨P, env, fp, s, h⟩ := q
  exact h P fp σ H (Le.refl _) s
theorem sS_continue : PS X (.Continue pos) (liftS C W (pure .ct)) := PS.imp ps_continue fun D σ H q => by
  obtain ⟨P, env, fp, s, h⟩ := q
  exact h P fp σ H (Le.refl _) s
/-- never reached -/
def mNo {α : Type} : M α := fun _ => none
theorem sS_never {st : Stmt} : PS X st (liftS C W mNo) := PS.imp ps_never fun D σ H q => by
  obtain ⟨P, env, fp, s, h⟩ := q
  exact h.elim
theorem gok_n {i : Nat} : GOk (gN i) := fun x env o h => by
  cases h
  exact ⟨_, rfl⟩
def GsOk (g : List PyData → M Unit) : Prop := ∀ x env o, g x env = some o → ∃ env', o = .ok () env'
theorem gsok_nil : GsOk gsNil := fun x env o h => by
  cases x with
  | nil => cases h; exact ⟨_, rfl⟩
  | cons => cases h
theorem gsok_cons {g : PyData → M Unit} {r : List PyData → M Unit} (h1 : GOk g) (h2 : GsOk r) : GsOk (gsCons g r) := fun x env o h => by
  cases x with
  | nil => cases h
  | cons x xs =>
    have h : Out.andThen (g x env) (fun _ => r xs) = some o := h
    cases e : g x env with
    | none => rw [e] at h; cases h
    | some u =>
      obtain ⟨env', rfl⟩ := h1 x env u e
      rw [e] at h
      exact h2 xs env' o h
theorem gok_t {n : Nat} {g : List PyData → M Unit} (h : GsOk g) : GOk (gT n g) := fun x env o e => by
  cases x with
  | tuple xs =>
    have e : (if xs.length = n then g xs else fun _ => none) env = some o := e
    by_cases hl : xs.length = n
    · rw [if_pos hl] at e
      exact h xs env o e
    · rw [if_neg hl] at e
      cases e
  | _ => cases e
theorem genSc_by {scope : Scope} {own : List (Str × Nat)} (h : blkC X.N X.env.scope scope own = true) (h1 : scope.isCoroutine = false) (h2 : (scope.names.all fun y => decide (y.2 ≠ NameKind.cell)) = true) (h3 : scope.names.lookup (".0" : Str) = some NameKind.local) : GenSc X scope own :=
  ⟨blkOk_by h, h1, fun y hy => of_decide_eq_true (List.all_eq_true.mp h2 y hy), h3⟩
theorem agNd_nil : agNd [] := trivial
theorem takesB {X : Cx} : Takes X W0 := takes0
end
end TL
set_option Elab.async false
set_option linter.all false
set_option maxRecDepth 100000
set_option maxHeartbeats 1000000
namespace TL
open PySem PySem.Spec PyProof.Rows L2
section
variable {X : Cx} {C : Cc} {W : WX} {pos : Pos}
/-! ### list(range(..)), tuple(range(..)) -/
theorem rgV_dp {P : Hp} {a b : Int} : DdAll P (rgV a b) (rngD a (b - a).toNat) := by
  unfold rgV rngD
  generalize List.range (b - a).toNat = l
  induction l with
  | nil => exact .nil
  | cons i l ih => exact .cons (.int _) ih
def rgOk (a b : Int) : Bool := decide (-(2 ^ 62) ≤ a ∧ a < 2 ^ 62 ∧ -(2 ^ 62) ≤ b ∧ b < 2 ^ 62 ∧ (b - a).toNat ≤ 2 ^ 24)
theorem rgOk_of {a b : Int} (h : rgOk a b = true) : RgOk a b := by
  unfold rgOk at h
  have h2 := of_decide_eq_true h
  exact h2
def mListR1 (m : M PyData) : M OV := m >>= fun x => match x with
  | .int n => M.opt (if rgOk 0 n then some (.lst (rngD 0 n.toNat)) else none)
  | _ => fun _ => none
def mTupR1 (m : M PyData) : M OV := m >>= fun x => match x with
  | .int n => M.opt (if rgOk 0 n then some (.d (.tuple (rngD 0 n.toNat))) else none)
  | _ => fun _ => none
theorem sE_listR1 {p p2 q : Pos} {e : Expr} {m : M PyData} (hc : X.calm = true) (hg : Gl X "list") (hm : X.mg "list" = none) (hg2 : Gl X "range") (hm2 : X.mg "range" = none) (h : PE X e (liftD C W m)) (ns : NS e) :
    PE X (.Call (.Name "list" p) [.Call (.Name "range" p2) [e] [] q] [] pos) (liftE C W (mListR1 m)) :=
  PE.imp (pe_listRg hc hg hm (prg_1 hg2 hm2 h (ns [] _)) rfl) fun σ H Q q => by
    refine liftG.seq q fun x env' P' fp' H' v s r q => ?_
    cases r with
    | int n =>
      obtain ⟨o, e, q'⟩ := opt_some (show postG C W (rOV C) P' Q σ (M.opt (if rgOk 0 n then some (OV.lst (rngD 0 n.toNat)) else none) env') from q)
      by_cases hz : rgOk 0 n = true
      · rw [if_pos hz] at e
        cases e
        have d : DdAll P' (rgV 0 n) (rngD 0 n.toNat) := by have := rgV_dp (P := P') (a := 0) (b := n); rwa [Int.sub_zero] at this
        exact ⟨n, rfl, rgOk_of hz, fun p hp => rOV.newL s d q' hp⟩
      · rw [if_neg hz] at e
        cases e
    | _ => exact False.elim q
theorem sE_tupR1 {p p2 q : Pos} {e : Expr} {m : M PyData} (hc : X.calm = true) (hg : Gl X "tuple") (hm : X.mg "tuple" = none) (hg2 : Gl X "range") (hm2 : X.mg "range" = none) (h : PE X e (liftD C W m)) (ns : NS e) :
    PE X (.Call (.Name "tuple" p) [.Call (.Name "range" p2) [e] [] q] [] pos) (liftE C W (mTupR1 m)) :=
  PE.imp (pe_tupRg hc hg hm (prg_1 hg2 hm2 h (ns [] _)) rfl) fun σ H Q q => by
    refine liftG.seq q fun x env' P' fp' H' v s r q => ?_
    cases r with
    | int n =>
      obtain ⟨o, e, q'⟩ := opt_some (show postG C W (rOV C) P' Q σ (M.opt (if rgOk 0 n then some (OV.d (.tuple (rngD 0 n.toNat))) else none) env') from q)
      by_cases hz : rgOk 0 n = true
      · rw [if_pos hz] at e
        cases e
        have d : DdAll P' (rgV 0 n) (rngD 0 n.toNat) := by have := rgV_dp (P := P') (a := 0) (b := n); rwa [Int.sub_zero] at this
        exact ⟨n, rfl, rgOk_of hz, fun p hp => rOV.newT s d q' hp⟩
      · rw [if_neg hz] at e
        cases e
    | _ => exact False.elim q
/-! ### a slot's own list compared where it stands -/
def OV.dat1 : OV → Option PyData
  | .d x => some x
  | .lst xs => some (.list xs)
  | _ => none
theorem Own.dpH {P H : Hp} {ov : OV} {v : V} {f : List Addr} (o : Own C.exc P H ov v f) (l : Le P H) {x : PyData} (e : ov.dat1 = some x) : Dd H v x := by
  cases o with
  | d d => cases e; exact l.dp d
  | lst h a => cases e; exact .lst (SqL.of h) (l.dpAll a)
  | dct => cases e
  | ext => cases e
def gCmpS (g : PyData → PyData → Option OV) (y : PyData) (ov : OV) : Option OV := match ov.dat1 with
  | some x => g x y
  | none => none
def mCmpS (g : PyData → PyData → Option OV) (i : Nat) (mb : M PyData) : M OV := mHas i isAny >>= fun _ => mb >>= fun y => mPeek i (gCmpS g y)
theorem gCmpS_some {g : PyData → PyData → Option OV} {y : PyData} {ov r : OV} (h : gCmpS g y ov = some r) : ∃ x, ov.dat1 = some x ∧ g x y = some r := by
  unfold gCmpS at h
  cases e : ov.dat1 with
  | none => rw [e] at h; cases h
  | some x => rw [e] at h; exact ⟨x, rfl, h⟩
theorem cmpS_aux {neg : Bool} {i : Nat} {mb : M PyData} {σ : L2.St} {H : Hp} {Q : VK} {R : R2} (hR : ∀ x y dx dy H r, Dd H x dx → Dd H y dy → (if neg then gNe dx dy else gEq dx dy) = some r → ∀ Q : VK, (∀ b, r = .d (.bool b) → Q (.bl b) H) → R x y H Q)
    (q : liftE C W (mCmpS (if neg then gNe else gEq) i mb) σ H Q) : tOp R (tVar i) (liftD C W mb) σ H Q := by
  obtain ⟨v0, ov, P, env, fp, f0, e0, hp, o0, s, h⟩ := slot_start q
  refine ⟨v0, f0, P, env, fp, s, ?_⟩
  rw [M.bind_at] at h
  refine postG.seq h fun y env' P' fp' H' u l s' r q => ?_
  obtain ⟨v1, a1, g1, g2, q'⟩ := peek_at q
  obtain ⟨x, e1, e2⟩ := gCmpS_some g2
  obtain ⟨v, f1, o1⟩ := s'.own i _ g1
  have ew := slot_inj f0 f1
  subst ew
  refine hR v0 u x y H' a1 (o1.dpH s'.le e1) (s'.le.dp r) (by cases neg <;> exact e2) Q fun b hb => ?_
  subst hb
  exact q' P' fp' H' _ (Le.refl _) s' (rOV.d (.bl b))
theorem sE_eqS {i : Nat} {x : Str} {p : Pos} {b : Expr} {mb : M PyData} (hu : X.A.units + 200 < cLine) (n : NameOk X i x) (hb : PE X b (liftD C W mb)) (hm : behindInMarks .Eq b = false) : PE X (.Compare (.Name x p) [.Eq] [b] pos) (liftE C W (mCmpS gEq i mb)) :=
  PE.imp (pe_cmpR (op_eqP hu) n.pe hb hm) fun σ H Q q => cmpS_aux (neg := false) (fun x y dx dy H r d1 d2 e Q k => by
    unfold gEq at e
    rw [if_neg Bool.false_ne_true] at e
    split at e
    · rename_i h
      cases e
      obtain ⟨h1, h2⟩ := Bool.and_eq_true_iff.mp h
      exact ⟨dx, dy, toK (okD_plain h1) d1, toK (okD_plain h2) d2, h1, h2, k _ rfl⟩
    · cases e) q
theorem sE_neS {i : Nat} {x : Str} {p : Pos} {b : Expr} {mb : M PyData} (hu : X.A.units + 200 < cLine) (n : NameOk X i x) (hb : PE X b (liftD C W mb)) (hm : behindInMarks .NotEq b = false) : PE X (.Compare (.Name x p) [.NotEq] [b] pos) (liftE C W (mCmpS gNe i mb)) :=
  PE.imp (pe_cmpR (op_neP hu) n.pe hb hm) fun σ H Q q => cmpS_aux (neg := true) (fun x y dx dy H r d1 d2 e Q k => by
    unfold gNe at e
    rw [if_pos rfl] at e
    split at e
    · rename_i h
      cases e
      obtain ⟨h1, h2⟩ := Bool.and_eq_true_iff.mp h
      exact ⟨dx, dy, toK (okD_plain h1) d1, toK (okD_plain h2) d2, h1, h2, k _ rfl⟩
    · cases e) q
theorem sT_eqS {i : Nat} {x : Str} {p : Pos} {b : Expr} {mb : M PyData} (hu : X.A.units + 200 < cLine) (n : NameOk X i x) (hb : PE X b (liftD C W mb)) (hm : behindInMarks .Eq b = false) : PT X (.Compare (.Name x p) [.Eq] [b] pos) (liftT C W (asB (mCmpS gEq i mb))) :=
  PT.imp (pt_cmpR (op_eqP hu) n.pe hb hm) fun σ H Q q => asB.of q fun σ H Q q => cmpS_aux (neg := false) (fun x y dx dy H r d1 d2 e Q k => by
    unfold gEq at e
    rw [if_neg Bool.false_ne_true] at e
    split at e
    · rename_i h
      cases e
      obtain ⟨h1, h2⟩ := Bool.and_eq_true_iff.mp h
      exact ⟨dx, dy, toK (okD_plain h1) d1, toK (okD_plain h2) d2, h1, h2, k _ rfl⟩
    · cases e) q
theorem sT_neS {i : Nat} {x : Str} {p : Pos} {b : Expr} {mb : M PyData} (hu : X.A.units + 200 < cLine) (n : NameOk X i x) (hb : PE X b (liftD C W mb)) (hm : behindInMarks .NotEq b = false) : PT X (.Compare (.Name x p) [.NotEq] [b] pos) (liftT C W (asB (mCmpS gNe i mb))) :=
  PT.imp (pt_cmpR (op_neP hu) n.pe hb hm) fun σ H Q q => asB.of q fun σ H Q q => cmpS_aux (neg := true) (fun x y dx dy H r d1 d2 e Q k => by
    unfold gNe at e
    rw [if_pos rfl] at e
    split at e
    · rename_i h
      cases e
      obtain ⟨h1, h2⟩ := Bool.and_eq_true_iff.mp h
      exact ⟨dx, dy, toK (okD_plain h1) d1, toK (okD_plain h2) d2, h1, h2, k _ rfl⟩
    · cases e) q
/-! ### a def that is not run -/
theorem sSs_never {ss : List Stmt} : PSs X ss (liftS C W mNo) := PSs.imp pss_never fun D σ H q => by
  obtain ⟨P, env, fp, s, h⟩ := q
  exact h.elim
end
end TL
set_option Elab.async false
set_option linter.all false
set_option maxRecDepth 100000
set_option maxHeartbeats 1000000
namespace TL
open PySem PySem.Spec PyProof.Rows L2 GxR
/-! ### the law's own def -/
theorem FnS.fd {P : Program} {w : World} {K : PySem.W.Frag} {mg : Str → Option Value} {base : Heap} {T : List Addr} {ex : Str → Option Addr} {k np : Nat} {x : Str} {mf : M OV} (F : FnS P w K mg base T ex k x np mf) {f : Addr} (hx : mg x = some (.ref f)) :
    ∃ fd ps, ps.length = np ∧ FnOk P w K mg base (L2.CX P w) k f fd ps (fnSp np T ex mf) := by
  obtain ⟨f', fd, ps, h1, h2, _, _, h5⟩ := F.ok
  rw [h2] at hx
  cases hx
  exact ⟨fd, ps, h1, h5⟩
section
variable {P : Program} {w : World} {K : PySem.W.Frag} {mg : Str → Option Value} {base : Heap} {T : List Addr} {ex : Str → Option Addr}
/-- as FunC.fnS, for the def f itself -/
theorem FunC.fnOk {x qual : Str} {params : Arguments} {body : List Stmt} {scope : Scope} {f : Addr} {fd : FuncData} {cdv : Value} {ps N : List Str} {k np : Nat} {mb : M Fl} (F : FunC K x qual params body scope f fd cdv) (S : FnScope N ps scope) (hnp : ps.length = np) (hN : np ≤ N.length)
    (hbody : ∀ (A : Around) (outer : List PySem.Env) (s : Shared) (H : Hp) (E : XK) (C : Cc), Room k (A.deeper (envOfC qual scope s.heap.objs.size f cdv)) → C.tabs = T → C.exc = ex → (∀ i, ([] : List Nat).contains i = false → C.kp i = none) →
      PSs (fnX P w K mg base N qual scope f cdv A outer s H E) body (liftS C (fnW E) mb)) : FnOk P w K mg base (L2.CX P w) (k + 1) f fd ps (fnSp np T ex (fnM np N.length [] mb)) := by
  obtain ⟨oc, od, kV, doc, pm, an, ct, osl, rfl, lk, hcd⟩ := F.ex
  refine fn_of lk hcd S (fun vs H Q E q => by rw [hnp]; exact q.1) fun A outer s H vs Q E hr hsp => ?_
  obtain ⟨hl, C, P0, env, fp, hT, hE, hk, s0, q⟩ := hsp
  refine ⟨_, hbody A outer s H E (bodyC C []) hr hT hE (fun i hi => rfl), ?_⟩
  have hvl : vs.length ≤ N.length := by rw [hl]; exact hN
  refine ⟨P0, _, fp, s0.begin hk hvl, ?_⟩
  rw [hl]
  unfold fnM at q
  cases em : mb (env ++ List.replicate (N.length - np) none) with
  | none => rw [em] at q; exact q.elim
  | some o =>
    rw [em] at q
    cases o with
    | exc y e => exact fun P' fp' σ' H' cls d l s' r => q P' _ H' cls d l (s0.finish hk l s') r
    | ok fl e =>
      cases fl with
      | nx => exact fun P' fp' σ' H' l s' => q P' _ H' .non l (s0.finish hk l s') (rOV.d .non)
      | rt r => exact fun P' fp' σ' H' v l s' r => q P' _ H' v l (s0.finish hk l s') (rOV.finish r)
      | bk => exact q.elim
      | ct => exact q.elim
end
theorem FunC.bindsA {K : PySem.W.Frag} {x qual : Str} {params : Arguments} {body : List Stmt} {scope : Scope} {f : Addr} {fd : FuncData} {cdv : Value} {ps : List Str} (F : FunC K x qual params body scope f fd cdv)
    (h : ∀ (kV doc pm : Value) (an : Option Addr) (cdv ct : Value) (us : List Value), us.length = ps.length → bindArgs (PySem.W.fnOf x qual params body scope .none kV doc pm an cdv ct) ⟨us, []⟩ = pure (ps.zip us)) (s : Shared) (us : List Value) (hl : us.length = ps.length) : BindsTo s fd ⟨us, []⟩ (ps.zip us) := by
  obtain ⟨oc, od, kV, doc, pm, an, ct, osl, rfl, lk, hcd⟩ := F.ex
  exact .of_eq (h kV doc pm an cdv ct us hl)
/-! ### from the head's facts -/
def noLists (K : PySem.W.Frag) : Bool := K.all fun p => match p.2.cls with
  | .type n => decide (n ≠ "list")
  | _ => true
theorem noLists_no {K : PySem.W.Frag} (h : noLists K = true) {a : Addr} {o : Obj} (l : K.lookup a = some o) (c : o.cls = .type "list") : False := by
  have q := List.all_eq_true.mp h (a, o) (He.lookup_mem l)
  simp only [c] at q
  exact absurd rfl (of_decide_eq_true q)
section
variable {fa : List He.Fa} {fn : List He.DefD} {tf : List He.Defn} {w : World} {h : Heap} {K : PySem.W.Frag}
theorem funC_of (c : He.SaysD fa fn K) {d : He.DefD} (hd : d ∈ fn) (h0 : d.dfl = []) : ∃ fd, FunC K d.name d.qual d.params d.body d.scope (He.fAd K d.at_) fd (.ref (He.codeOf K d.at_)) := by
  obtain ⟨fd, F⟩ := c.defs hd
  obtain ⟨oc, od, dV, kV, doc, pm, an, cdv, ct, osl, e, l, hc, hdf, _⟩ := F.ex
  have e0 : d.dvs K = [] := by unfold He.DefD.dvs; rw [h0]; rfl
  rw [e0] at hdf
  rcases hdf with ⟨_, e2⟩ | ⟨e2, _⟩
  · subst e2
    obtain ⟨c0, rfl⟩ := He.codeIn_ref hc
    refine ⟨fd, ⟨⟨oc, od, kV, doc, pm, an, ct, osl, ?_, l, ?_⟩, F.kp⟩⟩
    · have : He.codeOf K d.at_ = c0 := He.codeOf_eq l (by rw [e])
      rw [this]
      exact e
    · have : He.codeOf K d.at_ = c0 := He.codeOf_eq l (by rw [e])
      rw [this]
      exact hc
  · exact absurd rfl e2
theorem blt_of {mg : Str → Option Value} (X : K.In h) (G : h.Ns mainGlobals mg) (c : He.SaysD fa fn K) (hb : ∀ x ∈ (["len", "isinstance", "int", "bool", "str", "tuple", "list", "dict", "set", "range", "zip", "enumerate", "sorted", "all", "min", "max", "sum"] : List Str), He.Fa.free x ∈ fa) : Blt mg := by
  have k : ∀ x ∈ (["len", "isinstance", "int", "bool", "str", "tuple", "list", "dict", "set", "range", "zip", "enumerate", "sorted", "all", "min", "max", "sum"] : List Str), mg x = none := fun x hx => He.free_ok X G (c.facts (hb x hx))
  constructor <;> exact k _ (by simp)
theorem glo_of {mg : Str → Option Value} (X : K.In h) (G : h.Ns mainGlobals mg) (c : He.SaysD fa fn K) {x : Str} (hb : He.Fa.glo x ∈ fa) : mg x = some (.ref (He.ga K x)) := He.glo_ok X G (c.facts hb)
end
/-! ### the end -/
theorem law_start {C : Cc} {H : Hp} {a : Addr} {ns : List Int} {K : PySem.W.Frag} (hF : C.F = fun _ => none) (hk : ∀ i, C.kp i = [V.ref a][i]?) (hT : ∀ p ∈ C.tabs, H p = some (.tbl #[])) (hS : SqL K H a (ns.map V.int)) (hK : noLists K = true) :
    StOk C (fun b => if b = a then H a else none) [some (.d (.list (ns.map .int)))] (fun _ => []) [some (V.ref a)] H := by
  have hS0 : (H a = some (.lst (ns.map V.int))) ∨ ∃ o, H a = some (.frz o (.lst (ns.map V.int))) := by
    rcases hS with h | ⟨o, its, n, e, hc, _⟩
    · exact h
    · exact (noLists_no hK e hc).elim
  refine ⟨fun b o q => ?_, fun b o q => ?_, fun i ov q => ?_, fun i j b h => (by cases h), fun i b h => (by cases h), fun i v q => ?_, fun p hp => ⟨#[], hT p hp, trivial⟩, rfl⟩
  · have q : (if b = a then H a else none) = some o := q
    by_cases hb : b = a
    · rw [if_pos hb] at q
      rw [hb]
      refine ⟨q, ?_⟩
      rcases hS0 with e | ⟨o', e⟩
      · rw [e] at q; cases q; trivial
      · rw [e] at q; cases q; trivial
    · rw [if_neg hb] at q
      cases q
  · rw [hF] at q
    cases q
  · cases i with
    | zero =>
      have e : some (some (OV.d (.list (ns.map .int)))) = some (some ov) := q
      cases e
      refine ⟨.ref a, rfl, .d (.lst ?_ (ints_dpAll ns))⟩
      rcases hS0 with e | ⟨o', e⟩
      · exact .inl (.inl ((if_pos rfl).trans e))
      · exact .inl (.inr ⟨o', (if_pos rfl).trans e⟩)
    | succ i => simp at q
  · rw [hk] at q
    cases i with
    | zero =>
      have e : some (V.ref a) = some v := q
      cases e
      rfl
    | succ i => simp at q
/-- a law whose mirror says True -/
def Says (mf : M OV) : Prop := ∀ ns : List Int, ns.length ≤ 63 → (∀ z ∈ ns, Builtin.Int.intBits z ≤ 1048576) → ∃ e, mf [some (.d (.list (ns.map .int)))] = some (.ok (.d (.bool true)) e)
theorem walk_tl {l : PySem.W.OpenLaw} {q : Program} {loose : List Str} {XP : (Str → Option Value) → Heap → Prop} {d : DefRec} {fa : List He.Fa} {fn : List He.DefD} {tf : List He.Defn} {x : Str} {k : Nat} {ex : Str → Option Addr} {mf : M OV} (hn : l.most = some 63) (hdf : d.params.defaults = []) (hdn : d.name = "law")
    (hr : Room k callerA) (F : ∀ (w : World) (mg : Str → Option Value) (h : Heap) (K : PySem.W.Frag), K.In h → h.Ns mainGlobals mg → He.SaysX fa fn [] tf noLists w h K → ∃ fd ex, mg "law" = some (.ref (He.ga K "law")) ∧ (∀ (s : Shared) (u : Value), BindsTo s fd ⟨[u], []⟩ [(x, u)]) ∧
      ∀ base : Heap, K.In base → base.Ns mainGlobals mg → (∀ p ∈ tf, TabB base mg (He.cT K p).1 (He.cT K p).2) → FnOk l.prog w K mg base (L2.CX l.prog w) k (He.ga K "law") fd [x] (fnSp 1 (tf.map fun p => (He.cT K p).2) ex mf))
    (hm : Says mf) : PySem.W.WalkO q loose XP (fun w h => ∃ K : PySem.W.Frag, K.In h ∧ He.SaysX fa fn [] tf noLists w h K) l.row.toRowW d [] (fun f vs => PySem.call f vs) := by
  refine LamX.walk_ofTsE (n := 63) (k := k) (x := x) (CX := fun w => L2.CX l.prog w) hn (by decide) hdf hr (fun w mg fa' h Y G hmg0 => ?_) (fun w H s e s' z => by
    obtain ⟨_, _, _, _, _, _, _, _, _, _, _, _, z⟩ := z
    exact z)
  obtain ⟨K, KX, c⟩ := Y
  obtain ⟨fd, ex', hmg, hb, hF⟩ := F w mg h K KX G c
  rw [hdn] at hmg0
  rw [hmg0] at hmg
  cases hmg
  refine ⟨K, KX, fd, tf.map (fun p => He.cT K p), _, fun p hp => ?_, fun p hp => ?_, fun p hp => ?_, hb, fun H a ns hl hbits hT hS => ?_, fun base hKb hns hTB => hF base hKb hns fun p hp => ?_⟩
  · obtain ⟨z, hz, rfl⟩ := List.mem_map.mp hp
    exact c.empty z hz
  · obtain ⟨z, hz, rfl⟩ := List.mem_map.mp hp
    exact c.out z hz
  · obtain ⟨z, hz, rfl⟩ := List.mem_map.mp hp
    exact PySem.W.codeHd_of_K KX (c.hd z hz)
  · obtain ⟨e, he⟩ := hm ns hl hbits
    let C : Cc := ⟨fun _ => none, fun i => [V.ref a][i]?, tf.map fun p => (He.cT K p).2, ex'⟩
    refine ⟨rfl, C, _, _, _, rfl, rfl, fun i => rfl, law_start (C := C) rfl (fun i => rfl) (fun p hp => ?_) hS c.more, ?_⟩
    · obtain ⟨z, hz, rfl⟩ := List.mem_map.mp hp
      exact hT (He.cT K z) (List.mem_map.mpr ⟨z, hz, rfl⟩)
    · rw [he]
      intro P' fp' H' v l' s' r
      obtain ⟨ft, o, _⟩ := r
      cases o with
      | d d => cases d; rfl
  · have t := hTB (He.cT K p) (List.mem_map.mpr ⟨p, hp, rfl⟩)
    exact ⟨t.code, t.bm, t.gP⟩
end TL
set_option Elab.async false
set_option linter.all false
set_option maxRecDepth 100000
set_option maxHeartbeats 1000000
namespace TL
open PySem PySem.Spec PyProof.Rows L2
section
variable {X : Cx} {C : Cc} {W : WX} {pos : Pos}
/-! ### an item of a dict just made, by a name's int -/
def mIxT (m : M OV) (j : Nat) : M OV := m >>= fun v => dV j >>= fun y => M.opt (gIxD y v)
theorem sE_ixT {j : Nat} {y : Str} {p : Pos} {a : Expr} {m : M OV} (hu : X.A.units + 200 < cLine) (ha : PE X a (liftE C W m)) (n : NameOk X j y) : PE X (.Subscript a (.Name y p) pos) (liftE C W (mIxT m j)) :=
  PE.imp (pe_dget (by omega) ha n.pe (fun _ _ => rfl)) fun σ H Q q => by
    obtain ⟨P, env, fp, s, h⟩ := q
    refine ⟨P, env, fp, s, postG.seq h fun ov env' P' fp' H' v l s' r q => ?_⟩
    rw [M.bind_at] at q
    unfold dV at q
    split at q
    · rename_i x e
      obtain ⟨u, e1, o⟩ := s'.own j _ e
      refine ⟨u, e1, ?_⟩
      obtain ⟨r0, g2, q'⟩ := opt_some q
      obtain ⟨kvs, k, z, rfl, rfl, hl, rfl⟩ := gIxD_some g2
      obtain ⟨ft, o2, t2⟩ := r
      obtain ⟨a2, vs, rfl, hf, hH, d⟩ := o2.of_dct
      obtain rfl := dp_int o.dp
      rcases d.look k with ⟨h1, _⟩ | ⟨z', w, h1, h2, h3⟩
      · rw [h1] at hl; cases hl
      · rw [hl] at h1
        cases h1
        exact ⟨a2, w, rfl, h2 ▸ DGet.k (k := Sum.inl k) hH, q' P' fp' H' w (Le.refl _) s' (rOV.d h3)⟩
    · exact q.elim
end
end TL
set_option Elab.async false
set_option linter.all false
set_option maxRecDepth 100000
set_option maxHeartbeats 1000000
namespace TL
open PySem PySem.Spec PyProof.Rows L2
/-! ### dicts whose keys are tuples -/
def lookN (kvs : List (NestedKey × PyData)) (k : NestedKey) : Option PyData := (kvs.find? fun p => decide (p.1 = k)).map (·.2)
def putN (kvs : List (NestedKey × PyData)) (k : NestedKey) (x : PyData) : List (NestedKey × PyData) := if (kvs.any fun p => decide (p.1 = k)) then kvs.map fun p => if p.1 = k then (p.1, x) else p else kvs ++ [(k, x)]
mutual
def keyD : PyData → Option NestedKey
  | .none => some .none
  | .int i => some (.num i)
  | .tuple xs => (keyDs xs).map .tup
  | _ => none
def keyDs : List PyData → Option (List NestedKey)
  | [] => some []
  | x :: xs => (keyD x).bind fun k => (keyDs xs).map (k :: ·)
end
mutual
theorem keyD_some : ∀ {x : PyData} {k : NestedKey}, keyD x = some k → x = k.data ∧ kOk k = true
  | .none, k, h => by cases h; exact ⟨rfl, rfl⟩
  | .int i, k, h => by cases h; exact ⟨rfl, rfl⟩
  | .tuple xs, k, h => by
    rw [keyD] at h
    obtain ⟨ks, h1, rfl⟩ := Option.map_eq_some_iff.mp h
    obtain ⟨h2, h3⟩ := keyDs_some h1
    exact ⟨by rw [NestedKey.data, h2], by rw [kOk]; exact h3⟩
  | .bool _, k, h => by simp [keyD] at h
  | .str _, k, h => by simp [keyD] at h
  | .list _, k, h => by simp [keyD] at h
  | .dict _, k, h => by simp [keyD] at h
theorem keyDs_some : ∀ {xs : List PyData} {ks : List NestedKey}, keyDs xs = some ks → xs = NestedKey.datas ks ∧ kOks ks = true
  | [], ks, h => by cases h; exact ⟨rfl, rfl⟩
  | x :: xs, ks, h => by
    rw [keyDs] at h
    obtain ⟨k, h1, h2⟩ := Option.bind_eq_some_iff.mp h
    obtain ⟨ks', h3, rfl⟩ := Option.map_eq_some_iff.mp h2
    obtain ⟨e1, e2⟩ := keyD_some h1
    obtain ⟨e3, e4⟩ := keyDs_some h3
    exact ⟨by rw [NestedKey.datas, ← e1, ← e3], by rw [kOks, e2, e4]; rfl⟩
end
/-- a key of a dict: a tuple -/
def keyTop (y : PyData) : Option NestedKey := (keyD y).bind fun k => if kTop k then some k else none
theorem keyTop_some {y : PyData} {k : NestedKey} (h : keyTop y = some k) : y = k.data ∧ kTop k = true := by
  obtain ⟨k', h1, h2⟩ := Option.bind_eq_some_iff.mp h
  split at h2
  · rename_i e
    cases h2
    exact ⟨(keyD_some h1).1, e⟩
  · cases h2
theorem kTop_ok {k : NestedKey} (h : kTop k = true) : kOk k = true ∧ k.depth ≤ 8 ∧ ∃ ks, k = .tup ks := by
  cases k with
  | tup ks =>
    rw [kTop, Bool.and_eq_true] at h
    exact ⟨by rw [kOk]; exact h.1, of_decide_eq_true h.2, ks, rfl⟩
  | _ => simp [kTop] at h
section
variable {P : Hp}
theorem DnAll.look (k : NestedKey) : ∀ {es : List (NestedKey × Addr × Value)} {r : List (NestedKey × PyData)}, DnAll P es r → (lookN r k = none ∧ atKey es k = none) ∨ ∃ x v q u, lookN r k = some x ∧ atKey es k = some (q, u) ∧ RelV v u ∧ Dd P v x
  | _, _, .nil => .inl ⟨rfl, rfl⟩
  | _, _, .cons (k := j) (q := q) (v := v) (u := u) (x := x) h h2 rv d t => by
    by_cases e : j = k
    · subst e
      exact .inr ⟨x, v, q, u, by simp [lookN], by simp [atKey], rv, d⟩
    · rcases DnAll.look k t with ⟨h1, h2⟩ | ⟨y, w, q', u', h1, h2, h3⟩
      · exact .inl ⟨by simpa [lookN, List.find?_cons, e] using h1, by simpa [atKey, List.find?_cons, e] using h2⟩
      · exact .inr ⟨y, w, q', u', by simpa [lookN, List.find?_cons, e] using h1, by simpa [atKey, List.find?_cons, e] using h2, h3⟩
theorem DnAll.any (k : NestedKey) : ∀ {es : List (NestedKey × Addr × Value)} {r : List (NestedKey × PyData)}, DnAll P es r → (atKey es k).isSome = r.any fun p => decide (p.1 = k)
  | _, _, .nil => rfl
  | _, _, .cons (k := j) h h2 rv d t => by
    rw [List.any_cons, ← DnAll.any k t]
    by_cases e : j = k
    · subst e; simp [atKey]
    · simp [atKey, List.find?_cons, e]
theorem DnAll.repl {k : NestedKey} {v : V} {u : Value} {x : PyData} (rv : RelV v u) (d : Dd P v x) : ∀ {es : List (NestedKey × Addr × Value)} {r : List (NestedKey × PyData)}, DnAll P es r → DnAll P (es.map (putAt k u)) (r.map fun p => if p.1 = k then (p.1, x) else p)
  | _, _, .nil => .nil
  | _, _, .cons (k := j) (q := q) h h2 rv' d' t => by
    rw [List.map_cons, List.map_cons]
    by_cases e : j = k
    · subst e
      have e1 : ∀ u', putAt j u (j, q, u') = (j, q, u) := fun u' => if_pos rfl
      rw [e1, if_pos rfl]
      exact .cons h h2 rv d (DnAll.repl rv d t)
    · have e1 : ∀ u', putAt k u (j, q, u') = (j, q, u') := fun u' => if_neg e
      rw [e1, if_neg e]
      exact .cons h h2 rv' d' (DnAll.repl rv d t)
theorem DnAll.snoc {k : NestedKey} {q : Addr} {v : V} {u : Value} {x : PyData} (h : kTop k = true) (hq : Dd P (.ref q) k.data) (rv : RelV v u) (d : Dd P v x) : ∀ {es : List (NestedKey × Addr × Value)} {r : List (NestedKey × PyData)}, DnAll P es r → DnAll P (es ++ [(k, q, u)]) (r ++ [(k, x)])
  | _, _, .nil => .cons h hq rv d .nil
  | _, _, .cons h' h2 rv' d' t => .cons h' h2 rv' d' (DnAll.snoc h hq rv d t)
theorem DnAll.put {k : NestedKey} {q : Addr} {v : V} {u : Value} {x : PyData} (h : kTop k = true) (hq : Dd P (.ref q) k.data) (rv : RelV v u) (d : Dd P v x) {es : List (NestedKey × Addr × Value)} {r : List (NestedKey × PyData)} (t : DnAll P es r) : DnAll P (storedH es k q u) (putN r k x) := by
  unfold storedH putN
  rw [t.any k]
  split
  · exact t.repl rv d
  · exact t.snoc h hq rv d
theorem DnAll.length : ∀ {es : List (NestedKey × Addr × Value)} {r : List (NestedKey × PyData)}, DnAll P es r → es.length = r.length
  | _, _, .nil => rfl
  | _, _, .cons _ _ _ _ t => by rw [List.length_cons, List.length_cons, t.length]
theorem DnAll.keys : ∀ {es : List (NestedKey × Addr × Value)} {r : List (NestedKey × PyData)}, DnAll P es r → ∀ x ∈ es, kTop x.1 = true ∧ Dd P (.ref x.2.1) x.1.data
  | _, _, .nil, x, hx => nomatch hx
  | _, _, .cons h h2 _ _ t, x, hx => by
    rcases List.mem_cons.mp hx with e | hx
    · rw [e]; exact ⟨h, h2⟩
    · exact t.keys x hx
theorem DdN.keys : ∀ {es : List (NestedKey × Addr × Value)} {r : List (PyData × PyData)}, DdN P es r → ∀ x ∈ es, kTop x.1 = true ∧ Dd P (.ref x.2.1) x.1.data
  | _, _, .nil, x, hx => nomatch hx
  | _, _, .cons h h2 _ _ t, x, hx => by
    rcases List.mem_cons.mp hx with e | hx
    · rw [e]; exact ⟨h, h2⟩
    · exact t.keys x hx
end
section
variable {Pr : Program} {w : World} {H P : Hp} {h : Heap}
/-! the key's tuples stand in the heap -/
mutual
theorem nest_of (ok : HOk Pr w H h) (l : Le P H) : ∀ (k : NestedKey) {v : V} {u : Value}, kOk k = true → Dd P v k.data → RelV v u → NestedIs h k u
  | .none, v, u, _, d, r => by
    rw [NestedKey.data] at d
    cases d
    cases (show u = Value.none from r)
    exact .none
  | .num i, v, u, _, d, r => by
    rw [NestedKey.data] at d
    cases d
    obtain ⟨t, q⟩ := (show ∃ t, u = Value.int i t from r)
    cases q
    exact .int _ _
  | .text _, v, u, k, _, _ => by simp [kOk] at k
  | .tup ks, v, u, k, d, r => by
    rw [NestedKey.data] at d
    rw [kOk] at k
    cases d with
    | @tup a vs _ hs a2 =>
      cases (show u = Value.ref a from r)
      have hr : Rd H a (.tup vs) := by
        rcases l.sqT hs with hr | ⟨o, its, n, e, _⟩
        · exact hr
        · cases e
      obtain ⟨_, its, rv, o, h1, h2, n, h3⟩ := (show ObjOk Pr w H h a (.tup vs) from hr.ok ok)
      exact .tup h1 h2 h3 (by simpa using nests_of ok l ks k a2 rv)
theorem nests_of (ok : HOk Pr w H h) (l : Le P H) : ∀ (ks : List NestedKey) {vs : List V} {us : List Value}, kOks ks = true → DdAll P vs (NestedKey.datas ks) → Vals vs us → NestedAll h ks us
  | [], vs, us, _, d, r => by
    rw [NestedKey.datas] at d
    cases d
    cases r
    exact .nil
  | k :: ks, vs, us, kk, d, r => by
    rw [NestedKey.datas] at d
    rw [kOks, Bool.and_eq_true] at kk
    cases d with
    | cons d1 d2 =>
      cases r with
      | cons r1 r2 => exact .cons (nest_of ok l k kk.1 d1 r1) (nests_of ok l ks kk.2 d2 r2)
end
theorem key_at (ok : HOk Pr w H h) (l : Le P H) {k : NestedKey} {q : Addr} (kt : kTop k = true) (d : Dd P (.ref q) k.data) : (nestedKind Pr w).is h k q := ⟨nest_of ok l k (kTop_ok kt).1 d rfl, (kTop_ok kt).2.1⟩
theorem entN_eq {x : NestedKey × Addr × Value} (h : kTop x.1 = true) : entN x = entryOfKey (nestedKind Pr w) x := by
  unfold entN entryOfKey
  congr 1
  exact (hN_eq w _ (kTop_ok h).1).symm
theorem ents_eq : ∀ {es : List (NestedKey × Addr × Value)}, (∀ x ∈ es, kTop x.1 = true) → es.map entN = es.map (entryOfKey (nestedKind Pr w)) := fun h => List.map_congr_left fun x hx => entN_eq (h x hx)
theorem dn_of (ok : HOk Pr w H h) (l : Le P H) {a : Addr} {es : List (NestedKey × Addr × Value)} (e : Rd H a (.ext (phN a es))) (ks : ∀ x ∈ es, kTop x.1 = true ∧ Dd P (.ref x.2.1) x.1.data) :
    (a == sysModules) = false ∧ h.DictOfH (nestedKind Pr w) a es := by
  obtain ⟨⟨h0, nd, o, ar, ep, h1, h2, h3, h4⟩, _⟩ := (show ObjOk Pr w H h a (.ext (phN a es)) from e.ok ok)
  exact ⟨h0, o, ar, ep, h1, h2, h3, h4.trans (ents_eq fun x hx => (ks x hx).1), fun x hx => key_at ok l (ks x hx).1 (ks x hx).2, nd⟩
theorem dn_new {a : Addr} {es : List (NestedKey × Addr × Value)} {h' : Heap} {H' : Hp} (hd : (a == sysModules) = false) (ks : ∀ x ∈ es, kTop x.1 = true) (dd : h'.DictOfH (nestedKind Pr w) a es) : ObjOk Pr w H' h' a (.ext (phN a es)) := by
  obtain ⟨o, ar, ep, h1, h2, h3, h4, _, h6⟩ := dd
  refine ⟨⟨hd, h6, o, ar, ep, h1, h2, h3, h4.trans (ents_eq ks).symm⟩, ⟨o, h1⟩, fun g1 g2 p st => ?_⟩
  obtain ⟨q0, q1, o', ar', ep', q2, q3, q4, q5⟩ := p
  exact ⟨q0, q1, o', ar', ep', st _ q2, q3, q4, q5⟩
end
/-- what the dict at a holds at the key y -/
def GGet (H : Hp) (a : Addr) (y : V) (r : Option V) : Prop := DGet H a y r ∨ ∃ es k q P, Rd H a (.ext (phN a es)) ∧ (∀ x ∈ es, kTop x.1 = true ∧ Dd P (.ref x.2.1) x.1.data) ∧ y = .ref q ∧ Le P H ∧ Dd P (.ref q) k.data ∧ kTop k = true ∧ RelO r ((atKey es k).map (·.2))
section
variable {X : Cx} {pins : List (Addr × Obj)} {σ : L2.St} {H : Hp} {s : Shared} {a : Addr} {y v : V} {u r : Value} {o : Option V} {A : Around} {E : Value → Shared → Prop}
theorem room_in1 {A : Around} (hu : A.units + 200 < cLine) : (nestedKind X.prog X.w).room A.in1 := by
  show A.in1.units + 8 < cLine
  have : A.in1.units = A.units + 1 := rfl
  omega
theorem g_getItem {Q : Value → Shared → Prop} (hu : A.units + 200 < cLine) (I : Inv X pins σ H s) (g : GGet H a y (some v)) (ry : RelV y u) (h : ∀ w' s', Inv X pins σ H s' → RelV v w' → Q w' s') :
    wpAny (model X.prog X.w) A (getItem (.ref a) u) Q E s := by
  rcases g with g | ⟨es, k, q, P, e, ks, rfl, l, d, kt, ro⟩
  · exact d_getItem (by omega) I g ry h
  · cases (show u = Value.ref q from ry)
    obtain ⟨hd, dd⟩ := dn_of I.hok l e ks
    obtain ⟨w', hw, rw'⟩ := RelO.some_of ro
    obtain ⟨p, hp, hp2⟩ := Option.map_eq_some_iff.mp hw
    refine wpAny_getItem_heap (room_in1 hu) (key_at I.hok l kt d) dd hp ?_
    rw [hp2]
    exact h w' _ (I.tok _) rw'
theorem g_in {Q : Value → Shared → Prop} (hu : A.units + 200 < cLine) (I : Inv X pins σ H s) (g : GGet H a y o) (ry : RelV y u) (h : ∀ s', Inv X pins σ H s' → Q (.bool o.isSome) s') :
    wpAny (model X.prog X.w) A (compareOp .In u (.ref a)) Q E s := by
  rcases g with g | ⟨es, k, q, P, e, ks, rfl, l, d, kt, ro⟩
  · exact d_in (by omega) I g ry h
  · cases (show u = Value.ref q from ry)
    obtain ⟨hd, dd⟩ := dn_of I.hok l e ks
    refine wpAny_in_heap (room_in1 hu) (key_at I.hok l kt d) hd dd ?_
    have q1 := ro.isSome_eq
    rw [Option.isSome_map] at q1
    rw [← q1]
    exact h _ (I.tok _)
theorem g_notIn {Q : Value → Shared → Prop} (hu : A.units + 200 < cLine) (I : Inv X pins σ H s) (g : GGet H a y o) (ry : RelV y u) (h : ∀ s', Inv X pins σ H s' → Q (.bool (!o.isSome)) s') :
    wpAny (model X.prog X.w) A (compareOp .NotIn u (.ref a)) Q E s := by
  rcases g with g | ⟨es, k, q, P, e, ks, rfl, l, d, kt, ro⟩
  · exact d_notIn (by omega) I g ry h
  · cases (show u = Value.ref q from ry)
    obtain ⟨hd, dd⟩ := dn_of I.hok l e ks
    refine wpAny_notIn_heap (room_in1 hu) (key_at I.hok l kt d) hd dd ?_
    have q1 := ro.isSome_eq
    rw [Option.isSome_map] at q1
    rw [← q1]
    exact h _ (I.tok _)
theorem g_typeIs (I : Inv X pins σ H s) (g : GGet H a y o) : s.TypeIs (.ref a) "dict" := by
  rcases g with g | ⟨es, k, q, P, e, ks, rfl, l, d, kt, ro⟩
  · exact dict_typeIs I g
  · exact (dn_of I.hok l e ks).2.typeIs
/-- d[y], a dict of one's own or frozen -/
def tGGet (td ty : TE) : TE := fun σ H Q => td σ H fun x H1 => ty σ H1 fun y H2 => ∃ a v, x = .ref a ∧ GGet H2 a y (some v) ∧ Q v H2
def rGIn : R2 := fun y x H Q => ∃ a o, x = .ref a ∧ GGet H a y o ∧ Q (.bl o.isSome) H
def rGNotIn : R2 := fun y x H Q => ∃ a o, x = .ref a ∧ GGet H a y o ∧ Q (.bl (!o.isSome)) H
theorem op_gin (hu : X.A.units + 200 < cLine) : OpR X (compareOp .In) rGIn := by
  intro pins s σ H x y v u Q I rx ry ⟨a, o, e, g, q⟩
  subst e
  cases (show u = Value.ref a from ry)
  exact g_in hu I g rx fun s3 I3 => ⟨.bl o.isSome, H, I3, rfl, q⟩
theorem op_gnotIn (hu : X.A.units + 200 < cLine) : OpR X (compareOp .NotIn) rGNotIn := by
  intro pins s σ H x y v u Q I rx ry ⟨a, o, e, g, q⟩
  subst e
  cases (show u = Value.ref a from ry)
  exact g_notIn hu I g rx fun s3 I3 => ⟨.bl (!o.isSome), H, I3, rfl, q⟩
theorem pe_gget {o i : Expr} {pos : Pos} {td ty : TE} (hu : X.A.units + 200 < cLine) (ho : PE X o td) (hi : PE X i ty) (hs : NoSl i) : PE X (.Subscript o i pos) (tGGet td ty) := by
  refine ⟨fun pins s σ H Q I h => ?_⟩
  refine subD_of PySem.F.slot_dict_getitem.lookup hs (thn (ho.run pins s σ H _ I h) fun u s1 ⟨x, H1, I1, rx, q1⟩ => thn (hi.run pins s1 σ H1 _ I1 q1) fun iv s2 ⟨y, H2, I2, ry, a, v, ex, g, q2⟩ => ?_)
  subst ex
  obtain rfl : u = Value.ref a := rx
  exact ⟨g_typeIs I2 g, g_getItem hu I2 g ry fun w' s3 I3 rw' => ⟨v, H2, I3, rw', q2⟩⟩
/-- d[y] = v where the keys are tuples -/
def sNPut (td ty tv : TE) : TS := fun D σ H => tv σ H fun v H1 => td σ H1 fun x H2 => ty σ H2 fun y H3 => ∃ a es k q P, x = .ref a ∧ y = .ref q ∧ H3 a = some (.ext (phN a es)) ∧ (∀ x ∈ es, kTop x.1 = true ∧ Dd P (.ref x.2.1) x.1.data) ∧ Le P H3 ∧ Dd P (.ref q) k.data ∧ kTop k = true ∧
  es.length < sizeLine ∧ ∀ u, RelV v u → D.nx σ (upd H3 a (.ext (phN a (storedH es k q u))))
theorem ps_nput {o i value : Expr} {pos pos' : Pos} {td ty tv : TE} (hu : X.A.units + 200 < cLine) (ho : PE X o td) (hi : PE X i ty) (hv : PE X value tv) (hs : swapsWith value (some (.Subscript o i pos')) pos.line X.env = pure false) :
    PS X (.Assign [.Subscript o i pos'] value pos) (sNPut td ty tv) := by
  refine ⟨fun pins s σ H D I h => ?_⟩
  refine wpAny_Assign_Subscript (thn (hv.run pins s σ H _ I h) fun r s1 ⟨v, H1, I1, rv, q1⟩ => thn (ho.run pins s1 σ H1 _ I1 q1) fun u s2 ⟨x, H2, I2, rx, q2⟩ => thn (hi.run pins s2 σ H2 _ I2 q2) fun iv s3 ⟨y, H3, I3, ry, a, es, k, q, P, ex, ey, e, ks, l, d, kt, hl, q3⟩ => ?_) hs
  subst ex ey
  obtain rfl : u = Value.ref a := rx
  obtain rfl : iv = Value.ref q := ry
  obtain ⟨hd, dd⟩ := dn_of I3.hok l (.inl e) ks
  refine wpAny_setItem_heap (hsz := by omega) (room_in1 hu) (key_at I3.hok l kt d) dd fun h' dd' hs => ⟨σ, _, ?_, q3 r rv⟩
  have he : ∃ q, h'.get? a = some q := let ⟨q, _, _, hq, _⟩ := dd'; ⟨q, hq⟩
  refine d_write I3 (by rw [e]; exact True.intro) hs he (dn_new hd (fun x hx => ?_) dd')
  unfold storedH at hx
  split at hx
  · obtain ⟨x0, h0, e0⟩ := List.mem_map.mp hx
    subst e0
    unfold putAt
    split
    · exact (ks x0 h0).1
    · exact (ks x0 h0).1
  · rcases List.mem_append.mp hx with h0 | h0
    · exact (ks x h0).1
    · rw [List.mem_singleton.mp h0]
      exact kt
/-- {} -/
def tNNew : TE := fun _ H Q => ∀ p, H p = none → Q (.ref p) (upd H p (.ext (phN p [])))
theorem dn_empty {P : Program} {w : World} {H : Hp} (h : Heap) (hb : sysModules < h.objs.size) : ObjOk P w H (h.push { cls := .type "dict", data := .dict #[] }) h.objs.size (.ext (phN h.objs.size [])) :=
  dn_new (Pr := P) (w := w) (beq_eq_false_iff_ne.mpr (Ne.symm (Nat.ne_of_lt hb))) (fun _ h => nomatch h) (Heap.DictOfH.new h)
theorem pe_dnewN {pos : Pos} : PE X (.Dict [] [] pos) tNNew := ⟨fun pins s σ H Q I h =>
  wpAny_Dict_empty ⟨.ref s.heap.objs.size, _, I.laid (a := s.heap.objs.size) (o := .ext (phN s.heap.objs.size [])) (t' := s.toks) (fun _ _ q => Heap.get?_push_of_some _ q) (Nat.le_refl _) (dn_empty s.heap I.big), rfl, h _ (I.hok.fresh (Nat.le_refl _))⟩⟩
end
section
variable {X : Cx} {C : Cc} {W : WX} {pos : Pos} {P H : Hp} {env : Env} {fp : Nat → List Addr} {σ : L2.St}
theorem Own.of_dn {ct : CT} {P H : Hp} {kvs : List (NestedKey × PyData)} {v : V} {f : List Addr} (o : Own ct P H (.ext (.dn kvs)) v f) : ∃ a es, v = .ref a ∧ f = [a] ∧ H a = some (.ext (phN a es)) ∧ DnAll P es kvs := by
  cases o with
  | ext o => cases o with
    | dn h t => exact ⟨_, _, rfl, rfl, h, t⟩
theorem StOk.dnAt (s : StOk C P env fp σ H) {i : Nat} {xs : List (NestedKey × PyData)} (he : env[i]? = some (some (.ext (.dn xs)))) : ∃ a es, σ[i]? = some (some (.ref a)) ∧ fp i = [a] ∧ H a = some (.ext (phN a es)) ∧ DnAll P es xs := by
  obtain ⟨v, e, o⟩ := s.own i _ he
  obtain ⟨a, vs, rfl, hf, hH, d⟩ := o.of_dn
  exact ⟨a, vs, e, hf, hH, d⟩
def isDn : OV → Bool
  | .ext (.dn _) => true
  | _ => false
def gIxN (y : PyData) : OV → Option OV
  | .ext (.dn kvs) => (keyTop y).bind fun k => (lookN kvs k).map .d
  | _ => none
def gInN (neg : Bool) (y : PyData) : OV → Option OV
  | .ext (.dn kvs) => (keyTop y).map fun k => .d (.bool (if neg then !(lookN kvs k).isSome else (lookN kvs k).isSome))
  | _ => none
def gPutN (y x : PyData) : OV → Option (OV × OV)
  | .ext (.dn kvs) => if kvs.length < sizeLine then (keyTop y).map fun k => (.ext (.dn (putN kvs k x)), .d .none) else none
  | _ => none
theorem gIxN_some {y : PyData} {ov r : OV} (h : gIxN y ov = some r) : ∃ kvs k x, ov = .ext (.dn kvs) ∧ (y = k.data ∧ kTop k = true) ∧ lookN kvs k = some x ∧ r = .d x := by
  unfold gIxN at h
  split at h
  · rename_i kvs
    obtain ⟨k, e1, e2⟩ := Option.bind_eq_some_iff.mp h
    obtain ⟨x, e3, e4⟩ := Option.map_eq_some_iff.mp e2
    exact ⟨kvs, k, x, rfl, keyTop_some e1, e3, e4.symm⟩
  · cases h
theorem gInN_some {neg : Bool} {y : PyData} {ov r : OV} (h : gInN neg y ov = some r) : ∃ kvs k, ov = .ext (.dn kvs) ∧ (y = k.data ∧ kTop k = true) ∧ r = .d (.bool (if neg then !(lookN kvs k).isSome else (lookN kvs k).isSome)) := by
  unfold gInN at h
  split at h
  · rename_i kvs
    obtain ⟨k, e1, e2⟩ := Option.map_eq_some_iff.mp h
    exact ⟨kvs, k, rfl, keyTop_some e1, e2.symm⟩
  · cases h
theorem gPutN_some {y x : PyData} {ov w' a : OV} (h : gPutN y x ov = some (w', a)) : ∃ kvs k, ov = .ext (.dn kvs) ∧ (y = k.data ∧ kTop k = true) ∧ kvs.length < sizeLine ∧ w' = .ext (.dn (putN kvs k x)) := by
  unfold gPutN at h
  split at h
  · rename_i kvs
    split at h
    · rename_i hz
      obtain ⟨k, e1, e2⟩ := Option.map_eq_some_iff.mp h
      cases e2
      exact ⟨kvs, k, rfl, keyTop_some e1, hz, rfl⟩
    · cases h
  · cases h
theorem key_ref {P : Hp} {u : V} {k : NestedKey} (kt : kTop k = true) (d : Dd P u k.data) : ∃ q, u = .ref q := by
  obtain ⟨_, _, ks, rfl⟩ := kTop_ok kt
  rw [NestedKey.data] at d
  cases d with
  | tup => exact ⟨_, rfl⟩
def mIxN (i : Nat) (mk : M PyData) : M OV := mHas i isDn >>= fun _ => mk >>= fun y => mPeek i (gIxN y)
def mInN (neg : Bool) (i : Nat) (mk : M PyData) : M OV := mk >>= fun y => mPeek i (gInN neg y)
def mPutN (i : Nat) (mk mv : M PyData) : M Fl := mv >>= fun x => mHas i isDn >>= fun _ => mk >>= fun y => mMut i (gPutN y x) >>= fun _ => pure .nx
def mNewN : M OV := pure (.ext (.dn []))
theorem dn_get {P : Hp} {k : NestedKey} {q : Addr} {a : Addr} {H : Hp} {es : List (NestedKey × Addr × Value)} {kvs : List (NestedKey × PyData)} (l : Le P H) (kt : kTop k = true) (dk : Dd P (.ref q) k.data) (hH : Rd H a (.ext (phN a es))) (d : DnAll P es kvs) :
    (lookN kvs k = none ∧ GGet H a (.ref q) none) ∨ ∃ x v, lookN kvs k = some x ∧ GGet H a (.ref q) (some v) ∧ Dd P v x := by
  rcases d.look k with ⟨h1, h2⟩ | ⟨x, v, q', u, h1, h2, h3, h4⟩
  · exact .inl ⟨h1, .inr ⟨es, k, q, P, hH, d.keys, rfl, l, dk, kt, by rw [h2]; trivial⟩⟩
  · exact .inr ⟨x, v, h1, .inr ⟨es, k, q, P, hH, d.keys, rfl, l, dk, kt, by rw [h2]; exact h3⟩, h4⟩
theorem sE_ixN {i : Nat} {x : Str} {p : Pos} {b : Expr} {mk : M PyData} (hu : X.A.units + 200 < cLine) (n : NameOk X i x) (hb : PE X b (liftD C W mk)) (hs : NoSl b) : PE X (.Subscript (.Name x p) b pos) (liftE C W (mIxN i mk)) :=
  PE.imp (pe_gget hu n.pe hb hs) fun σ H Q q => by
    obtain ⟨v0, ov, P, env, fp, f0, e0, hp, o0, s, h⟩ := slot_start q
    refine ⟨v0, f0, P, env, fp, s, ?_⟩
    rw [M.bind_at] at h
    refine postG.seq h fun y env' P' fp' H' u l s' r q => ?_
    obtain ⟨v1, a1, g1, g2, q'⟩ := peek_at q
    obtain ⟨kvs, k, z, rfl, ⟨rfl, kt⟩, hl, rfl⟩ := gIxN_some g2
    obtain ⟨a, es, f1, _, hH, d⟩ := s'.dnAt g1
    have ew := slot_inj f0 f1
    subst ew
    obtain ⟨q1, rfl⟩ := key_ref kt r
    rcases dn_get s'.le kt r (.inl hH) d with ⟨h1, _⟩ | ⟨z', v, h1, h2, h3⟩
    · rw [h1] at hl; cases hl
    · rw [hl] at h1
      cases h1
      exact ⟨a, v, rfl, h2, q' P' fp' H' v (Le.refl _) s' (rOV.d h3)⟩
theorem sE_inN_aux {neg : Bool} {i : Nat} {mk : M PyData} {σ : L2.St} {H : Hp} {Q : VK} (q : liftE C W (mInN neg i mk) σ H Q) :
    liftD C W mk σ H fun y H1 => ∃ v, σ[i]? = some (some v) ∧ ∃ a o, v = .ref a ∧ GGet H1 a y o ∧ Q (.bl (if neg then !o.isSome else o.isSome)) H1 := by
  refine liftG.seq q fun y env' P' fp' H' u s' r q => ?_
  obtain ⟨v1, a1, g1, g2, q'⟩ := peek_at q
  obtain ⟨kvs, k, rfl, ⟨rfl, kt⟩, rfl⟩ := gInN_some g2
  obtain ⟨a, es, f1, _, hH, d⟩ := s'.dnAt g1
  obtain ⟨q1, rfl⟩ := key_ref kt r
  rcases dn_get s'.le kt r (.inl hH) d with ⟨h1, h2⟩ | ⟨z', v, h1, h2, h3⟩
  · refine ⟨_, f1, a, _, rfl, h2, ?_⟩
    rw [h1] at q'
    exact q' P' fp' H' _ (Le.refl _) s' (rOV.d (.bl _))
  · refine ⟨_, f1, a, _, rfl, h2, ?_⟩
    rw [h1] at q'
    exact q' P' fp' H' _ (Le.refl _) s' (rOV.d (.bl _))
theorem sE_inN {i : Nat} {x : Str} {p : Pos} {b : Expr} {mk : M PyData} (hu : X.A.units + 200 < cLine) (n : NameOk X i x) (hb : PE X b (liftD C W mk)) : PE X (.Compare b [.In] [.Name x p] pos) (liftE C W (mInN false i mk)) :=
  PE.imp (pe_cmpR (op_gin hu) hb n.pe rfl) fun σ H Q q => sE_inN_aux q
theorem sE_notInN {i : Nat} {x : Str} {p : Pos} {b : Expr} {mk : M PyData} (hu : X.A.units + 200 < cLine) (n : NameOk X i x) (hb : PE X b (liftD C W mk)) : PE X (.Compare b [.NotIn] [.Name x p] pos) (liftE C W (mInN true i mk)) :=
  PE.imp (pe_cmpR (op_gnotIn hu) hb n.pe rfl) fun σ H Q q => sE_inN_aux q
theorem sT_inN {i : Nat} {x : Str} {p : Pos} {b : Expr} {mk : M PyData} (hu : X.A.units + 200 < cLine) (n : NameOk X i x) (hb : PE X b (liftD C W mk)) : PT X (.Compare b [.In] [.Name x p] pos) (liftT C W (asB (mInN false i mk))) :=
  PT.imp (pt_cmpR (op_gin hu) hb n.pe rfl) fun σ H Q q => asB.of q fun _ _ _ q => sE_inN_aux q
theorem sT_notInN {i : Nat} {x : Str} {p : Pos} {b : Expr} {mk : M PyData} (hu : X.A.units + 200 < cLine) (n : NameOk X i x) (hb : PE X b (liftD C W mk)) : PT X (.Compare b [.NotIn] [.Name x p] pos) (liftT C W (asB (mInN true i mk))) :=
  PT.imp (pt_cmpR (op_gnotIn hu) hb n.pe rfl) fun σ H Q q => asB.of q fun _ _ _ q => sE_inN_aux q
theorem sS_putN {i : Nat} {x : Str} {p p2 : Pos} {b e : Expr} {mk mv : M PyData} (hu : X.A.units + 200 < cLine) (n : NameOk X i x) (hb : PE X b (liftD C W mk)) (he : PE X e (liftD C W mv)) (hs : swapsWith e (some (.Subscript (.Name x p) b p2)) pos.line X.env = pure false) :
    PS X (.Assign [.Subscript (.Name x p) b p2] e pos) (liftS C W (mPutN i mk mv)) := PS.imp (ps_nput hu n.pe hb he hs) fun D σ H q =>
  liftS.seq q fun z env1 P1 fp1 H1 v s1 r1 q1 => by
    obtain ⟨ov, e0, hp, q2⟩ := hasS q1
    obtain ⟨v0, f0, o0⟩ := s1.own i _ e0
    refine ⟨v0, f0, P1, env1, fp1, s1, ?_⟩
    rw [M.bind_at] at q2
    refine postS.seq q2 fun y env' P' fp' H' u l s' r q => ?_
    obtain ⟨w, w', a, g1, g2, q'⟩ := mutS_at q
    obtain ⟨kvs, k, rfl, ⟨rfl, kt⟩, hz, rfl⟩ := gPutN_some g2
    obtain ⟨ad, es, f1, hf, hH, d⟩ := s'.dnAt g1
    have ew := slot_inj f0 f1
    subst ew
    obtain ⟨q1, rfl⟩ := key_ref kt r
    exact ⟨ad, es, k, q1, P', rfl, rfl, hH, d.keys, s'.le, r, kt, by rw [d.length]; exact hz, fun u ru => q' P' fp' σ _ (Le.refl _) (s'.mut g1 f1 hf trivial fun H2 e2 => .ext (.dn e2 (d.put kt r ru (l.dp r1))))⟩
theorem sE_newN : PE X (.Dict [] [] pos) (liftE C W mNewN) := PE.imp pe_dnewN fun σ H Q q => by
  obtain ⟨P, env, fp, s, h⟩ := q
  intro p hp
  obtain ⟨s2, t⟩ := s.newt hp (u := .ext (phN p [])) trivial
  exact h P fp _ _ (Le.refl _) s2 ⟨[p], .ext (.dn upd_same .nil), t⟩
end
end TL
set_option Elab.async false
set_option linter.all false
set_option maxRecDepth 100000
set_option maxHeartbeats 1000000
namespace TL
open PySem PySem.Spec PyProof.Rows L2
/-! ### enumerate over a list or a tuple -/
/-- the tuple at a, each item in a new pair with its place -/
def ItEn (K : PySem.W.Frag) (a : Addr) : It :=
  ⟨fun i H => ∃ (vs : List V) (v : V), SqT K H a vs ∧ vs[i]? = some v, fun i H r H' => ∃ T v, r = .ref T ∧ H T = none ∧ H' = upd H T (.tup [.int (i : Nat), v]) ∧ ∀ vs, SqT K H a vs → vs[i]? = some v,
    fun i H => ∃ vs : List V, SqT K H a vs ∧ vs.length ≤ i⟩
theorem turn_enumT {P : Program} {w : World} {K : PySem.W.Frag} {elts : List Expr} {kk : Nat} {tpos : Pos} (a e it : Addr) :
    Turn P w K (.Tuple elts kk tpos) (ItEn K a) [e, it] e (fun i h => (∃ old, IsEnum h e it ((i : Nat) : Int) old) ∧ h.IsTupleIter it a i ∧ e ≠ it ∧ e ≠ a ∧ a ≠ it) where
  mem := List.mem_cons_self
  obj := fun i h st b hb => by
    obtain ⟨⟨old, he⟩, ⟨o, ho, hc, hd⟩, _⟩ := st
    rcases List.mem_cons.mp hb with z | z
    · exact ⟨_, by rw [z]; exact he, fun v q => by cases q⟩
    · exact ⟨o, by rw [List.mem_singleton.mp z]; exact ho, fun v q => by rw [hd] at q; cases q⟩
  keep := fun i h h' st k => by
    obtain ⟨⟨old, he⟩, hi, ne⟩ := st
    exact ⟨⟨old, k e List.mem_cons_self _ he⟩, hi.at fun o q => k it (List.mem_cons_of_mem _ List.mem_cons_self) o q, ne⟩
  item := by
    intro X hP hw hK hc i pins s σ H E I hf st hg
    subst hP hw hK
    obtain ⟨⟨old, he⟩, hit, n1, n2, n3⟩ := st
    obtain ⟨vs, x, hq, hx⟩ := hg
    obtain ⟨us, rv, p, hz⟩ := I.tuple hq
    obtain ⟨u, hu, ru⟩ := rv.get hx
    have lt_e : e < s.heap.objs.size := Heap.lt_size he
    have lt_i : it < s.heap.objs.size := by
      obtain ⟨_, q, _⟩ := hit
      exact Heap.lt_size q
    have D := Draws.tuple (prog := X.prog) (w := X.w) (A := X.A.in1) (I.ok.hd hc) it a n3 us.toArray
    have hlt : i < us.toArray.size := by
      have := (List.getElem?_eq_some_iff.mp hu).1
      simpa using this
    refine wpAny_pyNext_enum_itemD D he ⟨hit, p⟩ hlt n1 (by simp [n1, n2]) fun y h' tk hP ho hs hT hsz hk => ?_
    have hy : y = u := by
      have h1 : us[i]? = some y := by simpa using hP
      rw [hu] at h1
      exact (Option.some.inj h1).symm
    subst hy
    refine ⟨_, rfl, wpAny_letOwnedTupleGo_enum (s := { s with heap := h', toks := tk + 1 }) ho fun h2 he2 sb => ?_⟩
    have hT2 := (sb.2 _ (Nat.ne_of_gt lt_e)).trans hT
    have new : ObjOk X.prog X.w (upd H s.heap.objs.size (.tup [.int (i : Nat), x])) h2 s.heap.objs.size (.tup [.int (i : Nat), x]) :=
      ⟨by show 2 ≤ sizeLine; decide, [.int i tk, y], .cons ⟨_, rfl⟩ (.cons ru .nil), _, hT2, rfl, _, rfl⟩
    have J : Inv X pins σ (upd H s.heap.objs.size (.tup [.int (i : Nat), x])) { s with heap := h2, toks := tk + 1 } :=
      I.turnedNew (t' := tk + 1) (ch := [e, it]) (fun b ob hb q => (sb.2 b fun z => hb (by rw [z]; exact List.mem_cons_self)).trans (hk b ob (fun z => hb (by rw [z]; exact List.mem_cons_self)) (fun z => hb (by rw [z]; exact List.mem_cons_of_mem _ List.mem_cons_self)) q)) hf (Nat.le_refl _) new
    refine ⟨.ref s.heap.objs.size, _, J, rfl, ⟨_, x, rfl, I.hok.fresh (Nat.le_refl _), rfl, fun l hl => by rw [I.tuple_inj hl hq]; exact hx⟩, ⟨⟨y, ?_⟩, hs.1.at fun o q => (sb.2 it (Ne.symm n1)).trans q, n1, n2, n3⟩, fun b hb => ?_⟩
    · rw [show ((i + 1 : Nat) : Int) = (i : Int) + 1 by omega]
      exact he2
    · have hb' : b < s.heap.objs.size := by
        rcases List.mem_cons.mp hb with z | z
        · rw [z]; exact lt_e
        · rw [List.mem_singleton.mp z]; exact lt_i
      rw [upd_ne (Nat.ne_of_lt hb')]
      exact (hf b hb).1
  done := by
    intro X hP hw hK hc i pins s σ H E I hf st hg
    subst hP hw hK
    obtain ⟨⟨old, he⟩, hit, n1, n2, n3⟩ := st
    obtain ⟨vs, hq, hx⟩ := hg
    obtain ⟨us, rv, p, hz⟩ := I.tuple hq
    have hn : us.toArray[i]? = none := by
      have := rv.length
      rw [List.getElem?_toArray]
      exact List.getElem?_eq_none (by omega)
    have D : Draws X.prog X.w X.A.in1 it [it, a] i (fun _ _ => True) (fun j h => j = i ∧ h.IsTupleIter it a i ∧ h.IsTuple a us.toArray) :=
      { live := fun j h z => by
          obtain ⟨_, ⟨o, q, _⟩, _⟩ := z
          exact ⟨o, q⟩
        frame := fun j h h' z k => ⟨z.1, z.2.1.at fun o q => k it List.mem_cons_self o q, z.2.2.at fun o q => k a (List.mem_cons_of_mem _ List.mem_cons_self) o q⟩
        item := fun j s Q E hj z => absurd z.1 (Nat.ne_of_lt hj)
        done := fun s Q E z k => wpAny_nextOf_tuple_end (I.ok.hd hc) z.2.1 z.2.2 hn k }
    refine wpAny_pyNext_enum_endD D he ⟨rfl, hit, p⟩ fun h' eb => ?_
    obtain ⟨f0, f1, f2, f3, f4, f5⟩ := hf it (List.mem_cons_of_mem _ List.mem_cons_self)
    exact ⟨rfl, I.turned (t' := s.toks) (fun b o hb q => eb b o hb q) f0 f1 f3 f4 f5⟩
  self := fun A i s Q E st h => by
    obtain ⟨⟨_, he⟩, _⟩ := st
    exact wpAny_pyIter_enum he h
/-- enumerate(v), v anything that a walk begins over -/
theorem enum_of_one {v : Value} {ob : Obj} {Φ : Heap → Prop} (B : Begins v ob Φ) :
    Meets (Builtin.«enumerate.__new__» ⟨[.type "enumerate", v], []⟩) (fun _ R s => Φ s.heap ∧
      R (.ok (.ret (.ref (s.heap.push ob).objs.size))) { s with heap := (s.heap.push ob).push { cls := .type "enumerate", data := .fields #[.none, .bool false, .ref s.heap.objs.size, rawInt 0, .none, .none] } }) :=
  .of_wp fun prog w A R s ⟨hv, h⟩ => by
    obtain ⟨hp, gl, dd, tk, out⟩ := s
    have hsub := sub_enumerate
    have it : ∀ {A' : Around} {E Q : Value → Shared → Prop}, Q (.ref hp.objs.size) ⟨hp.push ob, gl, dd, tk, out⟩ → wpAny (model prog w) A' (pyIter v) Q E ⟨hp, gl, dd, tk, out⟩ :=
      fun q => B.iter prog w _ _ ⟨hp, gl, dd, tk, out⟩ _ hv q
    wp_walk using it
    refine wpAny_stack_any fun st => wpAny_pure ?_
    split
    · rename_i c _ _ _ _ _
      cases (c == Value.type "enumerate") <;> (wp_walk using it; exact ⟨_, rfl, h⟩)
    · wp_walk using it
      exact ⟨_, rfl, h⟩
theorem call_enum_tup {prog : Program} {w : World} {A : Around} {E : Value → Shared → Prop} {s : Shared} {t : Addr} {us : Array Value} {Q : Value → Shared → Prop} (ht : s.heap.IsTuple t us)
    (h : ∀ h', IsEnum h' (s.heap.objs.size + 1) s.heap.objs.size 0 .none → h'.IsTupleIter s.heap.objs.size t 0 → (∀ b o, s.heap.get? b = some o → h'.get? b = some o) → Q (.ref (s.heap.objs.size + 1)) { s with heap := h' }) :
    wpAny (model prog w) A (call (.type "enumerate") [.ref t]) Q E s := by
  refine callType_new F.called_enumerate (by decide) (F.typeCall_enumerate_1 _) (F.newCall_enumerate_1 _) (fun obj => F.args_object_init_2 obj _) F.entry_enumerate_new (enum_of_one (begins_tuple t us)) ⟨ht, ?_⟩
  generalize hg : s.heap.push { cls := .type "tuple_iterator", data := .fields #[.ref t, .int 0 0] } = g
  have hz : g.objs.size = s.heap.objs.size + 1 := by rw [← hg]; exact Heap.size_push ..
  have hi : g.get? s.heap.objs.size = some { cls := .type "tuple_iterator", data := .fields #[.ref t, .int 0 0] } := by rw [← hg]; exact Heap.get?_push_size _ rfl
  have hk : ∀ b o, s.heap.get? b = some o → g.get? b = some o := fun b o q => by rw [← hg]; exact Heap.get?_push_of_some _ q
  have he := Heap.get?_push_size g (o := { cls := .type "enumerate", data := .fields #[.none, .bool false, .ref s.heap.objs.size, rawInt 0, .none, .none] }) rfl
  rw [hz] at he
  show _ ∧ _
  rw [hz]
  exact ⟨⟨_, he, rfl⟩, h _ he ⟨_, Heap.get?_push_of_some _ hi, rfl, rfl⟩ fun b o q => Heap.get?_push_of_some _ (hk b o q)⟩
/-- enumerate(e): e a list or a tuple -/
def iEnumA (K : PySem.W.Frag) (ta : TA) : TI := fun σ H R => ta σ H fun vs H1 => ∃ a xs, vs = [.ref a] ∧ ((SqL K H1 a xs ∧ R (Ite K a) H1) ∨ (SqT K H1 a xs ∧ R (ItEn K a) H1))
theorem pi_enumA {X : Cx} {e : Expr} {ta : TA} {p pos tpos : Pos} {elts : List Expr} {kk : Nat} (hg : Gl X "enumerate") (hm : X.mg "enumerate" = none) (ha : PA X [e] ta) (hs : starEach [e] X.env = (false, eval e X.env) :: starEach [] X.env) :
    PI X (.Tuple elts kk tpos) (.Call (.Name "enumerate" p) [e] [] pos) (iEnumA X.K ta) := by
  refine ⟨fun pins s σ H R I h => Call_ (ld_blt I hg hm boot_enumerate (PyProof.Rows.callWith_type1 (thn (ha.run pos pins s σ H _ I h) fun us s1 ⟨vs, H1, J, r1, a, xs, ex, q⟩ => ?_) hs rfl))⟩
  subst ex
  cases r1 with
  | cons r rr =>
    cases rr
    cases r
    have fr : ∀ b ∈ [s1.heap.objs.size + 1, s1.heap.objs.size], FpOk X pins H1 b := fun b hb => by
      have hle : s1.heap.objs.size ≤ b := by
        rcases List.mem_cons.mp hb with z | z
        · rw [z]; exact Nat.le_add_right _ _
        · rw [List.mem_singleton.mp z]; exact Nat.le_refl _
      exact J.fpOk hle (J.hok.fresh hle)
    rcases q with ⟨hq, q⟩ | ⟨hq, q⟩
    · obtain ⟨us, rv, p2, hz⟩ := J.list hq
      refine call_enumerate_list p2.isList fun h' he hit hsz hk => wpAny_pyIter_enum he ?_
      exact ⟨s1.heap.objs.size + 1, [s1.heap.objs.size + 1, s1.heap.objs.size], _, _, H1, rfl, J.kept (t' := s1.toks) hk, turn_enum a (s1.heap.objs.size + 1) s1.heap.objs.size, ⟨⟨.none, he⟩, hit, Nat.succ_ne_self _⟩, fr, q⟩
    · obtain ⟨us, rv, p2, hz⟩ := J.tuple hq
      have hla : a < s1.heap.objs.size := by
        obtain ⟨o, q, _⟩ := p2
        exact Heap.lt_size q
      refine call_enum_tup p2 fun h' he hit hk => wpAny_pyIter_enum he ?_
      exact ⟨s1.heap.objs.size + 1, [s1.heap.objs.size + 1, s1.heap.objs.size], _, _, H1, rfl, J.kept (t' := s1.toks) hk, turn_enumT a (s1.heap.objs.size + 1) s1.heap.objs.size, ⟨⟨.none, he⟩, hit, Nat.succ_ne_self _, Ne.symm (Nat.ne_of_lt (Nat.lt_succ_of_lt hla)), Nat.ne_of_lt hla⟩, fr, q⟩
section
variable {X : Cx} {C : Cc} {W : WX} {pos : Pos}
def enumD (xs : List PyData) : List PyData := (List.range xs.length).zipWith (fun i x => .tuple [.int (i : Nat), x]) xs
theorem enumD_length (xs : List PyData) : (enumD xs).length = xs.length := by unfold enumD; simp
theorem enumD_get {xs : List PyData} {i : Nat} {z : PyData} (h : (enumD xs)[i]? = some z) : ∃ x, xs[i]? = some x ∧ z = .tuple [.int (i : Nat), x] := by
  unfold enumD at h
  rw [List.getElem?_zipWith] at h
  split at h
  · rename_i j x h1 h2
    cases h
    have hj : j = i := by
      have hi := (List.getElem?_eq_some_iff.mp h1).2
      simpa using hi.symm
    subst hj
    exact ⟨x, h2, rfl⟩
  · cases h
def mEnum (m : M PyData) : M (List PyData) := m >>= fun x => match x with
  | .list xs => pure (enumD xs)
  | .tuple xs => pure (enumD xs)
  | _ => fun _ => none
theorem wk_enum {P : Hp} {xs : List PyData} {vs : List V} (d : DdAll P vs xs) {J : It} (hs : ∀ i H, Le P H → vs.length ≤ i → J.stop i H) (hg : ∀ i H x, Le P H → vs[i]? = some x → J.go i H ∧
    ∀ v H', J.yld i H v H' → ∃ T, v = .ref T ∧ H T = none ∧ H' = upd H T (.tup [.int (i : Nat), x])) : Wk C J P (enumD xs) := fun i P' env fp F σ H l s => by
  refine ⟨fun hi => hs i H (l.trans s.le) (by rw [enumD_length] at hi; rw [dpAll_length d]; exact hi), fun z hz => ?_⟩
  obtain ⟨x, h1, rfl⟩ := enumD_get hz
  obtain ⟨v, h3, h4⟩ := dpAll_get d h1
  obtain ⟨g1, g2⟩ := hg i H v (l.trans s.le) h3
  refine ⟨g1, fun w H' yl => ?_⟩
  obtain ⟨T, rfl, hT, rfl⟩ := g2 w H' yl
  obtain ⟨l3, s3⟩ := s.laid hT (u := .tup [.int (i : Nat), v]) trivial
  exact ⟨_, l3, s3, .tup (SqT.of upd_same) (.cons (.int _) (.cons ((l.trans l3).dp h4) .nil))⟩
theorem sI_enum {elts : List Expr} {kk : Nat} {tpos p : Pos} {a : Expr} {ma : M PyData} (hg : Gl X "enumerate") (hm : X.mg "enumerate" = none) (ha : PE X a (liftD C W ma)) (na : NS a) :
    PI X (.Tuple elts kk tpos) (.Call (.Name "enumerate" p) [a] [] pos) (liftI C W (mEnum ma)) :=
  PI.imp (pi_enumA hg hm (pa_cons ha pa_nil (na [] _)) (na [] _)) fun σ H R q => by
    obtain ⟨P, env, fp, s, h'⟩ := q
    refine ⟨P, env, fp, s, postI.seq h' fun x env' P' fp' H' v e l s' r q => ?_⟩
    cases r with
    | lst h1 a1 =>
      rename_i ad vs xs
      refine ⟨ad, vs, rfl, .inl ⟨toK_L (s'.le.sqL h1), q P' fp' H' _ (Le.refl _) s' (wk_enum a1 (fun i H hH hi => ⟨vs, toK_L (hH.sqL h1), hi⟩) fun i H x hH hx => ⟨⟨vs, x, toK_L (hH.sqL h1), hx⟩, fun w H' yl => ?_⟩)⟩⟩
      obtain ⟨T, y, rfl, hT, rfl, q1⟩ := yl
      have ey := q1 vs (toK_L (hH.sqL h1))
      rw [hx] at ey
      cases ey
      exact ⟨T, rfl, hT, rfl⟩
    | tup h1 a1 =>
      rename_i ad vs xs
      refine ⟨ad, vs, rfl, .inr ⟨toK_T (s'.le.sqT h1), q P' fp' H' _ (Le.refl _) s' (wk_enum a1 (fun i H hH hi => ⟨vs, toK_T (hH.sqT h1), hi⟩) fun i H x hH hx => ⟨⟨vs, x, toK_T (hH.sqT h1), hx⟩, fun w H' yl => ?_⟩)⟩⟩
      obtain ⟨T, y, rfl, hT, rfl, q1⟩ := yl
      have ey := q1 vs (toK_T (hH.sqT h1))
      rw [hx] at ey
      cases ey
      exact ⟨T, rfl, hT, rfl⟩
    | _ => exact False.elim q
end
end TL
set_option Elab.async false
set_option linter.all false
set_option maxRecDepth 100000
set_option maxHeartbeats 1000000
namespace TL
open PySem PySem.Spec PyProof.Rows L2
section
variable {X : Cx} {C : Cc} {W : WX} {pos : Pos}
/-! ### xs[::-1], -e -/
def mRevL (m : M PyData) : M OV := m >>= fun x => M.opt (match x with
  | .list xs => some (.lst xs.reverse)
  | _ => none)
theorem sE_revL {e : Expr} {k : Nat} {p1 p2 p3 : Pos} {m : M PyData} (h : PE X e (liftD C W m)) : PE X (.Subscript e (.Slice none none (some (.UnaryOp .USub (.Constant (.int 1) k p1) p2)) p3) pos) (liftE C W (mRevL m)) :=
  PE.imp (pe_revL h) fun σ H Q q => by
    refine liftG.seq q fun x env1 P1 fp1 H1 v s1 r1 h1 => ?_
    obtain ⟨o, e, q'⟩ := opt_some h1
    cases r1 with
    | lst h a =>
      cases e
      exact ⟨_, _, rfl, toK_L (s1.le.sqL h), fun p hp => rOV.newL s1 (dpAll_reverse a) q' hp⟩
    | _ => cases e
def gNeg : PyData → Option PyData
  | .int i => some (.int (-i))
  | _ => none
def mNeg (m : M PyData) : M OV := m >>= fun x => M.opt ((gNeg x).map .d)
theorem sE_neg {e : Expr} {m : M PyData} (h : PE X e (liftD C W m)) : PE X (.UnaryOp .USub e pos) (liftE C W (mNeg m)) :=
  PE.imp (pe_un un_neg h) fun σ H Q q => by
    refine liftG.seq q fun x env1 P1 fp1 H1 v s1 r1 h1 => ?_
    obtain ⟨o, e, q'⟩ := opt_some h1
    cases r1 with
    | int i =>
      cases e
      exact ⟨i, rfl, q' P1 fp1 H1 _ (Le.refl _) s1 (rOV.d (.int _))⟩
    | _ => cases e
end
end TL
set_option Elab.async false
set_option linter.all false
set_option maxRecDepth 100000
set_option maxHeartbeats 1000000
namespace TL
open PySem PySem.Spec PyProof.Rows L2
/-! ### the entries of a dict -/
inductive Ents (d : Addr) : HO → List V → List V → Prop
  | k {vs : List (Key × V)} : Ents d (.dK vs) (vs.map fun p => kV p.1) (vs.map (·.2))
  | n {es : List (NestedKey × Addr × Value)} {xs : List V} : Vals xs (es.map (·.2.2)) → Ents d (.ext (phN d es)) (es.map fun e => V.ref e.2.1) xs
structure RawD (d : Addr) (o : Obj) (es : Array DictEntry) (ep : Nat) (ks vs : List V) : Prop where
  sys : (d == sysModules) = false
  ex : o.ExactDict
  dat : o.data = .dict es ep
  keys : Vals ks (es.toList.map (·.key))
  vals : Vals vs (es.toList.map (·.val))
theorem RawD.size {d : Addr} {o : Obj} {es : Array DictEntry} {ep : Nat} {ks vs : List V} (r : RawD d o es ep ks vs) : es.size = ks.length ∧ es.size = vs.length := by
  have h1 := r.keys.length
  have h2 := r.vals.length
  rw [List.length_map, Array.length_toList] at h1 h2
  exact ⟨h1.symm, h2.symm⟩
theorem vals_of_pairs {P : Program} {w : World} {us : List (Key × Value)} {es : List DictEntry} (p : Pairs (mixKind P w) es us) : ∀ {vs : List (Key × V)}, KV vs us → Vals (vs.map fun p => kV p.1) (es.map (·.key)) ∧ Vals (vs.map (·.2)) (es.map (·.val)) := by
  induction p with
  | nil =>
    intro vs r
    cases r
    exact ⟨.nil, .nil⟩
  | cons h1 h2 _ ih =>
    intro vs r
    unfold KV at r
    cases r with
    | cons h t =>
      obtain ⟨t1, t2⟩ := ih t
      refine ⟨.cons ?_ t1, .cons ?_ t2⟩
      · show RelV (kV (Prod.fst _)) (DictEntry.key _)
        rw [h.1]
        exact relV_key (show keyIs _ _ = true from h1)
      · show RelV (Prod.snd _) (DictEntry.val _)
        rw [h2]
        exact h.2
theorem vals_refs2 : ∀ es : List (NestedKey × Addr × Value), Vals (es.map fun e => V.ref e.2.1) ((es.map entN).map (·.key))
  | [] => .nil
  | _ :: es => .cons rfl (vals_refs2 es)
section
variable {X : Cx} {pins : List (Addr × Obj)} {σ : L2.St} {H : Hp} {s : Shared} {d : Addr} {u : HO} {ks vs : List V}
theorem raw_ok {P : Program} {w : World} {h : Heap} (x : ObjOk P w H h d u) (e : Ents d u ks vs) : ∃ o es ep, h.get? d = some o ∧ RawD d o es ep ks vs := by
  cases e with
  | k =>
    obtain ⟨_, hs, us, kv, o, es, ep, ho, hx, hd, _, hp, _⟩ := x
    obtain ⟨h1, h2⟩ := vals_of_pairs hp kv
    exact ⟨o, es, ep, ho, hs, hx, hd, h1, h2⟩
  | n r =>
    obtain ⟨⟨hs, _, o, es, ep, ho, hx, hd, he⟩, _⟩ := x
    refine ⟨o, es, ep, ho, hs, hx, hd, ?_, ?_⟩
    · rw [he]; exact vals_refs2 _
    · rw [he, List.map_map]; exact r
theorem raw_frz (I : Inv X pins σ H s) {ob : Obj} (h : H d = some (.frz ob u)) (e : Ents d u ks vs) : s.heap.get? d = some ob ∧ ∃ es ep, RawD d ob es ep ks vs := by
  obtain ⟨h1, h2⟩ := (show ObjOk X.prog X.w H s.heap d (.frz ob u) from I.hok d _ h)
  obtain ⟨o, es, ep, h3, h4⟩ := raw_ok h2 e
  rw [h1] at h3
  cases h3
  exact ⟨h1, es, ep, h4⟩
end
/-- the keys of a locked dict -/
def ItKR (d : Addr) (o : Obj) (u : HO) (ks vs : List V) : It :=
  ⟨fun i H => (H d = some (.frz o u) ∧ Ents d u ks vs) ∧ i < ks.length, fun i H x H' => H' = H ∧ ks[i]? = some x, fun i H => (H d = some (.frz o u) ∧ Ents d u ks vs) ∧ ks.length ≤ i⟩
/-- its values -/
def ItVR (d : Addr) (o : Obj) (u : HO) (ks vs : List V) : It :=
  ⟨fun i H => (H d = some (.frz o u) ∧ Ents d u ks vs) ∧ i < vs.length, fun i H x H' => H' = H ∧ vs[i]? = some x, fun i H => (H d = some (.frz o u) ∧ Ents d u ks vs) ∧ vs.length ≤ i⟩
section
variable {P : Program} {w : World} {K : PySem.W.Frag} {tg : Expr} {d : Addr} {o : Obj} {u : HO} {ks vs : List V} {es : Array DictEntry} {ep : Nat}
theorem turn_keysR (it : Addr) (hod : o.data = .dict es ep) : Turn P w K tg (ItKR d o u ks vs) [it] it (fun i h => h.IsKeyIter it d i es.size ep) where
  mem := by simp
  obj := fun i h st b hb => by
    have e : b = it := by simpa using hb
    subst e
    obtain ⟨oi, e, c, dd⟩ := st
    exact ⟨oi, e, fun v z => by rw [dd] at z; cases z⟩
  keep := fun i h h' st k => st.at fun oi e => k it (by simp) oi e
  item := by
    intro X hP hw hK hc i pins s σ H E I hf st hg
    subst hP hw hK
    obtain ⟨⟨hd, en⟩, hi⟩ := hg
    obtain ⟨f0, f1, f2, f3, f4, f5⟩ := hf it (by simp)
    obtain ⟨hgd, es', ep', r⟩ := raw_frz I hd en
    obtain ⟨rfl, rfl⟩ := dict_ep hod r.dat
    obtain ⟨sz1, sz2⟩ := r.size
    obtain ⟨x, hx⟩ : ∃ x, ks[i]? = some x := ⟨ks[i], List.getElem?_eq_getElem hi⟩
    obtain ⟨uv, hu, ru⟩ := r.keys.get hx
    rw [List.getElem?_map] at hu
    obtain ⟨ent, he, rfl⟩ := Option.map_eq_some_iff.mp hu
    rw [Array.getElem?_toList] at he
    refine next_key_item st hgd hod rfl he fun h' st' sb => ?_
    have I1 : Inv X pins σ H { s with heap := h' } := I.turned (t' := s.toks) (fun b ob hb e => (sb.2 b hb).trans e) f0 f1 f3 f4 f5
    obtain ⟨oi, e, c, dd⟩ := id st'
    exact ⟨ent.key, rfl, go_of (s := { s with heap := h' }) e c dd (by decide) ⟨x, H, I1, ru, ⟨rfl, hx⟩, st', fun b hb => (hf b hb).1⟩⟩
  done := by
    intro X hP hw hK hc i pins s σ H E I hf st hg
    subst hP hw hK
    obtain ⟨⟨hd, en⟩, hi⟩ := hg
    obtain ⟨f0, f1, f2, f3, f4, f5⟩ := hf it (by simp)
    obtain ⟨hgd, es', ep', r⟩ := raw_frz I hd en
    obtain ⟨rfl, rfl⟩ := dict_ep hod r.dat
    exact next_key_end (I.ok.hd hc) st hgd hod rfl (by have := r.size.1; omega) fun h' eb => ⟨rfl, I.turned (t' := s.toks) (fun b ob hb e => eb b ob hb e) f0 f1 f3 f4 f5⟩
  self := fun A i s Q E st h => by
    refine wpAny_pyIter_slot st.typeIs F.slot_dict_keyiterator_iter (wpAny_call_entry F.slot_dict_keyiterator_iter st.typeIs F.entry_dict_keyiterator_iter ?_ (F.args_dict_keyiterator_iter_1 _))
    show wpAny _ _ (ret (.ref it)) _ _ s
    exact wpAny_pure ⟨_, rfl, "dict_keyiterator", _, st.typeIs, F.slot_dict_keyiterator_next.lookup, h⟩
theorem turn_valsR (it : Addr) (hod : o.data = .dict es ep) : Turn P w K tg (ItVR d o u ks vs) [it] it (fun i h => h.IsValIter it d i es.size ep) where
  mem := by simp
  obj := fun i h st b hb => by
    have e : b = it := by simpa using hb
    subst e
    obtain ⟨oi, e, c, dd⟩ := st
    exact ⟨oi, e, fun v z => by rw [dd] at z; cases z⟩
  keep := fun i h h' st k => st.at fun oi e => k it (by simp) oi e
  item := by
    intro X hP hw hK hc i pins s σ H E I hf st hg
    subst hP hw hK
    obtain ⟨⟨hd, en⟩, hi⟩ := hg
    obtain ⟨f0, f1, f2, f3, f4, f5⟩ := hf it (by simp)
    obtain ⟨hgd, es', ep', r⟩ := raw_frz I hd en
    obtain ⟨rfl, rfl⟩ := dict_ep hod r.dat
    obtain ⟨sz1, sz2⟩ := r.size
    obtain ⟨x, hx⟩ : ∃ x, vs[i]? = some x := ⟨vs[i], List.getElem?_eq_getElem hi⟩
    obtain ⟨uv, hu, ru⟩ := r.vals.get hx
    have hlt : i < es'.size := by omega
    have e3 : es'[i].val = uv := by
      rw [List.getElem?_map, Array.getElem?_toList, Array.getElem?_eq_getElem hlt] at hu
      exact Option.some.inj hu
    refine wpAny_pyNext_values_item_raw st ⟨o, hgd, r.ex, hod⟩ hlt fun h' st' sb => ?_
    have I1 : Inv X pins σ H { s with heap := h' } := I.turned (t' := s.toks) (fun b ob hb e => (sb.2 b hb).trans e) f0 f1 f3 f4 f5
    obtain ⟨oi, e, c, dd⟩ := id st'
    exact ⟨es'[i].val, rfl, go_of (s := { s with heap := h' }) e c dd (by decide) ⟨x, H, I1, by rw [e3]; exact ru, ⟨rfl, hx⟩, st', fun b hb => (hf b hb).1⟩⟩
  done := by
    intro X hP hw hK hc i pins s σ H E I hf st hg
    subst hP hw hK
    obtain ⟨⟨hd, en⟩, hi⟩ := hg
    obtain ⟨f0, f1, f2, f3, f4, f5⟩ := hf it (by simp)
    obtain ⟨hgd, es', ep', r⟩ := raw_frz I hd en
    obtain ⟨rfl, rfl⟩ := dict_ep hod r.dat
    exact wpAny_pyNext_values_end_raw (I.ok.hd hc) st ⟨o, hgd, r.ex, hod⟩ (by have := r.size.2; omega) fun h' eb => ⟨rfl, I.turned (t' := s.toks) (fun b ob hb e => eb b ob hb e) f0 f1 f3 f4 f5⟩
  self := fun A i s Q E st h => wpAny_pyIter_valiter st h
end
def iKR (td : TE) : TI := fun σ H R => td σ H fun x H1 => ∃ d o u ks vs, x = .ref d ∧ H1 d = some (.frz o u) ∧ Ents d u ks vs ∧ R (ItKR d o u ks vs) H1
def iVR (td : TE) : TI := fun σ H R => td σ H fun x H1 => ∃ d o u ks vs, x = .ref d ∧ H1 d = some (.frz o u) ∧ Ents d u ks vs ∧ R (ItVR d o u ks vs) H1
section
variable {X : Cx} {tg e : Expr} {td : TE} {apos cpos : Pos}
theorem pi_keysR (he : PE X e td) : PI X tg e (iKR td) := by
  refine ⟨fun pins s σ H R I h => ?_⟩
  refine thn (he.run pins s σ H _ I h) fun uv s1 ⟨x, H1, I1, rx, d, o, u, ks, vs, ex, hd, en, q⟩ => ?_
  subst ex
  obtain rfl : uv = Value.ref d := rx
  obtain ⟨hgd, es, ep, r⟩ := raw_frz I1 hd en
  exact iter_keys r.sys hgd r.ex r.dat (pi_one (tk := s1.toks) I1 _ (turn_keysR _ r.dat) ⟨_, Heap.get?_push_size _ rfl, rfl, rfl⟩ q)
theorem pi_valuesR (he : PE X e td) (hbase : attributeBase e "values" X.env (eval e X.env) = eval e X.env := by rfl) (hline : (apos.endLine == cpos.line) = true := by rfl) : PI X tg (.Call (.Attribute e "values" apos) [] [] cpos) (iVR td) := by
  refine ⟨fun pins s σ H R I h => ?_⟩
  refine wpAny_Call_method (T := "dict") (id := "dict.values") hbase rfl hline F.plainAttrs_dict F.slot_dict_values F.type_dict_values (thn (he.run pins s σ H _ I h) fun uv s1 ⟨x, H1, I1, rx, d, o, u, ks, vs, ex, hd, en, q⟩ => ?_)
  subst ex
  obtain rfl : uv = Value.ref d := rx
  obtain ⟨hgd, es, ep, r⟩ := raw_frz I1 hd en
  have hm : s1.heap.DictRaw d es ep := ⟨o, hgd, r.ex, r.dat⟩
  refine ⟨hm.typeIs, fun b q => by cases q; exact ⟨o, hgd, r.ex.2.1⟩, ?_⟩
  have I2 : Inv X pins σ H1 { s1 with heap := s1.heap.push { cls := .type "dict_values", data := .fields #[.ref d] } } := I1.kept (t' := s1.toks) fun b ob q => Heap.get?_push_of_some _ q
  have fin : wpAny (model X.prog X.w) X.A (pyIter (.ref s1.heap.objs.size)) (PIE X pins σ tg R) X.xe { s1 with heap := s1.heap.push { cls := .type "dict_values", data := .fields #[.ref d] } } :=
    wpAny_pyIter_values_raw (d := d) ⟨_, Heap.get?_push_size _ rfl, rfl, rfl⟩ (hm.push _) (pi_one (tk := s1.toks) I2 _ (turn_valsR _ r.dat) ⟨_, Heap.get?_push_size _ rfl, rfl, rfl⟩ q)
  show wpAny _ _ (callWith cpos (.builtin "dict.values") [.ref d] [] []) _ X.xe s1
  exact method_meetsIn F.slot_dict_values F.entry_dict_values rfl (PySem.evalArgs_none ⟨rfl, hm.typeIs, F.args_dict_values_1 _, _, meets_dict_values_raw d r.sys, ⟨es, ep, hm⟩, fin⟩)
end
/-! ### frozen dicts -/
theorem ddI_ents {P : Hp} : ∀ {vs : List (Key × V)} {xs : List (PyData × PyData)}, DdI P vs xs → DdAll P (vs.map fun p => kV p.1) (xs.map (·.1)) ∧ DdAll P (vs.map (·.2)) (xs.map (·.2))
  | _, _, .nil => ⟨.nil, .nil⟩
  | _, _, .cons d t => ⟨.cons (.int _) (ddI_ents t).1, .cons d (ddI_ents t).2⟩
theorem ddN_ents {P : Hp} : ∀ {es : List (NestedKey × Addr × Value)} {xs : List (PyData × PyData)}, DdN P es xs → DdAll P (es.map fun e => V.ref e.2.1) (xs.map (·.1)) ∧ ∃ ws, Vals ws (es.map (·.2.2)) ∧ DdAll P ws (xs.map (·.2))
  | _, _, .nil => ⟨.nil, [], .nil, .nil⟩
  | _, _, .cons h k r d t => by
    obtain ⟨h1, ws, h2, h3⟩ := ddN_ents t
    exact ⟨.cons k h1, _ :: ws, .cons r h2, .cons d h3⟩
/-- the entries of frozen data -/
def entsOf : List (PyData × PyData) → List (PyData × PyData)
  | (.str _, _) :: r => r
  | r => r
theorem entsOf_I {P : Hp} {vs : List (Key × V)} {xs : List (PyData × PyData)} (h : DdI P vs xs) : entsOf xs = xs := by
  cases h <;> rfl
theorem Dd.ents {P : Hp} {v : V} {kvs : List (PyData × PyData)} (h : Dd P v (.dict kvs)) : ∃ d o u ks vs, v = .ref d ∧ P d = some (.frz o u) ∧ Ents d u ks vs ∧ DdAll P ks ((entsOf kvs).map (·.1)) ∧ DdAll P vs ((entsOf kvs).map (·.2)) := by
  cases h with
  | dic h a => exact ⟨_, _, _, _, _, rfl, h, .k, by rw [entsOf_I a]; exact (ddI_ents a).1, by rw [entsOf_I a]; exact (ddI_ents a).2⟩
  | din h a =>
    obtain ⟨h1, ws, h2, h3⟩ := ddN_ents a
    exact ⟨_, _, _, _, _, rfl, h, .n h2, h1, h3⟩
section
variable {X : Cx} {C : Cc} {W : WX} {pos : Pos}
theorem wk_keysR {P : Hp} {d : Addr} {o : Obj} {u : HO} {ks vs : List V} {xs : List PyData} (h : P d = some (.frz o u)) (en : Ents d u ks vs) (a : DdAll P ks xs) : Wk C (ItKR d o u ks vs) P xs := fun i P' env fp F σ H l s => by
  have hH := (l.trans s.le) _ _ h
  have hl := dpAll_length a
  refine ⟨fun hi => ⟨⟨hH, en⟩, by omega⟩, fun x hx => ?_⟩
  obtain ⟨v, h1, h2⟩ := dpAll_get a hx
  refine ⟨⟨⟨hH, en⟩, (List.getElem?_eq_some_iff.mp h1).1⟩, fun w H' y => ?_⟩
  obtain ⟨rfl, y⟩ := y
  rw [h1] at y
  cases y
  exact ⟨P', Le.refl _, s, l.dp h2⟩
theorem wk_valsR {P : Hp} {d : Addr} {o : Obj} {u : HO} {ks vs : List V} {xs : List PyData} (h : P d = some (.frz o u)) (en : Ents d u ks vs) (a : DdAll P vs xs) : Wk C (ItVR d o u ks vs) P xs := fun i P' env fp F σ H l s => by
  have hH := (l.trans s.le) _ _ h
  have hl := dpAll_length a
  refine ⟨fun hi => ⟨⟨hH, en⟩, by omega⟩, fun x hx => ?_⟩
  obtain ⟨v, h1, h2⟩ := dpAll_get a hx
  refine ⟨⟨⟨hH, en⟩, (List.getElem?_eq_some_iff.mp h1).1⟩, fun w H' y => ?_⟩
  obtain ⟨rfl, y⟩ := y
  rw [h1] at y
  cases y
  exact ⟨P', Le.refl _, s, l.dp h2⟩
/-- for k in d -/
def mKeysI (m : M PyData) : M (List PyData) := m >>= fun x => match x with
  | .dict kvs => pure ((entsOf kvs).map (·.1))
  | _ => fun _ => none
def mValsI (m : M PyData) : M (List PyData) := m >>= fun x => match x with
  | .dict kvs => pure ((entsOf kvs).map (·.2))
  | _ => fun _ => none
/-- d.items(), a dict of ints -/
def mItemsI (m : M PyData) : M (List PyData) := m >>= fun x => match x with
  | .dict kvs => if kvs.all fun p => isIntK p.1 then pure (kvs.map fun p => .tuple [p.1, p.2]) else fun _ => none
  | _ => fun _ => none
theorem sI_keys {tg e : Expr} {m : M PyData} (h : PE X e (liftD C W m)) : PI X tg e (liftI C W (mKeysI m)) := PI.imp (pi_keysR h) fun σ H R q => by
  obtain ⟨P, env, fp, s, h'⟩ := q
  refine ⟨P, env, fp, s, postI.seq h' fun x env' P' fp' H' v e l s' r q => ?_⟩
  cases x with
  | dict kvs =>
    obtain ⟨d, o, u, ks, vs, rfl, h1, en, a1, a2⟩ := Dd.ents r
    exact ⟨d, o, u, ks, vs, rfl, s'.le _ _ h1, en, q P' fp' H' _ (Le.refl _) s' (wk_keysR h1 en a1)⟩
  | _ => exact False.elim q
theorem sI_vals {tg e : Expr} {apos cpos : Pos} {m : M PyData} (h : PE X e (liftD C W m)) (hbase : attributeBase e "values" X.env (eval e X.env) = eval e X.env) (hline : (apos.endLine == cpos.line) = true) : PI X tg (.Call (.Attribute e "values" apos) [] [] cpos) (liftI C W (mValsI m)) := PI.imp (pi_valuesR h hbase hline) fun σ H R q => by
  obtain ⟨P, env, fp, s, h'⟩ := q
  refine ⟨P, env, fp, s, postI.seq h' fun x env' P' fp' H' v e l s' r q => ?_⟩
  cases x with
  | dict kvs =>
    obtain ⟨d, o, u, ks, vs, rfl, h1, en, a1, a2⟩ := Dd.ents r
    exact ⟨d, o, u, ks, vs, rfl, s'.le _ _ h1, en, q P' fp' H' _ (Le.refl _) s' (wk_valsR h1 en a2)⟩
  | _ => exact False.elim q
theorem ddI_get {P : Hp} : ∀ {vs : List (Key × V)} {xs : List (PyData × PyData)} {i : Nat} {z : PyData × PyData}, DdI P vs xs → xs[i]? = some z → ∃ k v, vs[i]? = some (.inl k, v) ∧ z.1 = .int k ∧ Dd P v z.2
  | _, _, _, _, .nil, e => by simp at e
  | _, _, 0, z, .cons h _, e => by
    simp only [List.getElem?_cons_zero, Option.some.injEq] at e
    subst e
    exact ⟨_, _, rfl, rfl, h⟩
  | _, _, i + 1, z, .cons _ t, e => by
    obtain ⟨k, v, h1, h2⟩ := ddI_get (i := i) (z := z) t (by simpa using e)
    exact ⟨k, v, by simpa using h1, h2⟩
theorem wk_items {P : Hp} {d : Addr} {o : Obj} {vs : List (Key × V)} {xs : List (PyData × PyData)} (h : P d = some (.frz o (.dK vs))) (a : DdI P vs xs) : Wk C (Iti d o vs) P (xs.map fun p => .tuple [p.1, p.2]) := fun i P' env fp F σ H l s => by
  have hH := (l.trans s.le) _ _ h
  have hl := ddI_len a
  refine ⟨fun hi => ⟨hH, by rw [List.length_map] at hi; omega⟩, fun x hx => ?_⟩
  rw [List.getElem?_map] at hx
  obtain ⟨z, hz, rfl⟩ := Option.map_eq_some_iff.mp hx
  obtain ⟨k, v, h1, h2, h3⟩ := ddI_get a hz
  refine ⟨⟨hH, (List.getElem?_eq_some_iff.mp h1).1⟩, fun w H' y => ?_⟩
  obtain ⟨T, k', v', y1, rfl, hT, rfl⟩ := y
  rw [h1] at y1
  cases y1
  obtain ⟨l3, s3⟩ := s.laid hT (u := .tup [kV (.inl k), v]) trivial
  exact ⟨_, l3, s3, by rw [h2]; exact .tup (SqT.of upd_same) (.cons (.int _) (.cons ((l.trans l3).dp h3) .nil))⟩
theorem sI_items {elts : List Expr} {kk : Nat} {tpos : Pos} {e : Expr} {apos cpos : Pos} {m : M PyData} (h : PE X e (liftD C W m)) (hbase : attributeBase e "items" X.env (eval e X.env) = eval e X.env) (hline : (apos.endLine == cpos.line) = true) :
    PI X (.Tuple elts kk tpos) (.Call (.Attribute e "items" apos) [] [] cpos) (liftI C W (mItemsI m)) := PI.imp (pi_items h hbase hline) fun σ H R q => by
  obtain ⟨P, env, fp, s, h'⟩ := q
  refine ⟨P, env, fp, s, postI.seq h' fun x env' P' fp' H' v e l s' r q => ?_⟩
  cases r with
  | @dic a ob vs xs h1 d =>
    have q2 : postI C W P' R σ ((if xs.all fun p => isIntK p.1 then (pure (xs.map fun p => .tuple [p.1, p.2]) : M (List PyData)) else fun _ => none) env') := q
    by_cases hz : (xs.all fun p => isIntK p.1) = true
    · rw [if_pos hz] at q2
      exact ⟨a, ob, vs, rfl, s'.le _ _ h1, q2 P' fp' H' _ (Le.refl _) s' (wk_items h1 d)⟩
    · rw [if_neg hz] at q2
      exact q2.elim
  | @din a ob es xs h1 d => exact False.elim q
  | _ => exact False.elim q
end
end TL
set_option Elab.async false
set_option linter.all false
set_option maxRecDepth 100000
set_option maxHeartbeats 1000000
namespace TL
open PySem PySem.Spec PyProof.Rows L2
section
variable {X : Cx} {C : Cc} {W : WX} {pos : Pos}
/-! ### {k: v}, k a tuple -/
def tDisp1N (tk tv : TE) : TE := fun σ H Q => ∀ p, H p = none → tk σ (upd H p (.ext (phN p []))) fun y H1 => tv σ H1 fun z H2 => ∃ k b P, y = .ref b ∧ Le P H2 ∧ Dd P (.ref b) k.data ∧ kTop k = true ∧ H2 p = some (.ext (phN p [])) ∧ ∀ u, RelV z u → Q (.ref p) (upd H2 p (.ext (phN p [(k, b, u)])))
theorem pe_disp1N {k v : Expr} {tk tv : TE} (hu : X.A.units + 200 < cLine) (hk : PE X k tk) (hv : PE X v tv) : PE X (.Dict [some k] [v] pos) (tDisp1N tk tv) := by
  constructor
  intro pins st σ H Q inv q
  have free0 := inv.hok.fresh (Nat.le_refl st.heap.objs.size)
  have J := inv.laid (a := st.heap.objs.size) (o := .ext (phN st.heap.objs.size [])) (h' := st.heap.push { cls := .type "dict", data := .dict #[] }) (t' := st.toks) (fun _ _ z => Heap.get?_push_of_some _ z) (Nat.le_refl _) (dn_empty st.heap inv.big)
  have len1 : (pairTrees [some k] [v] X.env pos).length = 1 := pairTrees_length _ _ _ _ rfl rfl
  rw [arm_eval_Dict, zip_pairTrees [some k] [v] X.env pos rfl rfl, dictDisplay_pairs _ (by intro z; rw [z] at len1; cases len1) (by omega)]
  refine wpAny_bind (wpAny_standAt (wpAny_bind (wpAny_subDictH (knd := nestedKind X.prog X.w) (show X.A.units + 8 < cLine by omega) (by omega) ?_)))
  refine pairTrees_cons_walk (thn (hk.run pins _ σ _ _ J (q _ free0)) fun u1 s1 ⟨y, H1, I1, r1, q1⟩ => thn (hv.run pins s1 σ H1 _ I1 q1) fun u2 s2 ⟨z, H2, I2, r2, kk, b, P, ey, l, hb, kt, hp, q2⟩ => pairTrees_nil_walk ?_)
  subst ey
  cases r1
  obtain ⟨hd, dd⟩ := dn_of (P := P) I2.hok l (.inl hp) (fun _ h => nomatch h)
  refine ⟨[(kk, b, u2)], ⟨rfl, rfl, key_at I2.hok l kt hb, trivial⟩, dd, fun h' tk2 hm hs => wpAny_pure ⟨.ref st.heap.objs.size, _, ?_, rfl, q2 u2 r2⟩⟩
  have hm' : h'.DictOfH (nestedKind X.prog X.w) st.heap.objs.size [(kk, b, u2)] := hm
  obtain ⟨o, _, _, h1, _⟩ := id hm'
  exact d_write I2 (by rw [hp]; exact True.intro) hs ⟨o, h1⟩ (dn_new hd (fun x hx => by rw [List.mem_singleton.mp hx]; exact kt) hm')
def mDict1N (mk mv : M PyData) : M OV := mk >>= fun k => mv >>= fun v => M.opt ((keyTop k).map fun ks => .ext (.dn [(ks, v)]))
theorem sE_dict1N {k v : Expr} {mk mv : M PyData} (hu : X.A.units + 200 < cLine) (hk : PEF X C W k mk) (hv : PEF X C W v mv) : PE X (.Dict [some k] [v] pos) (liftE C W (mDict1N mk mv)) := PE.imp (pe_disp1N hu hk.pe hv.pe) fun σ H Q q => by
  intro p hp
  obtain ⟨P, env, fp, s, h⟩ := q
  obtain ⟨s0, t0⟩ := s.newt hp (u := .ext (phN p [])) trivial
  have g0 : Beside C P fp (upd H p (.ext (phN p []))) (one p (.ext (phN p []))) := Beside.mk1 upd_same trivial (t0.fre p List.mem_cons_self).1 (t0.fre p List.mem_cons_self).2 fun i hi => t0.dis i p hi List.mem_cons_self
  refine ⟨join C.F (one p (.ext (phN p []))), P, env, fp, s0.hold g0, postG.seqF h fun x env1 P1 fp1 H1 u1 l1 s1 r1 h1 => ?_⟩
  refine ⟨join C.F (one p (.ext (phN p []))), P1, env1, fp1, s1, postG.seqF h1 fun y env2 P2 fp2 H2 u2 l2 s2 r2 h2 => ?_⟩
  have g2 := s2.besides g0
  have s3 := s2.unhold
  obtain ⟨o, e, h3⟩ := opt_some h2
  obtain ⟨ks, e1, e2⟩ := Option.map_eq_some_iff.mp e
  subst e2
  obtain ⟨ex, kt⟩ := keyTop_some e1
  subst ex
  obtain ⟨b, rfl⟩ := key_ref kt r1
  obtain ⟨hH, hpn, hFn, hf⟩ := g2.of1
  refine ⟨ks, b, P2, rfl, s3.le, l2.dp r1, kt, hH, fun u ru => h3 P2 fp2 _ _ (Le.refl _) (s3.upd hH trivial hpn hFn hf) ⟨[p], .ext (.dn upd_same (.cons kt (l2.dp r1) ru r2 .nil)), ⟨fun j c hc hm => hf j (List.mem_singleton.mp hm ▸ hc), fun c hm => ?_⟩⟩⟩
  rw [List.mem_singleton.mp hm]
  exact ⟨hpn, hFn⟩
/-! ### items, in, get: frozen dicts -/
def isI (i : Int) : PyData → Bool
  | .int j => decide (j = i)
  | _ => false
def isKey (k : NestedKey) (x : PyData) : Bool := decide (keyD x = some k)
/-- what frozen entries hold at a key -/
def lookF (kvs : List (PyData × PyData)) (y : PyData) : Option (Option PyData) := match kvs with
  | (.str _, _) :: r => (keyTop y).map fun k => (r.find? fun p => isKey k p.1).map (·.2)
  | r => match y with
    | .int i => some ((r.find? fun p => isI i p.1).map (·.2))
    | _ => none
mutual
theorem keyD_data : ∀ k : NestedKey, kOk k = true → keyD k.data = some k
  | .none, _ => rfl
  | .num _, _ => rfl
  | .text _, h => by simp [kOk] at h
  | .tup ks, h => by rw [NestedKey.data, keyD, keyDs_data ks (by simpa [kOk] using h)]; rfl
theorem keyDs_data : ∀ ks : List NestedKey, kOks ks = true → keyDs (NestedKey.datas ks) = some ks
  | [], _ => rfl
  | k :: ks, h => by
    rw [kOks, Bool.and_eq_true] at h
    rw [NestedKey.datas, keyDs, keyD_data k h.1, keyDs_data ks h.2]
    rfl
end
theorem DdI.look {P : Hp} (i : Int) : ∀ {vs : List (Key × V)} {xs : List (PyData × PyData)}, DdI P vs xs → ((xs.find? fun p => isI i p.1) = none ∧ valV vs (Sum.inl i) = none) ∨ ∃ z v, (xs.find? fun p => isI i p.1) = some z ∧ valV vs (Sum.inl i) = some v ∧ Dd P v z.2
  | _, _, .nil => .inl ⟨rfl, rfl⟩
  | _, _, .cons (k := j) (v := v) (x := x) h t => by
    by_cases e : j = i
    · subst e
      exact .inr ⟨(.int j, x), v, by simp [isI], valV_pos rfl, h⟩
    · have e' : ¬ (Sum.inl j : Key) = Sum.inl i := fun z => e (Sum.inl.inj z)
      rcases DdI.look i t with ⟨h1, h2⟩ | ⟨y, w, h1, h2, h3⟩
      · exact .inl ⟨by simpa [List.find?_cons, isI, e] using h1, by rw [valV_neg e']; exact h2⟩
      · exact .inr ⟨y, w, by simpa [List.find?_cons, isI, e] using h1, by rw [valV_neg e']; exact h2, h3⟩
theorem DdN.look {P : Hp} (k : NestedKey) : ∀ {es : List (NestedKey × Addr × Value)} {xs : List (PyData × PyData)}, DdN P es xs → ((xs.find? fun p => isKey k p.1) = none ∧ atKey es k = none) ∨ ∃ z v q u, (xs.find? fun p => isKey k p.1) = some z ∧ atKey es k = some (q, u) ∧ RelV v u ∧ Dd P v z.2
  | _, _, .nil => .inl ⟨rfl, rfl⟩
  | _, _, .cons (k := j) (q := q) (v := v) (u := u) (x := x) h h2 rv d t => by
    have hj := keyD_data j (kTop_ok h).1
    by_cases e : j = k
    · subst e
      exact .inr ⟨(j.data, x), v, q, u, by simp [isKey, hj], by simp [atKey], rv, d⟩
    · rcases DdN.look k t with ⟨h1, h2⟩ | ⟨y, w, q', u', h1, h2, h3⟩
      · exact .inl ⟨by simpa [List.find?_cons, isKey, hj, e] using h1, by simpa [atKey, List.find?_cons, e] using h2⟩
      · exact .inr ⟨y, w, q', u', by simpa [List.find?_cons, isKey, hj, e] using h1, by simpa [atKey, List.find?_cons, e] using h2, h3⟩
theorem dct_get {P H : Hp} {v y : V} {kvs : List (PyData × PyData)} {dy : PyData} {r : Option PyData} (l : Le P H) (d : Dd P v (.dict kvs)) (dk : Dd P y dy) (e : lookF kvs dy = some r) :
    ∃ a, v = .ref a ∧ ((r = none ∧ GGet H a y none) ∨ ∃ x w, r = some x ∧ GGet H a y (some w) ∧ Dd P w x) := by
  cases d with
  | @dic a ob vs xs h t =>
    refine ⟨a, rfl, ?_⟩
    have ek : ∀ i, lookF kvs (.int i) = some ((kvs.find? fun p => isI i p.1).map (·.2)) := fun i => by
      unfold lookF
      split
      · cases t
      · rfl
    have en : (∀ i, dy ≠ .int i) → lookF kvs dy = none := fun hn => by
      unfold lookF
      split
      · cases t
      · split
        · exact absurd rfl (hn _)
        · rfl
    cases dy with
    | int i =>
      cases dp_int dk
      rw [ek] at e
      cases e
      rcases t.look i with ⟨h1, h2⟩ | ⟨z, w, h1, h2, h3⟩
      · refine .inl ⟨by rw [h1]; rfl, .inl (.inl ⟨vs, .inl i, .inr ⟨ob, l _ _ h⟩, rfl, h2.symm⟩)⟩
      · exact .inr ⟨z.2, w, by rw [h1]; rfl, .inl (.inl ⟨vs, .inl i, .inr ⟨ob, l _ _ h⟩, rfl, h2.symm⟩), h3⟩
    | _ => rw [en (fun i z => nomatch z)] at e; cases e
  | @din a ob es xs h t =>
    refine ⟨a, rfl, ?_⟩
    obtain ⟨k, e1, e2⟩ := Option.map_eq_some_iff.mp (show (keyTop dy).map (fun k => (xs.find? fun p => isKey k p.1).map (·.2)) = some r from e)
    subst e2
    obtain ⟨ex, kt⟩ := keyTop_some e1
    subst ex
    obtain ⟨q, rfl⟩ := key_ref kt dk
    rcases t.look k with ⟨h1, h2⟩ | ⟨z, w, q', u', h1, h2, h3, h4⟩
    · exact .inl ⟨by rw [h1]; rfl, .inr ⟨es, k, q, P, .inr ⟨ob, l _ _ h⟩, t.keys, rfl, l, dk, kt, by rw [h2]; trivial⟩⟩
    · exact .inr ⟨z.2, w, by rw [h1]; rfl, .inr ⟨es, k, q, P, .inr ⟨ob, l _ _ h⟩, t.keys, rfl, l, dk, kt, by rw [h2]; exact h3⟩, h4⟩
/-- d[k], frozen or a list or a tuple -/
def gIxU : PyData → PyData → Option OV
  | .dict kvs, y => (lookF kvs y).bind fun r => r.map .d
  | x, y => gIx x y
theorem sE_ixU {a b : Expr} {ma mb : M PyData} (hu : X.A.units + 200 < cLine) (ha : PE X a (liftD C W ma)) (hb : PE X b (liftD C W mb)) (hs : NoSl b) (old : PE X (.Subscript a b pos) (liftE C W (mBin gIx ma mb))) : PE X (.Subscript a b pos) (liftE C W (mBin gIxU ma mb)) := PE.ex fun σ H Q q => by
  obtain ⟨P, env, fp, s, h⟩ := q
  by_cases hd : ∃ kvs env1, ma env = some (.ok (.dict kvs) env1)
  · obtain ⟨kvs, env1, em⟩ := hd
    refine ⟨_, pe_gget hu ha hb hs, P, env, fp, s, ?_⟩
    have h : postG C W (rOV C) P Q σ (Out.andThen (ma env) fun x => mb >>= fun y => M.opt (gIxU x y)) := h
    rw [em] at h ⊢
    intro P1 fp1 H1 v l1 s1 r1
    refine ⟨P1, env1, fp1, s1, postG.seq (postG.mono l1 h) fun y env2 P2 fp2 H2 u l2 s2 r2 h2 => ?_⟩
    obtain ⟨o, e, h3⟩ := opt_some h2
    obtain ⟨r, e1, e2⟩ := Option.bind_eq_some_iff.mp (show (lookF kvs y).bind (fun r => r.map OV.d) = some o from e)
    obtain ⟨x, e3, e4⟩ := Option.map_eq_some_iff.mp e2
    subst e4
    obtain ⟨ad, rfl, g⟩ := dct_get s2.le (l2.dp r1) r2 e1
    rcases g with ⟨g1, _⟩ | ⟨x', w, g1, g2, g3⟩
    · rw [g1] at e3; cases e3
    · rw [e3] at g1
      cases g1
      exact ⟨ad, w, rfl, g2, h3 P2 fp2 H2 w (Le.refl _) s2 (rOV.d g3)⟩
  · refine ⟨_, old, P, env, fp, s, ?_⟩
    have e : mBin gIxU ma mb env = mBin gIx ma mb env := by
      unfold mBin
      rw [M.bind_at, M.bind_at]
      cases em : ma env with
      | none => rfl
      | some o =>
        cases o with
        | exc x e => rfl
        | ok x e1 =>
          cases x with
          | dict kvs => exact absurd ⟨kvs, e1, em⟩ hd
          | _ => rfl
    rw [← e]
    exact h
/-- in, not in: a frozen dict, or what it was -/
def gInU (neg : Bool) (x y : PyData) : Option OV := match y with
  | .dict kvs => (lookF kvs x).map fun r => .d (.bool (if neg then !r.isSome else r.isSome))
  | y => if neg then gNotIn x y else gIn x y
theorem asB.post {m : M OV} {P : Hp} {env : Env} {σ : L2.St} {Q : Bool → Hp → Prop} (h : postG C W rB P Q σ (asB m env)) : postG C W (rOV C) P (fun x H' => ∃ k, x = .bl k ∧ Q k H') σ (m env) := by
  refine postG.seq (f := fun v => match v with | .d (.bool b) => pure b | _ => fun _ => none) h fun v env1 P1 fp1 H1 u l1 s1 r1 h1 => ?_
  obtain ⟨ft, o, t⟩ := r1
  cases o with
  | d d =>
    cases d with
    | bl b => exact ⟨b, rfl, h1 P1 fp1 H1 b (Le.refl _) s1 rfl⟩
    | _ => exact False.elim h1
  | _ => exact False.elim h1
theorem inU_aux {neg : Bool} {ma mb : M PyData} {σ : L2.St} {H : Hp} {Q : VK} {P : Hp} {env : Env} {fp : Nat → List Addr} (s : StOk C P env fp σ H) (h : postG C W (rOV C) P Q σ (mBin (gInU neg) ma mb env)) {x : PyData} {kvs : List (PyData × PyData)} {e1 e2 : Env}
    (h1 : ma env = some (.ok x e1)) (h2 : mb e1 = some (.ok (.dict kvs) e2)) : tOp (if neg then rGNotIn else rGIn) (liftD C W ma) (liftD C W mb) σ H Q := by
  have h : postG C W (rOV C) P Q σ (Out.andThen (ma env) fun x => mb >>= fun y => M.opt (gInU neg x y)) := h
  refine ⟨P, env, fp, s, ?_⟩
  rw [h1] at h ⊢
  have h : postG C W (rOV C) P Q σ (Out.andThen (mb e1) fun y => M.opt (gInU neg x y)) := h
  intro P1 fp1 H1 v l1 s1 r1
  refine ⟨P1, e1, fp1, s1, ?_⟩
  rw [h2] at h ⊢
  intro P2 fp2 H2 u l2 s2 r2
  have h : postG C W (rOV C) P Q σ (M.opt (gInU neg x (.dict kvs)) e2) := h
  obtain ⟨o, e, h3⟩ := opt_some h
  obtain ⟨r, e3, e4⟩ := Option.map_eq_some_iff.mp (show (lookF kvs x).map (fun r => OV.d (.bool (if neg then !r.isSome else r.isSome))) = some o from e)
  subst e4
  obtain ⟨ad, rfl, g⟩ := dct_get s2.le r2 (l2.dp r1) e3
  cases neg with
  | false =>
    rcases g with ⟨g1, g2⟩ | ⟨x', w, g1, g2, g3⟩
    · subst g1; exact ⟨ad, _, rfl, g2, h3 P2 fp2 H2 _ (l1.trans l2) s2 (rOV.d (.bl _))⟩
    · subst g1; exact ⟨ad, _, rfl, g2, h3 P2 fp2 H2 _ (l1.trans l2) s2 (rOV.d (.bl _))⟩
  | true =>
    rcases g with ⟨g1, g2⟩ | ⟨x', w, g1, g2, g3⟩
    · subst g1; exact ⟨ad, _, rfl, g2, h3 P2 fp2 H2 _ (l1.trans l2) s2 (rOV.d (.bl _))⟩
    · subst g1; exact ⟨ad, _, rfl, g2, h3 P2 fp2 H2 _ (l1.trans l2) s2 (rOV.d (.bl _))⟩
theorem inU_old {neg : Bool} {ma mb : M PyData} {env : Env} (hd : ¬ ∃ x e1 kvs e2, ma env = some (.ok x e1) ∧ mb e1 = some (.ok (.dict kvs) e2)) : mBin (gInU neg) ma mb env = mBin (if neg then gNotIn else gIn) ma mb env := by
  unfold mBin
  rw [M.bind_at, M.bind_at]
  cases em : ma env with
  | none => rfl
  | some o =>
    cases o with
    | exc x e => rfl
    | ok x e1 =>
      show Out.andThen (mb e1) _ = Out.andThen (mb e1) _
      cases em2 : mb e1 with
      | none => rfl
      | some o2 =>
        cases o2 with
        | exc y e => rfl
        | ok y e2 =>
          cases y with
          | dict kvs => exact absurd ⟨x, e1, kvs, e2, em, em2⟩ hd
          | _ => cases neg <;> rfl
theorem op_ginB (neg : Bool) (hu : X.A.units + 200 < cLine) : OpR X (compareOp (if neg then CmpOp.NotIn else CmpOp.In)) (if neg then rGNotIn else rGIn) := by
  cases neg
  · exact op_gin hu
  · exact op_gnotIn hu
theorem od_inB (neg : Bool) (hu : X.A.units + 200 < cLine) : OD X C (compareOp (if neg then CmpOp.NotIn else CmpOp.In)) (if neg then gNotIn else gIn) := by
  cases neg
  · exact od_in hu
  · exact od_notIn hu
theorem sE_inU (neg : Bool) {a b : Expr} {ma mb : M PyData} (hu : X.A.units + 200 < cLine) (ha : PE X a (liftD C W ma)) (hb : PE X b (liftD C W mb)) (hm : behindInMarks (if neg then CmpOp.NotIn else CmpOp.In) b = false) : PE X (.Compare a [if neg then CmpOp.NotIn else CmpOp.In] [b] pos) (liftE C W (mBin (gInU neg) ma mb)) := PE.ex fun σ H Q q => by
  obtain ⟨P, env, fp, s, h⟩ := q
  by_cases hd : ∃ x e1 kvs e2, ma env = some (.ok x e1) ∧ mb e1 = some (.ok (.dict kvs) e2)
  · obtain ⟨x, e1, kvs, e2, h1, h2⟩ := hd
    exact ⟨_, pe_cmpR (op_ginB neg hu) ha hb hm, inU_aux s h h1 h2⟩
  · refine ⟨_, sE_cmp (od_inB neg hu) ha hb hm, P, env, fp, s, ?_⟩
    rw [← inU_old hd]
    exact h
theorem sT_inU (neg : Bool) {a b : Expr} {ma mb : M PyData} (hu : X.A.units + 200 < cLine) (ha : PE X a (liftD C W ma)) (hb : PE X b (liftD C W mb)) (hm : behindInMarks (if neg then CmpOp.NotIn else CmpOp.In) b = false) : PT X (.Compare a [if neg then CmpOp.NotIn else CmpOp.In] [b] pos) (liftT C W (asB (mBin (gInU neg) ma mb))) := PT.ex fun σ H Q q => by
  obtain ⟨P, env, fp, s, h⟩ := q
  by_cases hd : ∃ x e1 kvs e2, ma env = some (.ok x e1) ∧ mb e1 = some (.ok (.dict kvs) e2)
  · obtain ⟨x, e1, kvs, e2, h1, h2⟩ := hd
    exact ⟨_, pt_cmpR (op_ginB neg hu) ha hb hm, inU_aux s (asB.post h) h1 h2⟩
  · refine ⟨_, sT_cmp (od_inB neg hu) ha hb hm, P, env, fp, s, ?_⟩
    have e := inU_old (neg := neg) hd
    unfold asB at h ⊢
    rw [M.bind_at] at h ⊢
    rw [← e]
    exact h
end
end TL
set_option Elab.async false
set_option linter.all false
set_option maxRecDepth 100000
set_option maxHeartbeats 1000000
namespace TL
open PySem PySem.Spec PyProof.Rows L2
/-! ### sets of tuples of ints -/
def tupsOf : List PyData → Option (List (List Int))
  | [] => some []
  | .tuple xs :: r => (intsOf xs).bind fun k => (tupsOf r).map (k :: ·)
  | _ => none
def tupD (k : List Int) : PyData := .tuple (k.map .int)
theorem tupsOf_eq : ∀ {xs : List PyData} {ks : List (List Int)}, tupsOf xs = some ks → xs = ks.map tupD
  | [], ks, h => by cases h; rfl
  | .tuple ys :: r, ks, h => by
    rw [tupsOf] at h
    obtain ⟨k, h1, h2⟩ := Option.bind_eq_some_iff.mp h
    obtain ⟨ms, h3, rfl⟩ := Option.map_eq_some_iff.mp h2
    rw [intsOf_eq h1, tupsOf_eq h3]
    rfl
  | .none :: _, _, h => by simp [tupsOf] at h
  | .bool _ :: _, _, h => by simp [tupsOf] at h
  | .int _ :: _, _, h => by simp [tupsOf] at h
  | .str _ :: _, _, h => by simp [tupsOf] at h
  | .list _ :: _, _, h => by simp [tupsOf] at h
  | .dict _ :: _, _, h => by simp [tupsOf] at h
theorem dpAll_tups {P : Hp} : ∀ {vs : List V} {ks : List (List Int)}, DdAll P vs (ks.map tupD) → ∃ as : List Addr, as.length = ks.length ∧ vs = as.map V.ref ∧ ∀ (i : Nat) (a : Addr) (k : List Int), as[i]? = some a → ks[i]? = some k → SqT K0 P a (k.map V.int)
  | [], [], .nil => ⟨[], rfl, rfl, fun i a k h _ => by simp at h⟩
  | _, k :: ks, .cons h t => by
    obtain ⟨as, h1, h2, h3⟩ := dpAll_tups t
    cases h with
    | @tup a vs _ hq d =>
      obtain rfl := dpAll_ints d
      refine ⟨a :: as, congrArg Nat.succ h1, by rw [h2]; rfl, fun i b q e1 e2 => ?_⟩
      cases i with
      | zero =>
        simp only [List.getElem?_cons_zero, Option.some.injEq] at e1 e2
        subst e1 e2
        exact hq
      | succ i => exact h3 i b q (by simpa using e1) (by simpa using e2)
theorem tups_dpAll {P : Hp} : ∀ {L : List (Addr × List Int)}, (∀ q ∈ L, SqT K0 P q.1 (q.2.map V.int)) → DdAll P (L.map fun q => V.ref q.1) (L.map fun q => tupD q.2)
  | [], _ => .nil
  | q :: L, h => .cons (.tup (h q List.mem_cons_self) (ints_dpAll _)) (tups_dpAll fun r hr => h r (List.mem_cons_of_mem _ hr))
/-- tuples in their order -/
def leI (a b : List Int) : Bool := decide (a ≤ b)
theorem leI_total (a b : List Int) : (leI a b || leI b a) = true := by
  unfold leI
  rw [Bool.or_eq_true, decide_eq_true_eq, decide_eq_true_eq]
  exact List.le_total a b
theorem leI_trans (a b c : List Int) (h1 : leI a b = true) (h2 : leI b c = true) : leI a c = true := by
  unfold leI at *
  rw [decide_eq_true_eq] at *
  exact List.le_trans h1 h2
theorem leI_anti (a b : List Int) (h1 : leI a b = true) (h2 : leI b a = true) : a = b := by
  unfold leI at *
  rw [decide_eq_true_eq] at *
  exact List.le_antisymm h1 h2
def insT (p : List Int) : List (List Int) → List (List Int)
  | [] => [p]
  | q :: r => if leI p q then p :: q :: r else q :: insT p r
def isT : List (List Int) → List (List Int)
  | [] => []
  | p :: r => insT p (isT r)
theorem insT_perm (p : List Int) : ∀ l, (insT p l).Perm (p :: l)
  | [] => .refl _
  | q :: r => by
    unfold insT
    split
    · exact .refl _
    · exact ((insT_perm p r).cons q).trans (.swap p q r)
theorem isT_perm : ∀ l, (isT l).Perm l
  | [] => .refl _
  | p :: r => (insT_perm p _).trans ((isT_perm r).cons p)
theorem insT_sorted (p : List Int) : ∀ l : List (List Int), l.Pairwise (fun p q => leI p q = true) → (insT p l).Pairwise (fun p q => leI p q = true)
  | [], _ => by simp [insT]
  | q :: r, h => by
    obtain ⟨h1, h2⟩ := List.pairwise_cons.mp h
    unfold insT
    split
    · rename_i c
      refine List.pairwise_cons.mpr ⟨fun z hz => ?_, h⟩
      rcases List.mem_cons.mp hz with rfl | hz
      · exact c
      · exact leI_trans _ _ _ c (h1 z hz)
    · rename_i c
      refine List.pairwise_cons.mpr ⟨fun z hz => ?_, insT_sorted p r h2⟩
      rcases List.mem_cons.mp ((insT_perm p r).mem_iff.mp hz) with rfl | hz
      · have := leI_total z q
        rw [Bool.or_eq_true_iff] at this
        rcases this with a | a
        · exact absurd a c
        · exact a
      · exact h1 z hz
theorem isT_sorted : ∀ l : List (List Int), (isT l).Pairwise (fun p q => leI p q = true)
  | [] => .nil
  | p :: r => insT_sorted p _ (isT_sorted r)
theorem isT_unique {l m : List (List Int)} (p : l.Perm m) (s : l.Pairwise (fun p q => leI p q = true)) : l = isT m :=
  (p.trans (isT_perm m).symm).eq_of_pairwise (fun a b _ _ h k => leI_anti a b h k) s (isT_sorted m)
/-- the tuples, each once, in order -/
def setT (ks : List (List Int)) : List (List Int) := isT ks.eraseDups
theorem dups_perm {l ks : List (List Int)} (n : l.Nodup) (h : ∀ k, k ∈ l ↔ k ∈ ks) : l.Perm ks.eraseDups :=
  (List.perm_ext_iff_of_nodup n (eraseDups_nodup _ _ (Nat.le_refl _))).mpr fun k => by rw [List.mem_eraseDups]; exact h k
theorem dataLe_tups {β : Type} (x : β → List Int) : PySem.W.dataLe false (fun b => tupD (x b)) = fun p q => leI (x p) (x q) := by
  funext p q
  rw [PySem.W.dataLe_eq]
  have e : PySem.W.dataLt (tupD (x q)) (tupD (x p)) = decide (x q < x p) := by
    show PySem.W.dataLt (.tuple _) (.tuple _) = _
    rw [PySem.W.dataLt_tuple]
    exact PySem.W.dataLt_ints _ _
  show (!PySem.W.dataLt (tupD (x q)) (tupD (x p))) = _
  rw [e]
  unfold leI
  rw [← decide_not]
  rfl
theorem dSort_tups (ks : List (List Int)) : dSort (ks.map tupD) = (isT ks).map tupD := by
  unfold dSort
  have e : (ks.map tupD).mergeSort (PySem.W.dataLe false fun x => x) = (ks.mergeSort (PySem.W.dataLe false tupD)).map tupD := by
    rw [List.map_mergeSort]
    intro a _ b _
    rfl
  rw [e, show PySem.W.dataLe false tupD = fun p q => leI p q from dataLe_tups (fun x => x)]
  rw [isT_unique (List.mergeSort_perm ks _) (List.pairwise_mergeSort leI_trans leI_total ks)]
end TL
set_option Elab.async false
set_option linter.all false
set_option maxRecDepth 100000
set_option maxHeartbeats 1000000
namespace TL
open PySem PySem.Spec PyProof.Rows L2
/-! ### sorted(set(l)), len(set(l)): l a list of tuples of ints, or a list or a tuple of ints -/
section
variable {P : Program} {w : World} {A : Around} {E : Value → Shared → Prop} {s : Shared}
theorem refs_in {L : List (Addr × List Int)} : ∀ {vs : List Value}, (∀ v ∈ vs, ∃ q ∈ L, v = Value.ref q.1) → ∃ M : List (Addr × List Int), vs = M.map (fun q => Value.ref q.1) ∧ ∀ q ∈ M, q ∈ L
  | [], _ => ⟨[], rfl, fun _ h => nomatch h⟩
  | v :: vs, h => by
    obtain ⟨q, hq, e⟩ := h v List.mem_cons_self
    obtain ⟨M, e1, hM⟩ := refs_in fun u hu => h u (List.mem_cons_of_mem _ hu)
    refine ⟨q :: M, by rw [List.map_cons, e, e1], fun r hr => ?_⟩
    rcases List.mem_cons.mp hr with z | z
    · exact z ▸ hq
    · exact hM r z
theorem each_refs : ∀ M : List (Addr × List Int), PySem.W.EachIs (fun v q => v = Value.ref q.1) (M.map fun q => Value.ref q.1) M
  | [] => .nil
  | _ :: M => .cons rfl (each_refs M)
theorem refs_each : ∀ {vs : List Value} {M : List (Addr × List Int)}, PySem.W.EachIs (fun v q => v = Value.ref q.1) vs M → vs = M.map fun q => Value.ref q.1
  | _, _, .nil => rfl
  | _, _, .cons h t => by rw [List.map_cons, h, refs_each t]
theorem items_reads {h : Heap} : ∀ {k : List Int} {us : List Value}, ItemsAre (intKind P w) k us → ReadsAll h us (k.map .int) []
  | _, _, .nil => .nil
  | k0 :: ks0, _, .cons i t => by
    obtain ⟨j, tk, e⟩ := items_int (P := P) (w := w) (.cons i .nil) _ (List.mem_singleton.mpr rfl)
    subst e
    have ej : j = k0 := by
      have q := ints_of_items (P := P) (w := w) (.cons i .nil)
      cases q
      rfl
    subst ej
    exact ReadsAll.cons (as := []) (bs := []) (.int _ _) (items_reads t)
theorem isT_reads {h : Heap} {k : List Int} {b : Addr} (x : IsT P w h k b) : Reads h (.ref b) (tupD k) [] := by
  obtain ⟨o, its, n, h1, h2, h3, h4⟩ := x
  exact .tuple h1 h2 h3 (items_reads h4)
/-- sorted(a), a the set of the tuples L -/
theorem sorted_setTD {a : Addr} {L : List (Addr × List Int)} {es : Array (Int × Value)} {ep : Nat} {t : SetTable} {Q : Value → Shared → Prop} (R : SetTR P w s.heap a L es ep t) (hh : A.handled = none) (hu : A.units + 200 < cLine)
    (hne : ∀ q ∈ L, q.2 ≠ [])
    (hQ : ∀ s' p (c : Nat) (M : List (Addr × List Int)), (∀ b o, s.heap.get? b = some o → s'.heap.get? b = some o) → s'.gens = s.gens → s'.os = s.os → s.heap.objs.size ≤ p →
      s'.heap.get? p = some (seqObj "list" (M.map fun q => Value.ref q.1).toArray c) → M.map (·.2) = setT (L.map (·.2)) → (∀ q ∈ M, q ∈ L) → Q (.ref p) s') :
    wpAny (model P w) A (call (.builtin "sorted") [.ref a]) Q E s := by
  obtain ⟨o, ho, hex, hd⟩ := R.ob
  have few := R.few
  refine Calls.call_function_entry kind_sorted plain_sorted entry_sorted (args_sorted1 _) ?_
  unfold Builtin.«sorted»
  refine wpAny_bind (m := checkCount "sorted" 1 1 _) (wpAny_pure ?_)
  refine wpAny_bind (collect_set (A := A.in1) hh ⟨o, ho, hex.1, hd⟩ R.fits (by have := R.size; unfold scanBound; omega) R.tab.ris R.led fun s1 vs keep1 big gens1 os1 pm => ?_)
  have hes : es.toList.map (·.2) = L.map fun q => Value.ref q.1 := by
    rw [R.rows]
    unfold rowsOf
    rw [List.map_map]
    rfl
  rw [hes] at pm
  obtain ⟨M0, rfl, hM0⟩ := refs_in (L := L) (vs := vs) fun v hv => by
    obtain ⟨q, hq, e⟩ := List.mem_map.mp (pm.mem_iff.mp hv)
    exact ⟨q, hq, e.symm⟩
  have inj : ∀ q ∈ L, ∀ r ∈ L, q.1 = r.1 → q = r := fun q hq r hr e => by
    have h1 := R.tup q hq
    have h2 := R.tup r hr
    rw [e] at h1
    exact Prod.ext e (h1.inj h2)
  have nL : L.Nodup := List.Pairwise.of_map _ (fun _ _ hne e => hne (congrArg Prod.snd e)) R.nd
  have nrefs : (L.map fun q => Value.ref q.1).Nodup := List.pairwise_map.mpr (nL.imp_of_mem fun {q r} hq hr hqr e => hqr (inj q hq r hr (Value.ref.inj e)))
  have nM : M0.Nodup := List.Pairwise.of_map _ (fun _ _ hne e => hne (congrArg (fun q : Addr × List Int => Value.ref q.1) e)) (pm.nodup_iff.mpr nrefs)
  have pM : M0.Perm L := (List.perm_ext_iff_of_nodup nM nL).mpr fun q => ⟨hM0 q, fun hq => by
    have hm : Value.ref q.1 ∈ M0.map (fun q => Value.ref q.1) := pm.mem_iff.mpr (List.mem_map.mpr ⟨q, hq, rfl⟩)
    obtain ⟨r, hr, e⟩ := List.mem_map.mp hm
    rw [← inj r (hM0 r hr) q hq (Value.ref.inj e)]
    exact hr⟩
  have lenM : M0.length < 64 := by rw [pM.length_eq]; exact few
  refine wpAny_bind (wpAny_newList ?_ (by rw [List.length_map, sizeLine_eq]; omega))
  have hoL : (s1.heap.push (seqObj "list" (M0.map fun q => Value.ref q.1).toArray 0)).get? s1.heap.objs.size = some (seqObj "list" (M0.map fun q => Value.ref q.1).toArray 0) := Heap.get?_push_size _ rfl
  have keep2 : ∀ b o, s.heap.get? b = some o → (s1.heap.push (seqObj "list" (M0.map fun q => Value.ref q.1).toArray 0)).get? b = some o := fun b o e => Heap.get?_push_of_some _ (keep1 b o e)
  have er : PySem.W.EachIs (fun v q => ∃ as, Reads (s1.heap.push (seqObj "list" (M0.map fun q => Value.ref q.1).toArray 0)) v (tupD q.2) as ∧ s1.heap.objs.size ∉ as) (M0.map fun q => Value.ref q.1) M0 := by
    have key : ∀ M : List (Addr × List Int), (∀ q ∈ M, q ∈ L) → PySem.W.EachIs (fun v q => ∃ as, Reads (s1.heap.push (seqObj "list" (M0.map fun q => Value.ref q.1).toArray 0)) v (tupD q.2) as ∧ s1.heap.objs.size ∉ as) (M.map fun q => Value.ref q.1) M := by
      intro M hM
      induction M with
      | nil => exact .nil
      | cons q M ih => exact .cons ⟨[], isT_reads (isT_keep (R.tup q (hM q List.mem_cons_self)) keep2), List.not_mem_nil⟩ (ih fun r hr => hM r (List.mem_cons_of_mem _ hr))
    exact key M0 hM0
  have al : ∀ x y : List Int, PySem.W.alike (tupD x) (tupD y) = true := fun x y => by
    show PySem.W.alike (.tuple _) (.tuple _) = true
    rw [PySem.W.alike]
    induction x generalizing y with
    | nil => simp [PySem.W.alikeAll]
    | cons a x ih =>
      cases y with
      | nil => simp [PySem.W.alikeAll]
      | cons b y =>
        rw [List.map_cons, List.map_cons, PySem.W.alikeAll, ih]
        simp [PySem.W.alike]
  have dp : ∀ x : List Int, (tupD x).depth ≤ 2 := fun x => by
    show PyData.depth (.tuple _) ≤ 2
    rw [PyData.depth]
    have : PyData.depthAll (x.map .int) ≤ 1 := by
      induction x with
      | nil => simp [PyData.depthAll]
      | cons a x ih =>
        rw [List.map_cons, PyData.depthAll, PyData.depth]
        omega
    omega
  refine wpAny_bind (wpAny_holding (PySem.W.list_sort_data (bs := M0) (R := fun v (q : Addr × List Int) => v = Value.ref q.1) (enc := fun q : Addr × List Int => tupD q.2) (s := { s1 with heap := s1.heap.push (seqObj "list" (M0.map fun q => Value.ref q.1).toArray 0) }) hoL (each_refs M0) er (fun d hd d' hd' => ?_) (.inl fun d hd => ?_)
    (by rw [sizeLine_eq]; omega) (fun b hb => by have := dp b.2; show A.in1.units + 1 + (tupD b.2).depth < cLine; have e : A.in1.units = A.units + 1 := rfl; omega) fun out ho1 ho2 => ?_))
  · obtain ⟨q, _, rfl⟩ := List.mem_map.mp hd
    obtain ⟨r, _, rfl⟩ := List.mem_map.mp hd'
    exact al _ _
  · obtain ⟨q, hq, rfl⟩ := List.mem_map.mp hd
    have := hne q (hM0 q hq)
    cases e : q.2 with
    | nil => exact absurd e this
    | cons x r => exact ⟨_, _, rfl⟩
  rw [dataLe_tups] at ho2
  have hout := refs_each ho2
  have pO : (M0.mergeSort fun p q => leI p.2 q.2).Perm M0 := List.mergeSort_perm _ _
  have sO : (M0.mergeSort fun p q => leI p.2 q.2).Pairwise (fun p q => leI p.2 q.2 = true) := List.pairwise_mergeSort (fun a b c => leI_trans a.2 b.2 c.2) (fun a b => leI_total a.2 b.2) _
  generalize hN : (M0.mergeSort fun p q => leI p.2 q.2) = N at pO sO hout
  subst hout
  obtain ⟨c, hc⟩ := sortedHeap_at (vs := M0.map fun q => Value.ref q.1) (out := (N.map fun q => Value.ref q.1).toArray) hoL
  have pk : (N.map (·.2)).Perm (L.map (·.2)) := (pO.trans pM).map _
  have ek : N.map (·.2) = setT (L.map (·.2)) := by
    have e1 := isT_unique (l := N.map (·.2)) (m := (L.map (·.2)).eraseDups) ((dups_perm (pk.nodup_iff.mpr R.nd) fun k => pk.mem_iff)) (List.pairwise_map.mpr sO)
    exact e1
  refine wpAny_pure ⟨_, rfl, hQ _ s1.heap.objs.size c N (fun b u e => ?_) gens1 os1 big hc ek fun q hq => hM0 q (pO.mem_iff.mp hq)⟩
  have h1 := keep1 b u e
  have hlt := Heap.lt_size h1
  show (sortedHeap (s1.heap.push (seqObj "list" (M0.map fun q => Value.ref q.1).toArray 0)) s1.heap.objs.size _ _).get? b = some u
  rw [sortedHeap_old (Nat.ne_of_lt hlt) (by rw [size_push']; exact Nat.lt_succ_of_lt hlt)]
  exact Heap.get?_push_of_some _ h1
end
end TL
set_option Elab.async false
set_option linter.all false
set_option maxRecDepth 100000
set_option maxHeartbeats 1000000
namespace TL
open PySem PySem.Spec PyProof.Rows L2
section
variable {X : Cx} {C : Cc} {W : WX} {pos : Pos}
/-- set(t), t a tuple of ints -/
def rSetTI (w : World) (K : PySem.W.Frag) : List V → Hp → VK → Prop := fun xs H Q => ∃ (l : Addr) (ns : List Int), xs = [V.ref l] ∧ SqT K H l (ns.map V.int) ∧ ns.length + 1 < scanBound ∧ ∀ a c, H a = none → Q (.ref a) (upd H a (SetO w a (fun j => decide (j ∈ ns)) c))
theorem cr_setTI (hc : X.calm = true) : CallR X (.type "set") (rSetTI X.w X.K) := by
  intro pins s σ H us us' Q I r ⟨l, ns, ex, hl, hb, q⟩
  subst ex
  rw [Vals.ref1 r]
  obtain ⟨its, rv, p, hz⟩ := I.tuple hl
  refine call_set_tupI ns (I.ok.hd hc) p (by simpa using intsAre_of rv) hb fun h' tk c R _ k => ?_
  exact ⟨.ref s.heap.objs.size, upd H s.heap.objs.size (SetO X.w s.heap.objs.size (fun j => decide (j ∈ ns)) c), I.laid (t' := tk) k (Nat.le_refl _) (setO_new R), rfl, q s.heap.objs.size c (I.hok.fresh (Nat.le_refl _))⟩
/-- how many ints a set holds -/
theorem setR_card {w : World} {h : Heap} {a : Addr} {ns : List Int} {c : Nat} (R : SetR w h a (fun j => decide (j ∈ ns)) c) : c = (setI ns).length := by
  obtain ⟨o, es, ep, t, _, _, _, _, nd, mem, _, _, sz, _⟩ := R
  have p : (es.toList.map keyOf).Perm (setI ns) := (List.perm_ext_iff_of_nodup nd ((List.mergeSort_perm _ _).nodup_iff.mpr (eraseDups_nodup _ _ (Nat.le_refl _)))).mpr fun k => by
    refine (mem k).symm.trans (Iff.trans ?_ (mem_setI (ns := ns) (k := k)).symm)
    exact decide_eq_true_iff
  have e := p.length_eq
  rw [List.length_map, Array.length_toList, sz] at e
  exact e
/-- len(a), a a set of ints -/
def rLenS (w : World) : List V → Hp → VK → Prop := fun xs H Q => ∃ (a : Addr) (ns : List Int) (c : Nat), xs = [V.ref a] ∧ H a = some (SetO w a (fun j => decide (j ∈ ns)) c) ∧ Q (.int (setI ns).length) H
theorem cr_lenS : CallR X (.builtin "len") (rLenS X.w) := by
  intro pins s σ H xs us Q I r ⟨a, ns, c, ex, ha, q⟩
  subst ex
  rw [Vals.ref1 r]
  have R : SetR X.w s.heap a (fun j => decide (j ∈ ns)) c := (I.hok a _ ha).1
  have card := setR_card R
  obtain ⟨o, es, ep, t, ho, hex, hd, _, _, _, hlt, hf, hn, _⟩ := R
  refine call_len_set ho hex hd hf (by unfold scanBound at hlt; omega) ⟨.int (setI ns).length, H, I.tok _, ⟨_, by rw [hn, card]⟩, q⟩
/-- len(a), a a set of tuples -/
def rLenT (P : Program) (w : World) : List V → Hp → VK → Prop := fun xs H Q => ∃ (a : Addr) (L : List (Addr × List Int)), xs = [V.ref a] ∧ H a = some (SetTO P w a L) ∧ (∀ p ∈ L, SqT K0 H p.1 (p.2.map V.int)) ∧ ((L.map (·.2)).Nodup → Q (.int L.length) H)
theorem cr_lenT : CallR X (.builtin "len") (rLenT X.prog X.w) := by
  intro pins s σ H xs us Q I r ⟨a, L, ex, ha, hk, q⟩
  subst ex
  rw [Vals.ref1 r]
  have R0 : SetT0 X.prog X.w s.heap a L := (I.hok a _ ha).1
  obtain ⟨es, ep, t, R⟩ := R0.full fun p hp => I.isT (toK_T (hk p hp))
  obtain ⟨o, ho, hex, hd⟩ := R.ob
  have hz := R.size
  have hf := R.few
  refine call_len_set ho hex hd R.fits (by omega) ⟨.int L.length, H, I.tok _, ⟨_, by rw [hz]⟩, q R.nd⟩
/-- sorted(a), a a set of tuples -/
def rSortTD (P : Program) (w : World) : List V → Hp → VK → Prop := fun xs H Q => ∃ (a : Addr) (L : List (Addr × List Int)), xs = [V.ref a] ∧ H a = some (SetTO P w a L) ∧ (∀ p ∈ L, SqT K0 H p.1 (p.2.map V.int) ∧ p.2 ≠ []) ∧
  ∀ (M : List (Addr × List Int)) (p : Addr), M.map (·.2) = setT (L.map (·.2)) → (∀ q ∈ M, q ∈ L) → H p = none → Q (.ref p) (upd H p (.lst (M.map fun q => V.ref q.1)))
theorem cr_sortTD (hc : X.calm = true) (hu : X.A.units + 200 < cLine) : CallR X (.builtin "sorted") (rSortTD X.prog X.w) := by
  intro pins s σ H xs us Q I r ⟨a, L, ex, ha, hk, q⟩
  subst ex
  rw [Vals.ref1 r]
  have R0 : SetT0 X.prog X.w s.heap a L := (I.hok a _ ha).1
  obtain ⟨es, ep, t, R⟩ := R0.full fun p hp => I.isT (toK_T (hk p hp).1)
  refine sorted_setTD R (I.ok.hd hc) hu (fun p hp => (hk p hp).2) fun s' p c M keep g o big hg ek hM => ?_
  have lm : (M.map (·.2)).length ≤ (L.map (·.2)).length := by
    rw [ek]
    unfold setT
    rw [(isT_perm _).length_eq]
    have pm : (L.map (·.2)).Perm (L.map (·.2)).eraseDups := dups_perm R.nd fun k => Iff.rfl
    exact Nat.le_of_eq pm.length_eq.symm
  rw [List.length_map, List.length_map] at lm
  have hf := R.few
  have hn : H p = none := I.hok.fresh big
  have hl : (M.map fun q => V.ref q.1).length ≤ sizeLine := by rw [List.length_map, sizeLine_eq]; omega
  have J : Inv X pins σ (upd H p (.lst (M.map fun q => V.ref q.1))) { s with heap := s'.heap, gens := s'.gens, drawn := s'.drawn, toks := s'.toks } :=
    I.call (ch := []) (Un.laid keep big hn) (I.hok.laid keep big ⟨hl, M.map (fun q => Value.ref q.1), c, vals_of_refs M, hg⟩) (by rw [g]; exact I.bare) (fun _ z => nomatch z)
  have e : s' = { s with heap := s'.heap, gens := s'.gens, drawn := s'.drawn, toks := s'.toks } := by
    cases s'
    cases s
    cases o
    rfl
  rw [e]
  exact ⟨.ref p, _, J, rfl, q M p ek hM hn⟩
/-- the ints of a list or a tuple -/
def gLenSet : PyData → Option OV
  | .list xs => if xs.length < 64 then (match intsOf xs with
    | some ns => some (.d (.int (setI ns).length))
    | none => (tupsOf xs).map fun ks => .d (.int ks.eraseDups.length)) else none
  | .tuple xs => if xs.length < 64 then (intsOf xs).map fun ns => .d (.int (setI ns).length) else none
  | _ => none
def mLenSet (m : M PyData) : M OV := m >>= fun x => M.opt (gLenSet x)
def gSetT : PyData → Option OV
  | .list xs => if xs.length < 64 then (tupsOf xs).bind fun ks => if ks.all fun k => !k.isEmpty then some (.lst ((setT ks).map tupD)) else none else none
  | _ => none
def mSetT (m : M PyData) : M OV := m >>= fun x => M.opt (gSetT x)
def rSet3 (X : Cx) : List V → Hp → VK → Prop := fun vs H Q => rSetI X.w X.K vs H Q ∨ rSetTI X.w X.K vs H Q ∨ rSetOfT X.K X.prog X.w vs H Q
theorem cr_set3 (hc : X.calm = true) (hu : X.A.units + 200 < cLine) : CallR X (.type "set") (rSet3 X) := CallR.ex fun vs H Q h => by
  rcases h with h | h | h
  · exact ⟨_, cr_setI hc, h⟩
  · exact ⟨_, cr_setTI hc, h⟩
  · exact ⟨_, cr_setOfT hc (by omega), h⟩
theorem scan64 {n : Nat} (h : n < 64) : n + 1 < scanBound := by unfold scanBound; omega
/-- the tuples of ints of a list, as rows of the library's sets -/
theorem tups_rows {P : Hp} {vs : List V} {ks : List (List Int)} (a : DdAll P vs (ks.map tupD)) : ∃ L : List (Addr × List Int), vs = L.map (fun q => V.ref q.1) ∧ L.map (·.2) = ks ∧ ∀ q ∈ L, SqT K0 P q.1 (q.2.map V.int) := by
  obtain ⟨as, h1, h2, h3⟩ := dpAll_tups a
  refine ⟨as.zip ks, ?_, List.map_snd_zip (by omega), fun q hq => ?_⟩
  · have : (as.zip ks).map (fun p => V.ref p.1) = ((as.zip ks).map (·.1)).map V.ref := by rw [List.map_map]; rfl
    rw [h2, this, List.map_fst_zip (by omega)]
  · obtain ⟨i, hi, e⟩ := List.mem_iff_getElem.mp hq
    have e' : (as.zip ks)[i]? = some q := by rw [List.getElem?_eq_getElem hi, e]
    rw [List.getElem?_zip_eq_some] at e'
    exact h3 i q.1 q.2 e'.1 e'.2
theorem sE_lenSet {p p2 q : Pos} {e : Expr} {m : M PyData} (hc : X.calm = true) (hu : X.A.units + 200 < cLine) (hg : Gl X "len") (hm : X.mg "len" = none) (hg2 : Gl X "set") (hm2 : X.mg "set" = none) (h : PE X e (liftD C W m)) (ns : NS e) :
    PE X (.Call (.Name "len" p) [.Call (.Name "set" p2) [e] [] q] [] pos) (liftE C W (mLenSet m)) := by
  have c2 : CallR X (.builtin "len") (fun vs H Q => rLenS X.w vs H Q ∨ rLenT X.prog X.w vs H Q) := CallR.ex fun vs H Q h => by
    rcases h with h | h
    · exact ⟨_, cr_lenS, h⟩
    · exact ⟨_, cr_lenT, h⟩
  refine PE.imp (pe_callB c2 hg hm boot_len (pa_cons (pe_callTy (cr_set3 hc hu) hg2 hm2 boot_set (pa_cons h pa_nil (ns [] _)) (by decide) (by decide) (ns [] _) backTo_nil) pa_nil rfl) (by decide) (by decide) rfl backTo_nil) fun σ H Q q => ?_
  refine liftG.seq q fun x env' P' fp' H' v s r q => ?_
  obtain ⟨o, eo, q'⟩ := opt_some q
  cases r with
  | @lst l vs xs hq a =>
    have eo : (if xs.length < 64 then (match intsOf xs with
      | some ns => some (OV.d (.int (setI ns).length))
      | none => (tupsOf xs).map fun ks => .d (.int ks.eraseDups.length)) else none) = some o := eo
    by_cases hlen : xs.length < 64
    · rw [if_pos hlen] at eo
      cases ei : intsOf xs with
      | some ns' =>
        rw [ei] at eo
        cases eo
        obtain rfl := intsOf_eq ei
        obtain rfl := dpAll_ints a
        rw [List.length_map] at hlen
        refine .inl ⟨l, ns', rfl, toK_L (s.le.sqL hq), scan64 hlen, fun b c hb _ => .inl ⟨b, ns', c, rfl, upd_same, ?_⟩⟩
        obtain ⟨l2, s2⟩ := s.laid hb (u := SetO X.w b (fun j => decide (j ∈ ns')) c) trivial
        exact q' _ fp' _ _ l2 s2 (rOV.d (.int _))
      | none =>
        rw [ei] at eo
        obtain ⟨ks, e1, e2⟩ := Option.map_eq_some_iff.mp eo
        subst e2
        obtain rfl := tupsOf_eq e1
        rw [List.length_map] at hlen
        obtain ⟨L, rfl, rfl, hL⟩ := tups_rows a
        rw [List.length_map] at hlen
        refine .inr (.inr ⟨l, L, rfl, toK_L (s.le.sqL hq), fun p hp => toK_T (s.le.sqT (hL p hp)), hlen, fun b M hb h1 h2 => .inr ⟨b, M, rfl, upd_same, fun p hp => ?_, fun nd => ?_⟩⟩)
        · obtain ⟨l2, s2⟩ := s.laid hb (u := SetTO X.prog X.w b M) trivial
          exact s2.le.sqT (l2.sqT (hL p (h1 p hp)))
        · obtain ⟨l2, s2⟩ := s.laid hb (u := SetTO X.prog X.w b M) trivial
          have pm := dups_perm (ks := L.map (·.2)) nd fun k => ⟨fun hk => by
            obtain ⟨z, hz, rfl⟩ := List.mem_map.mp hk
            exact List.mem_map.mpr ⟨z, h1 z hz, rfl⟩, fun hk => by
            obtain ⟨z, hz, rfl⟩ := List.mem_map.mp hk
            exact h2 z hz⟩
          have e := pm.length_eq
          rw [List.length_map] at e
          rw [e]
          exact q' _ fp' _ _ l2 s2 (rOV.d (.int _))
    · rw [if_neg hlen] at eo
      cases eo
  | @tup l vs xs hq a =>
    have eo : (if xs.length < 64 then (intsOf xs).map fun ns => OV.d (.int (setI ns).length) else none) = some o := eo
    by_cases hlen : xs.length < 64
    · rw [if_pos hlen] at eo
      obtain ⟨ns', e1, e2⟩ := Option.map_eq_some_iff.mp eo
      subst e2
      obtain rfl := intsOf_eq e1
      obtain rfl := dpAll_ints a
      rw [List.length_map] at hlen
      refine .inr (.inl ⟨l, ns', rfl, toK_T (s.le.sqT hq), scan64 hlen, fun b c hb => .inl ⟨b, ns', c, rfl, upd_same, ?_⟩⟩)
      obtain ⟨l2, s2⟩ := s.laid hb (u := SetO X.w b (fun j => decide (j ∈ ns')) c) trivial
      exact q' _ fp' _ _ l2 s2 (rOV.d (.int _))
    · rw [if_neg hlen] at eo
      cases eo
  | _ => cases eo
theorem sE_setT {p p2 q : Pos} {e : Expr} {m : M PyData} (hc : X.calm = true) (hu : X.A.units + 200 < cLine) (hg : Gl X "sorted") (hm : X.mg "sorted" = none) (hg2 : Gl X "set") (hm2 : X.mg "set" = none) (h : PE X e (liftD C W m)) (ns : NS e) :
    PE X (.Call (.Name "sorted" p) [.Call (.Name "set" p2) [e] [] q] [] pos) (liftE C W (mSetT m)) := by
  refine PE.imp (pe_callB (cr_sortTD hc hu) hg hm boot_sorted (pa_cons (pe_callTy (cr_setOfT hc (by omega)) hg2 hm2 boot_set (pa_cons h pa_nil (ns [] _)) (by decide) (by decide) (ns [] _) backTo_nil) pa_nil rfl) (by decide) (by decide) rfl backTo_nil) fun σ H Q q => ?_
  refine liftG.seq q fun x env' P' fp' H' v s r q => ?_
  obtain ⟨o, eo, q'⟩ := opt_some q
  cases r with
  | @lst l vs xs hq a =>
    have eo : (if xs.length < 64 then (tupsOf xs).bind fun ks => if ks.all fun k => !k.isEmpty then some (OV.lst ((setT ks).map tupD)) else none else none) = some o := eo
    by_cases hlen : xs.length < 64
    · rw [if_pos hlen] at eo
      obtain ⟨ks, e1, e2⟩ := Option.bind_eq_some_iff.mp eo
      by_cases hk : (ks.all fun k => !k.isEmpty) = true
      · rw [if_pos hk] at e2
        cases e2
        obtain rfl := tupsOf_eq e1
        rw [List.length_map] at hlen
        obtain ⟨L, rfl, rfl, hL⟩ := tups_rows a
        rw [List.length_map] at hlen
        have ne : ∀ z ∈ L, z.2 ≠ [] := fun z hz e => by
          have := List.all_eq_true.mp hk z.2 (List.mem_map.mpr ⟨z, hz, rfl⟩)
          rw [e] at this
          cases this
        refine ⟨l, L, rfl, toK_L (s.le.sqL hq), fun p hp => toK_T (s.le.sqT (hL p hp)), hlen, fun b M hb h1 h2 => ?_⟩
        obtain ⟨l2, s2⟩ := s.laid hb (u := SetTO X.prog X.w b M) trivial
        refine ⟨b, M, rfl, upd_same, fun p hp => ⟨s2.le.sqT (l2.sqT (hL p (h1 p hp))), ne p (h1 p hp)⟩, fun N p ek hN hp => ?_⟩
        have es : setT (M.map (·.2)) = setT (L.map (·.2)) := by
          unfold setT
          refine isT_unique (((isT_perm _).trans ?_)) (isT_sorted _)
          refine (List.perm_ext_iff_of_nodup (eraseDups_nodup _ _ (Nat.le_refl _)) (eraseDups_nodup _ _ (Nat.le_refl _))).mpr fun k => ?_
          rw [List.mem_eraseDups, List.mem_eraseDups]
          exact ⟨fun hk => by
            obtain ⟨z, hz, rfl⟩ := List.mem_map.mp hk
            exact List.mem_map.mpr ⟨z, h1 z hz, rfl⟩, fun hk => by
            obtain ⟨z, hz, rfl⟩ := List.mem_map.mp hk
            exact h2 z hz⟩
        have ed : (setT (L.map (·.2))).map tupD = N.map fun q => tupD q.2 := by
          rw [← es, ← ek, List.map_map]
          rfl
        rw [ed] at q'
        exact rOV.newL s2 (tups_dpAll fun z hz => l2.sqT (hL z (h1 z (hN z hz)))) (fun P2 fp2 H2 v2 l3 s3 r3 => q' P2 fp2 H2 v2 (l2.trans l3) s3 r3) hp
      · rw [if_neg hk] at e2
        cases e2
    · rw [if_neg hlen] at eo
      cases eo
  | _ => cases eo
end
end TL
set_option Elab.async false
set_option linter.all false
set_option maxRecDepth 100000
set_option maxHeartbeats 1000000
namespace TL
open PySem PySem.Spec PyProof.Rows L2
section
variable {X : Cx}
/-! ### {k: v for target in iter if ..}, the keys tuples -/
theorem d_dictSetN {pins : List (Addr × Obj)} {σ : L2.St} {H : Hp} {s : Shared} {E : Value → Shared → Prop} {D q : Addr} {es : List (NestedKey × Addr × Value)} {k : NestedKey} {P : Hp} {r : Value} {Q : Unit → Shared → Prop} (hu : X.A.units + 200 < cLine) (I : Inv X pins σ H s) (hD : H D = some (.ext (phN D es)))
    (ks : ∀ x ∈ es, kTop x.1 = true ∧ Dd P (.ref x.2.1) x.1.data) (l : Le P H) (d : Dd P (.ref q) k.data) (kt : kTop k = true) (hz : es.length < sizeLine) (h : ∀ s', Inv X pins σ (upd H D (.ext (phN D (storedH es k q r)))) s' → Q () s') : wpAny (model X.prog X.w) X.A (dictSet D (.ref q) r) Q E s := by
  obtain ⟨hd, dd⟩ := dn_of I.hok l (.inl hD) ks
  have hk := key_at I.hok l kt d
  unfold dictSet
  refine wpAny_holding (wpAny_bind ((nestedKind X.prog X.w).pyHash (show X.A.units + 8 < cLine by omega) hk ?_))
  refine wpAny_dictSetHashed_heap (show X.A.units + 8 < cLine by omega) hk dd (fun h' dd' hs => h _ ?_) (by omega)
  have he : ∃ o, h'.get? D = some o := let ⟨o, _, _, ho, _⟩ := dd'; ⟨o, ho⟩
  refine d_write (s := s) I (by rw [hD]; exact True.intro) hs he (dn_new hd (fun x hx => ?_) dd')
  unfold storedH at hx
  split at hx
  · obtain ⟨x0, h0, e0⟩ := List.mem_map.mp hx
    subst e0
    unfold putAt
    split
    · exact (ks x0 h0).1
    · exact (ks x0 h0).1
  · rcases List.mem_append.mp hx with h0 | h0
    · exact (ks x h0).1
    · rw [List.mem_singleton.mp h0]
      exact kt
def tDcN (wi : TI) (g : TG) (tt : TT) (tk tv : TE) (vs : List Nat) : TE := fun σ H Q => wi σ H fun J H1 => ∀ D, H1 D = none → ∃ W : Nat → Nat → Hp → Prop, (∃ m, W 0 m (upd H1 D (.ext (phN D [])))) ∧ ∀ i m H, W i m H →
  (J.stop i H ∧ Q (.ref D) H) ∨ (J.go i H ∧ ∃ Nx : Hp → Prop, (∀ H', Nx H' → ∃ m', m' < m ∧ W (i + 1) m' H') ∧ ∀ x H', J.yld i H x H' → g x (wipe σ vs) H' fun σ2 H2 => wipe σ2 vs = wipe σ vs ∧ tt σ2 H2 fun b H3 =>
    if b = true then tk σ2 H3 fun y H4 => tv σ2 H4 fun z H5 => ∃ es k q P, y = .ref q ∧ H5 D = some (.ext (phN D es)) ∧ (∀ x ∈ es, kTop x.1 = true ∧ Dd P (.ref x.2.1) x.1.data) ∧ Le P H5 ∧ Dd P (.ref q) k.data ∧ kTop k = true ∧ es.length < sizeLine ∧ ∀ r, RelV z r → Nx (upd H5 D (.ext (phN D (storedH es k q r)))) else Nx H3)
theorem dcN_core {pins : List (Addr × Obj)} {s : Shared} {σ : L2.St} {H : Hp} {Q : VK} {kx vx tg iter : Expr} {ifs : List Expr} {scope : Scope} {own : List (Str × Nat)} {pos pos' : Pos} {wi : TI} {g : TG} {tt : TT} {tk tv : TE} {use : Option (Value → Sem Unit)} {Qf : Value → Shared → Prop}
    (hu : X.A.units + 200 < cLine) (hc : X.calm = true) (hN : X.N.Nodup) (I : Inv X pins σ H s) (hi : PI X tg iter wi) (ok : BlkOk X.N X.env.scope scope own)
    (hg : ∀ (s : Shared) (H : Hp) (C : Addr) (cl : List (Str × Addr)) (fp : List Addr), PG (X.blk s H scope (compEnvC scope cl C X.env) fp) tg g) (ht : ∀ (s : Shared) (H : Hp) (C : Addr) (cl : List (Str × Addr)) (fp : List Addr), PTs (X.blk s H scope (compEnvC scope cl C X.env) fp) ifs tt)
    (hk : ∀ (s : Shared) (H : Hp) (C : Addr) (cl : List (Str × Addr)) (fp : List Addr), PE (X.blk s H scope (compEnvC scope cl C X.env) fp) kx tk)
    (he : ∀ (s : Shared) (H : Hp) (C : Addr) (cl : List (Str × Addr)) (fp : List Addr), PE (X.blk s H scope (compEnvC scope cl C X.env) fp) vx tv) (hs : ∀ x, foldedSetIterable iter X.env x = pure x)
    (h : tDcN wi g tt tk tv (own.map (·.2)) σ H Q)
    (hRR : ∀ D C s' m H', Inv X pins σ H' s' → Q (.ref D) H' → s'.heap.Ns C m → FpOk X pins H' C → compPost (model X.prog X.w) X.A X.xe use Qf (.ref D) C (.ok .next) s') :
    wpAny (model X.prog X.w) X.A (comprehension (.DictComp kx vx [⟨tg, iter, ifs, 0⟩] scope pos) scope X.env pos' newDict false (eval iter X.env) use) Qf X.xe s := by
  have frees : ∀ y ∈ scope.names, y.2 = .free → ∃ c, X.env.cells.lookup y.1 = some c := fun y hy e => by
    rcases ok.free y hy e with k | k
    · exact I.ok.has _ (.inl k)
    · exact I.ok.has _ (.inr k)
  refine wpAny_comprehension_free (use := use) rfl hs (closure_ok frees) ok.kind (fun y hy e => by rw [ok.uniq y hy, e])
    (thn (hi.run pins s σ H _ I h) fun xv sa hx => thn hx fun itv sb hb2 => ?_)
  obtain ⟨it, fp, tn, J, Hb, e, Jb, T, ts2, fb, q⟩ := hb2
  subst e
  refine wpAny_newObj_type (newEnv_comp ?_)
  generalize hD : sb.heap.objs.size = D
  have hDn : Hb D = none := Jb.hok.fresh (Nat.le_of_eq hD)
  obtain ⟨W, ⟨m0, start0⟩, turn⟩ := q D hDn
  -- the new list
  generalize hs3 : ({ sb with heap := sb.heap.push { cls := .type "dict", data := .dict #[] } } : Shared) = sc
  have Jc : Inv X pins σ (upd Hb D (.ext (phN D []))) sc := by
    rw [← hs3]
    refine Jb.laid (t' := sb.toks) (fun b o e => Heap.get?_push_of_some _ e) (Nat.le_of_eq hD) ?_
    rw [← hD]
    exact dn_empty sb.heap Jb.big
  have hc3 : sc.heap = sb.heap.push { cls := .type "dict", data := .dict #[] } := by rw [← hs3]
  have small : ∀ b ∈ fp, b < sb.heap.objs.size := fun b hb => by
    obtain ⟨o, e, _⟩ := T.obj _ _ ts2 b hb
    exact Heap.lt_size e
  have fc : ∀ b ∈ fp, FpOk X pins (upd Hb D (.ext (phN D []))) b ∧ b < sc.heap.objs.size := fun b hb => by
    have hlt := small b hb
    refine ⟨⟨?_, (fb b hb).2⟩, by rw [hc3, Heap.size_push]; exact Nat.lt_succ_of_lt hlt⟩
    rw [upd_ne (by rw [← hD]; exact Nat.ne_of_lt hlt)]
    exact (fb b hb).1
  have ts3 : tn 0 sc.heap := T.keep _ _ _ ts2 fun b _ o e => by rw [hc3]; exact Heap.get?_push_of_some _ e
  have Jd := block_start Jc ok hN fc
  have rg := hg sc (upd Hb D (.ext (phN D []))) sc.heap.objs.size (cellsFrom (sc.heap.objs.size + 1) scope.names (cloFrom X.env.cells scope.names [])) fp
  have rt := ht sc (upd Hb D (.ext (phN D []))) sc.heap.objs.size (cellsFrom (sc.heap.objs.size + 1) scope.names (cloFrom X.env.cells scope.names [])) fp
  have rk := hk sc (upd Hb D (.ext (phN D []))) sc.heap.objs.size (cellsFrom (sc.heap.objs.size + 1) scope.names (cloFrom X.env.cells scope.names [])) fp
  have re_ := he sc (upd Hb D (.ext (phN D []))) sc.heap.objs.size (cellsFrom (sc.heap.objs.size + 1) scope.names (cloFrom X.env.cells scope.names [])) fp
  show codeAny _ _ (.compStart (.DictComp kx vx [⟨tg, iter, ifs, 0⟩] scope pos) 0 (.ref it) (.ref D) (compEnvC scope (cellsFrom (sc.heap.objs.size + 1) scope.names (cloFrom X.env.cells scope.names [])) sc.heap.objs.size X.env)) (compPost (model X.prog X.w) X.A X.xe use Qf (.ref D) sc.heap.objs.size) { sc with heap := pushCells (sc.heap.push { cls := .type "dict", data := .dict #[] }) scope.names }
  have free_fp : ∀ b ∈ fp, (upd Hb D (.ext (phN D []))) b = none := fun b hb => (fc b hb).1.1
  generalize hce : compEnvC scope (cellsFrom (sc.heap.objs.size + 1) scope.names (cloFrom X.env.cells scope.names [])) sc.heap.objs.size X.env = cenv at Jd rg rt rk re_ ⊢
  have locs : cenv.locals = sc.heap.objs.size := by subst hce; rfl
  generalize hH3 : upd Hb D (.ext (phN D [])) = Hc at Jc Jd rg rt rk re_ start0 free_fp fc
  generalize hs4 : ({ sc with heap := pushCells (sc.heap.push { cls := .type "dict", data := .dict #[] }) scope.names } : Shared) = sd at Jd ⊢
  have ts4 : tn 0 sd.heap := T.keep _ _ _ ts3 fun b _ o e => by rw [← hs4]; exact pushCells_keeps _ _ _ _ (Heap.get?_push_of_some _ e)
  have held : ∀ {σ' : L2.St} {H' : Hp} {s' : Shared}, Inv (X.blk sc Hc scope cenv fp) [] σ' H' s' → (∀ b ∈ fp, H' b = none) → ∀ b ∈ fp, FpOk (X.blk sc Hc scope cenv fp) [] H' b := fun {σ' H' s'} I' hn b hb =>
    ⟨hn b hb, (I'.ok.exf b hb).1, I'.ok.exfs b hb, .inl hb, fun x c e => (I'.ok.exf b hb).2 x c e, fun p hp => absurd (show p ∈ ([] : List (Addr × Obj)) ++ [] from hp) (by simp)⟩
  have walk : codeAny (model X.prog X.w) X.A (.compLoop (.DictComp kx vx [⟨tg, iter, ifs, 0⟩] scope pos) 0 (.ref it) (.ref D) cenv) (compPost (model X.prog X.w) X.A X.xe use Qf (.ref D) sc.heap.objs.size) sd := by
    refine compLoop_anyD (fun n s' => ∃ i H', Inv (X.blk sc Hc scope cenv fp) [] (wipe σ (own.map (·.2))) H' s' ∧ tn i s'.heap ∧ (∀ b ∈ fp, H' b = none) ∧ W i n H') ?_ m0 ⟨0, Hc, Jd, ts4, free_fp, start0⟩
    rintro n se ⟨i, He, Je, ts5, none5, at5⟩
    rcases turn i n He at5 with ⟨stop, done_⟩ | ⟨go, Nx, hNx, step⟩
    · have Td := T.done (X.blk sc Hc scope cenv fp) rfl rfl rfl hc i [] se _ He (fun _ _ => False) Je (held Je none5) ts5 stop
      refine thnF Td fun r sf ⟨hr, Jf⟩ => ?_
      subst hr
      -- back in the def's context
      have Jg : Inv X pins σ He sf := Jc.call' (ch := fp) Jf.os Jf.base Jf.hok Jf.bare fun b hb => ⟨(fc b hb).1.2.2.2.1, (fc b hb).1.2.1, (fc b hb).1.2.2.2.2.1, (fc b hb).1.2.2.2.2.2⟩
      have nC : He sc.heap.objs.size = none := by
        have z : He cenv.locals = none := Jf.free
        rw [locs] at z
        exact z
      obtain ⟨m, hn, _⟩ := Jf.loc
      have hn : sf.heap.Ns cenv.locals m := hn
      rw [locs] at hn
      exact hRR D sc.heap.objs.size sf m He Jg done_ hn (Jc.fpOk (Nat.le_refl _) nC)
    · have Ti := T.item (X.blk sc Hc scope cenv fp) rfl rfl rfl hc i [] se _ He (fun _ _ => False) Je (held Je none5) ts5 go
      refine thnF Ti fun r sf ⟨u, hr, h6⟩ => ?_
      subst hr
      refine thnF h6 fun _ sg ⟨x, Hg, Jg, r7, y7, ts7, n7⟩ => ?_
      have Jg' := Jg.pinned (held Jg n7) (T.obj _ _ ts7)
      refine thnF (rg.run _ sg _ Hg x u _ Jg' r7 (step x Hg y7)) fun _ sh ⟨σ8, Hh, Jh, hw8, q8⟩ => ?_
      refine thnF (rt.run _ sh σ8 Hh _ Jh q8) fun b sk ⟨Hk, Jk, q9⟩ => ?_
      -- the turn's end
      have turn_end : ∀ {s' : Shared} {H' : Hp}, Inv (X.blk sc Hc scope cenv fp) ([] ++ pinsAt fp sg.heap) σ8 H' s' → Nx H' → ∃ m, m < n ∧ ∃ i H', Inv (X.blk sc Hc scope cenv fp) [] (wipe σ (own.map (·.2))) H' s' ∧ tn i s'.heap ∧ (∀ b ∈ fp, H' b = none) ∧ W i m H' := fun {s' H'} I' nx => by
        obtain ⟨m', hm, w'⟩ := hNx H' nx
        have pin' : ∀ b ∈ fp, ∀ o, sg.heap.get? b = some o → s'.heap.get? b = some o ∧ H' b = none := fun b hb o e =>
          let z := I'.pin (b, o) (List.mem_append_right _ (List.mem_append_right _ (mem_pinsAt hb e)))
          ⟨z.1, z.2.1⟩
        have hl : (wipe σ (own.map (·.2))).length = σ8.length := by rw [← hw8, wipe_length]
        refine ⟨m', hm, i + 1, H', (I'.unpinned (pins := [])).weak hl (fun j v e => ?_), T.keep _ _ _ ts7 fun b hb o e => (pin' b hb o e).1, fun b hb => ?_, w'⟩
        · rw [← hw8] at e
          exact (wipe_some e).1
        · obtain ⟨o, e, _⟩ := T.obj _ _ ts7 b hb
          exact (pin' b hb o e).2
      cases b with
      | false =>
        simp only [Bool.false_eq_true, if_false] at q9 ⊢
        exact turn_end Jk q9
      | true =>
        simp only [if_true] at q9 ⊢
        refine thnF (rk.run _ sk σ8 Hk _ Jk q9) fun z sl ⟨yk, Hl, Jl, r10, q10⟩ => ?_
        refine thnF (re_.run _ sl σ8 Hl _ Jl q10) fun z2 sm ⟨yv, Hm, Jm, r11, es, kk, done_, Pk, ek, hD11, hks, hle, hdd, hkt, hz11, nx⟩ => ?_
        subst ek
        obtain rfl : z = Value.ref done_ := r10
        exact d_dictSetN (X := X.blk sc Hc scope cenv fp) hu Jm hD11 hks hle hdd hkt hz11 fun sn Jn => turn_end Jn (nx _ r11)
  exact codeAny_compStart_dict walk (T.self X.A 0 _ _ _ ts4 walk)
/-- as a value -/
theorem pe_dcN {kx vx tg iter : Expr} {ifs : List Expr} {scope : Scope} {own : List (Str × Nat)} {pos : Pos} {wi : TI} {g : TG} {tt : TT} {tk tv : TE} (hu : X.A.units + 200 < cLine) (hc : X.calm = true) (hN : X.N.Nodup) (hi : PI X tg iter wi) (ok : BlkOk X.N X.env.scope scope own)
    (hg : ∀ (s : Shared) (H : Hp) (C : Addr) (cl : List (Str × Addr)) (fp : List Addr), PG (X.blk s H scope (compEnvC scope cl C X.env) fp) tg g) (ht : ∀ (s : Shared) (H : Hp) (C : Addr) (cl : List (Str × Addr)) (fp : List Addr), PTs (X.blk s H scope (compEnvC scope cl C X.env) fp) ifs tt)
    (hk : ∀ (s : Shared) (H : Hp) (C : Addr) (cl : List (Str × Addr)) (fp : List Addr), PE (X.blk s H scope (compEnvC scope cl C X.env) fp) kx tk)
    (he : ∀ (s : Shared) (H : Hp) (C : Addr) (cl : List (Str × Addr)) (fp : List Addr), PE (X.blk s H scope (compEnvC scope cl C X.env) fp) vx tv) (hs : ∀ x, foldedSetIterable iter X.env x = pure x := by intro _; rfl) :
    PE X (.DictComp kx vx [⟨tg, iter, ifs, 0⟩] scope pos) (tDcN wi g tt tk tv (own.map (·.2))) := by
  refine ⟨fun pins s σ H Q I h => ?_⟩
  rw [arm_eval_DictComp]
  refine dcN_core hu hc hN I hi ok hg ht hk he hs h fun D C s' m H' I' q hn f => ⟨m, hn, fun h'' sb => ?_⟩
  obtain ⟨f0, f1, fb, fc, f4, f5⟩ := f
  exact ⟨.ref D, H', I'.turned (t' := s'.toks) (fun b o hb e => (sb.2 b hb).trans e) f0 f1 fc f4 f5, rfl, q⟩
end
end TL
set_option Elab.async false
set_option linter.all false
set_option maxRecDepth 100000
set_option maxHeartbeats 2000000
namespace TL
open PySem PySem.Spec PyProof.Rows L2
section
variable {X : Cx} {C : Cc} {W : WX} {pos : Pos}
def dcM (vs : List Nat) (g : PyData → M Unit) (t : M Bool) (mk mv : M PyData) : List PyData → List (NestedKey × PyData) → M (List (NestedKey × PyData))
  | [], acc => fun env => some (.ok acc env)
  | x :: xs, acc => fun env0 => (g x >>= fun _ => t >>= fun c => if c then mk >>= fun y => mv >>= fun z => (match keyTop y with
    | some k => if acc.length < sizeLine then fun env => dcM vs g t mk mv xs (putN acc k z) env else fun _ => none
    | none => fun _ => none) else fun env => dcM vs g t mk mv xs acc env) (wipeE env0 vs)
def mDComp (vs : List Nat) (mi : M (List PyData)) (g : PyData → M Unit) (t : M Bool) (mk mv : M PyData) : M OV := mi >>= fun xs => fun env1 =>
  if vs.all (flatAt env1) then (match dcM vs g t mk mv xs [] env1 with
    | some (.ok acc env2) => some (.ok (.ext (.dn acc)) (backE env2 env1 vs))
    | _ => none) else none
structure BlkD (X : Cx) (C : Cc) (scope : Scope) (vs : List Nat) (tg : Expr) (ifs : List Expr) (kx vx : Expr) (g : PyData → M Unit) (t : M Bool) (mk mv : M PyData) : Prop where
  tg : ∀ (s : Shared) (H : Hp) (c : Addr) (cl : List (Str × Addr)) (fp : List Addr) (F : Hp), PG (blkN X s H scope c cl fp) tg (liftPG (C.withF F) vs g)
  ifs : ∀ (s : Shared) (H : Hp) (c : Addr) (cl : List (Str × Addr)) (fp : List Addr) (F : Hp), PTs (blkN X s H scope c cl fp) ifs (liftT (C.withF F) W0 t)
  kx : ∀ (s : Shared) (H : Hp) (c : Addr) (cl : List (Str × Addr)) (fp : List Addr) (F : Hp), PE (blkN X s H scope c cl fp) kx (liftD (C.withF F) W0 mk)
  vx : ∀ (s : Shared) (H : Hp) (c : Addr) (cl : List (Str × Addr)) (fp : List Addr) (F : Hp), PE (blkN X s H scope c cl fp) vx (liftD (C.withF F) W0 mv)
theorem dcR {scope : Scope} {own : List (Str × Nat)} {tg iter kx vx : Expr} {ifs : List Expr} {mi : M (List PyData)} {g : PyData → M Unit} {t : M Bool} {mk mv : M PyData} (h0 : GOk g) (hk : ∀ i ∈ own.map (·.2), C.kp i = none) {σ : L2.St} {H : Hp} {Q : VK} (q : liftE C W (mDComp (own.map (·.2)) mi g t mk mv) σ H Q) :
    tDcN (liftI C W mi) (fun v σ H Q => ∃ F, liftPG (C.withF F) (own.map (·.2)) g v σ H Q) (fun σ H Q => ∃ F, liftT (C.withF F) W0 t σ H Q) (fun σ H Q => ∃ F, liftD (C.withF F) W0 mk σ H Q) (fun σ H Q => ∃ F, liftD (C.withF F) W0 mv σ H Q) (own.map (·.2)) σ H Q := by
  generalize hvs : own.map (·.2) = vs at q hk ⊢
  obtain ⟨P, env, fp, s, h⟩ := q
  have h : postG C W (rOV C) P Q σ (Out.andThen (mi env) fun xs => fun env1 => if vs.all (flatAt env1) then (match dcM vs g t mk mv xs [] env1 with
    | some (.ok acc env2) => some (.ok (.ext (.dn acc)) (backE env2 env1 vs))
    | _ => none) else none) := h
  refine ⟨P, env, fp, s, ?_⟩
  cases em : mi env with
  | none => rw [em] at h; exact h.elim
  | some o =>
    rw [em] at h
    cases o with
    | exc y e1 => exact h
    | ok xs e1 =>
      intro P1 fp1 H1 J l1 s1 wk D hD
      have h : postG C W (rOV C) P Q σ (if vs.all (flatAt e1) then (match dcM vs g t mk mv xs [] e1 with
        | some (.ok acc env2) => some (.ok (.ext (.dn acc)) (backE env2 e1 vs))
        | _ => none) else none) := h
      by_cases hfl : vs.all (flatAt e1) = true
      · rw [if_pos hfl] at h
        cases er : dcM vs g t mk mv xs [] e1 with
        | none => rw [er] at h; exact h.elim
        | some o =>
          rw [er] at h
          cases o with
          | exc y e2 => exact h.elim
          | ok racc renv =>
            have h1 : postG C W (rOV C) P1 Q σ (some (.ok (.ext (.dn racc)) (backE renv e1 vs))) := postG.mono l1 h
            obtain ⟨s2, t2⟩ := s1.newt hD (u := .ext (phN D [])) trivial
            have s2w := s2.wipes hk
            have b2 : Beside C P1 fp1 (L2.upd H1 D (.ext (phN D []))) (one D (.ext (phN D []))) := Beside.mk1 upd_same trivial (t2.fre D List.mem_cons_self).1 (t2.fre D List.mem_cons_self).2 fun i hi => t2.dis i D hi List.mem_cons_self
            refine ⟨fun i n H => n = xs.length - i ∧ i ≤ xs.length ∧ ∃ P fp acc es en, Le P1 P ∧ StOk C P (wipeE en vs) fp (wipe σ vs) H ∧ Beside C P fp H (one D (.ext (phN D es))) ∧ DnAll P es acc ∧ dcM vs g t mk mv (xs.drop i) acc en = some (.ok racc renv), ⟨xs.length, rfl, Nat.zero_le _, P1, fp1, [], [], e1, Le.refl _, s2w, b2, .nil, er⟩, ?_⟩
            rintro i n H2 ⟨rfl, hi, P2, fp2, acc, es, en, l2, st2, bs2, da, run⟩
            have hold := st2.hold bs2
            obtain ⟨w1, w2⟩ := wk i P2 (wipeE en vs) fp2 (join C.F (one D (.ext (phN D es)))) (wipe σ vs) H2 l2 hold
            by_cases hlt : i < xs.length
            · refine .inr ?_
              obtain ⟨go, yl⟩ := w2 xs[i] (by simp [hlt])
              rw [List.drop_eq_getElem_cons hlt] at run
              have run : Out.andThen (g xs[i] (wipeE en vs)) (fun _ => t >>= fun c => if c then mk >>= fun y => mv >>= fun z => (match keyTop y with
                | some k => if acc.length < sizeLine then fun env => dcM vs g t mk mv (xs.drop (i + 1)) (putN acc k z) env else fun _ => none
                | none => fun _ => none) else fun env => dcM vs g t mk mv (xs.drop (i + 1)) acc env) = some (.ok racc renv) := run
              refine ⟨go, fun H3 => ∃ P fp acc es en, Le P1 P ∧ StOk C P (wipeE en vs) fp (wipe σ vs) H3 ∧ Beside C P fp H3 (one D (.ext (phN D es))) ∧ DnAll P es acc ∧ dcM vs g t mk mv (xs.drop (i + 1)) acc en = some (.ok racc renv), fun H' w => ⟨xs.length - (i + 1), by omega, rfl, hlt, w⟩, fun v H' y => ?_⟩
              obtain ⟨P3, l3, s3, d3⟩ := yl v H' y
              cases eg : g xs[i] (wipeE en vs) with
              | none => rw [eg] at run; cases run
              | some o =>
                obtain ⟨env3, rfl⟩ := h0 _ _ _ eg
                rw [eg] at run
                have run : Out.andThen (t env3) (fun c => if c then mk >>= fun y => mv >>= fun z => (match keyTop y with
                  | some k => if acc.length < sizeLine then fun env => dcM vs g t mk mv (xs.drop (i + 1)) (putN acc k z) env else fun _ => none
                  | none => fun _ => none) else fun env => dcM vs g t mk mv (xs.drop (i + 1)) acc env) = some (.ok racc renv) := run
                refine ⟨join C.F (one D (.ext (phN D es))), P3, wipeE en vs, fp2, xs[i], env3, s3, d3, eg, fun P4 fp4 σ4 H4 l4 s4 w4 => ?_⟩
                have w4 : wipe σ4 vs = wipe (wipe σ vs) vs := w4
                have ww : wipe (wipe σ vs) vs = wipe σ vs := wipe_wipe
                refine ⟨w4.trans ww, join C.F (one D (.ext (phN D es))), P4, env3, fp4, s4, ?_⟩
                cases et : t env3 with
                | none => rw [et] at run; cases run
                | some o =>
                  rw [et] at run
                  cases o with
                  | exc y e => cases run
                  | ok c env5 =>
                    intro P5 fp5 H5 b l5 s5 r5
                    have rb : b = c := r5
                    subst rb
                    cases b with
                    | false =>
                      refine (?_ : (if false = true then _ else _))
                      rw [if_neg Bool.false_ne_true]
                      have s6 := s5.unhold.wipes hk
                      rw [w4, ww] at s6
                      have b6 := s5.besides bs2
                      exact ⟨P5, fp5, acc, es, env5, ((l2.trans l3).trans l4).trans l5, s6, b6, ((l3.trans l4).trans l5).dnAll da, run⟩
                    | true =>
                      rw [if_pos rfl]
                      have run : Out.andThen (mk env5) (fun y => mv >>= fun z => (match keyTop y with
                        | some k => if acc.length < sizeLine then fun env => dcM vs g t mk mv (xs.drop (i + 1)) (putN acc k z) env else fun _ => none
                        | none => fun _ => none)) = some (.ok racc renv) := run
                      refine ⟨join C.F (one D (.ext (phN D es))), P5, env5, fp5, s5, ?_⟩
                      cases ee : mk env5 with
                      | none => rw [ee] at run; cases run
                      | some o =>
                        rw [ee] at run
                        cases o with
                        | exc y e => cases run
                        | ok y env6 =>
                          have run : Out.andThen (mv env6) (fun z => (match keyTop y with
                            | some k => if acc.length < sizeLine then fun env => dcM vs g t mk mv (xs.drop (i + 1)) (putN acc k z) env else fun _ => none
                            | none => fun _ => none)) = some (.ok racc renv) := run
                          intro P6 fp6 H6 v6 l6 s6 r6
                          refine ⟨join C.F (one D (.ext (phN D es))), P6, env6, fp6, s6, ?_⟩
                          cases e7 : mv env6 with
                          | none => rw [e7] at run; cases run
                          | some o =>
                            rw [e7] at run
                            cases o with
                            | exc y e => cases run
                            | ok z env7 =>
                              have run : (match keyTop y with
                                | some k => if acc.length < sizeLine then fun env => dcM vs g t mk mv (xs.drop (i + 1)) (putN acc k z) env else fun _ => none
                                | none => fun _ => none) env7 = some (.ok racc renv) := run
                              cases ek : keyTop y with
                              | none => rw [ek] at run; cases run
                              | some k =>
                                rw [ek] at run
                                have run : (if acc.length < sizeLine then fun env => dcM vs g t mk mv (xs.drop (i + 1)) (putN acc k z) env else fun _ => none) env7 = some (.ok racc renv) := run
                                by_cases hz : acc.length < sizeLine
                                · rw [if_pos hz] at run
                                  have run7 := run
                                  clear run
                                  intro P7 fp7 H7 v7 l7 s7 r7
                                  obtain ⟨rfl, kt⟩ := keyTop_some ek
                                  obtain ⟨q, rfl⟩ := key_ref kt r6
                                  have s8 := s7.unhold.wipes hk
                                  rw [w4, ww] at s8
                                  have b7 := s7.besides bs2
                                  obtain ⟨hD7, hP7, hF7, hf7⟩ := b7.of1
                                  have dn := ((((l3.trans l4).trans l5).trans l6).trans l7).dnAll da
                                  refine ⟨es, k, q, P7, rfl, hD7, dn.keys, s7.le, l7.dp r6, kt, by rw [da.length]; exact hz, fun r rr => ?_⟩
                                  exact ⟨P7, fp7, putN acc k z, storedH es k q r, env7, ((((l2.trans l3).trans l4).trans l5).trans l6).trans l7, s8.upd hD7 trivial hP7 hF7 hf7, Beside.mk1 upd_same trivial hP7 hF7 hf7, dn.put kt (l7.dp r6) rr r7, run7⟩
                                · rw [if_neg hz] at run
                                  cases run
            · have e : i = xs.length := by omega
              subst e
              refine .inl ⟨w1 (Nat.le_refl _), ?_⟩
              rw [List.drop_length] at run
              have run : (some (.ok acc en) : Option (Out (List (NestedKey × PyData)))) = some (.ok racc renv) := run
              cases run
              obtain ⟨hD2, hP2, hF2, hf2⟩ := bs2.of1
              have s3 := st2.backs s1 l2 hfl
              rw [backE_wipe fun w hw => hw] at s3
              refine h1 P2 _ H2 (.ref D) l2 s3 ⟨[D], .ext (.dn hD2 da), ⟨fun j b hb hm => ?_, fun b hm => ?_⟩⟩
              · have e := List.mem_singleton.mp hm
                subst e
                by_cases hj : j ∈ vs
                · rw [if_pos hj] at hb; cases hb
                · rw [if_neg hj] at hb
                  exact hf2 j hb
              · rw [List.mem_singleton.mp hm]
                exact ⟨hP2, hF2⟩
      · rw [if_neg hfl] at h
        exact h.elim
theorem sE_dc {scope : Scope} {own : List (Str × Nat)} {tg iter kx vx : Expr} {ifs : List Expr} {mi : M (List PyData)} {g : PyData → M Unit} {t : M Bool} {mk mv : M PyData} (hu : X.A.units + 200 < cLine) (hc : X.calm = true) (hN : X.N.Nodup) (hi : PI X tg iter (liftI C W mi)) (ok : BlkOk X.N X.env.scope scope own) (r : BlkD X C scope (own.map (·.2)) tg ifs kx vx g t mk mv)
    (h0 : GOk g) (hk : ∀ i ∈ own.map (·.2), C.kp i = none) (hs : ∀ x, foldedSetIterable iter X.env x = pure x) : PE X (.DictComp kx vx [⟨tg, iter, ifs, 0⟩] scope pos) (liftE C W (mDComp (own.map (·.2)) mi g t mk mv)) :=
  PE.imp (pe_dcN hu hc hN hi ok (fun s H c cl fp => PG.exF (r.tg s H c cl fp)) (fun s H c cl fp => PTs.exF (r.ifs s H c cl fp)) (fun s H c cl fp => PE.exF (r.kx s H c cl fp)) (fun s H c cl fp => PE.exF (r.vx s H c cl fp)) hs) fun σ H Q q => dcR (scope := scope) (tg := tg) (iter := iter) (kx := kx) (vx := vx) (ifs := ifs) h0 hk q
/-! ### [{} for x in iter] -/
def mLddNew (vs : List Nat) (mi : M (List PyData)) : M OV := mi >>= fun xs => fun env1 => if vs.all (flatAt env1) && decide (xs.length < sizeLine) then some (.ok (.ext (.ldd (xs.map fun _ => []))) env1) else none
theorem LddAll.snoc {P H : Hp} {a : Addr} (h : H a = some (.dK [])) : ∀ {us : List V} {ds : List (List (Int × PyData))} {as : List Addr}, LddAll P H us ds as → LddAll P H (us ++ [.ref a]) (ds ++ [[]]) (as ++ [a])
  | _, _, _, .nil => .cons h .nil .nil
  | _, _, _, .cons h1 d t => .cons h1 d (t.snoc h)
theorem Own.of_ldd {ct : CT} {P H : Hp} {ds : List (List (Int × PyData))} {v : V} {f : List Addr} (o : Own ct P H (.ext (.ldd ds)) v f) : ∃ a us as, v = .ref a ∧ f = a :: as ∧ H a = some (.lst us) ∧ LddAll P H us ds as ∧ (a :: as).Nodup := by
  cases o with
  | ext o => cases o with
    | ldd h t n => exact ⟨_, _, _, rfl, rfl, h, t, n⟩
end
end TL
set_option Elab.async false
set_option linter.all false
set_option maxRecDepth 100000
set_option maxHeartbeats 2000000
namespace TL
open PySem PySem.Spec PyProof.Rows L2
/-! ### instances: calls of methods, making -/
section
variable {X : Cx} {CX : CXT} {k : Nat} {f cl : Addr} {fd : FuncData} {ps : List Str} {sp : Sp} {E : L2.St → XK} {m x : Str} {p pos apos : Pos} {o e : Expr} {es : List Expr} {ta : TE} {t : TA}
def tMethSD (cl : Addr) (m : Str) (sp : Sp) (E : L2.St → XK) (ta : TE) (t : TA) : TE := fun σ H Q => ta σ H fun x H1 => ∃ a dx fs, x = .ref a ∧ H1 a = some (.ins cl dx fs) ∧ fs.lookup m = none ∧ t σ H1 fun vs H2 => sp (x :: vs) H2 Q (E σ)
theorem pe_methSD {pl : Sem Bool} (he : PE X o ta) (c : Cls X.K cl) (hm : Meth X.K cl m f) (F : FnOk X.prog X.w X.K X.mg X.base CX k f fd ps sp) (hr : Room k X.A) (hb : Binds X.K fd ps []) (hx : ∀ σ, PassesAt CX X σ (E σ)) (ha : PA X (e :: es) t)
    (hst : starEach (e :: es) X.env = (false, eval e X.env) :: starEach es X.env) (hpl : (backTo pos (starEach es X.env)).any (·.1) = false)
    (ht : eval (.Call (.Attribute o m apos) (e :: es) [] pos) X.env = (do
      let ov ← eval o X.env
      standAt apos.atName
      let (f, first) ← holding [ov] (getMethod ov m pl)
      callWith pos f first (backTo pos (starEach (e :: es) X.env)) (backToKw pos (keywordEach [] X.env)))) :
    PE X (.Call (.Attribute o m apos) (e :: es) [] pos) (tMethSD cl m sp E ta t) := by
  refine ⟨fun pins s σ H Q I h => ?_⟩
  refine PySem.W.methodCall_KW (pl := pl) (thn (he.run pins s σ H _ I h) fun u s1 ⟨x, H1, I1, rx, a, dx, fs, ex, ea, l, q⟩ => ?_) ht
  subst ex
  obtain rfl : u = Value.ref a := rx
  refine getmeth_ok I1 ea c hm l ?_
  refine PySem.W.callWith_K (first := [.ref a]) (h₀ := X.base) I.ok.mod.kin hm.kp (thn (ha.run pos pins s1 σ H1 _ I1 q) fun us s2 ⟨vs, H2, I2, r, q2⟩ => ⟨I2.kIn, ?_⟩) hst hpl
  exact run_fnSD (us := .ref a :: us) (vs := .ref a :: vs) (dvs := []) (ds := []) (E := E) F hr hb .nil (hx σ) I2 (.cons rfl r) (by rw [List.append_nil]; exact q2)
theorem pe_meth0SD {pl : Sem Bool} (he : PE X o ta) (c : Cls X.K cl) (hm : Meth X.K cl m f) (F : FnOk X.prog X.w X.K X.mg X.base CX k f fd ps sp) (hr : Room k X.A) (hb : Binds X.K fd ps []) (hx : ∀ σ, PassesAt CX X σ (E σ))
    (ht : eval (.Call (.Attribute o m apos) [] [] pos) X.env = (do
      let ov ← eval o X.env
      standAt apos.atName
      let (f, first) ← holding [ov] (getMethod ov m pl)
      callWith pos f first (backTo pos (starEach [] X.env)) (backToKw pos (keywordEach [] X.env)))) :
    PE X (.Call (.Attribute o m apos) [] [] pos) (tMethSD cl m sp E ta tNil) := by
  refine ⟨fun pins s σ H Q I h => ?_⟩
  refine PySem.W.methodCall_KW (pl := pl) (thn (he.run pins s σ H _ I h) fun u s1 ⟨x, H1, I1, rx, a, dx, fs, ex, ea, l, q⟩ => ?_) ht
  subst ex
  obtain rfl : u = Value.ref a := rx
  refine getmeth_ok I1 ea c hm l ?_
  exact PySem.W.callWith_K0 (first := [.ref a]) I1.kIn hm.kp (run_fnSD (us := [.ref a]) (vs := [.ref a]) (dvs := []) (ds := []) (E := E) F hr hb .nil (hx σ) I1 (.cons rfl .nil) q)
def tMakeSD (cl : Addr) (sp : Sp) (E : L2.St → XK) (t : TA) : TE := fun σ H Q => t σ H fun vs H1 => ∀ x dx, H1 x = none → H1 dx = none → dx ≠ x →
  sp (.ref x :: vs) (upd (upd H1 dx (.own x)) x (.ins cl dx [])) (fun v H2 => v = .non ∧ Q (.ref x) H2) (E σ)
theorem run_makeSD {pins : List (Addr × Obj)} {σ : L2.St} {H : Hp} {s : Shared} {Q : VK} {us : List Value} {vs : List V} (M : Mk X.K cl f) (F : FnOk X.prog X.w X.K X.mg X.base CX k f fd ps sp) (hr : Room (k + 1) X.A) (hb : Binds X.K fd ps [])
    (hx : PassesAt CX X σ (E σ)) (I : Inv X pins σ H s) (r : Vals vs us)
    (h : ∀ x dx, H x = none → H dx = none → dx ≠ x → sp (.ref x :: vs) (upd (upd H dx (.own x)) x (.ins cl dx [])) (fun v H2 => v = .non ∧ Q (.ref x) H2) (E σ)) :
    wpAny (model X.prog X.w) X.A (call (.ref cl) us) (EP X pins σ Q) X.xe s := by
  have hq := h (s.heap.objs.size + 1) s.heap.objs.size (I.hok.fresh (Nat.le_succ _)) (I.hok.fresh (Nat.le_refl _)) (Nat.ne_of_lt (Nat.lt_succ_self _))
  have I2 := Inv.made (C := cl) I
  have r2 : Vals (V.ref (s.heap.objs.size + 1) :: vs) (Value.ref (s.heap.objs.size + 1) :: us) := .cons rfl r
  have hl : (Value.ref (s.heap.objs.size + 1) :: us ++ []).length = ps.length := by
    have e := r2.length
    rw [F.len _ _ _ _ hq] at e
    rw [List.append_nil]
    exact e.symm
  have hbb := hb _ (Value.ref (s.heap.objs.size + 1) :: us) I2.kIn hl
  rw [List.append_nil] at hbb
  refine wpAny_call (make_map (f := f) I.kIn M.makes M.init (beq_iff_eq.mp M.fn) (codeAny_mono (F.run _ X.stack _ _ ⟨Value.ref (s.heap.objs.size + 1) :: us, []⟩ (Value.ref (s.heap.objs.size + 1) :: us) _ _ (E σ) (hr.make cl us [])
    (I2.env0.make cl us []) hbb r2 hq) fun r s' hq' => ?_))
  cases r with
  | error e => exact hx pins _ _ e s' I2 hq'
  | ok fl =>
    cases fl with
    | ret u =>
      obtain ⟨v, H', I3, rv, ev, q3⟩ := I2.after hq'
      subst ev
      exact ⟨rv, ⟨V.ref (s.heap.objs.size + 1), H', I3, rfl, q3⟩⟩
    | next => exact False.elim hq'
    | brk => exact False.elim hq'
    | cont => exact False.elim hq'
theorem pe_makeSD (M : Mk X.K cl f) (F : FnOk X.prog X.w X.K X.mg X.base CX k f fd ps sp) (hr : Room (k + 1) X.A) (hg : Gl X x) (hm : X.mg x = some (.ref cl)) (hb : Binds X.K fd ps []) (hx : ∀ σ, PassesAt CX X σ (E σ))
    (ha : PA X (e :: es) t) (hdb : (x == ("__debug__" : Str)) = false) (he : starEach (e :: es) X.env = (false, eval e X.env) :: starEach es X.env) (hpl : (backTo pos (starEach es X.env)).any (·.1) = false) :
    PE X (.Call (.Name x p) (e :: es) [] pos) (tMakeSD cl sp E t) := by
  refine ⟨fun pins s σ H Q I h => ?_⟩
  refine wpAny_Call_Name_kw (ld_glob I hg hm ?_ hdb)
  refine PySem.W.callWith_K (h₀ := X.base) I.ok.mod.kin M.kp (thn (ha.run pos pins s σ H _ I h) fun us s1 ⟨vs, H1, I1, r, q⟩ => ⟨I1.kIn, ?_⟩) he hpl
  exact run_makeSD M F hr hb (hx σ) I1 r q
end
/-! ### a frame with one more slot -/
def consF {α : Type} (a : α) (f : Nat → α) : Nat → α
  | 0 => a
  | i + 1 => f i
section
variable {C : Cc} {P P' : Hp} {env : Env} {fp : Nat → List Addr} {σ : L2.St} {H H' : Hp} {ov : OV} {v : V} {ft : List Addr}
theorem StOk.cons (s : StOk C P env fp σ H) (o : Own C.exc P H ov v ft) (t : Tmp C P fp ft) : StOk { C with kp := consF (some v) C.kp } P (some ov :: env) (consF ft fp) (some v :: σ) H := by
  refine ⟨s.phi, s.frm, fun i w q => ?_, fun i j a h1 h2 => ?_, fun i a h => ?_, fun i w q => ?_, s.tabs, by rw [List.length_cons, List.length_cons, s.len]⟩
  · cases i with
    | zero =>
      have q : some (some ov) = some (some w) := q
      cases q
      exact ⟨v, rfl, o⟩
    | succ i => exact s.own i w q
  · cases i with
    | zero =>
      cases j with
      | zero => rfl
      | succ j => exact absurd h1 (t.dis j a h2)
    | succ i =>
      cases j with
      | zero => exact absurd h2 (t.dis i a h1)
      | succ j => exact congrArg Nat.succ (s.dis i j a h1 h2)
  · cases i with
    | zero => exact ⟨(t.fre a h).1, (t.fre a h).2, o.there a h⟩
    | succ i => exact s.fre i a h
  · cases i with
    | zero =>
      have q : some v = some w := q
      cases q
      rfl
    | succ i => exact s.keep i w q
theorem StOk.uncons {C' : Cc} {oo : Option OV} {x : Option V} (s : StOk C' P (oo :: env) fp (x :: σ) H) (hF : C'.F = C.F) (ht : C'.tabs = C.tabs) (he : C'.exc = C.exc) (hk : ∀ i, C'.kp (i + 1) = C.kp i) : StOk C P env (fun i => fp (i + 1)) σ H ∧ Tmp C P (fun i => fp (i + 1)) (fp 0) := by
  refine ⟨⟨s.phi, fun b w q => s.frm b w (by rw [hF]; exact q), fun i w q => ?_, fun i j a h1 h2 => Nat.succ.inj (s.dis (i + 1) (j + 1) a h1 h2), fun i a h => ?_, fun i w q => ?_, fun p hp => s.tabs p (by rw [ht]; exact hp), ?_⟩, fun i a h1 h2 => ?_, fun a h => ?_⟩
  · obtain ⟨v, h1, o⟩ := s.own (i + 1) w q
    exact ⟨v, h1, by rw [← he]; exact o⟩
  · obtain ⟨h1, h2, h3⟩ := s.fre (i + 1) a h
    exact ⟨h1, by rw [← hF]; exact h2, h3⟩
  · exact s.keep (i + 1) w (by rw [hk]; exact q)
  · exact Nat.succ.inj s.len
  · cases s.dis (i + 1) 0 a h1 h2
  · obtain ⟨h1, h2, _⟩ := s.fre 0 a h
    exact ⟨h1, by rw [← hF]; exact h2⟩
end
/-! ### fields -/
def putFV (f : Str) (x : FV) : List (Str × FV) → List (Str × FV)
  | [] => [(f, x)]
  | (g, y) :: r => if g = f then (g, x) :: r else (g, y) :: putFV f x r
def isFD : Option FV → Bool
  | none => true
  | some (.d _) => true
  | _ => false
section
variable {P H : Hp}
theorem FldAll.look (f : Str) : ∀ {vs : List (Str × V)} {fs : List (Str × FV)} {as : List Addr}, FldAll P H vs fs as → match fs.lookup f with
    | none => vs.lookup f = none
    | some (.d x) => ∃ v, vs.lookup f = some v ∧ Dd P v x
    | some (.l xs) => ∃ a us, vs.lookup f = some (.ref a) ∧ a ∈ as ∧ H a = some (.lst us) ∧ DdAll P us xs
  | _, _, _, .nil => rfl
  | _, _, _, FldAll.d (n := n) h t => by
    have ih := t.look f
    by_cases e : f = n
    · subst e
      simp only [List.lookup, beq_self_eq_true]
      exact ⟨_, rfl, h⟩
    · have hb : (f == n) = false := beq_eq_false_iff_ne.mpr e
      simp only [List.lookup, hb]
      exact ih
  | _, _, _, .l (n := n) h e t => by
    have ih := t.look f
    by_cases q : f = n
    · subst q
      simp only [List.lookup, beq_self_eq_true]
      exact ⟨_, _, rfl, List.mem_cons_self, h, e⟩
    · have hb : (f == n) = false := beq_eq_false_iff_ne.mpr q
      simp only [List.lookup, hb]
      revert ih
      split <;> intro ih
      · exact ih
      · exact ih
      · obtain ⟨a, us, h1, h2, h3⟩ := ih
        exact ⟨a, us, h1, List.mem_cons_of_mem _ h2, h3⟩
theorem FldAll.length : ∀ {vs : List (Str × V)} {fs : List (Str × FV)} {as : List Addr}, FldAll P H vs fs as → vs.length = fs.length
  | _, _, _, .nil => rfl
  | _, _, _, FldAll.d _ t => congrArg Nat.succ t.length
  | _, _, _, .l _ _ t => congrArg Nat.succ t.length
theorem FldAll.put {f : Str} {v : V} {x : PyData} (d : Dd P v x) : ∀ {vs : List (Str × V)} {fs : List (Str × FV)} {as : List Addr}, FldAll P H vs fs as → isFD (fs.lookup f) = true → FldAll P H (putF f v vs) (putFV f (.d x) fs) as
  | _, _, _, .nil, _ => .d d .nil
  | _, _, _, FldAll.d (n := n) h t, k => by
    unfold putF putFV
    by_cases e : n = f
    · rw [if_pos e, if_pos e]
      exact .d d t
    · rw [if_neg e, if_neg e]
      have hb : (f == n) = false := beq_eq_false_iff_ne.mpr (Ne.symm e)
      simp only [List.lookup, hb] at k
      exact .d h (t.put d k)
  | _, _, _, .l (n := n) h e2 t, k => by
    unfold putF putFV
    by_cases e : n = f
    · subst e
      simp only [List.lookup, beq_self_eq_true] at k
      cases k
    · rw [if_neg e, if_neg e]
      have hb : (f == n) = false := beq_eq_false_iff_ne.mpr (Ne.symm e)
      simp only [List.lookup, hb] at k
      exact .l h e2 (t.put d k)
theorem Own.of_ins {ct : CT} {c : Str} {fs : List (Str × FV)} {v : V} {ft : List Addr} (h : Own ct P H (.ext (.ins c fs)) v ft) :
    ∃ cl a dx vs as, v = .ref a ∧ ft = a :: dx :: as ∧ ct c = some cl ∧ H a = some (.ins cl dx vs) ∧ H dx = some (.own a) ∧ FldAll P H vs fs as ∧ (a :: dx :: as).Nodup := by
  cases h with
  | ext h =>
    cases h with
    | ins h1 h2 h3 h4 h5 => exact ⟨_, _, _, _, _, rfl, rfl, h1, h2, h3, h4, h5⟩
end
end TL
set_option Elab.async false
set_option linter.all false
set_option maxRecDepth 100000
set_option maxHeartbeats 2000000
namespace TL
open PySem PySem.Spec PyProof.Rows L2 GenW GxR
/-! ### instances: the forms -/
def fldOf (c f : Str) : OV → Option PyData
  | .ext (.ins c' fs) => if c' = c then (match fs.lookup f with
    | some (.d x) => some x
    | _ => none) else none
  | _ => none
/-- x.f, data -/
def mFld (i : Nat) (c f : Str) : M PyData := fun env => match env[i]? with
  | some (some ov) => (match fldOf c f ov with
    | some x => some (.ok x env)
    | none => none)
  | _ => none
/-- what of the text a field needs -/
def FldOk (K : PySem.W.Frag) (ex : CT) (c f : Str) : Prop := ∀ cl, ex c = some cl → Cls K cl ∧ NoAttr K cl f
def putIns (c f : Str) (x : PyData) : OV → Option OV
  | .ext (.ins c' fs) => if c' = c ∧ isFD (fs.lookup f) = true ∧ fs.length < 1000 then some (.ext (.ins c (putFV f (.d x) fs))) else none
  | _ => none
def mFldSet (i : Nat) (c f : Str) (m : M PyData) : M Fl := m >>= fun x => mMutS i fun ov => (putIns c f x ov).map fun o => (o, ())
def isIns (c m : Str) : OV → Bool
  | .ext (.ins c' fs) => decide (c' = c) && (fs.lookup m).isNone
  | _ => false
theorem isIns_some {c m : Str} {ov : OV} (h : isIns c m ov = true) : ∃ fs, ov = .ext (.ins c fs) ∧ fs.lookup m = none := by
  unfold isIns at h
  split at h
  · rename_i c' fs
    obtain ⟨h1, h2⟩ := Bool.and_eq_true_iff.mp h
    have := of_decide_eq_true h1
    subst this
    exact ⟨fs, rfl, Option.isNone_iff_eq_none.mp h2⟩
  · cases h
theorem fldOf_some {c f : Str} {ov : OV} {x : PyData} (h : fldOf c f ov = some x) : ∃ fs, ov = .ext (.ins c fs) ∧ fs.lookup f = some (.d x) := by
  unfold fldOf at h
  split at h
  · rename_i c' fs
    split at h
    · rename_i e
      subst e
      split at h
      · rename_i y e2
        cases h
        exact ⟨fs, rfl, e2⟩
      · cases h
    · cases h
  · cases h
theorem putIns_some {c f : Str} {x : PyData} {ov ov' : OV} (h : putIns c f x ov = some ov') : ∃ fs, ov = .ext (.ins c fs) ∧ isFD (fs.lookup f) = true ∧ fs.length < 1000 ∧ ov' = .ext (.ins c (putFV f (.d x) fs)) := by
  unfold putIns at h
  split at h
  · rename_i c' fs
    split at h
    · rename_i e
      obtain ⟨rfl, e2, e3⟩ := e
      cases h
      exact ⟨fs, rfl, e2, e3, rfl⟩
    · cases h
  · cases h
/-- the method m of the class c -/
structure MtS (P : Program) (w : World) (K : PySem.W.Frag) (mg : Str → Option Value) (base : Heap) (T : List Addr) (ex : Str → Option Addr) (k : Nat) (c m : Str) (np : Nat) (mf : M OV) : Prop where
  ok : ∃ (cl f : Addr) (fd : FuncData) (ps : List Str), ps.length = np ∧ ex c = some cl ∧ Cls K cl ∧ Meth K cl m f ∧ Binds K fd ps [] ∧ FnOk P w K mg base (L2.CX P w) k f fd ps (fnSp np T ex mf)
theorem MtS.mono {P : Program} {w : World} {K : PySem.W.Frag} {mg : Str → Option Value} {base : Heap} {T : List Addr} {ex : Str → Option Addr} {j k : Nat} {c m : Str} {np : Nat} {mf : M OV} (F : MtS P w K mg base T ex j c m np mf) (h : j ≤ k) : MtS P w K mg base T ex k c m np mf := by
  obtain ⟨cl, f, fd, ps, h1, h2, h3, h4, h5, h6⟩ := F.ok
  exact ⟨cl, f, fd, ps, h1, h2, h3, h4, h5, h6.mono h⟩
/-- the class c can be made: its __init__ is mf -/
structure MkS (P : Program) (w : World) (K : PySem.W.Frag) (mg : Str → Option Value) (base : Heap) (T : List Addr) (ex : Str → Option Addr) (k : Nat) (c : Str) (np : Nat) (mf : M OV) : Prop where
  ok : ∃ (cl f : Addr) (fd : FuncData) (ps : List Str), ps.length = np ∧ ex c = some cl ∧ mg c = some (.ref cl) ∧ Mk K cl f ∧ Binds K fd ps [] ∧ FnOk P w K mg base (L2.CX P w) k f fd ps (fnSp np T ex mf)
theorem MkS.mono {P : Program} {w : World} {K : PySem.W.Frag} {mg : Str → Option Value} {base : Heap} {T : List Addr} {ex : Str → Option Addr} {j k : Nat} {c : Str} {np : Nat} {mf : M OV} (F : MkS P w K mg base T ex j c np mf) (h : j ≤ k) : MkS P w K mg base T ex k c np mf := by
  obtain ⟨cl, f, fd, ps, h1, h2, h3, h4, h5, h6⟩ := F.ok
  exact ⟨cl, f, fd, ps, h1, h2, h3, h4, h5, h6.mono h⟩
def mMeth (i : Nat) (c m : Str) (as : List Ag) (mf : M OV) : M OV := mHas i (isIns c m) >>= fun _ => mCall (.s i :: as) mf
def mMeth0 (i : Nat) (c m : Str) (mf : M OV) : M OV := mHas i (isIns c m) >>= fun _ => mCall [.s i] mf
/-- c(..) -/
def mMake (c : Str) (ma : M (List PyData)) (mf : M OV) : M OV := ma >>= fun xs => fun env => match mf (some (.ext (.ins c [])) :: xs.map fun x => some (.d x)) with
  | some (.ok (.d .none) (some r :: _)) => some (.ok r env)
  | some (.exc x _) => some (.exc x env)
  | _ => none
/-- of one just made: its method -/
def mMethT (mm : M OV) (c m : Str) (mf : M OV) : M OV := mm >>= fun ov => fun env => if isIns c m ov then (match mf [some ov] with
  | some (.ok r _) => some (.ok r env)
  | some (.exc x _) => some (.exc x env)
  | none => none) else none
section
variable {X : Cx} {C : Cc} {W : WX} {pos : Pos}
theorem sE_fld {i : Nat} {x c f : Str} {p : Pos} (n : NameOk X i x) (hf : FldOk X.K C.exc c f) (hb : attributeBase (.Name x p) f X.env (eval (.Name x p) X.env) = eval (.Name x p) X.env) : PE X (.Attribute (.Name x p) f pos) (liftD C W (mFld i c f)) :=
  PE.imp (pe_fld n.pe hb) fun σ H Q q => by
    obtain ⟨P, env, fp, s, h⟩ := q
    unfold mFld at h
    split at h
    · rename_i ov e
      split at h
      · rename_i y e2
        obtain ⟨fs, rfl, l⟩ := fldOf_some e2
        obtain ⟨v, f0, o⟩ := s.own i _ e
        obtain ⟨cl, a, dx, vs, as, rfl, _, h1, h2, h3, h4, _⟩ := o.of_ins
        have hl := h4.look f
        rw [l] at hl
        obtain ⟨v, hv, d⟩ := hl
        obtain ⟨k1, k2⟩ := hf cl h1
        exact ⟨_, f0, a, cl, dx, vs, v, rfl, h2, k1, k2, hv, h P fp H v (Le.refl _) s d⟩
      · exact h.elim
    · exact h.elim
theorem sS_fset {i : Nat} {x c f : Str} {p p' : Pos} {value : Expr} {m : M PyData} (n : NameOk X i x) (hf : FldOk X.K C.exc c f) (hv : PE X value (liftD C W m)) (hs : swapsWith value (some (.Attribute (.Name x p) f p')) pos.line X.env = pure false) :
    PS X (.Assign [.Attribute (.Name x p) f p'] value pos) (liftS C W (mFldSet i c f m)) := PS.imp (ps_fld n.pe hv hs) fun D σ H q => by
  refine liftS.seq q fun y env1 P1 fp1 H1 v s1 r1 h1 => ?_
  obtain ⟨ov, ov', _, e, e2, h1⟩ := mutS_at h1
  obtain ⟨o', e5, e3⟩ := Option.map_eq_some_iff.mp e2
  cases e3
  obtain ⟨fs, rfl, l1, l2, rfl⟩ := putIns_some e5
  obtain ⟨v0, f0, o⟩ := s1.own i _ e
  obtain ⟨cl, a, dx, vs, as, rfl, hfp, g1, g2, g3, g4, g5⟩ := o.of_ins
  obtain ⟨k1, k2⟩ := hf cl g1
  refine ⟨_, f0, a, cl, dx, vs, rfl, g2, k1, k2, by rw [g4.length]; exact l2, ?_⟩
  have hmem : a ∈ fp1 i := by rw [hfp]; exact List.mem_cons_self
  obtain ⟨q1, q2, q3⟩ := s1.fre i a hmem
  have sN : StOk C P1 (env1.set i (some (.ext (.ins c (putFV f (.d y) fs))))) fp1 σ (upd H1 a (.ins cl dx (putF f v vs))) := by
    refine ⟨fun b w q => ?_, fun b w q => ?_, fun j w q => ?_, s1.dis, fun j b hb => ?_, s1.keep, fun t ht => ?_, by rw [List.length_set]; exact s1.len⟩
    · rw [upd_ne (fun z => by rw [z, q1] at q; cases q)]
      exact s1.phi b w q
    · rw [upd_ne (fun z => by rw [z, q2] at q; cases q)]
      exact s1.frm b w q
    · by_cases hj : j = i
      · subst hj
        have hl : j < env1.length := by
          by_cases hl : j < env1.length
          · exact hl
          · rw [List.getElem?_eq_none (by omega)] at e; cases e
        rw [List.getElem?_set_self hl] at q
        cases q
        refine ⟨_, f0, ?_⟩
        rw [hfp]
        refine .ext (.ins g1 upd_same ?_ ?_ g5)
        · rw [upd_ne (fun z => by rw [z] at g5; exact (List.nodup_cons.mp g5).1 List.mem_cons_self)]
          exact g3
        · refine FldAll.put r1 (g4.frame (Le.refl _) fun b hb => ?_) l1
          rw [upd_ne (fun z => by rw [z] at hb; exact (List.nodup_cons.mp g5).1 (List.mem_cons_of_mem _ hb))]
      · rw [List.getElem?_set_ne (Ne.symm hj)] at q
        obtain ⟨u, h1, o1⟩ := s1.own j w q
        refine ⟨u, h1, o1.frame (Le.refl _) fun b hb => ?_⟩
        rw [upd_ne (fun z => hj (s1.dis j i b hb (by rw [z]; exact hmem)))]
    · obtain ⟨z1, z2, u, z3, z4⟩ := s1.fre j b hb
      refine ⟨z1, z2, ?_⟩
      by_cases hba : b = a
      · rw [hba, upd_same]
        exact ⟨_, rfl, trivial⟩
      · rw [upd_ne hba]
        exact ⟨u, z3, z4⟩
    · obtain ⟨ps, q4, q5⟩ := s1.tabs t ht
      refine ⟨ps, ?_, q5⟩
      rw [upd_ne (fun z => by rw [z, g2] at q4; cases q4)]
      exact q4
  exact h1 P1 fp1 σ _ (Le.refl _) sN
/-- o.m(..), the object in a slot -/
theorem sE_meth {i k np : Nat} {x c m : Str} {p apos : Pos} {e : Expr} {es : List Expr} {as : List Ag} {mf : M OV} {pl : Sem Bool} (F : MtS X.prog X.w X.K X.mg X.base C.tabs C.exc k c m np mf) (hr : Room k X.A) (n : NameOk X i x) (tk : Takes X W) (hnd : agNd (.s i :: as)) (hl : as.length + 1 = np)
    (ha : PA X (e :: es) (liftAg C W as)) (ns : NS e) (hpl : (backTo pos (starEach es X.env)).any (·.1) = false)
    (ht : eval (.Call (.Attribute (.Name x p) m apos) (e :: es) [] pos) X.env = (do
      let ov ← eval (.Name x p) X.env
      standAt apos.atName
      let (f, first) ← holding [ov] (getMethod ov m pl)
      callWith pos f first (backTo pos (starEach (e :: es) X.env)) (backToKw pos (keywordEach [] X.env)))) : PE X (.Call (.Attribute (.Name x p) m apos) (e :: es) [] pos) (liftE C W (mMeth i c m as mf)) := by
  obtain ⟨cl, f, fd, ps, h1, h2, h3, h4, h5, h6⟩ := F.ok
  refine PE.imp (pe_methSD (E := fun σ cls d H' => W cls d σ H') n.pe h3 h4 h6 hr h5 (fun σ pins H s e s' I c => tk e s' (XE.of_call I (fun cls d H' h => h) c)) ha (ns es _) hpl ht) fun σ H Q q => ?_
  obtain ⟨v0, ov, P0, env0, fp0, f0, e0, hp, o0, s0, h⟩ := slot_start q
  obtain ⟨fs, rfl, l⟩ := isIns_some hp
  obtain ⟨cl', a, dx, vs, bs, rfl, _, g1, g2, g3, g4, _⟩ := o0.of_ins
  rw [h2] at g1
  cases g1
  have hl0 := g4.look m
  rw [l] at hl0
  refine ⟨_, f0, a, dx, vs, rfl, g2, hl0, ?_⟩
  have q2 : liftG C W (rOV C) (mCall (.s i :: as) mf) σ H Q := ⟨P0, env0, fp0, s0, h⟩
  have q3 : liftG C W (fun P _ _ xs vs => AgRel σ P (.s i :: as) xs vs) (agsM (.s i :: as)) σ H (fun vs H1 => ∃ r, vs = .ref a :: r ∧ fnSp np C.tabs C.exc mf vs H1 Q fun cls d H' => W cls d σ H') := by
    refine liftG.seq q2 fun xs env1 P1 fp1 H1 vs s1 r1 h1' => ?_
    have q1 : postG C W (rOV C) P1 Q σ (match mf (argE env1 (.s i :: as) xs) with
      | none => none
      | some (.ok r e) => some (.ok r (backA env1 (.s i :: as) e))
      | some (.exc x e) => some (.exc x (backA env1 (.s i :: as) e))) := h1'
    have hv : ∃ r, vs = .ref a :: r := by
      cases r1 with
      | s h t =>
        rw [f0] at h
        cases h
        exact ⟨_, rfl⟩
    obtain ⟨r, hr⟩ := hv
    refine ⟨r, hr, ?_⟩
    refine ⟨by rw [← (r1.len (env := env1)).2, List.length_cons]; exact hl, callC C fp1 (.s i :: as) H1 vs, P1, argE env1 (.s i :: as) xs, fpA fp1 (.s i :: as), rfl, rfl, fun i => rfl, s1.callIn r1 hnd, ?_⟩
    cases em : mf (argE env1 (.s i :: as) xs) with
    | none => rw [em] at q1; exact q1.elim
    | some o =>
      rw [em] at q1
      cases o with
      | ok r e2 => exact fun P' fp' H' v l' s' r' => q1 P' _ H' v l' (s1.callOut r1 hnd l' s') (rOV.callOut s1 s' r')
      | exc y e2 => exact fun P' fp' H' cls d l' s' r' => q1 P' _ H' cls d l' (s1.callOut r1 hnd l' s') r'
  obtain ⟨Pa, enva, fpa, sa, ha'⟩ := q3
  refine ⟨Pa, enva, fpa, sa, ?_⟩
  have ha2 : postG C W (fun P _ _ xs vs => AgRel σ P (.s i :: as) xs vs) Pa (fun vs H1 => ∃ r, vs = .ref a :: r ∧ fnSp np C.tabs C.exc mf vs H1 Q fun cls d H' => W cls d σ H') σ (Out.andThen (mHas i isAny enva) fun _ => agsM as) := ha'
  obtain ⟨z, ez⟩ := postG_some ha'
  obtain ⟨ov2, _, _, e4⟩ := has_at ez
  rw [ez, ← e4] at ha'
  cases em : agsM as enva with
  | none => rw [em] at ha'; exact ha'.elim
  | some o =>
    rw [em] at ha'
    cases o with
    | exc y e1 => exact ha'
    | ok xs e1 =>
      intro P' fp' H' vs l' s' r'
      obtain ⟨r, e5, e6⟩ := ha' P' fp' H' (.ref a :: vs) l' s' (.s f0 r')
      exact e6
/-- o.m() -/
theorem sE_meth0 {i k : Nat} {x c m : Str} {p apos : Pos} {mf : M OV} {pl : Sem Bool} (F : MtS X.prog X.w X.K X.mg X.base C.tabs C.exc k c m 1 mf) (hr : Room k X.A) (n : NameOk X i x) (tk : Takes X W)
    (ht : eval (.Call (.Attribute (.Name x p) m apos) [] [] pos) X.env = (do
      let ov ← eval (.Name x p) X.env
      standAt apos.atName
      let (f, first) ← holding [ov] (getMethod ov m pl)
      callWith pos f first (backTo pos (starEach [] X.env)) (backToKw pos (keywordEach [] X.env)))) : PE X (.Call (.Attribute (.Name x p) m apos) [] [] pos) (liftE C W (mMeth0 i c m mf)) := by
  obtain ⟨cl, f, fd, ps, h1, h2, h3, h4, h5, h6⟩ := F.ok
  refine PE.imp (pe_meth0SD (E := fun σ cls d H' => W cls d σ H') n.pe h3 h4 h6 hr h5 (fun σ pins H s e s' I c => tk e s' (XE.of_call I (fun cls d H' h => h) c)) ht) fun σ H Q q => ?_
  obtain ⟨v0, ov, P0, env0, fp0, f0, e0, hp, o0, s0, h⟩ := slot_start q
  obtain ⟨fs, rfl, l⟩ := isIns_some hp
  obtain ⟨cl', a, dx, vs, bs, rfl, _, g1, g2, g3, g4, _⟩ := o0.of_ins
  rw [h2] at g1
  cases g1
  have hl0 := g4.look m
  rw [l] at hl0
  refine ⟨_, f0, a, dx, vs, rfl, g2, hl0, ?_⟩
  have ea : agsM [Ag.s i] env0 = some (.ok [] env0) := by
    show Out.andThen (mHas i isAny env0) _ = _
    have : mHas i isAny env0 = some (.ok () env0) := by
      unfold mHas
      rw [e0]
      rfl
    rw [this]
    rfl
  have r1 : AgRel σ P0 [Ag.s i] [] [V.ref a] := .s f0 .nil
  have hnd : agNd [Ag.s i] := ⟨rfl, trivial⟩
  have q1 : postG C W (rOV C) P0 Q σ (match mf (argE env0 [Ag.s i] []) with
    | none => none
    | some (.ok r e) => some (.ok r (backA env0 [Ag.s i] e))
    | some (.exc x e) => some (.exc x (backA env0 [Ag.s i] e))) := by
    have h := h
    unfold mCall at h
    rw [M.bind_at, ea] at h
    exact h
  refine ⟨rfl, callC C fp0 [Ag.s i] H [V.ref a], P0, argE env0 [Ag.s i] [], fpA fp0 [Ag.s i], rfl, rfl, fun i => rfl, s0.callIn r1 hnd, ?_⟩
  cases em : mf (argE env0 [Ag.s i] []) with
  | none => rw [em] at q1; exact q1.elim
  | some o =>
    rw [em] at q1
    cases o with
    | ok r e2 => exact fun P' fp' H' v l' s' r' => q1 P' _ H' v l' (s0.callOut r1 hnd l' s') (rOV.callOut s0 s' r')
    | exc y e2 => exact fun P' fp' H' cls d l' s' r' => q1 P' _ H' cls d l' (s0.callOut r1 hnd l' s') r'
/-! all arguments are data -/
def dAgs (xs : List PyData) : List Ag := xs.map fun x => .d (pure x)
theorem dAgs_rel {σ : L2.St} {P : Hp} : ∀ {xs : List PyData} {vs : List V}, DdAll P vs xs → AgRel σ P (dAgs xs) xs vs
  | _, _, .nil => .nil
  | _, _, .cons h t => .d h (dAgs_rel t)
theorem dAgs_nd : ∀ {xs : List PyData}, agNd (dAgs xs)
  | [] => trivial
  | _ :: xs => dAgs_nd (xs := xs)
theorem dAgs_env {env : Env} : ∀ {xs : List PyData}, argE env (dAgs xs) xs = xs.map fun x => some (.d x)
  | [] => rfl
  | x :: xs => by
    show some (OV.d x) :: argE env (dAgs xs) xs = _
    rw [dAgs_env]
    rfl
theorem dAgs_back {env : Env} : ∀ {xs : List PyData} {e : Env}, backA env (dAgs xs) e = env
  | [], e => by unfold backA dAgs; rfl
  | x :: xs, [] => rfl
  | x :: xs, o :: e => dAgs_back (xs := xs) (e := e)
theorem dAgs_fp {fp : Nat → List Addr} {xs : List PyData} {k : Nat} : fpA fp (dAgs xs) k = [] := by
  unfold fpA dAgs
  rw [List.getElem?_map]
  cases xs[k]? <;> rfl
theorem dAgs_pos {j : Nat} : ∀ {xs : List PyData}, posOf j (dAgs xs) = none
  | [] => rfl
  | x :: xs => by
    show (posOf j (dAgs xs)).map (· + 1) = none
    rw [dAgs_pos]
    rfl
/-- one in the hand stays apart in a call that is handed data alone -/
theorem Tmp.callIn {P : Hp} {fp : Nat → List Addr} {ft : List Addr} {H : Hp} {vs : List V} {xs : List PyData} (t : Tmp C P fp ft) : Tmp (callC C fp (dAgs xs) H vs) P (fpA fp (dAgs xs)) ft := by
  refine ⟨fun i a h => ?_, fun a h => ⟨(t.fre a h).1, ?_⟩⟩
  · rw [dAgs_fp] at h
    cases h
  · refine (join_r (t.fre a h).2).trans ?_
    cases q : restH fp (dAgs xs) H a with
    | none => rfl
    | some o =>
      obtain ⟨j, _, g2, _⟩ := restH_some q
      exact absurd h (t.dis j a g2)
/-- a callee whose first slot is what the hand holds -/
theorem call_tmp {P : Hp} {env : Env} {fp : Nat → List Addr} {σ : L2.St} {H : Hp} {Q : VK} {vs : List V} {xs : List PyData} {ov : OV} {a : V} {ft : List Addr} {mf : M OV} {np : Nat} (s : StOk C P env fp σ H) (r : DdAll P vs xs) (o : Own C.exc P H ov a ft) (t : Tmp C P fp ft) (hl : xs.length + 1 = np)
    (hx : ∀ x e, mf (some ov :: xs.map fun x => some (.d x)) = some (.exc x e) → postG C W (rOV C) P Q σ (some (.exc x env))) (hn : mf (some ov :: xs.map fun x => some (.d x)) ≠ none) {N : VK}
    (hq : ∀ y o2 e, mf (some ov :: xs.map fun x => some (.d x)) = some (.ok y (o2 :: e)) → ∀ P' fp' H' v, Le P P' → StOk C P' env fp' σ H' → rOV C P' fp' H' y v → (∀ ov2, o2 = some ov2 → rOV C P' fp' H' ov2 a) → N v H') :
    fnSp np C.tabs C.exc mf (a :: vs) H N fun cls d H' => W cls d σ H' := by
  have r1 : AgRel σ P (dAgs xs) xs vs := dAgs_rel r
  have s1 := s.callIn r1 dAgs_nd
  rw [dAgs_env] at s1
  have o1 : Own (callC C fp (dAgs xs) H vs).exc P H ov a ft := o
  have s2 := s1.cons o1 (Tmp.callIn t)
  have hlen : vs.length = xs.length := dpAll_length r
  refine ⟨by rw [List.length_cons, hlen]; exact hl, { callC C fp (dAgs xs) H vs with kp := consF (some a) (callC C fp (dAgs xs) H vs).kp }, P, _, _, rfl, rfl, fun i => ?_, s2, ?_⟩
  · cases i with
    | zero => rfl
    | succ i => rfl
  · cases em : mf (some ov :: xs.map fun x => some (.d x)) with
    | none => exact absurd em hn
    | some z =>
      cases z with
      | exc x e2 =>
        intro P' fp' H' cls d l' s' r'
        have hx' := hx x e2 em
        cases e2 with
        | nil => have := s'.len; simp at this
        | cons o2 e2 =>
          obtain ⟨s3, _⟩ := s'.uncons (C := callC C fp (dAgs xs) H vs) rfl rfl rfl fun i => rfl
          have s4 := s.callOut r1 dAgs_nd l' s3
          rw [dAgs_back] at s4
          exact hx' P' _ H' cls d l' s4 r'
      | ok y e2 =>
        intro P' fp' H' v l' s' r'
        cases e2 with
        | nil => have := s'.len; simp at this
        | cons o2 e2 =>
          obtain ⟨s3, t3⟩ := s'.uncons (C := callC C fp (dAgs xs) H vs) rfl rfl rfl fun i => rfl
          have s4 := s.callOut r1 dAgs_nd l' s3
          rw [dAgs_back] at s4
          refine hq y o2 e2 em P' _ H' v l' s4 ?_ fun ov2 e3 => ?_
          · obtain ⟨ft2, o5, t5⟩ := r'
            exact rOV.callOut s s3 ⟨ft2, o5, ⟨fun i a h => t5.dis (i + 1) a h, t5.fre⟩⟩
          · subst e3
            obtain ⟨v5, h5, o5⟩ := s'.own 0 ov2 rfl
            have h5 : some (some a) = some (some v5) := h5
            cases h5
            exact rOV.callOut s s3 ⟨_, o5, t3⟩
/-- c(..) -/
theorem sE_make {k np : Nat} {c : Str} {p : Pos} {e : Expr} {es : List Expr} {ma : M (List PyData)} {mf : M OV} (F : MkS X.prog X.w X.K X.mg X.base C.tabs C.exc k c np mf) (hr : Room (k + 1) X.A) (hg : Gl X c) (tk : Takes X W) (ha : PA X (e :: es) (liftA C W ma))
    (hl : ∀ env xs e, ma env = some (.ok xs e) → xs.length + 1 = np) (ns : NS e) (hdb : (c == ("__debug__" : Str)) = false) (hpl : (backTo pos (starEach es X.env)).any (·.1) = false) : PE X (.Call (.Name c p) (e :: es) [] pos) (liftE C W (mMake c ma mf)) := by
  obtain ⟨cl, f, fd, ps, h1, h2, h3, h4, h5, h6⟩ := F.ok
  refine PE.imp (pe_makeSD (E := fun σ cls d H' => W cls d σ H') h4 h6 hr hg h3 h5 (fun σ pins H s e s' I c => tk e s' (XE.of_call I (fun cls d H' h => h) c)) ha hdb (ns es _) hpl) fun σ H Q q => ?_
  obtain ⟨P, env, fp, s, h⟩ := q
  refine ⟨P, env, fp, s, ?_⟩
  have h : postG C W (rOV C) P Q σ (Out.andThen (ma env) _) := h
  cases em : ma env with
  | none => rw [em] at h; exact h.elim
  | some o =>
    rw [em] at h
    cases o with
    | exc y e1 => exact h
    | ok xs env1 =>
      intro P1 fp1 H1 vs l1 s1 r1 x dx hx hdx hne
      obtain ⟨s2, t2⟩ := s1.newt hdx (u := .own x) trivial
      have hx2 : upd H1 dx (.own x) x = none := by rw [upd_ne (Ne.symm hne)]; exact hx
      obtain ⟨s3, t3⟩ := s2.newt hx2 (u := .ins cl dx []) trivial
      have o3 : Own C.exc P1 (upd (upd H1 dx (.own x)) x (.ins cl dx [])) (.ext (.ins c [])) (.ref x) [x, dx] :=
        .ext (.ins h2 upd_same (by rw [upd_ne hne, upd_same]) .nil (by simp [Ne.symm hne]))
      have t4 : Tmp C P1 fp1 [x, dx] := ⟨fun i a h hm => by
        rcases List.mem_cons.mp hm with z | z
        · exact t3.dis i a h (by rw [z]; exact List.mem_cons_self)
        · exact t2.dis i a h z, fun a hm => by
        rcases List.mem_cons.mp hm with z | z
        · exact t3.fre a (by rw [z]; exact List.mem_cons_self)
        · exact t2.fre a z⟩
      have h1' : postG C W (rOV C) P1 Q σ (match mf (some (.ext (.ins c [])) :: xs.map fun x => some (.d x)) with
        | some (.ok (.d .none) (some r :: _)) => some (.ok r env1)
        | some (.exc x _) => some (.exc x env1)
        | _ => none) := postG.mono l1 h
      refine call_tmp (Q := Q) s3 r1 o3 t4 (hl env xs env1 em) (fun y e2 e3 => ?_) (fun z => ?_) fun y o2 e2 e3 P' fp' H' v l' s' r' k' => ?_
      · rw [e3] at h1'
        exact h1'
      · rw [z] at h1'
        exact h1'.elim
      · rw [e3] at h1'
        cases y with
        | d y =>
          cases y with
          | none =>
            cases o2 with
            | none => exact h1'.elim
            | some ov2 =>
              obtain ⟨ft, ow, _⟩ := r'
              exact ⟨(by cases ow.dp; rfl), h1' P' fp' H' (.ref x) l' s' (k' ov2 rfl)⟩
          | _ => exact h1'.elim
        | _ => exact h1'.elim
/-- of one just made: its method -/
theorem sE_methT {k : Nat} {o : Expr} {c m : Str} {apos : Pos} {mm mf : M OV} {pl : Sem Bool} (F : MtS X.prog X.w X.K X.mg X.base C.tabs C.exc k c m 1 mf) (hr : Room k X.A) (ho : PE X o (liftE C W mm)) (tk : Takes X W)
    (ht : eval (.Call (.Attribute o m apos) [] [] pos) X.env = (do
      let ov ← eval o X.env
      standAt apos.atName
      let (f, first) ← holding [ov] (getMethod ov m pl)
      callWith pos f first (backTo pos (starEach [] X.env)) (backToKw pos (keywordEach [] X.env)))) : PE X (.Call (.Attribute o m apos) [] [] pos) (liftE C W (mMethT mm c m mf)) := by
  obtain ⟨cl, f, fd, ps, h1, h2, h3, h4, h5, h6⟩ := F.ok
  refine PE.imp (pe_meth0SD (E := fun σ cls d H' => W cls d σ H') ho h3 h4 h6 hr h5 (fun σ pins H s e s' I c => tk e s' (XE.of_call I (fun cls d H' h => h) c)) ht) fun σ H Q q => ?_
  refine liftG.seq q fun ov env1 P1 fp1 H1 v s1 r1 h1' => ?_
  by_cases hi : isIns c m ov = true
  · have h1' : postG C W (rOV C) P1 Q σ (if isIns c m ov then (match mf [some ov] with
      | some (.ok r _) => some (.ok r env1)
      | some (.exc x _) => some (.exc x env1)
      | none => none) else none) := h1'
    rw [if_pos hi] at h1'
    obtain ⟨fs, rfl, l⟩ := isIns_some hi
    obtain ⟨ft, o1, t1⟩ := r1
    obtain ⟨cl', a, dx, vs, bs, rfl, _, g1, g2, g3, g4, _⟩ := o1.of_ins
    rw [h2] at g1
    cases g1
    have hl0 := g4.look m
    rw [l] at hl0
    refine ⟨a, dx, vs, rfl, g2, hl0, ?_⟩
    refine call_tmp (Q := Q) (xs := []) s1 .nil o1 t1 rfl (fun y e2 e3 => ?_) (fun z => ?_) fun y o2 e2 e3 P' fp' H' v l' s' r' k' => ?_
    · have e3 : mf [some (.ext (.ins c fs))] = some (.exc y e2) := e3
      rw [e3] at h1'
      exact h1'
    · have z : mf [some (.ext (.ins c fs))] = none := z
      rw [z] at h1'
      exact h1'.elim
    · have e3 : mf [some (.ext (.ins c fs))] = some (.ok y (o2 :: e2)) := e3
      rw [e3] at h1'
      exact h1' P' fp' H' v l' s' r'
  · have h1' : postG C W (rOV C) P1 Q σ (if isIns c m ov then (match mf [some ov] with
      | some (.ok r _) => some (.ok r env1)
      | some (.exc x _) => some (.exc x env1)
      | none => none) else none) := h1'
    rw [if_neg hi] at h1'
    exact h1'.elim
end
end TL
set_option Elab.async false
set_option linter.all false
set_option maxRecDepth 100000
set_option maxHeartbeats 2000000
namespace TL
open PySem PySem.Spec PyProof.Rows L2 GenW GxR
/-- the number of arguments -/
def LenA (n : Nat) (ma : M (List PyData)) : Prop := ∀ env xs e, ma env = some (.ok xs e) → xs.length = n
theorem lenA_nil : LenA 0 (pure []) := fun env xs e h => by
  have h : some (Out.ok ([] : List PyData) env) = some (.ok xs e) := h
  cases h
  rfl
theorem lenA_cons {n : Nat} {a : M PyData} {r : M (List PyData)} (h : LenA n r) : LenA (n + 1) (mCons a r) := fun env xs e q => by
  have q : Out.andThen (a env) (fun x => r >>= fun xs => pure (x :: xs)) = some (.ok xs e) := q
  cases ea : a env with
  | none => rw [ea] at q; cases q
  | some o =>
    rw [ea] at q
    cases o with
    | exc y e1 => cases q
    | ok x e1 =>
      have q : Out.andThen (r e1) (fun xs => (pure (x :: xs) : M (List PyData))) = some (.ok xs e) := q
      cases er : r e1 with
      | none => rw [er] at q; cases q
      | some o =>
        rw [er] at q
        cases o with
        | exc y e2 => cases q
        | ok ys e2 =>
          have q : some (Out.ok (x :: ys) e2) = some (.ok xs e) := q
          cases q
          rw [List.length_cons, h _ _ _ er]
theorem LenA.succ {n : Nat} {ma : M (List PyData)} (h : LenA n ma) : ∀ env xs e, ma env = some (.ok xs e) → xs.length + 1 = n + 1 := fun env xs e q => congrArg (· + 1) (h env xs e q)
def clsAt (s : Stmt) (j : Nat) : Stmt := match s with
  | .ClassDef _ _ _ b _ _ _ _ _ _ _ => b.getD j (.Pass ⟨0, 0, 0, 0⟩)
  | _ => .Pass ⟨0, 0, 0, 0⟩
section
variable {P : Program} {w : World} {K : PySem.W.Frag} {mg : Str → Option Value} {base : Heap} {T : List Addr} {ex : Str → Option Addr}
theorem FunC.fnOkO {x qual : Str} {params : Arguments} {body : List Stmt} {scope : Scope} {f : Addr} {fd : FuncData} {cdv : Value} {ps N : List Str} {ow : List Nat} {k np : Nat} {mb : M Fl} (F : FunC K x qual params body scope f fd cdv) (S : FnScope N ps scope) (hnp : ps.length = np) (hN : np ≤ N.length)
    (hbody : ∀ (A : Around) (outer : List PySem.Env) (s : Shared) (H : Hp) (E : XK) (C : Cc), Room k (A.deeper (envOfC qual scope s.heap.objs.size f cdv)) → C.tabs = T → C.exc = ex → (∀ i, ow.contains i = false → C.kp i = none) →
      PSs (fnX P w K mg base N qual scope f cdv A outer s H E) body (liftS C (fnW E) mb)) : FnOk P w K mg base (L2.CX P w) (k + 1) f fd ps (fnSp np T ex (fnM np N.length ow mb)) := by
  obtain ⟨oc, od, kV, doc, pm, an, ct, osl, rfl, lk, hcd⟩ := F.ex
  refine fn_of lk hcd S (fun vs H Q E q => by rw [hnp]; exact q.1) fun A outer s H vs Q E hr hsp => ?_
  obtain ⟨hl, C, P0, env, fp, hT, hE, hk, s0, q⟩ := hsp
  refine ⟨_, hbody A outer s H E (bodyC C ow) hr hT hE (fun i hi => if_neg (by rw [hi]; exact Bool.false_ne_true)), ?_⟩
  have hvl : vs.length ≤ N.length := by rw [hl]; exact hN
  refine ⟨P0, _, fp, s0.begin hk hvl, ?_⟩
  rw [hl]
  unfold fnM at q
  cases em : mb (env ++ List.replicate (N.length - np) none) with
  | none => rw [em] at q; exact q.elim
  | some o =>
    rw [em] at q
    cases o with
    | exc y e => exact fun P' fp' σ' H' cls d l s' r => q P' _ H' cls d l (s0.finish hk l s') r
    | ok fl e =>
      cases fl with
      | nx => exact fun P' fp' σ' H' l s' => q P' _ H' .non l (s0.finish hk l s') (rOV.d .non)
      | rt r => exact fun P' fp' σ' H' v l s' r => q P' _ H' v l (s0.finish hk l s') (rOV.finish r)
      | bk => exact q.elim
      | ct => exact q.elim
theorem MtS.mk' {c m : Str} {x qual : Str} {params : Arguments} {body : List Stmt} {scope : Scope} {cl f : Addr} {fd : FuncData} {cdv : Value} {ps N : List Str} {ow : List Nat} {k np : Nat} {mb : M Fl} (F : FunC K x qual params body scope f fd cdv) (h1 : ex c = some cl) (h2 : Cls K cl) (h3 : Meth K cl m f) (S : FnScope N ps scope) (hnp : ps.length = np) (hN : np ≤ N.length)
    (hb : ∀ (kV doc pm : Value) (an : Option Addr) (cdv ct : Value) (us : List Value), us.length = ps.length → bindArgs (PySem.W.fnOf x qual params body scope .none kV doc pm an cdv ct) ⟨us, []⟩ = pure (ps.zip us))
    (hbody : ∀ (A : Around) (outer : List PySem.Env) (s : Shared) (H : Hp) (E : XK) (C : Cc), Room k (A.deeper (envOfC qual scope s.heap.objs.size f cdv)) → C.tabs = T → C.exc = ex → (∀ i, ow.contains i = false → C.kp i = none) →
      PSs (fnX P w K mg base N qual scope f cdv A outer s H E) body (liftS C (fnW E) mb)) : MtS P w K mg base T ex (k + 1) c m np (fnM np N.length ow mb) :=
  ⟨⟨cl, f, fd, ps, hnp, h1, h2, h3, F.binds hb, F.fnOkO S hnp hN hbody⟩⟩
theorem MkS.mk' {c : Str} {x qual : Str} {params : Arguments} {body : List Stmt} {scope : Scope} {cl f : Addr} {fd : FuncData} {cdv : Value} {ps N : List Str} {ow : List Nat} {k np : Nat} {mb : M Fl} (F : FunC K x qual params body scope f fd cdv) (h1 : ex c = some cl) (h2 : mg c = some (.ref cl)) (h3 : Mk K cl f) (S : FnScope N ps scope) (hnp : ps.length = np) (hN : np ≤ N.length)
    (hb : ∀ (kV doc pm : Value) (an : Option Addr) (cdv ct : Value) (us : List Value), us.length = ps.length → bindArgs (PySem.W.fnOf x qual params body scope .none kV doc pm an cdv ct) ⟨us, []⟩ = pure (ps.zip us))
    (hbody : ∀ (A : Around) (outer : List PySem.Env) (s : Shared) (H : Hp) (E : XK) (C : Cc), Room k (A.deeper (envOfC qual scope s.heap.objs.size f cdv)) → C.tabs = T → C.exc = ex → (∀ i, ow.contains i = false → C.kp i = none) →
      PSs (fnX P w K mg base N qual scope f cdv A outer s H E) body (liftS C (fnW E) mb)) : MkS P w K mg base T ex (k + 1) c np (fnM np N.length ow mb) :=
  ⟨⟨cl, f, fd, ps, hnp, h1, h2, h3, F.binds hb, F.fnOkO S hnp hN hbody⟩⟩
end
end TL
set_option Elab.async false
set_option linter.all false
set_option maxRecDepth 100000
set_option maxHeartbeats 2000000
namespace TL
open PySem PySem.Spec PyProof.Rows L2 GenW GxR
section
variable {X : Cx} {C : Cc} {W : WX} {pos : Pos}
theorem mt_extend2 : MtM X "list.extend" rExtend2 := by
  intro pins s σ H x vs v us Q I rx rv h
  obtain ⟨l, b, xs, zs, rfl, rfl, hH, hB, hz, q⟩ := h
  cases rx
  obtain ⟨u, rfl, ru⟩ := rv.one
  cases ru
  obtain ⟨z, its, n, r, hl, e⟩ := I.lstM hH
  obtain ⟨z2, its2, n2, r2, hl2, e2⟩ := TL.Inv.lstR I hB
  have hsz : its.toArray.size + its2.toArray.size ≤ sizeLine := by rw [List.size_toArray, List.size_toArray]; omega
  have hlong : ¬ (!its.toArray.isEmpty && Builtin.List.listTooLong (its.toArray.size + its2.toArray.size)) = true := by
    rw [notLongL hsz, Bool.and_false]
    exact Bool.false_ne_true
  refine call_meets F.slot_list_extend ⟨_, e, rfl⟩ F.entry_list_extend (F.args_list_extend_2 _ _)
    (AutoSeq1.list_extend_list_list_0 l its.toArray n b its2.toArray n2 hlong (by rw [List.size_toArray]; omega) (by omega)) ⟨e, e2, ?_⟩
  refine ⟨.non, _, I.lset (its' := its ++ its2) hH e (by simp) (r.append r2) ?_, rfl, q⟩
  rw [List.length_append]
  omega
theorem sE_extend {i : Nat} {x : Str} {p apos : Pos} {b : Expr} {mk : M PyData} (n : NameOk X i x) (m : MethOk X x "extend" p apos pos) (ns : NS b) (hb' : PE X b (liftD C W mk)) :
    PE X (.Call (.Attribute (.Name x p) "extend" apos) [b] [] pos) (liftE C W (mExtend i mk)) :=
  PE.imp (pe_bm PySem.F.plainAttrs_list PySem.F.slot_list_extend PySem.F.type_list_extend mt_extend2 n.pe (pa_cons hb' pa_nil (ns [] _)) m.base (few1 ns) m.line (ns [] _) backTo_nil) fun σ H Q q => by
    obtain ⟨v0, ov, P, env, fp, f0, e0, hp, o0, s, h⟩ := slot_start q
    refine ⟨v0, f0, tyL o0 hp, P, env, fp, s, ?_⟩
    rw [M.bind_at] at h
    refine postG.seq h fun y env' P' fp' H' u l s' r q => ?_
    obtain ⟨w, w', a, g1, g2, q'⟩ := mut_at q
    cases w with
    | lst xs =>
      cases y with
      | list ys =>
        have g2' : (if xs.length + ys.length ≤ sizeLine then some (OV.lst (xs ++ ys), OV.d .none) else none) = some (w', a) := g2
        by_cases hz : xs.length + ys.length ≤ sizeLine
        · rw [if_pos hz] at g2'
          cases g2'
          obtain ⟨ad, vs, f1, hf, hH, d⟩ := s'.lstAt g1
          have ew := slot_inj f0 f1
          subst ew
          have r : Dd P' u (.list ys) := r
          obtain ⟨b2, zs, rfl, hB, d2⟩ := r.seqL
          refine ⟨ad, b2, vs, zs, rfl, rfl, hH, s'.le.sqL hB, by rw [dpAll_length d, dpAll_length d2]; exact hz, q' P' fp' _ _ (Le.refl _) (s'.mut g1 f1 hf trivial fun H2 e2 => .lst e2 (dpAll_append d d2)) (rOV.d .non)⟩
        · rw [if_neg hz] at g2'
          cases g2'
      | _ => cases g2
    | _ => cases g2
end
end TL
set_option Elab.async false
set_option linter.all false
set_option maxRecDepth 100000
namespace TL
open PySem PySem.Spec PyProof.Rows L2
noncomputable section
/-- is_number: 0 value, 1 low, 2 high -/
def b_is_number : M Fl := mRet (mAndV (mIsI "int" (dV 0)) (mAndV (mNotV (mIsI "bool" (dV 0))) (mChain gLe gLe (dV 1) (dV 0) (dV 2))))
def f_is_number : M OV := fnM 3 3 [] b_is_number

/-- is_door: 0 halls, 1 value, 2 hall -/
def b_is_door : M Fl := mThen (mIf (mOr (mNot (mTru (mIsI "tuple" (dV 1)))) (mOr (asB (mBin gNe (frz (mPeek 1 gLen)) (dC (.int 2)))) (mNot (mTru (mAll [2] (mItems (dV 1)) (gN 2) (mCall (.d (dV 2) :: .d (dC (.int 0)) :: .d (frz (mBin gSub (dV 0) (dC (.int 1)))) :: []) f_is_number)))))) (mRet (dat (dC (.bool false)))) (pure .nx))
  (mRet (mBin gNe (frz (mBin gIx (dV 1) (dC (.int 0)))) (frz (mBin gIx (dV 1) (dC (.int 1))))))
def f_is_door : M OV := fnM 2 3 [] b_is_door

/-- come_to: 0 halls, 1 doors, 2 first, 3 found, 4 layer, 5 later, 6 hall, 7 one, 8 other -/
def b_come_to : M Fl := mThen (mPar 3 4 (mDict1 (dV 2) (dC (.int 0))) (dat (frz (mLst (mCons (dV 2) (pure []))))))
  (mThen (mWhile (mPeek 4 ovTru) (mThen (mSet 5 (mLst (pure [])))
  (mThen (mFor (mItems (dV 4)) (gN 6) (mFor (mItems (dV 1)) (gT 2 (gsCons (gN 7) (gsCons (gN 8) (gsNil)))) (mIf (mAnd (asB (mBin gEq (dV 7) (dV 6))) (asB (mInD true 3 (dV 8)))) (mThen (mPutD 3 (dV 8) (frz (mBin gAdd (frz (mIxD 3 (dV 6))) (dC (.int 1)))))
  (mDrop (mAppend 5 (dV 8)))) (pure .nx))))
  (mSet 4 (dat (frz (mFrz 5)))))))
  (mRet (mMove 3)))
def f_come_to : M OV := fnM 3 9 [] b_come_to

/-- is_joined: 0 halls, 1 doors, 2 back, 3 one, 4 other -/
def b_is_joined : M Fl := mThen (mSet 2 (dat (frz (mComp [3, 4] (mItems (dV 1)) (gT 2 (gsCons (gN 3) (gsCons (gN 4) (gsNil)))) (pure true) (frz (mTup (mCons (dV 4) (mCons (dV 3) (pure [])))))))))
  (mRet (mAndV (mBin gEq (frz (mOne gLen (mCall (.d (dV 0) :: .d (dV 1) :: .d (dC (.int 0)) :: []) f_come_to))) (dV 0)) (mBin gEq (frz (mOne gLen (mCall (.d (dV 0) :: .d (dV 2) :: .d (dC (.int 0)) :: []) f_come_to))) (dV 0))))
def f_is_joined : M OV := fnM 2 5 [] b_is_joined

/-- wrong_part: 0 value, 1 halls, 2 doors, 3 door, 4 one, 5 other -/
def b_wrong_part : M Fl := mThen (mIf (mOr (mNot (mTru (mIsI "tuple" (dV 0)))) (asB (mBin gNe (frz (mPeek 0 gLen)) (dC (.int 2))))) (mRet (dat (dC (.str "whole")))) (pure .nx))
  (mThen (mAsg (gT 2 (gsCons (gN 1) (gsCons (gN 2) (gsNil)))) (dV 0))
  (mThen (mIf (mNot (mTru (mCall (.d (dV 1) :: .d (dC (.int 1)) :: .d (dC (.int 10)) :: []) f_is_number))) (mRet (dat (dC (.str "halls")))) (pure .nx))
  (mThen (mIf (mOr (mNot (mTru (mIsI "tuple" (dV 2)))) (mNot (mTru (mAll [3] (mItems (dV 2)) (gN 3) (mCall (.d (dV 1) :: .d (dV 3) :: []) f_is_door))))) (mRet (dat (dC (.str "doors")))) (pure .nx))
  (mThen (mIf (mOr (mNot (mTru (mAll [4, 5] (mZip (dV 2) (frz (mSlice (dV 2) (some (dC (.int 1))) none))) (gT 2 (gsCons (gN 4) (gsCons (gN 5) (gsNil)))) (mBin gLt (dV 4) (dV 5))))) (mNot (mTru (mCall (.d (dV 1) :: .d (dV 2) :: []) f_is_joined)))) (mRet (dat (dC (.str "doors")))) (pure .nx))
  (mRet (dat (dC .none)))))))
def f_wrong_part : M OV := fnM 1 6 [] b_wrong_part

/-- need_house: 0 value, 1 word -/
def b_need_house : M Fl := mThen (mSet 1 (dat (frz (mCall (.d (dV 0) :: []) f_wrong_part))))
  (mIf (asB (mBin gIsNot (dV 1) (dC .none))) (mNo) (pure .nx))
def f_need_house : M OV := fnM 1 2 [] b_need_house

/-- Maps_init: 0 self, 1 one, 2 other, 3 most, 4 door -/
def b_Maps_init : M Fl := mThen (mFldSet 0 "Maps" "halls" (frz (mBin gIx (dV 1) (dC (.int 0)))))
  (mThen (mFldSet 0 "Maps" "there" (frz (mDComp [4] (mItems (frz (mBin gIx (dV 1) (dC (.int 1))))) (gN 4) (pure true) (dV 4) (dC (.bool true)))))
  (mThen (mFldSet 0 "Maps" "mates" (frz (mDComp [4] (mItems (frz (mBin gIx (dV 2) (dC (.int 1))))) (gN 4) (pure true) (dV 4) (dC (.bool true)))))
  (mFldSet 0 "Maps" "most" (dV 3))))
def f_Maps_init : M OV := fnM 4 5 [0] b_Maps_init

/-- Maps_fits: 0 self, 1 row, 2 hall, 3 place, 4 at, 5 image -/
def b_Maps_fits : M Fl := mThen (mSet 3 (dat (frz (mPeek 1 gLen))))
  (mThen (mFor (mEnum (dV 1)) (gT 2 (gsCons (gN 4) (gsCons (gN 5) (gsNil)))) (mThen (mIf (asB (mBin gNe (frz (mBin (gInU false) (frz (mTup (mCons (dV 4) (mCons (dV 3) (pure []))))) (mFld 0 "Maps" "there"))) (frz (mBin (gInU false) (frz (mTup (mCons (dV 5) (mCons (dV 2) (pure []))))) (mFld 0 "Maps" "mates"))))) (mRet (dat (dC (.bool false)))) (pure .nx))
  (mIf (asB (mBin gNe (frz (mBin (gInU false) (frz (mTup (mCons (dV 3) (mCons (dV 4) (pure []))))) (mFld 0 "Maps" "there"))) (frz (mBin (gInU false) (frz (mTup (mCons (dV 2) (mCons (dV 5) (pure []))))) (mFld 0 "Maps" "mates"))))) (mRet (dat (dC (.bool false)))) (pure .nx))))
  (mRet (dat (dC (.bool true)))))
def f_Maps_fits : M OV := fnM 3 6 [0] b_Maps_fits

/-- Maps_found: 0 self, 1 done, 2 here, 3 row, 4 fine, 5 hall -/
def b_Maps_found : M Fl := mThen (mPar 1 2 (mLst (pure [])) (mLst (mCons (frz (mTup (pure []))) (pure []))))
  (mThen (mWhile (mAnd (mPeek 2 ovTru) (asB (mBin gLt (frz (mPeek 1 gLen)) (mFld 0 "Maps" "most")))) (mThen (mSet 3 (dat (frz (mPop 2))))
  (mIf (asB (mBin gEq (frz (mPeek 3 gLen)) (mFld 0 "Maps" "halls"))) (mDrop (mAppend 1 (dV 3))) (mThen (mSet 4 (dat (frz (mComp [5] (mRange1 (mFld 0 "Maps" "halls")) (gN 5) (mAnd (asB (mBin gNotIn (dV 5) (dV 3))) (mTru (mMeth 0 "Maps" "fits" (.d (dV 3) :: .d (dV 5) :: []) f_Maps_fits))) (dV 5)))))
  (mDrop (mExtend 2 (frz (mComp [5] (mItems (frz (mRevL (dV 4)))) (gN 5) (pure true) (frz (mBin gAdd (dV 3) (frz (mTup (mCons (dV 5) (pure []))))))))))))))
  (mRet (mMove 1)))
def f_Maps_found : M OV := fnM 1 6 [0] b_Maps_found

/-- need_two: 0 one, 1 other -/
def b_need_two : M Fl := mThen (mDrop (mCall (.d (dV 0) :: []) f_need_house))
  (mDrop (mCall (.d (dV 1) :: []) f_need_house))
def f_need_two : M OV := fnM 2 2 [] b_need_two

/-- like_of: 0 one, 1 other, 2 found -/
def b_like_of : M Fl := mThen (mIf (mOr (asB (mBin gNe (frz (mBin gIx (dV 0) (dC (.int 0)))) (frz (mBin gIx (dV 1) (dC (.int 0)))))) (asB (mBin gNe (frz (mOne gLen (mBin gIx (dV 0) (dC (.int 1))))) (frz (mOne gLen (mBin gIx (dV 1) (dC (.int 1)))))))) (mRet (dat (dC .none))) (pure .nx))
  (mThen (mSet 2 (dat (frz (mMethT (mMake "Maps" (mCons (dV 0) (mCons (dV 1) (mCons (dC (.int 1)) (pure [])))) f_Maps_init) "Maps" "found" f_Maps_found))))
  (mRet (mIf (mPeek 2 ovTru) (mBin gIx (dV 2) (dC (.int 0))) (dat (dC .none)))))
def f_like_of : M OV := fnM 2 3 [] b_like_of

/-- like: 0 one, 1 other -/
def b_like : M Fl := mThen (mDrop (mCall (.d (dV 0) :: .d (dV 1) :: []) f_need_two))
  (mRet (mCall (.d (dV 0) :: .d (dV 1) :: []) f_like_of))
def f_like : M OV := fnM 2 2 [] b_like

/-- are_alike: 0 one, 1 other -/
def b_are_alike : M Fl := mThen (mDrop (mCall (.d (dV 0) :: .d (dV 1) :: []) f_need_two))
  (mRet (mBin gIsNot (frz (mCall (.d (dV 0) :: .d (dV 1) :: []) f_like_of)) (dC .none)))
def f_are_alike : M OV := fnM 2 2 [] b_are_alike

/-- shows_like: 0 one, 1 other, 2 value, 3 hall, 4 mate -/
def b_shows_like : M Fl := mThen (mDrop (mCall (.d (dV 0) :: .d (dV 1) :: []) f_need_two))
  (mThen (mIf (asB (mBin gIs (dV 2) (dC .none))) (mRet (mBin gIs (frz (mCall (.d (dV 0) :: .d (dV 1) :: []) f_like_of)) (dC .none))) (pure .nx))
  (mThen (mIf (mOr (asB (mBin gNe (frz (mBin gIx (dV 0) (dC (.int 0)))) (frz (mBin gIx (dV 1) (dC (.int 0)))))) (mOr (mNot (mTru (mIsI "tuple" (dV 2)))) (asB (mBin gNe (frz (mPeek 2 gLen)) (frz (mBin gIx (dV 0) (dC (.int 0)))))))) (mRet (dat (dC (.bool false)))) (pure .nx))
  (mThen (mIf (mOr (mNot (mTru (mAll [3] (mItems (dV 2)) (gN 3) (mCall (.d (dV 3) :: .d (dC (.int 0)) :: .d (frz (mBin gSub (frz (mBin gIx (dV 0) (dC (.int 0)))) (dC (.int 1)))) :: []) f_is_number)))) (asB (mBin gNe (frz (mLenSet (dV 2))) (frz (mPeek 2 gLen))))) (mRet (dat (dC (.bool false)))) (pure .nx))
  (mRet (mBin gEq (frz (mOne gTuple (mOne gSorted (mComp [3, 4] (mItems (frz (mBin gIx (dV 0) (dC (.int 1))))) (gT 2 (gsCons (gN 3) (gsCons (gN 4) (gsNil)))) (pure true) (frz (mTup (mCons (frz (mBin gIx (dV 2) (dV 3))) (mCons (frz (mBin gIx (dV 2) (dV 4))) (pure []))))))))) (frz (mBin gIx (dV 1) (dC (.int 1)))))))))
def f_shows_like : M OV := fnM 3 5 [] b_shows_like

/-- _law_taken: 0 _law_row, 1 _law_many, 2 _law_cell, 3 _law_found -/
def b__law_taken : M Fl := mThen (mIf (asB (mBin gGt (frz (mIxL 0 (dC (.int 3)))) (dC (.int 0)))) (mThen (mSet 3 (dat (frz (mBin gMod (frz (mOne gInt (mIxL 0 (dC (.int 3))))) (dV 1)))))
  (mThen (mSetL 0 (dC (.int 3)) (frz (mBin gFdiv (frz (mIxL 0 (dC (.int 3)))) (dV 1))))
  (mRet (mVar 3)))) (pure .nx))
  (mThen (mSetL 0 (dC (.int 1)) (frz (mBin gAdd (frz (mIxL 0 (dC (.int 1)))) (dC (.int 1)))))
  (mThen (mIf (asB (mBin gGt (frz (mIxL 0 (dC (.int 1)))) (frz (mOne gLen (mIxL 0 (dC (.int 0))))))) (mThen (mSetL 0 (dC (.int 2)) (frz (mBin gMod (frz (mOne gInt (mBin gAdd (frz (mBin gMulX (frz (mIxL 0 (dC (.int 2)))) (dC (.int 48271)))) (dC (.int 11))))) (dC (.int 2147483647)))))
  (mRet (mBin gMod (frz (mOne gInt (mBin gFdiv (frz (mIxL 0 (dC (.int 2)))) (dC (.int 7))))) (dV 1)))) (pure .nx))
  (mThen (mSet 2 (dat (frz (mBin gIx (frz (mIxL 0 (dC (.int 0)))) (frz (mBin gSub (frz (mIxL 0 (dC (.int 1)))) (dC (.int 1))))))))
  (mThen (mSetL 0 (dC (.int 2)) (frz (mBin gMod (frz (mOne gInt (mBin gAdd (frz (mBin gAdd (frz (mBin gMulX (frz (mIxL 0 (dC (.int 2)))) (dC (.int 48271)))) (dV 2))) (dC (.int 11))))) (dC (.int 2147483647)))))
  (mThen (mIf (asB (mBin gGe (dV 2) (frz (mBin gPow (dC (.int 10)) (dC (.int 18)))))) (mSetL 0 (dC (.int 3)) (frz (mBin gFdiv (dV 2) (dV 1)))) (pure .nx))
  (mRet (mBin gMod (frz (mOne gInt (mVar 2))) (dV 1))))))))
def f__law_taken : M OV := fnM 2 4 [0] b__law_taken

/-- _law_pick: 0 _law_row, 1 _law_things -/
def b__law_pick : M Fl := mRet (mBin gIx (dV 1) (frz (mCall (.s 0 :: .d (frz (mPeek 1 gLen)) :: []) f__law_taken)))
def f__law_pick : M OV := fnM 2 2 [0] b__law_pick

/-- _law_alike: 0 _law_found, 1 _law_due, 2 _law_k -/
def b__law_alike (f__law_alike : M OV) : M Fl := mThen (mIf (mTru (mIsI2 "tuple" "list" (dV 1))) (mThen (mIf (mOr (mNot (mTru (mIsI2 "tuple" "list" (dV 0)))) (asB (mBin gNe (frz (mIsI "list" (dV 0))) (frz (mIsI "list" (dV 1)))))) (mRet (dat (dC (.bool false)))) (pure .nx))
  (mThen (mIf (asB (mBin gNe (frz (mPeek 0 gLen)) (frz (mPeek 1 gLen)))) (mRet (dat (dC (.bool false)))) (pure .nx))
  (mRet (mBin gEq (frz (mComp [2] (mRange1 (frz (mPeek 1 gLen))) (gN 2) (mNot (mTru (mCall (.d (frz (mBin gIx (dV 0) (dV 2))) :: .d (frz (mBin gIx (dV 1) (dV 2))) :: []) f__law_alike))) (dV 2))) (frz (mLst (pure []))))))) (pure .nx))
  (mThen (mIf (mOr (asB (mBin gIs (dV 1) (dC .none))) (mTru (mIsI "str" (dV 1)))) (mRet (mAndV (mBin gEq (dV 0) (dV 1)) (mBin gEq (frz (mIsI "str" (dV 0))) (frz (mIsI "str" (dV 1)))))) (pure .nx))
  (mRet (mAndV (mIsI "int" (dV 0)) (mAndV (mBin gEq (frz (mIsI "bool" (dV 0))) (frz (mIsI "bool" (dV 1)))) (mBin gEq (dV 0) (dV 1))))))
def r__law_alike : Nat → M OV
  | 0 => fnM 2 3 [] mNo
  | n + 1 => fnM 2 3 [] (b__law_alike (r__law_alike n))
def f__law_alike : M OV := r__law_alike 8

/-- _law_circle: 0 _law_halls, 1 _law_steps, 2 _law_found, 3 _law_hall, 4 _law_step -/
def b__law_circle : M Fl := mThen (mSet 2 (dat (frz (mLst (pure [])))))
  (mThen (mFor (mRange1 (dV 0)) (gN 3) (mSet 2 (dat (frz (mBin gAdd (dV 2) (frz (mComp [4] (mItems (dV 1)) (gN 4) (asB (mBin gNe (frz (mBin gMod (dV 4) (dV 0))) (dC (.int 0)))) (frz (mTup (mCons (dV 3) (mCons (frz (mBin gMod (frz (mBin gAdd (dV 3) (dV 4))) (dV 0))) (pure []))))))))))))
  (mRet (mTup (mCons (dV 0) (mCons (frz (mOne gTuple (mSset (dV 2)))) (pure []))))))
def f__law_circle : M OV := fnM 2 5 [] b__law_circle

/-- _law_known: 0 _law_most, 1 _law_rows, 2 _law_prism, 3 _law_house_here -/
def b__law_known : M Fl := mThen (mSet 1 (dat (frz (mLst (mCons (frz (mTup (mCons (dC (.int 1)) (mCons (frz (mTup (pure []))) (pure []))))) (mCons (frz (mCall (.d (dC (.int 2)) :: .d (frz (mLst (mCons (dC (.int 1)) (pure [])))) :: []) f__law_circle)) (mCons (frz (mCall (.d (dC (.int 3)) :: .d (frz (mLst (mCons (dC (.int 1)) (pure [])))) :: []) f__law_circle)) (mCons (frz (mCall (.d (dC (.int 3)) :: .d (frz (mLst (mCons (dC (.int 1)) (mCons (dC (.int 2)) (pure []))))) :: []) f__law_circle)) (mCons (frz (mCall (.d (dC (.int 4)) :: .d (frz (mLst (mCons (dC (.int 1)) (pure [])))) :: []) f__law_circle)) (pure []))))))))))
  (mThen (mSet 1 (dat (frz (mBin gAdd (dV 1) (frz (mLst (mCons (frz (mCall (.d (dC (.int 4)) :: .d (frz (mLst (mCons (dC (.int 1)) (mCons (dC (.int 3)) (pure []))))) :: []) f__law_circle)) (mCons (frz (mCall (.d (dC (.int 4)) :: .d (frz (mLst (mCons (dC (.int 1)) (mCons (dC (.int 2)) (mCons (dC (.int 3)) (pure [])))))) :: []) f__law_circle)) (mCons (frz (mCall (.d (dC (.int 5)) :: .d (frz (mLst (mCons (dC (.int 1)) (mCons (dC (.int 4)) (pure []))))) :: []) f__law_circle)) (mCons (frz (mCall (.d (dC (.int 4)) :: .d (frz (mLst (mCons (dC (.int 1)) (mCons (dC (.int 2)) (pure []))))) :: []) f__law_circle)) (pure [])))))))))))
  (mThen (mSet 1 (dat (frz (mBin gAdd (dV 1) (frz (mLst (mCons (frz (mCall (.d (dC (.int 5)) :: .d (frz (mLst (mCons (dC (.int 1)) (mCons (dC (.int 2)) (pure []))))) :: []) f__law_circle)) (mCons (frz (mCall (.d (dC (.int 6)) :: .d (frz (mLst (mCons (dC (.int 1)) (pure [])))) :: []) f__law_circle)) (mCons (frz (mCall (.d (dC (.int 6)) :: .d (frz (mLst (mCons (dC (.int 1)) (mCons (dC (.int 5)) (pure []))))) :: []) f__law_circle)) (mCons (frz (mCall (.d (dC (.int 6)) :: .d (frz (mLst (mCons (dC (.int 1)) (mCons (dC (.int 3)) (mCons (dC (.int 5)) (pure [])))))) :: []) f__law_circle)) (pure [])))))))))))
  (mThen (mSet 1 (dat (frz (mBin gAdd (dV 1) (frz (mLst (mCons (frz (mTup (mCons (dC (.int 3)) (mCons (frz (mTup (mCons (frz (mTup (mCons (dC (.int 0)) (mCons (dC (.int 1)) (pure []))))) (mCons (frz (mTup (mCons (dC (.int 1)) (mCons (dC (.int 0)) (pure []))))) (mCons (frz (mTup (mCons (dC (.int 1)) (mCons (dC (.int 2)) (pure []))))) (mCons (frz (mTup (mCons (dC (.int 2)) (mCons (dC (.int 1)) (pure []))))) (pure []))))))) (pure []))))) (mCons (frz (mTup (mCons (dC (.int 4)) (mCons (frz (mTup (mCons (frz (mTup (mCons (dC (.int 0)) (mCons (dC (.int 1)) (pure []))))) (mCons (frz (mTup (mCons (dC (.int 1)) (mCons (dC (.int 2)) (pure []))))) (mCons (frz (mTup (mCons (dC (.int 1)) (mCons (dC (.int 3)) (pure []))))) (mCons (frz (mTup (mCons (dC (.int 2)) (mCons (dC (.int 0)) (pure []))))) (mCons (frz (mTup (mCons (dC (.int 3)) (mCons (dC (.int 0)) (pure []))))) (pure [])))))))) (pure []))))) (pure [])))))))))
  (mThen (mSet 2 (dat (frz (mLst (mCons (frz (mTup (mCons (dC (.int 0)) (mCons (dC (.int 1)) (pure []))))) (mCons (frz (mTup (mCons (dC (.int 1)) (mCons (dC (.int 2)) (pure []))))) (mCons (frz (mTup (mCons (dC (.int 2)) (mCons (dC (.int 0)) (pure []))))) (mCons (frz (mTup (mCons (dC (.int 3)) (mCons (dC (.int 4)) (pure []))))) (mCons (frz (mTup (mCons (dC (.int 4)) (mCons (dC (.int 5)) (pure []))))) (mCons (frz (mTup (mCons (dC (.int 5)) (mCons (dC (.int 3)) (pure []))))) (mCons (frz (mTup (mCons (dC (.int 0)) (mCons (dC (.int 3)) (pure []))))) (mCons (frz (mTup (mCons (dC (.int 1)) (mCons (dC (.int 4)) (pure []))))) (mCons (frz (mTup (mCons (dC (.int 2)) (mCons (dC (.int 5)) (pure []))))) (mCons (frz (mTup (mCons (dC (.int 3)) (mCons (dC (.int 0)) (pure []))))) (mCons (frz (mTup (mCons (dC (.int 4)) (mCons (dC (.int 1)) (pure []))))) (mCons (frz (mTup (mCons (dC (.int 5)) (mCons (dC (.int 2)) (pure []))))) (pure [])))))))))))))))))
  (mThen (mSet 1 (dat (frz (mBin gAdd (dV 1) (frz (mLst (mCons (frz (mTup (mCons (dC (.int 6)) (mCons (frz (mOne gTuple (mOne gSorted (mVar 2)))) (pure []))))) (mCons (frz (mTup (mCons (dC (.int 4)) (mCons (frz (mTup (mCons (frz (mTup (mCons (dC (.int 0)) (mCons (dC (.int 1)) (pure []))))) (mCons (frz (mTup (mCons (dC (.int 1)) (mCons (dC (.int 0)) (pure []))))) (mCons (frz (mTup (mCons (dC (.int 1)) (mCons (dC (.int 2)) (pure []))))) (mCons (frz (mTup (mCons (dC (.int 2)) (mCons (dC (.int 3)) (pure []))))) (mCons (frz (mTup (mCons (dC (.int 3)) (mCons (dC (.int 0)) (pure []))))) (mCons (frz (mTup (mCons (dC (.int 3)) (mCons (dC (.int 2)) (pure []))))) (pure []))))))))) (pure []))))) (pure [])))))))))
  (mRet (mComp [3] (mItems (dV 1)) (gN 3) (asB (mBin gLe (frz (mBin gIx (dV 3) (dC (.int 0)))) (dV 0))) (dV 3))))))))
def f__law_known : M OV := fnM 1 4 [] b__law_known

/-- _law_moved: 0 _law_house_here, 1 _law_turn_here, 2 _law_one, 3 _law_other -/
def b__law_moved : M Fl := mRet (mTup (mCons (frz (mBin gIx (dV 0) (dC (.int 0)))) (mCons (frz (mOne gTuple (mOne gSorted (mComp [2, 3] (mItems (frz (mBin gIx (dV 0) (dC (.int 1))))) (gT 2 (gsCons (gN 2) (gsCons (gN 3) (gsNil)))) (pure true) (frz (mTup (mCons (frz (mBin gIx (dV 1) (dV 2))) (mCons (frz (mBin gIx (dV 1) (dV 3))) (pure []))))))))) (pure []))))
def f__law_moved : M OV := fnM 2 4 [] b__law_moved

/-- _law_turn: 0 _law_row, 1 _law_halls, 2 _law_found, 3 _law_left -/
def b__law_turn : M Fl := mThen (mPar 2 3 (dat (frz (mTup (pure [])))) (mListR1 (dV 1)))
  (mThen (mWhile (asB (mCmpS gNe 3 (frz (mLst (pure []))))) (mSet 2 (dat (frz (mBin gAdd (dV 2) (frz (mTup (mCons (frz (mPopAt 3 (frz (mCall (.s 0 :: .d (frz (mPeek 3 gLen)) :: []) f__law_taken)))) (pure [])))))))))
  (mRet (mVar 2)))
def f__law_turn : M OV := fnM 2 4 [0] b__law_turn

/-- _law_house: 0 _law_row, 1 _law_most, 2 _law_halls, 3 _law_doors, 4 _law_turn_here, 5 _law_house_here, 6 _law_door -/
def b__law_house : M Fl := mThen (mIf (asB (mBin gGt (frz (mCall (.s 0 :: .d (dC (.int 3)) :: []) f__law_taken)) (dC (.int 0)))) (mThen (mSet 5 (dat (frz (mCall (.s 0 :: .d (frz (mCall (.d (dV 1) :: []) f__law_known)) :: []) f__law_pick))))
  (mRet (mCall (.d (dV 5) :: .d (frz (mCall (.s 0 :: .d (frz (mBin gIx (dV 5) (dC (.int 0)))) :: []) f__law_turn)) :: []) f__law_moved))) (pure .nx))
  (mThen (mSet 2 (dat (frz (mBin gAdd (dC (.int 2)) (frz (mCall (.s 0 :: .d (frz (mBin gSub (dV 1) (dC (.int 1)))) :: []) f__law_taken))))))
  (mThen (mSet 3 (dat (frz (mOne gList (mBin gIx (frz (mCall (.d (dV 2) :: .d (frz (mLst (mCons (dC (.int 1)) (pure [])))) :: []) f__law_circle)) (dC (.int 1)))))))
  (mThen (mFor (mRange1 (frz (mCall (.s 0 :: .d (frz (mBin gAdd (dV 2) (dC (.int 1)))) :: []) f__law_taken))) (gN 4) (mThen (mSet 6 (dat (frz (mTup (mCons (frz (mCall (.s 0 :: .d (dV 2) :: []) f__law_taken)) (mCons (frz (mCall (.s 0 :: .d (dV 2) :: []) f__law_taken)) (pure [])))))))
  (mSet 3 (dat (frz (mBin gAdd (dV 3) (frz (mBin gMulX (frz (mLst (mCons (dV 6) (pure [])))) (frz (mOne gInt (mBin gNe (frz (mBin gIx (dV 6) (dC (.int 0)))) (frz (mBin gIx (dV 6) (dC (.int 1)))))))))))))))
  (mRet (mCall (.d (frz (mTup (mCons (dV 2) (mCons (frz (mOne gTuple (mSset (dV 3)))) (pure []))))) :: .d (frz (mCall (.s 0 :: .d (dV 2) :: []) f__law_turn)) :: []) f__law_moved)))))
def f__law_house : M OV := fnM 2 7 [0] b__law_house

/-- _law_maps: 0 _law_one, 1 _law_other, 2 _law_rows, 3 _law_place, 4 _law_longer, 5 _law_row, 6 _law_hall, 7 _law_far, 8 _law_mate, 9 _law_bad, 10 _law_at -/
def b__law_maps : M Fl := mThen (mIf (mOr (asB (mBin gNe (frz (mBin gIx (dV 0) (dC (.int 0)))) (frz (mBin gIx (dV 1) (dC (.int 0)))))) (asB (mBin gNe (frz (mOne gLen (mBin gIx (dV 0) (dC (.int 1))))) (frz (mOne gLen (mBin gIx (dV 1) (dC (.int 1)))))))) (mRet (mLst (pure []))) (pure .nx))
  (mThen (mSet 2 (dat (frz (mLst (mCons (frz (mTup (pure []))) (pure []))))))
  (mThen (mFor (mRange1 (frz (mBin gIx (dV 0) (dC (.int 0))))) (gN 3) (mThen (mSet 4 (dat (frz (mLst (pure [])))))
  (mThen (mFor (mItems (dV 2)) (gN 5) (mFor (mRange1 (frz (mBin gIx (dV 0) (dC (.int 0))))) (gN 6) (mIf (asB (mBin gNotIn (dV 6) (dV 5))) (mThen (mAsg (gT 2 (gsCons (gN 7) (gsCons (gN 8) (gsNil)))) (frz (mTup (mCons (frz (mBin gIx (dV 0) (dC (.int 1)))) (mCons (frz (mBin gIx (dV 1) (dC (.int 1)))) (pure []))))))
  (mThen (mSet 9 (dat (frz (mComp [10] (mRange1 (dV 3)) (gN 10) (asB (mBin gNe (frz (mBin gIn (frz (mTup (mCons (dV 10) (mCons (dV 3) (pure []))))) (dV 7))) (frz (mBin gIn (frz (mTup (mCons (frz (mBin gIx (dV 5) (dV 10))) (mCons (dV 6) (pure []))))) (dV 8))))) (dV 10)))))
  (mThen (mSet 9 (dat (frz (mBin gAdd (dV 9) (frz (mComp [10] (mRange1 (dV 3)) (gN 10) (asB (mBin gNe (frz (mBin gIn (frz (mTup (mCons (dV 3) (mCons (dV 10) (pure []))))) (dV 7))) (frz (mBin gIn (frz (mTup (mCons (dV 6) (mCons (frz (mBin gIx (dV 5) (dV 10))) (pure []))))) (dV 8))))) (dV 10)))))))
  (mSet 4 (dat (frz (mBin gAdd (dV 4) (frz (mBin gMulX (frz (mLst (mCons (frz (mBin gAdd (dV 5) (frz (mTup (mCons (dV 6) (pure [])))))) (pure [])))) (frz (mOne gInt (mBin gEq (dV 9) (frz (mLst (pure []))))))))))))))) (pure .nx))))
  (mSet 2 (dat (dV 4))))))
  (mRet (mVar 2))))
def f__law_maps : M OV := fnM 2 11 [] b__law_maps

/-- law: 0 _law_script, 1 _law_row, 2 _law_one, 3 _law_other, 4 _law_due, 5 _law_told, 6 _law_turn_here, 7 _law_odd, 8 _law_some, 9 _law_value -/
def b_law : M Fl := mThen (mSet 1 (mLst (mCons (dV 0) (mCons (dC (.int 0)) (mCons (dC (.int 5009)) (mCons (dC (.int 0)) (pure [])))))))
  (mThen (mSet 2 (dat (frz (mCall (.s 1 :: .d (dC (.int 6)) :: []) f__law_house))))
  (mThen (mSet 3 (dat (frz (mCall (.s 1 :: .d (frz (mLst (mCons (frz (mCall (.d (dV 2) :: .d (frz (mCall (.s 1 :: .d (frz (mBin gIx (dV 2) (dC (.int 0)))) :: []) f__law_turn)) :: []) f__law_moved)) (mCons (frz (mCall (.s 1 :: .d (dC (.int 6)) :: []) f__law_house)) (mCons (frz (mCall (.s 1 :: .d (dC (.int 6)) :: []) f__law_house)) (pure [])))))) :: []) f__law_pick))))
  (mThen (mSet 4 (dat (frz (mCall (.d (dV 2) :: .d (dV 3) :: []) f__law_maps))))
  (mThen (mSet 5 (dat (frz (mCall (.d (dV 2) :: .d (dV 3) :: []) f_like))))
  (mThen (mIf (mOr (mNot (mTru (mCall (.d (frz (mCall (.d (dV 2) :: .d (dV 3) :: []) f_are_alike)) :: .d (frz (mBin gNe (dV 4) (frz (mLst (pure []))))) :: []) f__law_alike))) (asB (mBin gNe (frz (mBin gIs (dV 5) (dC .none))) (frz (mBin gEq (dV 4) (frz (mLst (pure [])))))))) (mRet (dat (dC (.bool false)))) (pure .nx))
  (mThen (mIf (mOr (mAnd (asB (mBin gIsNot (dV 5) (dC .none))) (asB (mBin gNotIn (dV 5) (dV 4)))) (asB (mBin gNotX (frz (mCall (.d (dV 2) :: .d (dV 3) :: .d (dV 5) :: []) f_shows_like)) (dC (.bool true))))) (mRet (dat (dC (.bool false)))) (pure .nx))
  (mThen (mIf (mNot (mTru (mCall (.d (frz (mCall (.d (dV 2) :: .d (dV 3) :: .d (dC .none) :: []) f_shows_like)) :: .d (frz (mBin gEq (dV 4) (frz (mLst (pure []))))) :: []) f__law_alike))) (mRet (dat (dC (.bool false)))) (pure .nx))
  (mThen (mFor (mRange1 (dC (.int 5))) (gN 6) (mThen (mSet 8 (dat (frz (mCall (.s 1 :: .d (frz (mBin gIx (dV 2) (dC (.int 0)))) :: []) f__law_turn))))
  (mThen (mSet 8 (dat (frz (mIf (mAnd (asB (mBin gNe (dV 4) (frz (mLst (pure []))))) (asB (mBin gEq (frz (mCall (.s 1 :: .d (dC (.int 3)) :: []) f__law_taken)) (dC (.int 0))))) (mCall (.s 1 :: .d (dV 4) :: []) f__law_pick) (mVar 8)))))
  (mIf (mNot (mTru (mCall (.d (frz (mCall (.d (dV 2) :: .d (dV 3) :: .d (dV 8) :: []) f_shows_like)) :: .d (frz (mBin gIn (dV 8) (dV 4))) :: []) f__law_alike))) (mRet (dat (dC (.bool false)))) (pure .nx)))))
  (mThen (mSet 7 (dat (frz (mLst (mCons (frz (mTup (pure []))) (mCons (frz (mOne gList (mVar 8))) (mCons (frz (mBin gAdd (dV 8) (frz (mTup (mCons (frz (mBin gIx (dV 2) (dC (.int 0)))) (pure [])))))) (mCons (frz (mSlice (dV 8) none (some (frz (mNeg (dC (.int 1))))))) (mCons (frz (mBin gAdd (frz (mSlice (dV 8) none (some (frz (mNeg (dC (.int 1))))))) (frz (mTup (mCons (dC .none) (pure [])))))) (pure []))))))))))
  (mThen (mSet 7 (dat (frz (mBin gAdd (dV 7) (frz (mLst (mCons (frz (mBin gAdd (frz (mTup (mCons (dC (.bool true)) (pure [])))) (frz (mSlice (dV 8) (some (dC (.int 1))) none)))) (mCons (dC (.int 5)) (mCons (frz (mNewD)) (mCons (frz (mBin gAdd (frz (mBin gMulX (frz (mTup (mCons (dC (.int 0)) (pure [])))) (frz (mBin gIx (dV 2) (dC (.int 0)))))) (frz (mTup (mCons (dC (.int 0)) (pure [])))))) (pure [])))))))))))
  (mThen (mIf (asB (mBin gNotX (frz (mCall (.d (dV 2) :: .d (dV 2) :: []) f_are_alike)) (dC (.bool true)))) (mRet (dat (dC (.bool false)))) (pure .nx))
  (mRet (mBin gEq (frz (mComp [9] (mItems (dV 7)) (gN 9) (asB (mBin gNotX (frz (mCall (.d (dV 2) :: .d (dV 3) :: .d (dV 9) :: []) f_shows_like)) (dC (.bool false)))) (dV 9))) (frz (mLst (pure []))))))))))))))))
def f_law : M OV := fnM 1 10 [] b_law

end
end TL
set_option Elab.async false
set_option linter.all false
set_option maxRecDepth 100000
set_option maxHeartbeats 2000000
namespace TL
open PySem PySem.Spec PyProof.Rows L2 GxR
def top (i : Nat) : Stmt := PySem.Challenge.pw_letterhalls_k09_whole_likes.main.body.getD i (.Pass ⟨0, 0, 0, 0⟩)
theorem d_is_number {P : Program} {w : World} {K : PySem.W.Frag} {mg : Str → Option Value} {base : Heap} {T : List Addr} {ex : Str → Option Addr}  {f : Addr} {fd : FuncData} {cdv : Value} (Bl : Blt mg) 
    (F : FunC K "is_number" "is_number" (defArgs (top 5)) (defBody (top 5)) (defScope (top 5)) f fd cdv) (hx : mg "is_number" = some (.ref f)) : FnS P w K mg base T ex 1 "is_number" 3 f_is_number := by
  have nd : (["value", "low", "high"] : List Str).Nodup := by decide
  refine FunC.fnS (N := ["value", "low", "high"]) (ps := ["value", "low", "high"]) (ow := []) (k := 0) (mb := b_is_number) F hx ⟨rfl, rfl, rfl, nd, rfl, by decide, by decide⟩ rfl (by decide) (fun _ _ _ _ _ _ us hl => match us, hl with | [_, _, _], _ => rfl) fun A outer s H E C hr hT hE hk => ?_
  subst hT hE
  have hcm : (fnX P w K mg base ["value", "low", "high"] "is_number" (defScope (top 5)) f cdv A outer s H E).calm = true := rfl
  exact sSs_one (sS_ret (sE_and (sE_isi rfl Bl.isinstance (NameOk.dv ⟨rfl, (by first | exact Or.inl rfl | exact Or.inr (Or.inl rfl) | exact Or.inr (Or.inr rfl)), rfl, rfl⟩) (fun _ _ => rfl) rfl Bl.int boot_int (by decide) rfl) (sE_and (sE_not (sE_isi rfl Bl.isinstance (NameOk.dv ⟨rfl, (by first | exact Or.inl rfl | exact Or.inr (Or.inl rfl) | exact Or.inr (Or.inr rfl)), rfl, rfl⟩) (fun _ _ => rfl) rfl Bl.bool boot_bool (by decide) rfl)) (sE_one (sE_chain (od_le (Room.u hr)) (od_le (Room.u hr)) (NameOk.dv ⟨rfl, (by first | exact Or.inl rfl | exact Or.inr (Or.inl rfl) | exact Or.inr (Or.inr rfl)), rfl, rfl⟩) (NameOk.dv ⟨rfl, (by first | exact Or.inl rfl | exact Or.inr (Or.inl rfl) | exact Or.inr (Or.inr rfl)), rfl, rfl⟩) (NameOk.dv ⟨rfl, (by first | exact Or.inl rfl | exact Or.inr (Or.inl rfl) | exact Or.inr (Or.inr rfl)), rfl, rfl⟩) rfl)))))

theorem d_is_door {P : Program} {w : World} {K : PySem.W.Frag} {mg : Str → Option Value} {base : Heap} {T : List Addr} {ex : Str → Option Addr}  {f : Addr} {fd : FuncData} {c p : Addr} (Bl : Blt mg) (F_is_number : FnS P w K mg base T ex 1 "is_number" 3 f_is_number) (TB : TabB base mg c p) (hp : p ∈ T)
    (F : FunC K "is_door" "is_door" (defArgs (top 6)) (defBody (top 6)) (defScope (top 6)) f fd (.ref c)) (hx : mg "is_door" = some (.ref f)) : FnS P w K mg base T ex 3 "is_door" 2 f_is_door := by
  have nd : (["halls", "value", "hall"] : List Str).Nodup := by decide
  refine FunC.fnS (N := ["halls", "value", "hall"]) (ps := ["halls", "value"]) (ow := []) (k := 2) (mb := b_is_door) F hx ⟨rfl, rfl, rfl, nd, rfl, by decide, by decide⟩ rfl (by decide) (fun _ _ _ _ _ _ us hl => match us, hl with | [_, _], _ => rfl) fun A outer s H E C hr hT hE hk => ?_
  subst hT hE
  have hcm : (fnX P w K mg base ["halls", "value", "hall"] "is_door" (defScope (top 6)) f (.ref c) A outer s H E).calm = true := rfl
  exact sSs_cons (sS_if (PW.pt (sW_or (sT_not (sT_tru (sE_isi rfl Bl.isinstance (NameOk.dv ⟨rfl, (by first | exact Or.inl rfl | exact Or.inr (Or.inl rfl) | exact Or.inr (Or.inr rfl)), rfl, rfl⟩) (fun _ _ => rfl) rfl Bl.tuple boot_tuple (by decide) rfl) (fun _ => rfl))) (sW_or (sT_cmp (od_ne (Room.u hr)) (sE_frz (NameOk.len ⟨rfl, (by first | exact Or.inl rfl | exact Or.inr (Or.inl rfl) | exact Or.inr (Or.inr rfl)), rfl, rfl⟩ rfl Bl.len)) (sD_int) rfl) (sW_one (sT_not (sT_tru (sE_all (own := [("hall", 2)]) hcm nd hr rfl Bl.all TB rfl hp (genSc_by rfl rfl rfl rfl) (sI_seq (NameOk.dv ⟨rfl, (by first | exact Or.inl rfl | exact Or.inr (Or.inl rfl) | exact Or.inr (Or.inr rfl)), rfl, rfl⟩)) ⟨fun _ _ _ _ => sG_name ⟨nd, rfl, (by first | exact Or.inl rfl | exact Or.inr rfl), (by first | exact Or.inr rfl | exact Or.inl rfl), hk 2 rfl⟩ (by decide), fun _ _ _ _ => sE_call (F_is_number.mono (by decide)) (Room.gen hr _) rfl takesB (by simp [agNd, posOf]) rfl (sAg_d (NameOk.dv ⟨rfl, (by first | exact Or.inl rfl | exact Or.inr (Or.inl rfl) | exact Or.inr (Or.inr rfl)), rfl, rfl⟩) (sAg_d (sD_int) (sAg_d (sE_frz (sE_bin od_sub (NameOk.dv ⟨rfl, (by first | exact Or.inl rfl | exact Or.inr (Or.inl rfl) | exact Or.inr (Or.inr rfl)), rfl, rfl⟩) (sD_int))) (sAg_nil) (fun _ _ => rfl)) (fun _ _ => rfl)) (fun _ _ => rfl)) (fun _ _ => rfl) rfl rfl⟩ (gok_n) (by intro i hi; exact hk i (by revert i; decide)) (fun _ => rfl) rfl) (fun _ => rfl))))))) (sSs_one (sS_ret (sE_dt sD_bool))) (sSs_nil))
        (sSs_one (sS_ret (sE_cmp (od_ne (Room.u hr)) (sE_frz (sE_ix (NameOk.dv ⟨rfl, (by first | exact Or.inl rfl | exact Or.inr (Or.inl rfl) | exact Or.inr (Or.inr rfl)), rfl, rfl⟩) (sD_int) (fun _ _ => rfl))) (sE_frz (sE_ix (NameOk.dv ⟨rfl, (by first | exact Or.inl rfl | exact Or.inr (Or.inl rfl) | exact Or.inr (Or.inr rfl)), rfl, rfl⟩) (sD_int) (fun _ _ => rfl))) rfl)))

theorem d_come_to {P : Program} {w : World} {K : PySem.W.Frag} {mg : Str → Option Value} {base : Heap} {T : List Addr} {ex : Str → Option Addr}  {f : Addr} {fd : FuncData} {cdv : Value} (Bl : Blt mg) 
    (F : FunC K "come_to" "come_to" (defArgs (top 7)) (defBody (top 7)) (defScope (top 7)) f fd cdv) (hx : mg "come_to" = some (.ref f)) : FnS P w K mg base T ex 1 "come_to" 3 f_come_to := by
  have nd : (["halls", "doors", "first", "found", "layer", "later", "hall", "one", "other"] : List Str).Nodup := by decide
  refine FunC.fnS (N := ["halls", "doors", "first", "found", "layer", "later", "hall", "one", "other"]) (ps := ["halls", "doors", "first"]) (ow := []) (k := 0) (mb := b_come_to) F hx ⟨rfl, rfl, rfl, nd, rfl, by decide, by decide⟩ rfl (by decide) (fun _ _ _ _ _ _ us hl => match us, hl with | [_, _, _], _ => rfl) fun A outer s H E C hr hT hE hk => ?_
  subst hT hE
  have hcm : (fnX P w K mg base ["halls", "doors", "first", "found", "layer", "later", "hall", "one", "other"] "come_to" (defScope (top 7)) f cdv A outer s H E).calm = true := rfl
  exact sSs_cons (sS_par hcm ⟨nd, rfl, (by first | exact Or.inl rfl | exact Or.inr rfl), (by first | exact Or.inr rfl | exact Or.inl rfl), hk 3 rfl⟩ ⟨nd, rfl, (by first | exact Or.inl rfl | exact Or.inr rfl), (by first | exact Or.inr rfl | exact Or.inl rfl), hk 4 rfl⟩ (by decide) rfl rfl (sE_dict1 (fun _ => NameOk.dv ⟨rfl, (by first | exact Or.inl rfl | exact Or.inr (Or.inl rfl) | exact Or.inr (Or.inr rfl)), rfl, rfl⟩) (fun _ => sD_int)) (fun _ => sE_dt (sE_frz (sE_lst (sA_cons (NameOk.dv ⟨rfl, (by first | exact Or.inl rfl | exact Or.inr (Or.inl rfl) | exact Or.inr (Or.inr rfl)), rfl, rfl⟩) (sA_nil) (fun _ _ => rfl))))) (fun _ _ => rfl) (fun _ _ => rfl) rfl rfl)
        (sSs_cons (sS_while fnX_passes (NameOk.tru ⟨rfl, (by first | exact Or.inl rfl | exact Or.inr (Or.inl rfl) | exact Or.inr (Or.inr rfl)), rfl, rfl⟩ (fun _ => rfl)) (sSs_cons (LocOk.set ⟨nd, rfl, (by first | exact Or.inl rfl | exact Or.inr rfl), (by first | exact Or.inr rfl | exact Or.inl rfl), hk 5 rfl⟩ (sE_lst (sA_nil)) rfl)
        (sSs_cons (sS_for (vs := [6]) fnX_passes hcm (sI_seq (NameOk.dv ⟨rfl, (by first | exact Or.inl rfl | exact Or.inr (Or.inl rfl) | exact Or.inr (Or.inr rfl)), rfl, rfl⟩)) (sG_name ⟨nd, rfl, (by first | exact Or.inl rfl | exact Or.inr rfl), (by first | exact Or.inr rfl | exact Or.inl rfl), hk 6 rfl⟩ (by decide)) (gok_n) (sSs_one (sS_for (vs := [7, 8]) fnX_passes hcm (sI_seq (NameOk.dv ⟨rfl, (by first | exact Or.inl rfl | exact Or.inr (Or.inl rfl) | exact Or.inr (Or.inr rfl)), rfl, rfl⟩)) (sG_tup hcm (sGs_cons (sG_name ⟨nd, rfl, (by first | exact Or.inl rfl | exact Or.inr rfl), (by first | exact Or.inr rfl | exact Or.inl rfl), hk 7 rfl⟩ (by decide)) (sGs_cons (sG_name ⟨nd, rfl, (by first | exact Or.inl rfl | exact Or.inr rfl), (by first | exact Or.inr rfl | exact Or.inl rfl), hk 8 rfl⟩ (by decide)) (sGs_nil) rfl) rfl) rfl rfl) (gok_t (gsok_cons (gok_n) (gsok_cons (gok_n) (gsok_nil)))) (sSs_one (sS_if (PW.pt (sW_and (sT_cmp (od_eq (Room.u hr)) (NameOk.dv ⟨rfl, (by first | exact Or.inl rfl | exact Or.inr (Or.inl rfl) | exact Or.inr (Or.inr rfl)), rfl, rfl⟩) (NameOk.dv ⟨rfl, (by first | exact Or.inl rfl | exact Or.inr (Or.inl rfl) | exact Or.inr (Or.inr rfl)), rfl, rfl⟩) rfl) (sW_one (sT_notInD (Room.u hr) ⟨rfl, (by first | exact Or.inl rfl | exact Or.inr (Or.inl rfl) | exact Or.inr (Or.inr rfl)), rfl, rfl⟩ (NameOk.dv ⟨rfl, (by first | exact Or.inl rfl | exact Or.inr (Or.inl rfl) | exact Or.inr (Or.inr rfl)), rfl, rfl⟩))))) (sSs_cons (sS_putD (Room.u hr) ⟨rfl, (by first | exact Or.inl rfl | exact Or.inr (Or.inl rfl) | exact Or.inr (Or.inr rfl)), rfl, rfl⟩ (NameOk.dv ⟨rfl, (by first | exact Or.inl rfl | exact Or.inr (Or.inl rfl) | exact Or.inr (Or.inr rfl)), rfl, rfl⟩) (sE_frz (sE_bin od_add (sE_frz (sE_ixD (Room.u hr) ⟨rfl, (by first | exact Or.inl rfl | exact Or.inr (Or.inl rfl) | exact Or.inr (Or.inr rfl)), rfl, rfl⟩ (NameOk.dv ⟨rfl, (by first | exact Or.inl rfl | exact Or.inr (Or.inl rfl) | exact Or.inr (Or.inr rfl)), rfl, rfl⟩) (fun _ _ => rfl))) (sD_int))) rfl)
        (sSs_one (sS_expr (sE_append ⟨rfl, (by first | exact Or.inl rfl | exact Or.inr (Or.inl rfl) | exact Or.inr (Or.inr rfl)), rfl, rfl⟩ ⟨rfl, rfl⟩ (fun _ _ => rfl) (NameOk.dv ⟨rfl, (by first | exact Or.inl rfl | exact Or.inr (Or.inl rfl) | exact Or.inr (Or.inr rfl)), rfl, rfl⟩)) rfl))) (sSs_nil))) (fun _ => rfl))) (fun _ => rfl))
        (sSs_one (LocOk.set ⟨nd, rfl, (by first | exact Or.inl rfl | exact Or.inr rfl), (by first | exact Or.inr rfl | exact Or.inl rfl), hk 4 rfl⟩ (sE_dt (sE_frz (NameOk.frz ⟨rfl, (by first | exact Or.inl rfl | exact Or.inr (Or.inl rfl) | exact Or.inr (Or.inr rfl)), rfl, rfl⟩))) rfl)))))
        (sSs_one (sS_ret (NameOk.move ⟨rfl, (by first | exact Or.inl rfl | exact Or.inr (Or.inl rfl) | exact Or.inr (Or.inr rfl)), rfl, rfl⟩))))

theorem d_is_joined {P : Program} {w : World} {K : PySem.W.Frag} {mg : Str → Option Value} {base : Heap} {T : List Addr} {ex : Str → Option Addr}  {f : Addr} {fd : FuncData} {cdv : Value} (Bl : Blt mg) (F_come_to : FnS P w K mg base T ex 1 "come_to" 3 f_come_to)
    (F : FunC K "is_joined" "is_joined" (defArgs (top 8)) (defBody (top 8)) (defScope (top 8)) f fd cdv) (hx : mg "is_joined" = some (.ref f)) : FnS P w K mg base T ex 2 "is_joined" 2 f_is_joined := by
  have nd : (["halls", "doors", "back", "one", "other"] : List Str).Nodup := by decide
  refine FunC.fnS (N := ["halls", "doors", "back", "one", "other"]) (ps := ["halls", "doors"]) (ow := []) (k := 1) (mb := b_is_joined) F hx ⟨rfl, rfl, rfl, nd, rfl, by decide, by decide⟩ rfl (by decide) (fun _ _ _ _ _ _ us hl => match us, hl with | [_, _], _ => rfl) fun A outer s H E C hr hT hE hk => ?_
  subst hT hE
  have hcm : (fnX P w K mg base ["halls", "doors", "back", "one", "other"] "is_joined" (defScope (top 8)) f cdv A outer s H E).calm = true := rfl
  exact sSs_cons (sS_setLcD (own := [("one", 3), ("other", 4)]) hcm nd rfl rfl (hk 2 rfl) rfl (sI_seq (NameOk.dv ⟨rfl, (by first | exact Or.inl rfl | exact Or.inr (Or.inl rfl) | exact Or.inr (Or.inr rfl)), rfl, rfl⟩)) (blkOk_by rfl) ⟨fun _ _ _ _ _ _ => sG_tup hcm (sGs_cons (sG_name ⟨nd, rfl, (by first | exact Or.inl rfl | exact Or.inr rfl), (by first | exact Or.inr rfl | exact Or.inl rfl), hk 3 rfl⟩ (by decide)) (sGs_cons (sG_name ⟨nd, rfl, (by first | exact Or.inl rfl | exact Or.inr rfl), (by first | exact Or.inr rfl | exact Or.inl rfl), hk 4 rfl⟩ (by decide)) (sGs_nil) rfl) rfl) rfl rfl, fun _ _ _ _ _ _ => sTs_nil, fun _ _ _ _ _ _ => sE_frz (sE_tup (sA_cons (NameOk.dv ⟨rfl, (by first | exact Or.inl rfl | exact Or.inr (Or.inl rfl) | exact Or.inr (Or.inr rfl)), rfl, rfl⟩) (sA_cons (NameOk.dv ⟨rfl, (by first | exact Or.inl rfl | exact Or.inr (Or.inl rfl) | exact Or.inr (Or.inr rfl)), rfl, rfl⟩) (sA_nil) (fun _ _ => rfl)) (fun _ _ => rfl)))⟩ (gok_t (gsok_cons (gok_n) (gsok_cons (gok_n) (gsok_nil)))) (by intro i hi; exact hk i (by revert i; decide)) (fun _ => rfl))
        (sSs_one (sS_ret (sE_and (sE_cmp (od_eq (Room.u hr)) (sE_frz (sE_callB cr_len rfl Bl.len boot_len (sE_call (F_come_to.mono (by decide)) hr rfl fnX_takes (by simp [agNd, posOf]) rfl (sAg_d (NameOk.dv ⟨rfl, (by first | exact Or.inl rfl | exact Or.inr (Or.inl rfl) | exact Or.inr (Or.inr rfl)), rfl, rfl⟩) (sAg_d (NameOk.dv ⟨rfl, (by first | exact Or.inl rfl | exact Or.inr (Or.inl rfl) | exact Or.inr (Or.inr rfl)), rfl, rfl⟩) (sAg_d (sD_int) (sAg_nil) (fun _ _ => rfl)) (fun _ _ => rfl)) (fun _ _ => rfl)) (fun _ _ => rfl) rfl rfl) (fun _ _ => rfl) (by decide) rfl)) (NameOk.dv ⟨rfl, (by first | exact Or.inl rfl | exact Or.inr (Or.inl rfl) | exact Or.inr (Or.inr rfl)), rfl, rfl⟩) rfl) (sE_one (sE_cmp (od_eq (Room.u hr)) (sE_frz (sE_callB cr_len rfl Bl.len boot_len (sE_call (F_come_to.mono (by decide)) hr rfl fnX_takes (by simp [agNd, posOf]) rfl (sAg_d (NameOk.dv ⟨rfl, (by first | exact Or.inl rfl | exact Or.inr (Or.inl rfl) | exact Or.inr (Or.inr rfl)), rfl, rfl⟩) (sAg_d (NameOk.dv ⟨rfl, (by first | exact Or.inl rfl | exact Or.inr (Or.inl rfl) | exact Or.inr (Or.inr rfl)), rfl, rfl⟩) (sAg_d (sD_int) (sAg_nil) (fun _ _ => rfl)) (fun _ _ => rfl)) (fun _ _ => rfl)) (fun _ _ => rfl) rfl rfl) (fun _ _ => rfl) (by decide) rfl)) (NameOk.dv ⟨rfl, (by first | exact Or.inl rfl | exact Or.inr (Or.inl rfl) | exact Or.inr (Or.inr rfl)), rfl, rfl⟩) rfl)))))

theorem d_wrong_part {P : Program} {w : World} {K : PySem.W.Frag} {mg : Str → Option Value} {base : Heap} {T : List Addr} {ex : Str → Option Addr} {t_MOST_HALLS : Tok} {f : Addr} {fd : FuncData} {c p : Addr} (Bl : Blt mg) (hc_MOST_HALLS : mg "MOST_HALLS" = some (.int 10 t_MOST_HALLS)) (F_is_number : FnS P w K mg base T ex 1 "is_number" 3 f_is_number) (F_is_door : FnS P w K mg base T ex 3 "is_door" 2 f_is_door) (F_is_joined : FnS P w K mg base T ex 2 "is_joined" 2 f_is_joined) (TB : TabB base mg c p) (hp : p ∈ T)
    (F : FunC K "wrong_part" "wrong_part" (defArgs (top 9)) (defBody (top 9)) (defScope (top 9)) f fd (.ref c)) (hx : mg "wrong_part" = some (.ref f)) : FnS P w K mg base T ex 5 "wrong_part" 1 f_wrong_part := by
  have nd : (["value", "halls", "doors", "door", "one", "other"] : List Str).Nodup := by decide
  refine FunC.fnS (N := ["value", "halls", "doors", "door", "one", "other"]) (ps := ["value"]) (ow := []) (k := 4) (mb := b_wrong_part) F hx ⟨rfl, rfl, rfl, nd, rfl, by decide, by decide⟩ rfl (by decide) (fun _ _ _ _ _ _ us hl => match us, hl with | [_], _ => rfl) fun A outer s H E C hr hT hE hk => ?_
  subst hT hE
  have hcm : (fnX P w K mg base ["value", "halls", "doors", "door", "one", "other"] "wrong_part" (defScope (top 9)) f (.ref c) A outer s H E).calm = true := rfl
  exact sSs_cons (sS_if (PW.pt (sW_or (sT_not (sT_tru (sE_isi rfl Bl.isinstance (NameOk.dv ⟨rfl, (by first | exact Or.inl rfl | exact Or.inr (Or.inl rfl) | exact Or.inr (Or.inr rfl)), rfl, rfl⟩) (fun _ _ => rfl) rfl Bl.tuple boot_tuple (by decide) rfl) (fun _ => rfl))) (sW_one (sT_cmp (od_ne (Room.u hr)) (sE_frz (NameOk.len ⟨rfl, (by first | exact Or.inl rfl | exact Or.inr (Or.inl rfl) | exact Or.inr (Or.inr rfl)), rfl, rfl⟩ rfl Bl.len)) (sD_int) rfl)))) (sSs_one (sS_ret (sE_dt sD_str))) (sSs_nil))
        (sSs_cons (sS_asg (vs := [1, 2]) (sG_tup hcm (sGs_cons (sG_name ⟨nd, rfl, (by first | exact Or.inl rfl | exact Or.inr rfl), (by first | exact Or.inr rfl | exact Or.inl rfl), hk 1 rfl⟩ (by decide)) (sGs_cons (sG_name ⟨nd, rfl, (by first | exact Or.inl rfl | exact Or.inr rfl), (by first | exact Or.inr rfl | exact Or.inl rfl), hk 2 rfl⟩ (by decide)) (sGs_nil) rfl) rfl) rfl rfl) (NameOk.dv ⟨rfl, (by first | exact Or.inl rfl | exact Or.inr (Or.inl rfl) | exact Or.inr (Or.inr rfl)), rfl, rfl⟩) (gok_t (gsok_cons (gok_n) (gsok_cons (gok_n) (gsok_nil)))) rfl rfl rfl)
        (sSs_cons (sS_if (sT_not (sT_tru (sE_call (F_is_number.mono (by decide)) hr rfl fnX_takes (by simp [agNd, posOf]) rfl (sAg_d (NameOk.dv ⟨rfl, (by first | exact Or.inl rfl | exact Or.inr (Or.inl rfl) | exact Or.inr (Or.inr rfl)), rfl, rfl⟩) (sAg_d (sD_int) (sAg_d (sD_globI rfl hc_MOST_HALLS rfl) (sAg_nil) (fun _ _ => rfl)) (fun _ _ => rfl)) (fun _ _ => rfl)) (fun _ _ => rfl) rfl rfl) (fun _ => rfl))) (sSs_one (sS_ret (sE_dt sD_str))) (sSs_nil))
        (sSs_cons (sS_if (PW.pt (sW_or (sT_not (sT_tru (sE_isi rfl Bl.isinstance (NameOk.dv ⟨rfl, (by first | exact Or.inl rfl | exact Or.inr (Or.inl rfl) | exact Or.inr (Or.inr rfl)), rfl, rfl⟩) (fun _ _ => rfl) rfl Bl.tuple boot_tuple (by decide) rfl) (fun _ => rfl))) (sW_one (sT_not (sT_tru (sE_all (own := [("door", 3)]) hcm nd hr rfl Bl.all TB rfl hp (genSc_by rfl rfl rfl rfl) (sI_seq (NameOk.dv ⟨rfl, (by first | exact Or.inl rfl | exact Or.inr (Or.inl rfl) | exact Or.inr (Or.inr rfl)), rfl, rfl⟩)) ⟨fun _ _ _ _ => sG_name ⟨nd, rfl, (by first | exact Or.inl rfl | exact Or.inr rfl), (by first | exact Or.inr rfl | exact Or.inl rfl), hk 3 rfl⟩ (by decide), fun _ _ _ _ => sE_call (F_is_door.mono (by decide)) (Room.gen hr _) rfl takesB (by simp [agNd, posOf]) rfl (sAg_d (NameOk.dv ⟨rfl, (by first | exact Or.inl rfl | exact Or.inr (Or.inl rfl) | exact Or.inr (Or.inr rfl)), rfl, rfl⟩) (sAg_d (NameOk.dv ⟨rfl, (by first | exact Or.inl rfl | exact Or.inr (Or.inl rfl) | exact Or.inr (Or.inr rfl)), rfl, rfl⟩) (sAg_nil) (fun _ _ => rfl)) (fun _ _ => rfl)) (fun _ _ => rfl) rfl rfl⟩ (gok_n) (by intro i hi; exact hk i (by revert i; decide)) (fun _ => rfl) rfl) (fun _ => rfl)))))) (sSs_one (sS_ret (sE_dt sD_str))) (sSs_nil))
        (sSs_cons (sS_if (PW.pt (sW_or (sT_not (sT_tru (sE_all (own := [("one", 4), ("other", 5)]) hcm nd hr rfl Bl.all TB rfl hp (genSc_by rfl rfl rfl rfl) (sI_zip rfl Bl.zip (NameOk.dv ⟨rfl, (by first | exact Or.inl rfl | exact Or.inr (Or.inl rfl) | exact Or.inr (Or.inr rfl)), rfl, rfl⟩) (sE_frz (sE_slice (NameOk.dv ⟨rfl, (by first | exact Or.inl rfl | exact Or.inr (Or.inl rfl) | exact Or.inr (Or.inr rfl)), rfl, rfl⟩) (sO_some (sD_int)) (sO_none))) (fun _ _ => rfl) (fun _ _ => rfl)) ⟨fun _ _ _ _ => sG_tup hcm (sGs_cons (sG_name ⟨nd, rfl, (by first | exact Or.inl rfl | exact Or.inr rfl), (by first | exact Or.inr rfl | exact Or.inl rfl), hk 4 rfl⟩ (by decide)) (sGs_cons (sG_name ⟨nd, rfl, (by first | exact Or.inl rfl | exact Or.inr rfl), (by first | exact Or.inr rfl | exact Or.inl rfl), hk 5 rfl⟩ (by decide)) (sGs_nil) rfl) rfl) rfl rfl, fun _ _ _ _ => sE_cmp (od_lt (Room.u (Room.gen hr _))) (NameOk.dv ⟨rfl, (by first | exact Or.inl rfl | exact Or.inr (Or.inl rfl) | exact Or.inr (Or.inr rfl)), rfl, rfl⟩) (NameOk.dv ⟨rfl, (by first | exact Or.inl rfl | exact Or.inr (Or.inl rfl) | exact Or.inr (Or.inr rfl)), rfl, rfl⟩) rfl⟩ (gok_t (gsok_cons (gok_n) (gsok_cons (gok_n) (gsok_nil)))) (by intro i hi; exact hk i (by revert i; decide)) (fun _ => rfl) rfl) (fun _ => rfl))) (sW_one (sT_not (sT_tru (sE_call (F_is_joined.mono (by decide)) hr rfl fnX_takes (by simp [agNd, posOf]) rfl (sAg_d (NameOk.dv ⟨rfl, (by first | exact Or.inl rfl | exact Or.inr (Or.inl rfl) | exact Or.inr (Or.inr rfl)), rfl, rfl⟩) (sAg_d (NameOk.dv ⟨rfl, (by first | exact Or.inl rfl | exact Or.inr (Or.inl rfl) | exact Or.inr (Or.inr rfl)), rfl, rfl⟩) (sAg_nil) (fun _ _ => rfl)) (fun _ _ => rfl)) (fun _ _ => rfl) rfl rfl) (fun _ => rfl)))))) (sSs_one (sS_ret (sE_dt sD_str))) (sSs_nil))
        (sSs_one (sS_ret (sE_dt sD_none)))))))

theorem d_need_house {P : Program} {w : World} {K : PySem.W.Frag} {mg : Str → Option Value} {base : Heap} {T : List Addr} {ex : Str → Option Addr}  {f : Addr} {fd : FuncData} {cdv : Value} (Bl : Blt mg) (F_wrong_part : FnS P w K mg base T ex 5 "wrong_part" 1 f_wrong_part)
    (F : FunC K "need_house" "need_house" (defArgs (top 10)) (defBody (top 10)) (defScope (top 10)) f fd cdv) (hx : mg "need_house" = some (.ref f)) : FnS P w K mg base T ex 6 "need_house" 1 f_need_house := by
  have nd : (["value", "word"] : List Str).Nodup := by decide
  refine FunC.fnS (N := ["value", "word"]) (ps := ["value"]) (ow := []) (k := 5) (mb := b_need_house) F hx ⟨rfl, rfl, rfl, nd, rfl, by decide, by decide⟩ rfl (by decide) (fun _ _ _ _ _ _ us hl => match us, hl with | [_], _ => rfl) fun A outer s H E C hr hT hE hk => ?_
  subst hT hE
  have hcm : (fnX P w K mg base ["value", "word"] "need_house" (defScope (top 10)) f cdv A outer s H E).calm = true := rfl
  exact sSs_cons (LocOk.set ⟨nd, rfl, (by first | exact Or.inl rfl | exact Or.inr rfl), (by first | exact Or.inr rfl | exact Or.inl rfl), hk 1 rfl⟩ (sE_dt (sE_frz (sE_call (F_wrong_part.mono (by decide)) hr rfl fnX_takes (by simp [agNd, posOf]) rfl (sAg_d (NameOk.dv ⟨rfl, (by first | exact Or.inl rfl | exact Or.inr (Or.inl rfl) | exact Or.inr (Or.inr rfl)), rfl, rfl⟩) (sAg_nil) (fun _ _ => rfl)) (fun _ _ => rfl) rfl rfl))) rfl)
        (sSs_one (sS_if (sT_cmp od_isNot (NameOk.dv ⟨rfl, (by first | exact Or.inl rfl | exact Or.inr (Or.inl rfl) | exact Or.inr (Or.inr rfl)), rfl, rfl⟩) (sD_none) rfl) (sSs_one (sS_never)) (sSs_nil)))

theorem d_Maps_init {P : Program} {w : World} {K : PySem.W.Frag} {mg : Str → Option Value} {base : Heap} {T : List Addr} {ex : Str → Option Addr}  {cl f : Addr} {fd : FuncData} {cdv : Value} (Bl : Blt mg) (X_Maps_halls : FldOk K ex "Maps" "halls") (X_Maps_there : FldOk K ex "Maps" "there") (X_Maps_mates : FldOk K ex "Maps" "mates") (X_Maps_most : FldOk K ex "Maps" "most")
    (F : FunC K "__init__" "Maps.__init__" (defArgs (clsAt (top 12) 0)) (defBody (clsAt (top 12) 0)) (defScope (clsAt (top 12) 0)) f fd cdv) (h1 : ex "Maps" = some cl) (h2 : mg "Maps" = some (.ref cl)) (h3 : Mk K cl f) : MkS P w K mg base T ex 1 "Maps" 4 f_Maps_init := by
  have nd : (["self", "one", "other", "most", "door"] : List Str).Nodup := by decide
  refine MkS.mk' (N := ["self", "one", "other", "most", "door"]) (ps := ["self", "one", "other", "most"]) (ow := [0]) (k := 0) (mb := b_Maps_init) F h1 h2 h3 ⟨rfl, rfl, rfl, nd, rfl, by decide, by decide⟩ rfl (by decide) (fun _ _ _ _ _ _ us hl => match us, hl with | [_, _, _, _], _ => rfl) fun A outer s H E C hr hT hE hk => ?_
  subst hT hE
  have hcm : (fnX P w K mg base ["self", "one", "other", "most", "door"] "Maps.__init__" (defScope (clsAt (top 12) 0)) f cdv A outer s H E).calm = true := rfl
  exact sSs_cons (sS_fset ⟨rfl, (by first | exact Or.inl rfl | exact Or.inr (Or.inl rfl) | exact Or.inr (Or.inr rfl)), rfl, rfl⟩ X_Maps_halls (sE_frz (sE_ix (NameOk.dv ⟨rfl, (by first | exact Or.inl rfl | exact Or.inr (Or.inl rfl) | exact Or.inr (Or.inr rfl)), rfl, rfl⟩) (sD_int) (fun _ _ => rfl))) rfl)
        (sSs_cons (sS_fset ⟨rfl, (by first | exact Or.inl rfl | exact Or.inr (Or.inl rfl) | exact Or.inr (Or.inr rfl)), rfl, rfl⟩ X_Maps_there (sE_frz (sE_dc (own := [("door", 4)]) (Room.u hr) hcm nd (sI_seq (sE_frz (sE_ix (NameOk.dv ⟨rfl, (by first | exact Or.inl rfl | exact Or.inr (Or.inl rfl) | exact Or.inr (Or.inr rfl)), rfl, rfl⟩) (sD_int) (fun _ _ => rfl)))) (blkOk_by rfl) ⟨fun _ _ _ _ _ _ => sG_name ⟨nd, rfl, (by first | exact Or.inl rfl | exact Or.inr rfl), (by first | exact Or.inr rfl | exact Or.inl rfl), hk 4 rfl⟩ (by decide), fun _ _ _ _ _ _ => sTs_nil, fun _ _ _ _ _ _ => NameOk.dv ⟨rfl, (by first | exact Or.inl rfl | exact Or.inr (Or.inl rfl) | exact Or.inr (Or.inr rfl)), rfl, rfl⟩, fun _ _ _ _ _ _ => sD_bool⟩ (gok_n) (by intro i hi; exact hk i (by revert i; decide)) (fun _ => rfl))) rfl)
        (sSs_cons (sS_fset ⟨rfl, (by first | exact Or.inl rfl | exact Or.inr (Or.inl rfl) | exact Or.inr (Or.inr rfl)), rfl, rfl⟩ X_Maps_mates (sE_frz (sE_dc (own := [("door", 4)]) (Room.u hr) hcm nd (sI_seq (sE_frz (sE_ix (NameOk.dv ⟨rfl, (by first | exact Or.inl rfl | exact Or.inr (Or.inl rfl) | exact Or.inr (Or.inr rfl)), rfl, rfl⟩) (sD_int) (fun _ _ => rfl)))) (blkOk_by rfl) ⟨fun _ _ _ _ _ _ => sG_name ⟨nd, rfl, (by first | exact Or.inl rfl | exact Or.inr rfl), (by first | exact Or.inr rfl | exact Or.inl rfl), hk 4 rfl⟩ (by decide), fun _ _ _ _ _ _ => sTs_nil, fun _ _ _ _ _ _ => NameOk.dv ⟨rfl, (by first | exact Or.inl rfl | exact Or.inr (Or.inl rfl) | exact Or.inr (Or.inr rfl)), rfl, rfl⟩, fun _ _ _ _ _ _ => sD_bool⟩ (gok_n) (by intro i hi; exact hk i (by revert i; decide)) (fun _ => rfl))) rfl)
        (sSs_one (sS_fset ⟨rfl, (by first | exact Or.inl rfl | exact Or.inr (Or.inl rfl) | exact Or.inr (Or.inr rfl)), rfl, rfl⟩ X_Maps_most (NameOk.dv ⟨rfl, (by first | exact Or.inl rfl | exact Or.inr (Or.inl rfl) | exact Or.inr (Or.inr rfl)), rfl, rfl⟩) rfl))))

theorem d_Maps_fits {P : Program} {w : World} {K : PySem.W.Frag} {mg : Str → Option Value} {base : Heap} {T : List Addr} {ex : Str → Option Addr}  {cl f : Addr} {fd : FuncData} {cdv : Value} (Bl : Blt mg) (X_Maps_there : FldOk K ex "Maps" "there") (X_Maps_mates : FldOk K ex "Maps" "mates")
    (F : FunC K "fits" "Maps.fits" (defArgs (clsAt (top 12) 1)) (defBody (clsAt (top 12) 1)) (defScope (clsAt (top 12) 1)) f fd cdv) (h1 : ex "Maps" = some cl) (h2 : Cls K cl) (h3 : Meth K cl "fits" f) : MtS P w K mg base T ex 1 "Maps" "fits" 3 f_Maps_fits := by
  have nd : (["self", "row", "hall", "place", "at", "image"] : List Str).Nodup := by decide
  refine MtS.mk' (N := ["self", "row", "hall", "place", "at", "image"]) (ps := ["self", "row", "hall"]) (ow := [0]) (k := 0) (mb := b_Maps_fits) F h1 h2 h3 ⟨rfl, rfl, rfl, nd, rfl, by decide, by decide⟩ rfl (by decide) (fun _ _ _ _ _ _ us hl => match us, hl with | [_, _, _], _ => rfl) fun A outer s H E C hr hT hE hk => ?_
  subst hT hE
  have hcm : (fnX P w K mg base ["self", "row", "hall", "place", "at", "image"] "Maps.fits" (defScope (clsAt (top 12) 1)) f cdv A outer s H E).calm = true := rfl
  exact sSs_cons (LocOk.set ⟨nd, rfl, (by first | exact Or.inl rfl | exact Or.inr rfl), (by first | exact Or.inr rfl | exact Or.inl rfl), hk 3 rfl⟩ (sE_dt (sE_frz (NameOk.len ⟨rfl, (by first | exact Or.inl rfl | exact Or.inr (Or.inl rfl) | exact Or.inr (Or.inr rfl)), rfl, rfl⟩ rfl Bl.len))) rfl)
        (sSs_cons (sS_for (vs := [4, 5]) fnX_passes hcm (sI_enum rfl Bl.enumerate (NameOk.dv ⟨rfl, (by first | exact Or.inl rfl | exact Or.inr (Or.inl rfl) | exact Or.inr (Or.inr rfl)), rfl, rfl⟩) (fun _ _ => rfl)) (sG_tup hcm (sGs_cons (sG_name ⟨nd, rfl, (by first | exact Or.inl rfl | exact Or.inr rfl), (by first | exact Or.inr rfl | exact Or.inl rfl), hk 4 rfl⟩ (by decide)) (sGs_cons (sG_name ⟨nd, rfl, (by first | exact Or.inl rfl | exact Or.inr rfl), (by first | exact Or.inr rfl | exact Or.inl rfl), hk 5 rfl⟩ (by decide)) (sGs_nil) rfl) rfl) rfl rfl) (gok_t (gsok_cons (gok_n) (gsok_cons (gok_n) (gsok_nil)))) (sSs_cons (sS_if (sT_cmp (od_ne (Room.u hr)) (sE_frz (sE_inU false (Room.u hr) (sE_frz (sE_tup (sA_cons (NameOk.dv ⟨rfl, (by first | exact Or.inl rfl | exact Or.inr (Or.inl rfl) | exact Or.inr (Or.inr rfl)), rfl, rfl⟩) (sA_cons (NameOk.dv ⟨rfl, (by first | exact Or.inl rfl | exact Or.inr (Or.inl rfl) | exact Or.inr (Or.inr rfl)), rfl, rfl⟩) (sA_nil) (fun _ _ => rfl)) (fun _ _ => rfl)))) (sE_fld ⟨rfl, (by first | exact Or.inl rfl | exact Or.inr (Or.inl rfl) | exact Or.inr (Or.inr rfl)), rfl, rfl⟩ X_Maps_there rfl) rfl)) (sE_frz (sE_inU false (Room.u hr) (sE_frz (sE_tup (sA_cons (NameOk.dv ⟨rfl, (by first | exact Or.inl rfl | exact Or.inr (Or.inl rfl) | exact Or.inr (Or.inr rfl)), rfl, rfl⟩) (sA_cons (NameOk.dv ⟨rfl, (by first | exact Or.inl rfl | exact Or.inr (Or.inl rfl) | exact Or.inr (Or.inr rfl)), rfl, rfl⟩) (sA_nil) (fun _ _ => rfl)) (fun _ _ => rfl)))) (sE_fld ⟨rfl, (by first | exact Or.inl rfl | exact Or.inr (Or.inl rfl) | exact Or.inr (Or.inr rfl)), rfl, rfl⟩ X_Maps_mates rfl) rfl)) rfl) (sSs_one (sS_ret (sE_dt sD_bool))) (sSs_nil))
        (sSs_one (sS_if (sT_cmp (od_ne (Room.u hr)) (sE_frz (sE_inU false (Room.u hr) (sE_frz (sE_tup (sA_cons (NameOk.dv ⟨rfl, (by first | exact Or.inl rfl | exact Or.inr (Or.inl rfl) | exact Or.inr (Or.inr rfl)), rfl, rfl⟩) (sA_cons (NameOk.dv ⟨rfl, (by first | exact Or.inl rfl | exact Or.inr (Or.inl rfl) | exact Or.inr (Or.inr rfl)), rfl, rfl⟩) (sA_nil) (fun _ _ => rfl)) (fun _ _ => rfl)))) (sE_fld ⟨rfl, (by first | exact Or.inl rfl | exact Or.inr (Or.inl rfl) | exact Or.inr (Or.inr rfl)), rfl, rfl⟩ X_Maps_there rfl) rfl)) (sE_frz (sE_inU false (Room.u hr) (sE_frz (sE_tup (sA_cons (NameOk.dv ⟨rfl, (by first | exact Or.inl rfl | exact Or.inr (Or.inl rfl) | exact Or.inr (Or.inr rfl)), rfl, rfl⟩) (sA_cons (NameOk.dv ⟨rfl, (by first | exact Or.inl rfl | exact Or.inr (Or.inl rfl) | exact Or.inr (Or.inr rfl)), rfl, rfl⟩) (sA_nil) (fun _ _ => rfl)) (fun _ _ => rfl)))) (sE_fld ⟨rfl, (by first | exact Or.inl rfl | exact Or.inr (Or.inl rfl) | exact Or.inr (Or.inr rfl)), rfl, rfl⟩ X_Maps_mates rfl) rfl)) rfl) (sSs_one (sS_ret (sE_dt sD_bool))) (sSs_nil)))) (fun _ => rfl))
        (sSs_one (sS_ret (sE_dt sD_bool))))

theorem d_Maps_found {P : Program} {w : World} {K : PySem.W.Frag} {mg : Str → Option Value} {base : Heap} {T : List Addr} {ex : Str → Option Addr}  {cl f : Addr} {fd : FuncData} {cdv : Value} (Bl : Blt mg) (F_Maps_fits : MtS P w K mg base T ex 1 "Maps" "fits" 3 f_Maps_fits) (X_Maps_most : FldOk K ex "Maps" "most") (X_Maps_halls : FldOk K ex "Maps" "halls")
    (F : FunC K "found" "Maps.found" (defArgs (clsAt (top 12) 2)) (defBody (clsAt (top 12) 2)) (defScope (clsAt (top 12) 2)) f fd cdv) (h1 : ex "Maps" = some cl) (h2 : Cls K cl) (h3 : Meth K cl "found" f) : MtS P w K mg base T ex 2 "Maps" "found" 1 f_Maps_found := by
  have nd : (["self", "done", "here", "row", "fine", "hall"] : List Str).Nodup := by decide
  refine MtS.mk' (N := ["self", "done", "here", "row", "fine", "hall"]) (ps := ["self"]) (ow := [0]) (k := 1) (mb := b_Maps_found) F h1 h2 h3 ⟨rfl, rfl, rfl, nd, rfl, by decide, by decide⟩ rfl (by decide) (fun _ _ _ _ _ _ us hl => match us, hl with | [_], _ => rfl) fun A outer s H E C hr hT hE hk => ?_
  subst hT hE
  have hcm : (fnX P w K mg base ["self", "done", "here", "row", "fine", "hall"] "Maps.found" (defScope (clsAt (top 12) 2)) f cdv A outer s H E).calm = true := rfl
  exact sSs_cons (sS_par hcm ⟨nd, rfl, (by first | exact Or.inl rfl | exact Or.inr rfl), (by first | exact Or.inr rfl | exact Or.inl rfl), hk 1 rfl⟩ ⟨nd, rfl, (by first | exact Or.inl rfl | exact Or.inr rfl), (by first | exact Or.inr rfl | exact Or.inl rfl), hk 2 rfl⟩ (by decide) rfl rfl (sE_lst (sA_nil)) (fun _ => sE_lst (sA_cons (sE_frz (sE_tup (sA_nil))) (sA_nil) (fun _ _ => rfl))) (fun _ _ => rfl) (fun _ _ => rfl) rfl rfl)
        (sSs_cons (sS_while fnX_passes (PW.pt (sW_and (NameOk.tru ⟨rfl, (by first | exact Or.inl rfl | exact Or.inr (Or.inl rfl) | exact Or.inr (Or.inr rfl)), rfl, rfl⟩ (fun _ => rfl)) (sW_one (sT_cmp (od_lt (Room.u hr)) (sE_frz (NameOk.len ⟨rfl, (by first | exact Or.inl rfl | exact Or.inr (Or.inl rfl) | exact Or.inr (Or.inr rfl)), rfl, rfl⟩ rfl Bl.len)) (sE_fld ⟨rfl, (by first | exact Or.inl rfl | exact Or.inr (Or.inl rfl) | exact Or.inr (Or.inr rfl)), rfl, rfl⟩ X_Maps_most rfl) rfl)))) (sSs_cons (LocOk.set ⟨nd, rfl, (by first | exact Or.inl rfl | exact Or.inr rfl), (by first | exact Or.inr rfl | exact Or.inl rfl), hk 3 rfl⟩ (sE_dt (sE_frz (sE_pop ⟨rfl, (by first | exact Or.inl rfl | exact Or.inr (Or.inl rfl) | exact Or.inr (Or.inr rfl)), rfl, rfl⟩ ⟨rfl, rfl⟩))) rfl)
        (sSs_one (sS_if (sT_cmp (od_eq (Room.u hr)) (sE_frz (NameOk.len ⟨rfl, (by first | exact Or.inl rfl | exact Or.inr (Or.inl rfl) | exact Or.inr (Or.inr rfl)), rfl, rfl⟩ rfl Bl.len)) (sE_fld ⟨rfl, (by first | exact Or.inl rfl | exact Or.inr (Or.inl rfl) | exact Or.inr (Or.inr rfl)), rfl, rfl⟩ X_Maps_halls rfl) rfl) (sSs_one (sS_expr (sE_append ⟨rfl, (by first | exact Or.inl rfl | exact Or.inr (Or.inl rfl) | exact Or.inr (Or.inr rfl)), rfl, rfl⟩ ⟨rfl, rfl⟩ (fun _ _ => rfl) (NameOk.dv ⟨rfl, (by first | exact Or.inl rfl | exact Or.inr (Or.inl rfl) | exact Or.inr (Or.inr rfl)), rfl, rfl⟩)) rfl)) (sSs_cons (sS_setLcD (own := [("hall", 5)]) hcm nd rfl rfl (hk 4 rfl) rfl (sI_range1 rfl Bl.range (sE_fld ⟨rfl, (by first | exact Or.inl rfl | exact Or.inr (Or.inl rfl) | exact Or.inr (Or.inr rfl)), rfl, rfl⟩ X_Maps_halls rfl) (fun _ _ => rfl)) (blkOk_by rfl) ⟨fun _ _ _ _ _ _ => sG_name ⟨nd, rfl, (by first | exact Or.inl rfl | exact Or.inr rfl), (by first | exact Or.inr rfl | exact Or.inl rfl), hk 5 rfl⟩ (by decide), fun _ _ _ _ _ _ => sTs_one (PW.pt (sW_and (sT_cmp (od_notIn (Room.u hr)) (NameOk.dv ⟨rfl, (by first | exact Or.inl rfl | exact Or.inr (Or.inl rfl) | exact Or.inr (Or.inr rfl)), rfl, rfl⟩) (NameOk.dv ⟨rfl, (by first | exact Or.inl rfl | exact Or.inr (Or.inl rfl) | exact Or.inr (Or.inr rfl)), rfl, rfl⟩) rfl) (sW_one (sT_tru (sE_meth (F_Maps_fits.mono (by decide)) hr ⟨rfl, (by first | exact Or.inl rfl | exact Or.inr (Or.inl rfl) | exact Or.inr (Or.inr rfl)), rfl, rfl⟩ takesB (by simp [agNd, posOf]) rfl (sAg_d (NameOk.dv ⟨rfl, (by first | exact Or.inl rfl | exact Or.inr (Or.inl rfl) | exact Or.inr (Or.inr rfl)), rfl, rfl⟩) (sAg_d (NameOk.dv ⟨rfl, (by first | exact Or.inl rfl | exact Or.inr (Or.inl rfl) | exact Or.inr (Or.inr rfl)), rfl, rfl⟩) (sAg_nil) (fun _ _ => rfl)) (fun _ _ => rfl)) (fun _ _ => rfl) rfl rfl) (fun _ => rfl))))), fun _ _ _ _ _ _ => NameOk.dv ⟨rfl, (by first | exact Or.inl rfl | exact Or.inr (Or.inl rfl) | exact Or.inr (Or.inr rfl)), rfl, rfl⟩⟩ (gok_n) (by intro i hi; exact hk i (by revert i; decide)) (fun _ => rfl))
        (sSs_one (sS_expr (sE_extend ⟨rfl, (by first | exact Or.inl rfl | exact Or.inr (Or.inl rfl) | exact Or.inr (Or.inr rfl)), rfl, rfl⟩ ⟨rfl, rfl⟩ (fun _ _ => rfl) (sE_frz (sE_lc (own := [("hall", 5)]) hcm nd (sI_seq (sE_frz (sE_revL (NameOk.dv ⟨rfl, (by first | exact Or.inl rfl | exact Or.inr (Or.inl rfl) | exact Or.inr (Or.inr rfl)), rfl, rfl⟩)))) (blkOk_by rfl) ⟨fun _ _ _ _ _ _ => sG_name ⟨nd, rfl, (by first | exact Or.inl rfl | exact Or.inr rfl), (by first | exact Or.inr rfl | exact Or.inl rfl), hk 5 rfl⟩ (by decide), fun _ _ _ _ _ _ => sTs_nil, fun _ _ _ _ _ _ => sE_frz (sE_bin od_add (NameOk.dv ⟨rfl, (by first | exact Or.inl rfl | exact Or.inr (Or.inl rfl) | exact Or.inr (Or.inr rfl)), rfl, rfl⟩) (sE_frz (sE_tup (sA_cons (NameOk.dv ⟨rfl, (by first | exact Or.inl rfl | exact Or.inr (Or.inl rfl) | exact Or.inr (Or.inr rfl)), rfl, rfl⟩) (sA_nil) (fun _ _ => rfl)))))⟩ (gok_n) (by intro i hi; exact hk i (by revert i; decide)) (fun _ => rfl)))) rfl)))))))
        (sSs_one (sS_ret (NameOk.move ⟨rfl, (by first | exact Or.inl rfl | exact Or.inr (Or.inl rfl) | exact Or.inr (Or.inr rfl)), rfl, rfl⟩))))

theorem d_need_two {P : Program} {w : World} {K : PySem.W.Frag} {mg : Str → Option Value} {base : Heap} {T : List Addr} {ex : Str → Option Addr}  {f : Addr} {fd : FuncData} {cdv : Value} (Bl : Blt mg) (F_need_house : FnS P w K mg base T ex 6 "need_house" 1 f_need_house)
    (F : FunC K "need_two" "need_two" (defArgs (top 14)) (defBody (top 14)) (defScope (top 14)) f fd cdv) (hx : mg "need_two" = some (.ref f)) : FnS P w K mg base T ex 7 "need_two" 2 f_need_two := by
  have nd : (["one", "other"] : List Str).Nodup := by decide
  refine FunC.fnS (N := ["one", "other"]) (ps := ["one", "other"]) (ow := []) (k := 6) (mb := b_need_two) F hx ⟨rfl, rfl, rfl, nd, rfl, by decide, by decide⟩ rfl (by decide) (fun _ _ _ _ _ _ us hl => match us, hl with | [_, _], _ => rfl) fun A outer s H E C hr hT hE hk => ?_
  subst hT hE
  have hcm : (fnX P w K mg base ["one", "other"] "need_two" (defScope (top 14)) f cdv A outer s H E).calm = true := rfl
  exact sSs_cons (sS_expr (sE_call (F_need_house.mono (by decide)) hr rfl fnX_takes (by simp [agNd, posOf]) rfl (sAg_d (NameOk.dv ⟨rfl, (by first | exact Or.inl rfl | exact Or.inr (Or.inl rfl) | exact Or.inr (Or.inr rfl)), rfl, rfl⟩) (sAg_nil) (fun _ _ => rfl)) (fun _ _ => rfl) rfl rfl) rfl)
        (sSs_one (sS_expr (sE_call (F_need_house.mono (by decide)) hr rfl fnX_takes (by simp [agNd, posOf]) rfl (sAg_d (NameOk.dv ⟨rfl, (by first | exact Or.inl rfl | exact Or.inr (Or.inl rfl) | exact Or.inr (Or.inr rfl)), rfl, rfl⟩) (sAg_nil) (fun _ _ => rfl)) (fun _ _ => rfl) rfl rfl) rfl))

theorem d_like_of {P : Program} {w : World} {K : PySem.W.Frag} {mg : Str → Option Value} {base : Heap} {T : List Addr} {ex : Str → Option Addr}  {f : Addr} {fd : FuncData} {cdv : Value} (Bl : Blt mg) (F_Maps_init : MkS P w K mg base T ex 1 "Maps" 4 f_Maps_init) (F_Maps_found : MtS P w K mg base T ex 2 "Maps" "found" 1 f_Maps_found)
    (F : FunC K "like_of" "like_of" (defArgs (top 15)) (defBody (top 15)) (defScope (top 15)) f fd cdv) (hx : mg "like_of" = some (.ref f)) : FnS P w K mg base T ex 3 "like_of" 2 f_like_of := by
  have nd : (["one", "other", "found"] : List Str).Nodup := by decide
  refine FunC.fnS (N := ["one", "other", "found"]) (ps := ["one", "other"]) (ow := []) (k := 2) (mb := b_like_of) F hx ⟨rfl, rfl, rfl, nd, rfl, by decide, by decide⟩ rfl (by decide) (fun _ _ _ _ _ _ us hl => match us, hl with | [_, _], _ => rfl) fun A outer s H E C hr hT hE hk => ?_
  subst hT hE
  have hcm : (fnX P w K mg base ["one", "other", "found"] "like_of" (defScope (top 15)) f cdv A outer s H E).calm = true := rfl
  exact sSs_cons (sS_if (PW.pt (sW_or (sT_cmp (od_ne (Room.u hr)) (sE_frz (sE_ix (NameOk.dv ⟨rfl, (by first | exact Or.inl rfl | exact Or.inr (Or.inl rfl) | exact Or.inr (Or.inr rfl)), rfl, rfl⟩) (sD_int) (fun _ _ => rfl))) (sE_frz (sE_ix (NameOk.dv ⟨rfl, (by first | exact Or.inl rfl | exact Or.inr (Or.inl rfl) | exact Or.inr (Or.inr rfl)), rfl, rfl⟩) (sD_int) (fun _ _ => rfl))) rfl) (sW_one (sT_cmp (od_ne (Room.u hr)) (sE_frz (sE_callB cr_len rfl Bl.len boot_len (sE_ix (NameOk.dv ⟨rfl, (by first | exact Or.inl rfl | exact Or.inr (Or.inl rfl) | exact Or.inr (Or.inr rfl)), rfl, rfl⟩) (sD_int) (fun _ _ => rfl)) (fun _ _ => rfl) (by decide) rfl)) (sE_frz (sE_callB cr_len rfl Bl.len boot_len (sE_ix (NameOk.dv ⟨rfl, (by first | exact Or.inl rfl | exact Or.inr (Or.inl rfl) | exact Or.inr (Or.inr rfl)), rfl, rfl⟩) (sD_int) (fun _ _ => rfl)) (fun _ _ => rfl) (by decide) rfl)) rfl)))) (sSs_one (sS_ret (sE_dt sD_none))) (sSs_nil))
        (sSs_cons (LocOk.set ⟨nd, rfl, (by first | exact Or.inl rfl | exact Or.inr rfl), (by first | exact Or.inr rfl | exact Or.inl rfl), hk 2 rfl⟩ (sE_dt (sE_frz (sE_methT (F_Maps_found.mono (by decide)) hr (sE_make (F_Maps_init.mono (by decide)) hr rfl fnX_takes (sA_cons (NameOk.dv ⟨rfl, (by first | exact Or.inl rfl | exact Or.inr (Or.inl rfl) | exact Or.inr (Or.inr rfl)), rfl, rfl⟩) (sA_cons (NameOk.dv ⟨rfl, (by first | exact Or.inl rfl | exact Or.inr (Or.inl rfl) | exact Or.inr (Or.inr rfl)), rfl, rfl⟩) (sA_cons (sD_int) (sA_nil) (fun _ _ => rfl)) (fun _ _ => rfl)) (fun _ _ => rfl)) (lenA_cons (lenA_cons (lenA_cons lenA_nil))).succ (fun _ _ => rfl) rfl rfl) fnX_takes rfl))) rfl)
        (sSs_one (sS_ret (sE_if (NameOk.tru ⟨rfl, (by first | exact Or.inl rfl | exact Or.inr (Or.inl rfl) | exact Or.inr (Or.inr rfl)), rfl, rfl⟩ (fun _ => rfl)) (sE_ix (NameOk.dv ⟨rfl, (by first | exact Or.inl rfl | exact Or.inr (Or.inl rfl) | exact Or.inr (Or.inr rfl)), rfl, rfl⟩) (sD_int) (fun _ _ => rfl)) (sE_dt sD_none)))))

theorem d_like {P : Program} {w : World} {K : PySem.W.Frag} {mg : Str → Option Value} {base : Heap} {T : List Addr} {ex : Str → Option Addr}  {f : Addr} {fd : FuncData} {cdv : Value} (Bl : Blt mg) (F_need_two : FnS P w K mg base T ex 7 "need_two" 2 f_need_two) (F_like_of : FnS P w K mg base T ex 3 "like_of" 2 f_like_of)
    (F : FunC K "like" "like" (defArgs (top 16)) (defBody (top 16)) (defScope (top 16)) f fd cdv) (hx : mg "like" = some (.ref f)) : FnS P w K mg base T ex 8 "like" 2 f_like := by
  have nd : (["one", "other"] : List Str).Nodup := by decide
  refine FunC.fnS (N := ["one", "other"]) (ps := ["one", "other"]) (ow := []) (k := 7) (mb := b_like) F hx ⟨rfl, rfl, rfl, nd, rfl, by decide, by decide⟩ rfl (by decide) (fun _ _ _ _ _ _ us hl => match us, hl with | [_, _], _ => rfl) fun A outer s H E C hr hT hE hk => ?_
  subst hT hE
  have hcm : (fnX P w K mg base ["one", "other"] "like" (defScope (top 16)) f cdv A outer s H E).calm = true := rfl
  exact sSs_cons (sS_expr (sE_call (F_need_two.mono (by decide)) hr rfl fnX_takes (by simp [agNd, posOf]) rfl (sAg_d (NameOk.dv ⟨rfl, (by first | exact Or.inl rfl | exact Or.inr (Or.inl rfl) | exact Or.inr (Or.inr rfl)), rfl, rfl⟩) (sAg_d (NameOk.dv ⟨rfl, (by first | exact Or.inl rfl | exact Or.inr (Or.inl rfl) | exact Or.inr (Or.inr rfl)), rfl, rfl⟩) (sAg_nil) (fun _ _ => rfl)) (fun _ _ => rfl)) (fun _ _ => rfl) rfl rfl) rfl)
        (sSs_one (sS_ret (sE_call (F_like_of.mono (by decide)) hr rfl fnX_takes (by simp [agNd, posOf]) rfl (sAg_d (NameOk.dv ⟨rfl, (by first | exact Or.inl rfl | exact Or.inr (Or.inl rfl) | exact Or.inr (Or.inr rfl)), rfl, rfl⟩) (sAg_d (NameOk.dv ⟨rfl, (by first | exact Or.inl rfl | exact Or.inr (Or.inl rfl) | exact Or.inr (Or.inr rfl)), rfl, rfl⟩) (sAg_nil) (fun _ _ => rfl)) (fun _ _ => rfl)) (fun _ _ => rfl) rfl rfl)))

theorem d_are_alike {P : Program} {w : World} {K : PySem.W.Frag} {mg : Str → Option Value} {base : Heap} {T : List Addr} {ex : Str → Option Addr}  {f : Addr} {fd : FuncData} {cdv : Value} (Bl : Blt mg) (F_need_two : FnS P w K mg base T ex 7 "need_two" 2 f_need_two) (F_like_of : FnS P w K mg base T ex 3 "like_of" 2 f_like_of)
    (F : FunC K "are_alike" "are_alike" (defArgs (top 17)) (defBody (top 17)) (defScope (top 17)) f fd cdv) (hx : mg "are_alike" = some (.ref f)) : FnS P w K mg base T ex 8 "are_alike" 2 f_are_alike := by
  have nd : (["one", "other"] : List Str).Nodup := by decide
  refine FunC.fnS (N := ["one", "other"]) (ps := ["one", "other"]) (ow := []) (k := 7) (mb := b_are_alike) F hx ⟨rfl, rfl, rfl, nd, rfl, by decide, by decide⟩ rfl (by decide) (fun _ _ _ _ _ _ us hl => match us, hl with | [_, _], _ => rfl) fun A outer s H E C hr hT hE hk => ?_
  subst hT hE
  have hcm : (fnX P w K mg base ["one", "other"] "are_alike" (defScope (top 17)) f cdv A outer s H E).calm = true := rfl
  exact sSs_cons (sS_expr (sE_call (F_need_two.mono (by decide)) hr rfl fnX_takes (by simp [agNd, posOf]) rfl (sAg_d (NameOk.dv ⟨rfl, (by first | exact Or.inl rfl | exact Or.inr (Or.inl rfl) | exact Or.inr (Or.inr rfl)), rfl, rfl⟩) (sAg_d (NameOk.dv ⟨rfl, (by first | exact Or.inl rfl | exact Or.inr (Or.inl rfl) | exact Or.inr (Or.inr rfl)), rfl, rfl⟩) (sAg_nil) (fun _ _ => rfl)) (fun _ _ => rfl)) (fun _ _ => rfl) rfl rfl) rfl)
        (sSs_one (sS_ret (sE_cmp od_isNot (sE_frz (sE_call (F_like_of.mono (by decide)) hr rfl fnX_takes (by simp [agNd, posOf]) rfl (sAg_d (NameOk.dv ⟨rfl, (by first | exact Or.inl rfl | exact Or.inr (Or.inl rfl) | exact Or.inr (Or.inr rfl)), rfl, rfl⟩) (sAg_d (NameOk.dv ⟨rfl, (by first | exact Or.inl rfl | exact Or.inr (Or.inl rfl) | exact Or.inr (Or.inr rfl)), rfl, rfl⟩) (sAg_nil) (fun _ _ => rfl)) (fun _ _ => rfl)) (fun _ _ => rfl) rfl rfl)) (sD_none) rfl)))

theorem d_shows_like {P : Program} {w : World} {K : PySem.W.Frag} {mg : Str → Option Value} {base : Heap} {T : List Addr} {ex : Str → Option Addr}  {f : Addr} {fd : FuncData} {c p : Addr} (Bl : Blt mg) (F_need_two : FnS P w K mg base T ex 7 "need_two" 2 f_need_two) (F_like_of : FnS P w K mg base T ex 3 "like_of" 2 f_like_of) (F_is_number : FnS P w K mg base T ex 1 "is_number" 3 f_is_number) (TB : TabB base mg c p) (hp : p ∈ T)
    (F : FunC K "shows_like" "shows_like" (defArgs (top 18)) (defBody (top 18)) (defScope (top 18)) f fd (.ref c)) (hx : mg "shows_like" = some (.ref f)) : FnS P w K mg base T ex 9 "shows_like" 3 f_shows_like := by
  have nd : (["one", "other", "value", "hall", "mate"] : List Str).Nodup := by decide
  refine FunC.fnS (N := ["one", "other", "value", "hall", "mate"]) (ps := ["one", "other", "value"]) (ow := []) (k := 8) (mb := b_shows_like) F hx ⟨rfl, rfl, rfl, nd, rfl, by decide, by decide⟩ rfl (by decide) (fun _ _ _ _ _ _ us hl => match us, hl with | [_, _, _], _ => rfl) fun A outer s H E C hr hT hE hk => ?_
  subst hT hE
  have hcm : (fnX P w K mg base ["one", "other", "value", "hall", "mate"] "shows_like" (defScope (top 18)) f (.ref c) A outer s H E).calm = true := rfl
  exact sSs_cons (sS_expr (sE_call (F_need_two.mono (by decide)) hr rfl fnX_takes (by simp [agNd, posOf]) rfl (sAg_d (NameOk.dv ⟨rfl, (by first | exact Or.inl rfl | exact Or.inr (Or.inl rfl) | exact Or.inr (Or.inr rfl)), rfl, rfl⟩) (sAg_d (NameOk.dv ⟨rfl, (by first | exact Or.inl rfl | exact Or.inr (Or.inl rfl) | exact Or.inr (Or.inr rfl)), rfl, rfl⟩) (sAg_nil) (fun _ _ => rfl)) (fun _ _ => rfl)) (fun _ _ => rfl) rfl rfl) rfl)
        (sSs_cons (sS_if (sT_cmp od_is (NameOk.dv ⟨rfl, (by first | exact Or.inl rfl | exact Or.inr (Or.inl rfl) | exact Or.inr (Or.inr rfl)), rfl, rfl⟩) (sD_none) rfl) (sSs_one (sS_ret (sE_cmp od_is (sE_frz (sE_call (F_like_of.mono (by decide)) hr rfl fnX_takes (by simp [agNd, posOf]) rfl (sAg_d (NameOk.dv ⟨rfl, (by first | exact Or.inl rfl | exact Or.inr (Or.inl rfl) | exact Or.inr (Or.inr rfl)), rfl, rfl⟩) (sAg_d (NameOk.dv ⟨rfl, (by first | exact Or.inl rfl | exact Or.inr (Or.inl rfl) | exact Or.inr (Or.inr rfl)), rfl, rfl⟩) (sAg_nil) (fun _ _ => rfl)) (fun _ _ => rfl)) (fun _ _ => rfl) rfl rfl)) (sD_none) rfl))) (sSs_nil))
        (sSs_cons (sS_if (PW.pt (sW_or (sT_cmp (od_ne (Room.u hr)) (sE_frz (sE_ix (NameOk.dv ⟨rfl, (by first | exact Or.inl rfl | exact Or.inr (Or.inl rfl) | exact Or.inr (Or.inr rfl)), rfl, rfl⟩) (sD_int) (fun _ _ => rfl))) (sE_frz (sE_ix (NameOk.dv ⟨rfl, (by first | exact Or.inl rfl | exact Or.inr (Or.inl rfl) | exact Or.inr (Or.inr rfl)), rfl, rfl⟩) (sD_int) (fun _ _ => rfl))) rfl) (sW_or (sT_not (sT_tru (sE_isi rfl Bl.isinstance (NameOk.dv ⟨rfl, (by first | exact Or.inl rfl | exact Or.inr (Or.inl rfl) | exact Or.inr (Or.inr rfl)), rfl, rfl⟩) (fun _ _ => rfl) rfl Bl.tuple boot_tuple (by decide) rfl) (fun _ => rfl))) (sW_one (sT_cmp (od_ne (Room.u hr)) (sE_frz (NameOk.len ⟨rfl, (by first | exact Or.inl rfl | exact Or.inr (Or.inl rfl) | exact Or.inr (Or.inr rfl)), rfl, rfl⟩ rfl Bl.len)) (sE_frz (sE_ix (NameOk.dv ⟨rfl, (by first | exact Or.inl rfl | exact Or.inr (Or.inl rfl) | exact Or.inr (Or.inr rfl)), rfl, rfl⟩) (sD_int) (fun _ _ => rfl))) rfl))))) (sSs_one (sS_ret (sE_dt sD_bool))) (sSs_nil))
        (sSs_cons (sS_if (PW.pt (sW_or (sT_not (sT_tru (sE_all (own := [("hall", 3)]) hcm nd hr rfl Bl.all TB rfl hp (genSc_by rfl rfl rfl rfl) (sI_seq (NameOk.dv ⟨rfl, (by first | exact Or.inl rfl | exact Or.inr (Or.inl rfl) | exact Or.inr (Or.inr rfl)), rfl, rfl⟩)) ⟨fun _ _ _ _ => sG_name ⟨nd, rfl, (by first | exact Or.inl rfl | exact Or.inr rfl), (by first | exact Or.inr rfl | exact Or.inl rfl), hk 3 rfl⟩ (by decide), fun _ _ _ _ => sE_call (F_is_number.mono (by decide)) (Room.gen hr _) rfl takesB (by simp [agNd, posOf]) rfl (sAg_d (NameOk.dv ⟨rfl, (by first | exact Or.inl rfl | exact Or.inr (Or.inl rfl) | exact Or.inr (Or.inr rfl)), rfl, rfl⟩) (sAg_d (sD_int) (sAg_d (sE_frz (sE_bin od_sub (sE_frz (sE_ix (NameOk.dv ⟨rfl, (by first | exact Or.inl rfl | exact Or.inr (Or.inl rfl) | exact Or.inr (Or.inr rfl)), rfl, rfl⟩) (sD_int) (fun _ _ => rfl))) (sD_int))) (sAg_nil) (fun _ _ => rfl)) (fun _ _ => rfl)) (fun _ _ => rfl)) (fun _ _ => rfl) rfl rfl⟩ (gok_n) (by intro i hi; exact hk i (by revert i; decide)) (fun _ => rfl) rfl) (fun _ => rfl))) (sW_one (sT_cmp (od_ne (Room.u hr)) (sE_frz (sE_lenSet hcm (Room.u hr) rfl Bl.len rfl Bl.set (NameOk.dv ⟨rfl, (by first | exact Or.inl rfl | exact Or.inr (Or.inl rfl) | exact Or.inr (Or.inr rfl)), rfl, rfl⟩) (fun _ _ => rfl))) (sE_frz (NameOk.len ⟨rfl, (by first | exact Or.inl rfl | exact Or.inr (Or.inl rfl) | exact Or.inr (Or.inr rfl)), rfl, rfl⟩ rfl Bl.len)) rfl)))) (sSs_one (sS_ret (sE_dt sD_bool))) (sSs_nil))
        (sSs_one (sS_ret (sE_cmp (od_eq (Room.u hr)) (sE_frz (sE_callTy cr_tuple rfl Bl.tuple boot_tuple (sE_callB (cr_sorted (Room.u hr)) rfl Bl.sorted boot_sorted (sE_lc (own := [("hall", 3), ("mate", 4)]) hcm nd (sI_seq (sE_frz (sE_ix (NameOk.dv ⟨rfl, (by first | exact Or.inl rfl | exact Or.inr (Or.inl rfl) | exact Or.inr (Or.inr rfl)), rfl, rfl⟩) (sD_int) (fun _ _ => rfl)))) (blkOk_by rfl) ⟨fun _ _ _ _ _ _ => sG_tup hcm (sGs_cons (sG_name ⟨nd, rfl, (by first | exact Or.inl rfl | exact Or.inr rfl), (by first | exact Or.inr rfl | exact Or.inl rfl), hk 3 rfl⟩ (by decide)) (sGs_cons (sG_name ⟨nd, rfl, (by first | exact Or.inl rfl | exact Or.inr rfl), (by first | exact Or.inr rfl | exact Or.inl rfl), hk 4 rfl⟩ (by decide)) (sGs_nil) rfl) rfl) rfl rfl, fun _ _ _ _ _ _ => sTs_nil, fun _ _ _ _ _ _ => sE_frz (sE_tup (sA_cons (sE_frz (sE_ix (NameOk.dv ⟨rfl, (by first | exact Or.inl rfl | exact Or.inr (Or.inl rfl) | exact Or.inr (Or.inr rfl)), rfl, rfl⟩) (NameOk.dv ⟨rfl, (by first | exact Or.inl rfl | exact Or.inr (Or.inl rfl) | exact Or.inr (Or.inr rfl)), rfl, rfl⟩) (fun _ _ => rfl))) (sA_cons (sE_frz (sE_ix (NameOk.dv ⟨rfl, (by first | exact Or.inl rfl | exact Or.inr (Or.inl rfl) | exact Or.inr (Or.inr rfl)), rfl, rfl⟩) (NameOk.dv ⟨rfl, (by first | exact Or.inl rfl | exact Or.inr (Or.inl rfl) | exact Or.inr (Or.inr rfl)), rfl, rfl⟩) (fun _ _ => rfl))) (sA_nil) (fun _ _ => rfl)) (fun _ _ => rfl)))⟩ (gok_t (gsok_cons (gok_n) (gsok_cons (gok_n) (gsok_nil)))) (by intro i hi; exact hk i (by revert i; decide)) (fun _ => rfl)) (fun _ _ => rfl) (by decide) rfl) (fun _ _ => rfl) (by decide) rfl)) (sE_frz (sE_ix (NameOk.dv ⟨rfl, (by first | exact Or.inl rfl | exact Or.inr (Or.inl rfl) | exact Or.inr (Or.inr rfl)), rfl, rfl⟩) (sD_int) (fun _ _ => rfl))) rfl))))))

theorem d__law_taken {P : Program} {w : World} {K : PySem.W.Frag} {mg : Str → Option Value} {base : Heap} {T : List Addr} {ex : Str → Option Addr}  {f : Addr} {fd : FuncData} {cdv : Value} (Bl : Blt mg) 
    (F : FunC K "_law_taken" "_law_taken" (defArgs (top 20)) (defBody (top 20)) (defScope (top 20)) f fd cdv) (hx : mg "_law_taken" = some (.ref f)) : FnS P w K mg base T ex 1 "_law_taken" 2 f__law_taken := by
  have nd : (["_law_row", "_law_many", "_law_cell", "_law_found"] : List Str).Nodup := by decide
  refine FunC.fnS (N := ["_law_row", "_law_many", "_law_cell", "_law_found"]) (ps := ["_law_row", "_law_many"]) (ow := [0]) (k := 0) (mb := b__law_taken) F hx ⟨rfl, rfl, rfl, nd, rfl, by decide, by decide⟩ rfl (by decide) (fun _ _ _ _ _ _ us hl => match us, hl with | [_, _], _ => rfl) fun A outer s H E C hr hT hE hk => ?_
  subst hT hE
  have hcm : (fnX P w K mg base ["_law_row", "_law_many", "_law_cell", "_law_found"] "_law_taken" (defScope (top 20)) f cdv A outer s H E).calm = true := rfl
  exact sSs_cons (sS_if (sT_cmp (od_gt (Room.u hr)) (sE_frz (sE_ixL ⟨rfl, (by first | exact Or.inl rfl | exact Or.inr (Or.inl rfl) | exact Or.inr (Or.inr rfl)), rfl, rfl⟩ (sD_int) (fun _ _ => rfl))) (sD_int) rfl) (sSs_cons (LocOk.set ⟨nd, rfl, (by first | exact Or.inl rfl | exact Or.inr rfl), (by first | exact Or.inr rfl | exact Or.inl rfl), hk 3 rfl⟩ (sE_dt (sE_frz (sE_bin od_mod (sE_frz (sE_callTy cr_int rfl Bl.int boot_int (sE_ixL ⟨rfl, (by first | exact Or.inl rfl | exact Or.inr (Or.inl rfl) | exact Or.inr (Or.inr rfl)), rfl, rfl⟩ (sD_int) (fun _ _ => rfl)) (fun _ _ => rfl) (by decide) rfl)) (NameOk.dv ⟨rfl, (by first | exact Or.inl rfl | exact Or.inr (Or.inl rfl) | exact Or.inr (Or.inr rfl)), rfl, rfl⟩)))) rfl)
        (sSs_cons (sS_setL ⟨rfl, (by first | exact Or.inl rfl | exact Or.inr (Or.inl rfl) | exact Or.inr (Or.inr rfl)), rfl, rfl⟩ (sD_int) (sE_frz (sE_bin od_fdiv (sE_frz (sE_ixL ⟨rfl, (by first | exact Or.inl rfl | exact Or.inr (Or.inl rfl) | exact Or.inr (Or.inr rfl)), rfl, rfl⟩ (sD_int) (fun _ _ => rfl))) (NameOk.dv ⟨rfl, (by first | exact Or.inl rfl | exact Or.inr (Or.inl rfl) | exact Or.inr (Or.inr rfl)), rfl, rfl⟩))) (fun _ => rfl) rfl rfl)
        (sSs_one (sS_ret (NameOk.var ⟨rfl, (by first | exact Or.inl rfl | exact Or.inr (Or.inl rfl) | exact Or.inr (Or.inr rfl)), rfl, rfl⟩))))) (sSs_nil))
        (sSs_cons (sS_setL ⟨rfl, (by first | exact Or.inl rfl | exact Or.inr (Or.inl rfl) | exact Or.inr (Or.inr rfl)), rfl, rfl⟩ (sD_int) (sE_frz (sE_bin od_add (sE_frz (sE_ixL ⟨rfl, (by first | exact Or.inl rfl | exact Or.inr (Or.inl rfl) | exact Or.inr (Or.inr rfl)), rfl, rfl⟩ (sD_int) (fun _ _ => rfl))) (sD_int))) (fun _ => rfl) rfl rfl)
        (sSs_cons (sS_if (sT_cmp (od_gt (Room.u hr)) (sE_frz (sE_ixL ⟨rfl, (by first | exact Or.inl rfl | exact Or.inr (Or.inl rfl) | exact Or.inr (Or.inr rfl)), rfl, rfl⟩ (sD_int) (fun _ _ => rfl))) (sE_frz (sE_callB cr_len rfl Bl.len boot_len (sE_ixL ⟨rfl, (by first | exact Or.inl rfl | exact Or.inr (Or.inl rfl) | exact Or.inr (Or.inr rfl)), rfl, rfl⟩ (sD_int) (fun _ _ => rfl)) (fun _ _ => rfl) (by decide) rfl)) rfl) (sSs_cons (sS_setL ⟨rfl, (by first | exact Or.inl rfl | exact Or.inr (Or.inl rfl) | exact Or.inr (Or.inr rfl)), rfl, rfl⟩ (sD_int) (sE_frz (sE_bin od_mod (sE_frz (sE_callTy cr_int rfl Bl.int boot_int (sE_bin od_add (sE_frz (sE_bin od_mul (sE_frz (sE_ixL ⟨rfl, (by first | exact Or.inl rfl | exact Or.inr (Or.inl rfl) | exact Or.inr (Or.inr rfl)), rfl, rfl⟩ (sD_int) (fun _ _ => rfl))) (sD_int))) (sD_int)) (fun _ _ => rfl) (by decide) rfl)) (sD_int))) (fun _ => rfl) rfl rfl)
        (sSs_one (sS_ret (sE_bin od_mod (sE_frz (sE_callTy cr_int rfl Bl.int boot_int (sE_bin od_fdiv (sE_frz (sE_ixL ⟨rfl, (by first | exact Or.inl rfl | exact Or.inr (Or.inl rfl) | exact Or.inr (Or.inr rfl)), rfl, rfl⟩ (sD_int) (fun _ _ => rfl))) (sD_int)) (fun _ _ => rfl) (by decide) rfl)) (NameOk.dv ⟨rfl, (by first | exact Or.inl rfl | exact Or.inr (Or.inl rfl) | exact Or.inr (Or.inr rfl)), rfl, rfl⟩))))) (sSs_nil))
        (sSs_cons (LocOk.set ⟨nd, rfl, (by first | exact Or.inl rfl | exact Or.inr rfl), (by first | exact Or.inr rfl | exact Or.inl rfl), hk 2 rfl⟩ (sE_dt (sE_frz (sE_ix (sE_frz (sE_ixL ⟨rfl, (by first | exact Or.inl rfl | exact Or.inr (Or.inl rfl) | exact Or.inr (Or.inr rfl)), rfl, rfl⟩ (sD_int) (fun _ _ => rfl))) (sE_frz (sE_bin od_sub (sE_frz (sE_ixL ⟨rfl, (by first | exact Or.inl rfl | exact Or.inr (Or.inl rfl) | exact Or.inr (Or.inr rfl)), rfl, rfl⟩ (sD_int) (fun _ _ => rfl))) (sD_int))) (fun _ _ => rfl)))) rfl)
        (sSs_cons (sS_setL ⟨rfl, (by first | exact Or.inl rfl | exact Or.inr (Or.inl rfl) | exact Or.inr (Or.inr rfl)), rfl, rfl⟩ (sD_int) (sE_frz (sE_bin od_mod (sE_frz (sE_callTy cr_int rfl Bl.int boot_int (sE_bin od_add (sE_frz (sE_bin od_add (sE_frz (sE_bin od_mul (sE_frz (sE_ixL ⟨rfl, (by first | exact Or.inl rfl | exact Or.inr (Or.inl rfl) | exact Or.inr (Or.inr rfl)), rfl, rfl⟩ (sD_int) (fun _ _ => rfl))) (sD_int))) (NameOk.dv ⟨rfl, (by first | exact Or.inl rfl | exact Or.inr (Or.inl rfl) | exact Or.inr (Or.inr rfl)), rfl, rfl⟩))) (sD_int)) (fun _ _ => rfl) (by decide) rfl)) (sD_int))) (fun _ => rfl) rfl rfl)
        (sSs_cons (sS_if (sT_cmp (od_ge (Room.u hr)) (NameOk.dv ⟨rfl, (by first | exact Or.inl rfl | exact Or.inr (Or.inl rfl) | exact Or.inr (Or.inr rfl)), rfl, rfl⟩) (sE_frz (sE_bin od_pow (sD_int) (sD_int))) rfl) (sSs_one (sS_setL ⟨rfl, (by first | exact Or.inl rfl | exact Or.inr (Or.inl rfl) | exact Or.inr (Or.inr rfl)), rfl, rfl⟩ (sD_int) (sE_frz (sE_bin od_fdiv (NameOk.dv ⟨rfl, (by first | exact Or.inl rfl | exact Or.inr (Or.inl rfl) | exact Or.inr (Or.inr rfl)), rfl, rfl⟩) (NameOk.dv ⟨rfl, (by first | exact Or.inl rfl | exact Or.inr (Or.inl rfl) | exact Or.inr (Or.inr rfl)), rfl, rfl⟩))) (fun _ => rfl) rfl rfl)) (sSs_nil))
        (sSs_one (sS_ret (sE_bin od_mod (sE_frz (sE_callTy cr_int rfl Bl.int boot_int (NameOk.var ⟨rfl, (by first | exact Or.inl rfl | exact Or.inr (Or.inl rfl) | exact Or.inr (Or.inr rfl)), rfl, rfl⟩) (fun _ _ => rfl) (by decide) rfl)) (NameOk.dv ⟨rfl, (by first | exact Or.inl rfl | exact Or.inr (Or.inl rfl) | exact Or.inr (Or.inr rfl)), rfl, rfl⟩)))))))))

theorem d__law_pick {P : Program} {w : World} {K : PySem.W.Frag} {mg : Str → Option Value} {base : Heap} {T : List Addr} {ex : Str → Option Addr}  {f : Addr} {fd : FuncData} {cdv : Value} (Bl : Blt mg) (F__law_taken : FnS P w K mg base T ex 1 "_law_taken" 2 f__law_taken)
    (F : FunC K "_law_pick" "_law_pick" (defArgs (top 21)) (defBody (top 21)) (defScope (top 21)) f fd cdv) (hx : mg "_law_pick" = some (.ref f)) : FnS P w K mg base T ex 2 "_law_pick" 2 f__law_pick := by
  have nd : (["_law_row", "_law_things"] : List Str).Nodup := by decide
  refine FunC.fnS (N := ["_law_row", "_law_things"]) (ps := ["_law_row", "_law_things"]) (ow := [0]) (k := 1) (mb := b__law_pick) F hx ⟨rfl, rfl, rfl, nd, rfl, by decide, by decide⟩ rfl (by decide) (fun _ _ _ _ _ _ us hl => match us, hl with | [_, _], _ => rfl) fun A outer s H E C hr hT hE hk => ?_
  subst hT hE
  have hcm : (fnX P w K mg base ["_law_row", "_law_things"] "_law_pick" (defScope (top 21)) f cdv A outer s H E).calm = true := rfl
  exact sSs_one (sS_ret (sE_ix (NameOk.dv ⟨rfl, (by first | exact Or.inl rfl | exact Or.inr (Or.inl rfl) | exact Or.inr (Or.inr rfl)), rfl, rfl⟩) (sE_frz (sE_call (F__law_taken.mono (by decide)) hr rfl fnX_takes (by simp [agNd, posOf]) rfl (sAg_s ⟨rfl, (by first | exact Or.inl rfl | exact Or.inr (Or.inl rfl) | exact Or.inr (Or.inr rfl)), rfl, rfl⟩ (sAg_d (sE_frz (NameOk.len ⟨rfl, (by first | exact Or.inl rfl | exact Or.inr (Or.inl rfl) | exact Or.inr (Or.inr rfl)), rfl, rfl⟩ rfl Bl.len)) (sAg_nil) (fun _ _ => rfl))) (fun _ _ => rfl) rfl rfl)) (fun _ _ => rfl)))

theorem e__law_alike {P : Program} {w : World} {K : PySem.W.Frag} {mg : Str → Option Value} {base : Heap} {T : List Addr} {ex : Str → Option Addr}  {f : Addr} {fd : FuncData} {cdv : Value} (Bl : Blt mg) 
    (F : FunC K "_law_alike" "_law_alike" (defArgs (top 22)) (defBody (top 22)) (defScope (top 22)) f fd cdv) (hx : mg "_law_alike" = some (.ref f)) : ∀ n, FnS P w K mg base T ex (n + 0 + 1) "_law_alike" 2 (r__law_alike n) := by
  have nd : (["_law_found", "_law_due", "_law_k"] : List Str).Nodup := by decide
  intro n
  induction n with
  | zero =>
    refine FunC.fnS (N := ["_law_found", "_law_due", "_law_k"]) (ps := ["_law_found", "_law_due"]) (ow := []) (k := 0 + 0) (mb := mNo) F hx ⟨rfl, rfl, rfl, nd, rfl, by decide, by decide⟩ rfl (by decide) (fun _ _ _ _ _ _ us hl => match us, hl with | [_, _], _ => rfl) fun A outer s H E C hr hT hE hk => ?_
    exact sSs_never
  | succ n F__law_alike =>
    refine FunC.fnS (N := ["_law_found", "_law_due", "_law_k"]) (ps := ["_law_found", "_law_due"]) (ow := []) (k := n + 1 + 0) (mb := b__law_alike (r__law_alike n)) F hx ⟨rfl, rfl, rfl, nd, rfl, by decide, by decide⟩ rfl (by decide) (fun _ _ _ _ _ _ us hl => match us, hl with | [_, _], _ => rfl) fun A outer s H E C hr hT hE hk => ?_
    subst hT hE
    have hcm : (fnX P w K mg base ["_law_found", "_law_due", "_law_k"] "_law_alike" (defScope (top 22)) f cdv A outer s H E).calm = true := rfl
    exact sSs_cons (sS_if (sT_tru (sE_isi2 rfl Bl.isinstance (NameOk.dv ⟨rfl, (by first | exact Or.inl rfl | exact Or.inr (Or.inl rfl) | exact Or.inr (Or.inr rfl)), rfl, rfl⟩) (fun _ _ => rfl) rfl Bl.tuple boot_tuple (by decide) rfl rfl Bl.list boot_list (by decide) rfl) (fun _ => rfl)) (sSs_cons (sS_if (PW.pt (sW_or (sT_not (sT_tru (sE_isi2 rfl Bl.isinstance (NameOk.dv ⟨rfl, (by first | exact Or.inl rfl | exact Or.inr (Or.inl rfl) | exact Or.inr (Or.inr rfl)), rfl, rfl⟩) (fun _ _ => rfl) rfl Bl.tuple boot_tuple (by decide) rfl rfl Bl.list boot_list (by decide) rfl) (fun _ => rfl))) (sW_one (sT_cmp (od_ne (Room.u hr)) (sE_frz (sE_isi rfl Bl.isinstance (NameOk.dv ⟨rfl, (by first | exact Or.inl rfl | exact Or.inr (Or.inl rfl) | exact Or.inr (Or.inr rfl)), rfl, rfl⟩) (fun _ _ => rfl) rfl Bl.list boot_list (by decide) rfl)) (sE_frz (sE_isi rfl Bl.isinstance (NameOk.dv ⟨rfl, (by first | exact Or.inl rfl | exact Or.inr (Or.inl rfl) | exact Or.inr (Or.inr rfl)), rfl, rfl⟩) (fun _ _ => rfl) rfl Bl.list boot_list (by decide) rfl)) rfl)))) (sSs_one (sS_ret (sE_dt sD_bool))) (sSs_nil))
        (sSs_cons (sS_if (sT_cmp (od_ne (Room.u hr)) (sE_frz (NameOk.len ⟨rfl, (by first | exact Or.inl rfl | exact Or.inr (Or.inl rfl) | exact Or.inr (Or.inr rfl)), rfl, rfl⟩ rfl Bl.len)) (sE_frz (NameOk.len ⟨rfl, (by first | exact Or.inl rfl | exact Or.inr (Or.inl rfl) | exact Or.inr (Or.inr rfl)), rfl, rfl⟩ rfl Bl.len)) rfl) (sSs_one (sS_ret (sE_dt sD_bool))) (sSs_nil))
        (sSs_one (sS_ret (sE_cmp (od_eq (Room.u hr)) (sE_frz (sE_lc (own := [("_law_k", 2)]) hcm nd (sI_range1 rfl Bl.range (sE_frz (NameOk.len ⟨rfl, (by first | exact Or.inl rfl | exact Or.inr (Or.inl rfl) | exact Or.inr (Or.inr rfl)), rfl, rfl⟩ rfl Bl.len)) (fun _ _ => rfl)) (blkOk_by rfl) ⟨fun _ _ _ _ _ _ => sG_name ⟨nd, rfl, (by first | exact Or.inl rfl | exact Or.inr rfl), (by first | exact Or.inr rfl | exact Or.inl rfl), hk 2 rfl⟩ (by decide), fun _ _ _ _ _ _ => sTs_one (sT_not (sT_tru (sE_call (F__law_alike.mono (by omega)) hr rfl takesB (by simp [agNd, posOf]) rfl (sAg_d (sE_frz (sE_ix (NameOk.dv ⟨rfl, (by first | exact Or.inl rfl | exact Or.inr (Or.inl rfl) | exact Or.inr (Or.inr rfl)), rfl, rfl⟩) (NameOk.dv ⟨rfl, (by first | exact Or.inl rfl | exact Or.inr (Or.inl rfl) | exact Or.inr (Or.inr rfl)), rfl, rfl⟩) (fun _ _ => rfl))) (sAg_d (sE_frz (sE_ix (NameOk.dv ⟨rfl, (by first | exact Or.inl rfl | exact Or.inr (Or.inl rfl) | exact Or.inr (Or.inr rfl)), rfl, rfl⟩) (NameOk.dv ⟨rfl, (by first | exact Or.inl rfl | exact Or.inr (Or.inl rfl) | exact Or.inr (Or.inr rfl)), rfl, rfl⟩) (fun _ _ => rfl))) (sAg_nil) (fun _ _ => rfl)) (fun _ _ => rfl)) (fun _ _ => rfl) rfl rfl) (fun _ => rfl))), fun _ _ _ _ _ _ => NameOk.dv ⟨rfl, (by first | exact Or.inl rfl | exact Or.inr (Or.inl rfl) | exact Or.inr (Or.inr rfl)), rfl, rfl⟩⟩ (gok_n) (by intro i hi; exact hk i (by revert i; decide)) (fun _ => rfl))) (sE_frz (sE_lst (sA_nil))) rfl))))) (sSs_nil))
        (sSs_cons (sS_if (PW.pt (sW_or (sT_cmp od_is (NameOk.dv ⟨rfl, (by first | exact Or.inl rfl | exact Or.inr (Or.inl rfl) | exact Or.inr (Or.inr rfl)), rfl, rfl⟩) (sD_none) rfl) (sW_one (sT_tru (sE_isi rfl Bl.isinstance (NameOk.dv ⟨rfl, (by first | exact Or.inl rfl | exact Or.inr (Or.inl rfl) | exact Or.inr (Or.inr rfl)), rfl, rfl⟩) (fun _ _ => rfl) rfl Bl.str boot_str (by decide) rfl) (fun _ => rfl))))) (sSs_one (sS_ret (sE_and (sE_cmp (od_eq (Room.u hr)) (NameOk.dv ⟨rfl, (by first | exact Or.inl rfl | exact Or.inr (Or.inl rfl) | exact Or.inr (Or.inr rfl)), rfl, rfl⟩) (NameOk.dv ⟨rfl, (by first | exact Or.inl rfl | exact Or.inr (Or.inl rfl) | exact Or.inr (Or.inr rfl)), rfl, rfl⟩) rfl) (sE_one (sE_cmp (od_eq (Room.u hr)) (sE_frz (sE_isi rfl Bl.isinstance (NameOk.dv ⟨rfl, (by first | exact Or.inl rfl | exact Or.inr (Or.inl rfl) | exact Or.inr (Or.inr rfl)), rfl, rfl⟩) (fun _ _ => rfl) rfl Bl.str boot_str (by decide) rfl)) (sE_frz (sE_isi rfl Bl.isinstance (NameOk.dv ⟨rfl, (by first | exact Or.inl rfl | exact Or.inr (Or.inl rfl) | exact Or.inr (Or.inr rfl)), rfl, rfl⟩) (fun _ _ => rfl) rfl Bl.str boot_str (by decide) rfl)) rfl))))) (sSs_nil))
        (sSs_one (sS_ret (sE_and (sE_isi rfl Bl.isinstance (NameOk.dv ⟨rfl, (by first | exact Or.inl rfl | exact Or.inr (Or.inl rfl) | exact Or.inr (Or.inr rfl)), rfl, rfl⟩) (fun _ _ => rfl) rfl Bl.int boot_int (by decide) rfl) (sE_and (sE_cmp (od_eq (Room.u hr)) (sE_frz (sE_isi rfl Bl.isinstance (NameOk.dv ⟨rfl, (by first | exact Or.inl rfl | exact Or.inr (Or.inl rfl) | exact Or.inr (Or.inr rfl)), rfl, rfl⟩) (fun _ _ => rfl) rfl Bl.bool boot_bool (by decide) rfl)) (sE_frz (sE_isi rfl Bl.isinstance (NameOk.dv ⟨rfl, (by first | exact Or.inl rfl | exact Or.inr (Or.inl rfl) | exact Or.inr (Or.inr rfl)), rfl, rfl⟩) (fun _ _ => rfl) rfl Bl.bool boot_bool (by decide) rfl)) rfl) (sE_one (sE_cmp (od_eq (Room.u hr)) (NameOk.dv ⟨rfl, (by first | exact Or.inl rfl | exact Or.inr (Or.inl rfl) | exact Or.inr (Or.inr rfl)), rfl, rfl⟩) (NameOk.dv ⟨rfl, (by first | exact Or.inl rfl | exact Or.inr (Or.inl rfl) | exact Or.inr (Or.inr rfl)), rfl, rfl⟩) rfl)))))))
theorem d__law_alike {P : Program} {w : World} {K : PySem.W.Frag} {mg : Str → Option Value} {base : Heap} {T : List Addr} {ex : Str → Option Addr}  {f : Addr} {fd : FuncData} {cdv : Value} (Bl : Blt mg) 
    (F : FunC K "_law_alike" "_law_alike" (defArgs (top 22)) (defBody (top 22)) (defScope (top 22)) f fd cdv) (hx : mg "_law_alike" = some (.ref f)) : FnS P w K mg base T ex 9 "_law_alike" 2 f__law_alike := e__law_alike Bl  F hx 8

theorem d__law_circle {P : Program} {w : World} {K : PySem.W.Frag} {mg : Str → Option Value} {base : Heap} {T : List Addr} {ex : Str → Option Addr}  {f : Addr} {fd : FuncData} {cdv : Value} (Bl : Blt mg) 
    (F : FunC K "_law_circle" "_law_circle" (defArgs (top 23)) (defBody (top 23)) (defScope (top 23)) f fd cdv) (hx : mg "_law_circle" = some (.ref f)) : FnS P w K mg base T ex 1 "_law_circle" 2 f__law_circle := by
  have nd : (["_law_halls", "_law_steps", "_law_found", "_law_hall", "_law_step"] : List Str).Nodup := by decide
  refine FunC.fnS (N := ["_law_halls", "_law_steps", "_law_found", "_law_hall", "_law_step"]) (ps := ["_law_halls", "_law_steps"]) (ow := []) (k := 0) (mb := b__law_circle) F hx ⟨rfl, rfl, rfl, nd, rfl, by decide, by decide⟩ rfl (by decide) (fun _ _ _ _ _ _ us hl => match us, hl with | [_, _], _ => rfl) fun A outer s H E C hr hT hE hk => ?_
  subst hT hE
  have hcm : (fnX P w K mg base ["_law_halls", "_law_steps", "_law_found", "_law_hall", "_law_step"] "_law_circle" (defScope (top 23)) f cdv A outer s H E).calm = true := rfl
  exact sSs_cons (LocOk.set ⟨nd, rfl, (by first | exact Or.inl rfl | exact Or.inr rfl), (by first | exact Or.inr rfl | exact Or.inl rfl), hk 2 rfl⟩ (sE_dt (sE_frz (sE_lst (sA_nil)))) rfl)
        (sSs_cons (sS_for (vs := [3]) fnX_passes hcm (sI_range1 rfl Bl.range (NameOk.dv ⟨rfl, (by first | exact Or.inl rfl | exact Or.inr (Or.inl rfl) | exact Or.inr (Or.inr rfl)), rfl, rfl⟩) (fun _ _ => rfl)) (sG_name ⟨nd, rfl, (by first | exact Or.inl rfl | exact Or.inr rfl), (by first | exact Or.inr rfl | exact Or.inl rfl), hk 3 rfl⟩ (by decide)) (gok_n) (sSs_one (LocOk.set ⟨nd, rfl, (by first | exact Or.inl rfl | exact Or.inr rfl), (by first | exact Or.inr rfl | exact Or.inl rfl), hk 2 rfl⟩ (sE_dt (sE_frz (sE_bin od_add (NameOk.dv ⟨rfl, (by first | exact Or.inl rfl | exact Or.inr (Or.inl rfl) | exact Or.inr (Or.inr rfl)), rfl, rfl⟩) (sE_frz (sE_lc (own := [("_law_step", 4)]) hcm nd (sI_seq (NameOk.dv ⟨rfl, (by first | exact Or.inl rfl | exact Or.inr (Or.inl rfl) | exact Or.inr (Or.inr rfl)), rfl, rfl⟩)) (blkOk_by rfl) ⟨fun _ _ _ _ _ _ => sG_name ⟨nd, rfl, (by first | exact Or.inl rfl | exact Or.inr rfl), (by first | exact Or.inr rfl | exact Or.inl rfl), hk 4 rfl⟩ (by decide), fun _ _ _ _ _ _ => sTs_one (sT_cmp (od_ne (Room.u hr)) (sE_frz (sE_bin od_mod (NameOk.dv ⟨rfl, (by first | exact Or.inl rfl | exact Or.inr (Or.inl rfl) | exact Or.inr (Or.inr rfl)), rfl, rfl⟩) (NameOk.dv ⟨rfl, (by first | exact Or.inl rfl | exact Or.inr (Or.inl rfl) | exact Or.inr (Or.inr rfl)), rfl, rfl⟩))) (sD_int) rfl), fun _ _ _ _ _ _ => sE_frz (sE_tup (sA_cons (NameOk.dv ⟨rfl, (by first | exact Or.inl rfl | exact Or.inr (Or.inl rfl) | exact Or.inr (Or.inr rfl)), rfl, rfl⟩) (sA_cons (sE_frz (sE_bin od_mod (sE_frz (sE_bin od_add (NameOk.dv ⟨rfl, (by first | exact Or.inl rfl | exact Or.inr (Or.inl rfl) | exact Or.inr (Or.inr rfl)), rfl, rfl⟩) (NameOk.dv ⟨rfl, (by first | exact Or.inl rfl | exact Or.inr (Or.inl rfl) | exact Or.inr (Or.inr rfl)), rfl, rfl⟩))) (NameOk.dv ⟨rfl, (by first | exact Or.inl rfl | exact Or.inr (Or.inl rfl) | exact Or.inr (Or.inr rfl)), rfl, rfl⟩))) (sA_nil) (fun _ _ => rfl)) (fun _ _ => rfl)))⟩ (gok_n) (by intro i hi; exact hk i (by revert i; decide)) (fun _ => rfl)))))) rfl)) (fun _ => rfl))
        (sSs_one (sS_ret (sE_tup (sA_cons (NameOk.dv ⟨rfl, (by first | exact Or.inl rfl | exact Or.inr (Or.inl rfl) | exact Or.inr (Or.inr rfl)), rfl, rfl⟩) (sA_cons (sE_frz (sE_callTy cr_tuple rfl Bl.tuple boot_tuple (sE_sset hcm (Room.u hr) rfl Bl.sorted rfl Bl.set (NameOk.dv ⟨rfl, (by first | exact Or.inl rfl | exact Or.inr (Or.inl rfl) | exact Or.inr (Or.inr rfl)), rfl, rfl⟩) (fun _ _ => rfl)) (fun _ _ => rfl) (by decide) rfl)) (sA_nil) (fun _ _ => rfl)) (fun _ _ => rfl))))))

theorem d__law_known {P : Program} {w : World} {K : PySem.W.Frag} {mg : Str → Option Value} {base : Heap} {T : List Addr} {ex : Str → Option Addr}  {f : Addr} {fd : FuncData} {cdv : Value} (Bl : Blt mg) (F__law_circle : FnS P w K mg base T ex 1 "_law_circle" 2 f__law_circle)
    (F : FunC K "_law_known" "_law_known" (defArgs (top 24)) (defBody (top 24)) (defScope (top 24)) f fd cdv) (hx : mg "_law_known" = some (.ref f)) : FnS P w K mg base T ex 2 "_law_known" 1 f__law_known := by
  have nd : (["_law_most", "_law_rows", "_law_prism", "_law_house_here"] : List Str).Nodup := by decide
  refine FunC.fnS (N := ["_law_most", "_law_rows", "_law_prism", "_law_house_here"]) (ps := ["_law_most"]) (ow := []) (k := 1) (mb := b__law_known) F hx ⟨rfl, rfl, rfl, nd, rfl, by decide, by decide⟩ rfl (by decide) (fun _ _ _ _ _ _ us hl => match us, hl with | [_], _ => rfl) fun A outer s H E C hr hT hE hk => ?_
  subst hT hE
  have hcm : (fnX P w K mg base ["_law_most", "_law_rows", "_law_prism", "_law_house_here"] "_law_known" (defScope (top 24)) f cdv A outer s H E).calm = true := rfl
  exact sSs_cons (LocOk.set ⟨nd, rfl, (by first | exact Or.inl rfl | exact Or.inr rfl), (by first | exact Or.inr rfl | exact Or.inl rfl), hk 1 rfl⟩ (sE_dt (sE_frz (sE_lst (sA_cons (sE_frz (sE_tup (sA_cons (sD_int) (sA_cons (sE_frz (sE_tup (sA_nil))) (sA_nil) (fun _ _ => rfl)) (fun _ _ => rfl)))) (sA_cons (sE_frz (sE_call (F__law_circle.mono (by decide)) hr rfl fnX_takes (by simp [agNd, posOf]) rfl (sAg_d (sD_int) (sAg_d (sE_frz (sE_lst (sA_cons (sD_int) (sA_nil) (fun _ _ => rfl)))) (sAg_nil) (fun _ _ => rfl)) (fun _ _ => rfl)) (fun _ _ => rfl) rfl rfl)) (sA_cons (sE_frz (sE_call (F__law_circle.mono (by decide)) hr rfl fnX_takes (by simp [agNd, posOf]) rfl (sAg_d (sD_int) (sAg_d (sE_frz (sE_lst (sA_cons (sD_int) (sA_nil) (fun _ _ => rfl)))) (sAg_nil) (fun _ _ => rfl)) (fun _ _ => rfl)) (fun _ _ => rfl) rfl rfl)) (sA_cons (sE_frz (sE_call (F__law_circle.mono (by decide)) hr rfl fnX_takes (by simp [agNd, posOf]) rfl (sAg_d (sD_int) (sAg_d (sE_frz (sE_lst (sA_cons (sD_int) (sA_cons (sD_int) (sA_nil) (fun _ _ => rfl)) (fun _ _ => rfl)))) (sAg_nil) (fun _ _ => rfl)) (fun _ _ => rfl)) (fun _ _ => rfl) rfl rfl)) (sA_cons (sE_frz (sE_call (F__law_circle.mono (by decide)) hr rfl fnX_takes (by simp [agNd, posOf]) rfl (sAg_d (sD_int) (sAg_d (sE_frz (sE_lst (sA_cons (sD_int) (sA_nil) (fun _ _ => rfl)))) (sAg_nil) (fun _ _ => rfl)) (fun _ _ => rfl)) (fun _ _ => rfl) rfl rfl)) (sA_nil) (fun _ _ => rfl)) (fun _ _ => rfl)) (fun _ _ => rfl)) (fun _ _ => rfl)) (fun _ _ => rfl))))) rfl)
        (sSs_cons (LocOk.set ⟨nd, rfl, (by first | exact Or.inl rfl | exact Or.inr rfl), (by first | exact Or.inr rfl | exact Or.inl rfl), hk 1 rfl⟩ (sE_dt (sE_frz (sE_bin od_add (NameOk.dv ⟨rfl, (by first | exact Or.inl rfl | exact Or.inr (Or.inl rfl) | exact Or.inr (Or.inr rfl)), rfl, rfl⟩) (sE_frz (sE_lst (sA_cons (sE_frz (sE_call (F__law_circle.mono (by decide)) hr rfl fnX_takes (by simp [agNd, posOf]) rfl (sAg_d (sD_int) (sAg_d (sE_frz (sE_lst (sA_cons (sD_int) (sA_cons (sD_int) (sA_nil) (fun _ _ => rfl)) (fun _ _ => rfl)))) (sAg_nil) (fun _ _ => rfl)) (fun _ _ => rfl)) (fun _ _ => rfl) rfl rfl)) (sA_cons (sE_frz (sE_call (F__law_circle.mono (by decide)) hr rfl fnX_takes (by simp [agNd, posOf]) rfl (sAg_d (sD_int) (sAg_d (sE_frz (sE_lst (sA_cons (sD_int) (sA_cons (sD_int) (sA_cons (sD_int) (sA_nil) (fun _ _ => rfl)) (fun _ _ => rfl)) (fun _ _ => rfl)))) (sAg_nil) (fun _ _ => rfl)) (fun _ _ => rfl)) (fun _ _ => rfl) rfl rfl)) (sA_cons (sE_frz (sE_call (F__law_circle.mono (by decide)) hr rfl fnX_takes (by simp [agNd, posOf]) rfl (sAg_d (sD_int) (sAg_d (sE_frz (sE_lst (sA_cons (sD_int) (sA_cons (sD_int) (sA_nil) (fun _ _ => rfl)) (fun _ _ => rfl)))) (sAg_nil) (fun _ _ => rfl)) (fun _ _ => rfl)) (fun _ _ => rfl) rfl rfl)) (sA_cons (sE_frz (sE_call (F__law_circle.mono (by decide)) hr rfl fnX_takes (by simp [agNd, posOf]) rfl (sAg_d (sD_int) (sAg_d (sE_frz (sE_lst (sA_cons (sD_int) (sA_cons (sD_int) (sA_nil) (fun _ _ => rfl)) (fun _ _ => rfl)))) (sAg_nil) (fun _ _ => rfl)) (fun _ _ => rfl)) (fun _ _ => rfl) rfl rfl)) (sA_nil) (fun _ _ => rfl)) (fun _ _ => rfl)) (fun _ _ => rfl)) (fun _ _ => rfl))))))) rfl)
        (sSs_cons (LocOk.set ⟨nd, rfl, (by first | exact Or.inl rfl | exact Or.inr rfl), (by first | exact Or.inr rfl | exact Or.inl rfl), hk 1 rfl⟩ (sE_dt (sE_frz (sE_bin od_add (NameOk.dv ⟨rfl, (by first | exact Or.inl rfl | exact Or.inr (Or.inl rfl) | exact Or.inr (Or.inr rfl)), rfl, rfl⟩) (sE_frz (sE_lst (sA_cons (sE_frz (sE_call (F__law_circle.mono (by decide)) hr rfl fnX_takes (by simp [agNd, posOf]) rfl (sAg_d (sD_int) (sAg_d (sE_frz (sE_lst (sA_cons (sD_int) (sA_cons (sD_int) (sA_nil) (fun _ _ => rfl)) (fun _ _ => rfl)))) (sAg_nil) (fun _ _ => rfl)) (fun _ _ => rfl)) (fun _ _ => rfl) rfl rfl)) (sA_cons (sE_frz (sE_call (F__law_circle.mono (by decide)) hr rfl fnX_takes (by simp [agNd, posOf]) rfl (sAg_d (sD_int) (sAg_d (sE_frz (sE_lst (sA_cons (sD_int) (sA_nil) (fun _ _ => rfl)))) (sAg_nil) (fun _ _ => rfl)) (fun _ _ => rfl)) (fun _ _ => rfl) rfl rfl)) (sA_cons (sE_frz (sE_call (F__law_circle.mono (by decide)) hr rfl fnX_takes (by simp [agNd, posOf]) rfl (sAg_d (sD_int) (sAg_d (sE_frz (sE_lst (sA_cons (sD_int) (sA_cons (sD_int) (sA_nil) (fun _ _ => rfl)) (fun _ _ => rfl)))) (sAg_nil) (fun _ _ => rfl)) (fun _ _ => rfl)) (fun _ _ => rfl) rfl rfl)) (sA_cons (sE_frz (sE_call (F__law_circle.mono (by decide)) hr rfl fnX_takes (by simp [agNd, posOf]) rfl (sAg_d (sD_int) (sAg_d (sE_frz (sE_lst (sA_cons (sD_int) (sA_cons (sD_int) (sA_cons (sD_int) (sA_nil) (fun _ _ => rfl)) (fun _ _ => rfl)) (fun _ _ => rfl)))) (sAg_nil) (fun _ _ => rfl)) (fun _ _ => rfl)) (fun _ _ => rfl) rfl rfl)) (sA_nil) (fun _ _ => rfl)) (fun _ _ => rfl)) (fun _ _ => rfl)) (fun _ _ => rfl))))))) rfl)
        (sSs_cons (LocOk.set ⟨nd, rfl, (by first | exact Or.inl rfl | exact Or.inr rfl), (by first | exact Or.inr rfl | exact Or.inl rfl), hk 1 rfl⟩ (sE_dt (sE_frz (sE_bin od_add (NameOk.dv ⟨rfl, (by first | exact Or.inl rfl | exact Or.inr (Or.inl rfl) | exact Or.inr (Or.inr rfl)), rfl, rfl⟩) (sE_frz (sE_lst (sA_cons (sE_frz (sE_tup (sA_cons (sD_int) (sA_cons (sE_frz (sE_tup (sA_cons (sE_frz (sE_tup (sA_cons (sD_int) (sA_cons (sD_int) (sA_nil) (fun _ _ => rfl)) (fun _ _ => rfl)))) (sA_cons (sE_frz (sE_tup (sA_cons (sD_int) (sA_cons (sD_int) (sA_nil) (fun _ _ => rfl)) (fun _ _ => rfl)))) (sA_cons (sE_frz (sE_tup (sA_cons (sD_int) (sA_cons (sD_int) (sA_nil) (fun _ _ => rfl)) (fun _ _ => rfl)))) (sA_cons (sE_frz (sE_tup (sA_cons (sD_int) (sA_cons (sD_int) (sA_nil) (fun _ _ => rfl)) (fun _ _ => rfl)))) (sA_nil) (fun _ _ => rfl)) (fun _ _ => rfl)) (fun _ _ => rfl)) (fun _ _ => rfl)))) (sA_nil) (fun _ _ => rfl)) (fun _ _ => rfl)))) (sA_cons (sE_frz (sE_tup (sA_cons (sD_int) (sA_cons (sE_frz (sE_tup (sA_cons (sE_frz (sE_tup (sA_cons (sD_int) (sA_cons (sD_int) (sA_nil) (fun _ _ => rfl)) (fun _ _ => rfl)))) (sA_cons (sE_frz (sE_tup (sA_cons (sD_int) (sA_cons (sD_int) (sA_nil) (fun _ _ => rfl)) (fun _ _ => rfl)))) (sA_cons (sE_frz (sE_tup (sA_cons (sD_int) (sA_cons (sD_int) (sA_nil) (fun _ _ => rfl)) (fun _ _ => rfl)))) (sA_cons (sE_frz (sE_tup (sA_cons (sD_int) (sA_cons (sD_int) (sA_nil) (fun _ _ => rfl)) (fun _ _ => rfl)))) (sA_cons (sE_frz (sE_tup (sA_cons (sD_int) (sA_cons (sD_int) (sA_nil) (fun _ _ => rfl)) (fun _ _ => rfl)))) (sA_nil) (fun _ _ => rfl)) (fun _ _ => rfl)) (fun _ _ => rfl)) (fun _ _ => rfl)) (fun _ _ => rfl)))) (sA_nil) (fun _ _ => rfl)) (fun _ _ => rfl)))) (sA_nil) (fun _ _ => rfl)) (fun _ _ => rfl))))))) rfl)
        (sSs_cons (LocOk.set ⟨nd, rfl, (by first | exact Or.inl rfl | exact Or.inr rfl), (by first | exact Or.inr rfl | exact Or.inl rfl), hk 2 rfl⟩ (sE_dt (sE_frz (sE_lst (sA_cons (sE_frz (sE_tup (sA_cons (sD_int) (sA_cons (sD_int) (sA_nil) (fun _ _ => rfl)) (fun _ _ => rfl)))) (sA_cons (sE_frz (sE_tup (sA_cons (sD_int) (sA_cons (sD_int) (sA_nil) (fun _ _ => rfl)) (fun _ _ => rfl)))) (sA_cons (sE_frz (sE_tup (sA_cons (sD_int) (sA_cons (sD_int) (sA_nil) (fun _ _ => rfl)) (fun _ _ => rfl)))) (sA_cons (sE_frz (sE_tup (sA_cons (sD_int) (sA_cons (sD_int) (sA_nil) (fun _ _ => rfl)) (fun _ _ => rfl)))) (sA_cons (sE_frz (sE_tup (sA_cons (sD_int) (sA_cons (sD_int) (sA_nil) (fun _ _ => rfl)) (fun _ _ => rfl)))) (sA_cons (sE_frz (sE_tup (sA_cons (sD_int) (sA_cons (sD_int) (sA_nil) (fun _ _ => rfl)) (fun _ _ => rfl)))) (sA_cons (sE_frz (sE_tup (sA_cons (sD_int) (sA_cons (sD_int) (sA_nil) (fun _ _ => rfl)) (fun _ _ => rfl)))) (sA_cons (sE_frz (sE_tup (sA_cons (sD_int) (sA_cons (sD_int) (sA_nil) (fun _ _ => rfl)) (fun _ _ => rfl)))) (sA_cons (sE_frz (sE_tup (sA_cons (sD_int) (sA_cons (sD_int) (sA_nil) (fun _ _ => rfl)) (fun _ _ => rfl)))) (sA_cons (sE_frz (sE_tup (sA_cons (sD_int) (sA_cons (sD_int) (sA_nil) (fun _ _ => rfl)) (fun _ _ => rfl)))) (sA_cons (sE_frz (sE_tup (sA_cons (sD_int) (sA_cons (sD_int) (sA_nil) (fun _ _ => rfl)) (fun _ _ => rfl)))) (sA_cons (sE_frz (sE_tup (sA_cons (sD_int) (sA_cons (sD_int) (sA_nil) (fun _ _ => rfl)) (fun _ _ => rfl)))) (sA_nil) (fun _ _ => rfl)) (fun _ _ => rfl)) (fun _ _ => rfl)) (fun _ _ => rfl)) (fun _ _ => rfl)) (fun _ _ => rfl)) (fun _ _ => rfl)) (fun _ _ => rfl)) (fun _ _ => rfl)) (fun _ _ => rfl)) (fun _ _ => rfl)) (fun _ _ => rfl))))) rfl)
        (sSs_cons (LocOk.set ⟨nd, rfl, (by first | exact Or.inl rfl | exact Or.inr rfl), (by first | exact Or.inr rfl | exact Or.inl rfl), hk 1 rfl⟩ (sE_dt (sE_frz (sE_bin od_add (NameOk.dv ⟨rfl, (by first | exact Or.inl rfl | exact Or.inr (Or.inl rfl) | exact Or.inr (Or.inr rfl)), rfl, rfl⟩) (sE_frz (sE_lst (sA_cons (sE_frz (sE_tup (sA_cons (sD_int) (sA_cons (sE_frz (sE_callTy cr_tuple rfl Bl.tuple boot_tuple (sE_callB (cr_sorted (Room.u hr)) rfl Bl.sorted boot_sorted (NameOk.var ⟨rfl, (by first | exact Or.inl rfl | exact Or.inr (Or.inl rfl) | exact Or.inr (Or.inr rfl)), rfl, rfl⟩) (fun _ _ => rfl) (by decide) rfl) (fun _ _ => rfl) (by decide) rfl)) (sA_nil) (fun _ _ => rfl)) (fun _ _ => rfl)))) (sA_cons (sE_frz (sE_tup (sA_cons (sD_int) (sA_cons (sE_frz (sE_tup (sA_cons (sE_frz (sE_tup (sA_cons (sD_int) (sA_cons (sD_int) (sA_nil) (fun _ _ => rfl)) (fun _ _ => rfl)))) (sA_cons (sE_frz (sE_tup (sA_cons (sD_int) (sA_cons (sD_int) (sA_nil) (fun _ _ => rfl)) (fun _ _ => rfl)))) (sA_cons (sE_frz (sE_tup (sA_cons (sD_int) (sA_cons (sD_int) (sA_nil) (fun _ _ => rfl)) (fun _ _ => rfl)))) (sA_cons (sE_frz (sE_tup (sA_cons (sD_int) (sA_cons (sD_int) (sA_nil) (fun _ _ => rfl)) (fun _ _ => rfl)))) (sA_cons (sE_frz (sE_tup (sA_cons (sD_int) (sA_cons (sD_int) (sA_nil) (fun _ _ => rfl)) (fun _ _ => rfl)))) (sA_cons (sE_frz (sE_tup (sA_cons (sD_int) (sA_cons (sD_int) (sA_nil) (fun _ _ => rfl)) (fun _ _ => rfl)))) (sA_nil) (fun _ _ => rfl)) (fun _ _ => rfl)) (fun _ _ => rfl)) (fun _ _ => rfl)) (fun _ _ => rfl)) (fun _ _ => rfl)))) (sA_nil) (fun _ _ => rfl)) (fun _ _ => rfl)))) (sA_nil) (fun _ _ => rfl)) (fun _ _ => rfl))))))) rfl)
        (sSs_one (sS_ret (sE_lc (own := [("_law_house_here", 3)]) hcm nd (sI_seq (NameOk.dv ⟨rfl, (by first | exact Or.inl rfl | exact Or.inr (Or.inl rfl) | exact Or.inr (Or.inr rfl)), rfl, rfl⟩)) (blkOk_by rfl) ⟨fun _ _ _ _ _ _ => sG_name ⟨nd, rfl, (by first | exact Or.inl rfl | exact Or.inr rfl), (by first | exact Or.inr rfl | exact Or.inl rfl), hk 3 rfl⟩ (by decide), fun _ _ _ _ _ _ => sTs_one (sT_cmp (od_le (Room.u hr)) (sE_frz (sE_ix (NameOk.dv ⟨rfl, (by first | exact Or.inl rfl | exact Or.inr (Or.inl rfl) | exact Or.inr (Or.inr rfl)), rfl, rfl⟩) (sD_int) (fun _ _ => rfl))) (NameOk.dv ⟨rfl, (by first | exact Or.inl rfl | exact Or.inr (Or.inl rfl) | exact Or.inr (Or.inr rfl)), rfl, rfl⟩) rfl), fun _ _ _ _ _ _ => NameOk.dv ⟨rfl, (by first | exact Or.inl rfl | exact Or.inr (Or.inl rfl) | exact Or.inr (Or.inr rfl)), rfl, rfl⟩⟩ (gok_n) (by intro i hi; exact hk i (by revert i; decide)) (fun _ => rfl)))))))))

theorem d__law_moved {P : Program} {w : World} {K : PySem.W.Frag} {mg : Str → Option Value} {base : Heap} {T : List Addr} {ex : Str → Option Addr}  {f : Addr} {fd : FuncData} {cdv : Value} (Bl : Blt mg) 
    (F : FunC K "_law_moved" "_law_moved" (defArgs (top 25)) (defBody (top 25)) (defScope (top 25)) f fd cdv) (hx : mg "_law_moved" = some (.ref f)) : FnS P w K mg base T ex 1 "_law_moved" 2 f__law_moved := by
  have nd : (["_law_house_here", "_law_turn_here", "_law_one", "_law_other"] : List Str).Nodup := by decide
  refine FunC.fnS (N := ["_law_house_here", "_law_turn_here", "_law_one", "_law_other"]) (ps := ["_law_house_here", "_law_turn_here"]) (ow := []) (k := 0) (mb := b__law_moved) F hx ⟨rfl, rfl, rfl, nd, rfl, by decide, by decide⟩ rfl (by decide) (fun _ _ _ _ _ _ us hl => match us, hl with | [_, _], _ => rfl) fun A outer s H E C hr hT hE hk => ?_
  subst hT hE
  have hcm : (fnX P w K mg base ["_law_house_here", "_law_turn_here", "_law_one", "_law_other"] "_law_moved" (defScope (top 25)) f cdv A outer s H E).calm = true := rfl
  exact sSs_one (sS_ret (sE_tup (sA_cons (sE_frz (sE_ix (NameOk.dv ⟨rfl, (by first | exact Or.inl rfl | exact Or.inr (Or.inl rfl) | exact Or.inr (Or.inr rfl)), rfl, rfl⟩) (sD_int) (fun _ _ => rfl))) (sA_cons (sE_frz (sE_callTy cr_tuple rfl Bl.tuple boot_tuple (sE_callB (cr_sorted (Room.u hr)) rfl Bl.sorted boot_sorted (sE_lc (own := [("_law_one", 2), ("_law_other", 3)]) hcm nd (sI_seq (sE_frz (sE_ix (NameOk.dv ⟨rfl, (by first | exact Or.inl rfl | exact Or.inr (Or.inl rfl) | exact Or.inr (Or.inr rfl)), rfl, rfl⟩) (sD_int) (fun _ _ => rfl)))) (blkOk_by rfl) ⟨fun _ _ _ _ _ _ => sG_tup hcm (sGs_cons (sG_name ⟨nd, rfl, (by first | exact Or.inl rfl | exact Or.inr rfl), (by first | exact Or.inr rfl | exact Or.inl rfl), hk 2 rfl⟩ (by decide)) (sGs_cons (sG_name ⟨nd, rfl, (by first | exact Or.inl rfl | exact Or.inr rfl), (by first | exact Or.inr rfl | exact Or.inl rfl), hk 3 rfl⟩ (by decide)) (sGs_nil) rfl) rfl) rfl rfl, fun _ _ _ _ _ _ => sTs_nil, fun _ _ _ _ _ _ => sE_frz (sE_tup (sA_cons (sE_frz (sE_ix (NameOk.dv ⟨rfl, (by first | exact Or.inl rfl | exact Or.inr (Or.inl rfl) | exact Or.inr (Or.inr rfl)), rfl, rfl⟩) (NameOk.dv ⟨rfl, (by first | exact Or.inl rfl | exact Or.inr (Or.inl rfl) | exact Or.inr (Or.inr rfl)), rfl, rfl⟩) (fun _ _ => rfl))) (sA_cons (sE_frz (sE_ix (NameOk.dv ⟨rfl, (by first | exact Or.inl rfl | exact Or.inr (Or.inl rfl) | exact Or.inr (Or.inr rfl)), rfl, rfl⟩) (NameOk.dv ⟨rfl, (by first | exact Or.inl rfl | exact Or.inr (Or.inl rfl) | exact Or.inr (Or.inr rfl)), rfl, rfl⟩) (fun _ _ => rfl))) (sA_nil) (fun _ _ => rfl)) (fun _ _ => rfl)))⟩ (gok_t (gsok_cons (gok_n) (gsok_cons (gok_n) (gsok_nil)))) (by intro i hi; exact hk i (by revert i; decide)) (fun _ => rfl)) (fun _ _ => rfl) (by decide) rfl) (fun _ _ => rfl) (by decide) rfl)) (sA_nil) (fun _ _ => rfl)) (fun _ _ => rfl))))

theorem d__law_turn {P : Program} {w : World} {K : PySem.W.Frag} {mg : Str → Option Value} {base : Heap} {T : List Addr} {ex : Str → Option Addr}  {f : Addr} {fd : FuncData} {cdv : Value} (Bl : Blt mg) (F__law_taken : FnS P w K mg base T ex 1 "_law_taken" 2 f__law_taken)
    (F : FunC K "_law_turn" "_law_turn" (defArgs (top 26)) (defBody (top 26)) (defScope (top 26)) f fd cdv) (hx : mg "_law_turn" = some (.ref f)) : FnS P w K mg base T ex 2 "_law_turn" 2 f__law_turn := by
  have nd : (["_law_row", "_law_halls", "_law_found", "_law_left"] : List Str).Nodup := by decide
  refine FunC.fnS (N := ["_law_row", "_law_halls", "_law_found", "_law_left"]) (ps := ["_law_row", "_law_halls"]) (ow := [0]) (k := 1) (mb := b__law_turn) F hx ⟨rfl, rfl, rfl, nd, rfl, by decide, by decide⟩ rfl (by decide) (fun _ _ _ _ _ _ us hl => match us, hl with | [_, _], _ => rfl) fun A outer s H E C hr hT hE hk => ?_
  subst hT hE
  have hcm : (fnX P w K mg base ["_law_row", "_law_halls", "_law_found", "_law_left"] "_law_turn" (defScope (top 26)) f cdv A outer s H E).calm = true := rfl
  exact sSs_cons (sS_par hcm ⟨nd, rfl, (by first | exact Or.inl rfl | exact Or.inr rfl), (by first | exact Or.inr rfl | exact Or.inl rfl), hk 2 rfl⟩ ⟨nd, rfl, (by first | exact Or.inl rfl | exact Or.inr rfl), (by first | exact Or.inr rfl | exact Or.inl rfl), hk 3 rfl⟩ (by decide) rfl rfl (sE_dt (sE_frz (sE_tup (sA_nil)))) (fun _ => sE_listR1 hcm rfl Bl.list rfl Bl.range (NameOk.dv ⟨rfl, (by first | exact Or.inl rfl | exact Or.inr (Or.inl rfl) | exact Or.inr (Or.inr rfl)), rfl, rfl⟩) (fun _ _ => rfl)) (fun _ _ => rfl) (fun _ _ => rfl) rfl rfl)
        (sSs_cons (sS_while fnX_passes (sT_neS (Room.u hr) ⟨rfl, (by first | exact Or.inl rfl | exact Or.inr (Or.inl rfl) | exact Or.inr (Or.inr rfl)), rfl, rfl⟩ (sE_frz (sE_lst (sA_nil))) rfl) (sSs_one (LocOk.set ⟨nd, rfl, (by first | exact Or.inl rfl | exact Or.inr rfl), (by first | exact Or.inr rfl | exact Or.inl rfl), hk 2 rfl⟩ (sE_dt (sE_frz (sE_bin od_add (NameOk.dv ⟨rfl, (by first | exact Or.inl rfl | exact Or.inr (Or.inl rfl) | exact Or.inr (Or.inr rfl)), rfl, rfl⟩) (sE_frz (sE_tup (sA_cons (sE_frz (sE_popAt ⟨rfl, (by first | exact Or.inl rfl | exact Or.inr (Or.inl rfl) | exact Or.inr (Or.inr rfl)), rfl, rfl⟩ ⟨rfl, rfl⟩ (fun _ _ => rfl) (sE_frz (sE_call (F__law_taken.mono (by decide)) hr rfl fnX_takes (by simp [agNd, posOf]) rfl (sAg_s ⟨rfl, (by first | exact Or.inl rfl | exact Or.inr (Or.inl rfl) | exact Or.inr (Or.inr rfl)), rfl, rfl⟩ (sAg_d (sE_frz (NameOk.len ⟨rfl, (by first | exact Or.inl rfl | exact Or.inr (Or.inl rfl) | exact Or.inr (Or.inr rfl)), rfl, rfl⟩ rfl Bl.len)) (sAg_nil) (fun _ _ => rfl))) (fun _ _ => rfl) rfl rfl)))) (sA_nil) (fun _ _ => rfl))))))) rfl)))
        (sSs_one (sS_ret (NameOk.var ⟨rfl, (by first | exact Or.inl rfl | exact Or.inr (Or.inl rfl) | exact Or.inr (Or.inr rfl)), rfl, rfl⟩))))

theorem d__law_house {P : Program} {w : World} {K : PySem.W.Frag} {mg : Str → Option Value} {base : Heap} {T : List Addr} {ex : Str → Option Addr}  {f : Addr} {fd : FuncData} {cdv : Value} (Bl : Blt mg) (F__law_taken : FnS P w K mg base T ex 1 "_law_taken" 2 f__law_taken) (F__law_pick : FnS P w K mg base T ex 2 "_law_pick" 2 f__law_pick) (F__law_known : FnS P w K mg base T ex 2 "_law_known" 1 f__law_known) (F__law_moved : FnS P w K mg base T ex 1 "_law_moved" 2 f__law_moved) (F__law_turn : FnS P w K mg base T ex 2 "_law_turn" 2 f__law_turn) (F__law_circle : FnS P w K mg base T ex 1 "_law_circle" 2 f__law_circle)
    (F : FunC K "_law_house" "_law_house" (defArgs (top 27)) (defBody (top 27)) (defScope (top 27)) f fd cdv) (hx : mg "_law_house" = some (.ref f)) : FnS P w K mg base T ex 3 "_law_house" 2 f__law_house := by
  have nd : (["_law_row", "_law_most", "_law_halls", "_law_doors", "_law_turn_here", "_law_house_here", "_law_door"] : List Str).Nodup := by decide
  refine FunC.fnS (N := ["_law_row", "_law_most", "_law_halls", "_law_doors", "_law_turn_here", "_law_house_here", "_law_door"]) (ps := ["_law_row", "_law_most"]) (ow := [0]) (k := 2) (mb := b__law_house) F hx ⟨rfl, rfl, rfl, nd, rfl, by decide, by decide⟩ rfl (by decide) (fun _ _ _ _ _ _ us hl => match us, hl with | [_, _], _ => rfl) fun A outer s H E C hr hT hE hk => ?_
  subst hT hE
  have hcm : (fnX P w K mg base ["_law_row", "_law_most", "_law_halls", "_law_doors", "_law_turn_here", "_law_house_here", "_law_door"] "_law_house" (defScope (top 27)) f cdv A outer s H E).calm = true := rfl
  exact sSs_cons (sS_if (sT_cmp (od_gt (Room.u hr)) (sE_frz (sE_call (F__law_taken.mono (by decide)) hr rfl fnX_takes (by simp [agNd, posOf]) rfl (sAg_s ⟨rfl, (by first | exact Or.inl rfl | exact Or.inr (Or.inl rfl) | exact Or.inr (Or.inr rfl)), rfl, rfl⟩ (sAg_d (sD_int) (sAg_nil) (fun _ _ => rfl))) (fun _ _ => rfl) rfl rfl)) (sD_int) rfl) (sSs_cons (LocOk.set ⟨nd, rfl, (by first | exact Or.inl rfl | exact Or.inr rfl), (by first | exact Or.inr rfl | exact Or.inl rfl), hk 5 rfl⟩ (sE_dt (sE_frz (sE_call (F__law_pick.mono (by decide)) hr rfl fnX_takes (by simp [agNd, posOf]) rfl (sAg_s ⟨rfl, (by first | exact Or.inl rfl | exact Or.inr (Or.inl rfl) | exact Or.inr (Or.inr rfl)), rfl, rfl⟩ (sAg_d (sE_frz (sE_call (F__law_known.mono (by decide)) hr rfl fnX_takes (by simp [agNd, posOf]) rfl (sAg_d (NameOk.dv ⟨rfl, (by first | exact Or.inl rfl | exact Or.inr (Or.inl rfl) | exact Or.inr (Or.inr rfl)), rfl, rfl⟩) (sAg_nil) (fun _ _ => rfl)) (fun _ _ => rfl) rfl rfl)) (sAg_nil) (fun _ _ => rfl))) (fun _ _ => rfl) rfl rfl))) rfl)
        (sSs_one (sS_ret (sE_call (F__law_moved.mono (by decide)) hr rfl fnX_takes (by simp [agNd, posOf]) rfl (sAg_d (NameOk.dv ⟨rfl, (by first | exact Or.inl rfl | exact Or.inr (Or.inl rfl) | exact Or.inr (Or.inr rfl)), rfl, rfl⟩) (sAg_d (sE_frz (sE_call (F__law_turn.mono (by decide)) hr rfl fnX_takes (by simp [agNd, posOf]) rfl (sAg_s ⟨rfl, (by first | exact Or.inl rfl | exact Or.inr (Or.inl rfl) | exact Or.inr (Or.inr rfl)), rfl, rfl⟩ (sAg_d (sE_frz (sE_ix (NameOk.dv ⟨rfl, (by first | exact Or.inl rfl | exact Or.inr (Or.inl rfl) | exact Or.inr (Or.inr rfl)), rfl, rfl⟩) (sD_int) (fun _ _ => rfl))) (sAg_nil) (fun _ _ => rfl))) (fun _ _ => rfl) rfl rfl)) (sAg_nil) (fun _ _ => rfl)) (fun _ _ => rfl)) (fun _ _ => rfl) rfl rfl)))) (sSs_nil))
        (sSs_cons (LocOk.set ⟨nd, rfl, (by first | exact Or.inl rfl | exact Or.inr rfl), (by first | exact Or.inr rfl | exact Or.inl rfl), hk 2 rfl⟩ (sE_dt (sE_frz (sE_bin od_add (sD_int) (sE_frz (sE_call (F__law_taken.mono (by decide)) hr rfl fnX_takes (by simp [agNd, posOf]) rfl (sAg_s ⟨rfl, (by first | exact Or.inl rfl | exact Or.inr (Or.inl rfl) | exact Or.inr (Or.inr rfl)), rfl, rfl⟩ (sAg_d (sE_frz (sE_bin od_sub (NameOk.dv ⟨rfl, (by first | exact Or.inl rfl | exact Or.inr (Or.inl rfl) | exact Or.inr (Or.inr rfl)), rfl, rfl⟩) (sD_int))) (sAg_nil) (fun _ _ => rfl))) (fun _ _ => rfl) rfl rfl))))) rfl)
        (sSs_cons (LocOk.set ⟨nd, rfl, (by first | exact Or.inl rfl | exact Or.inr rfl), (by first | exact Or.inr rfl | exact Or.inl rfl), hk 3 rfl⟩ (sE_dt (sE_frz (sE_callTy cr_list rfl Bl.list boot_list (sE_ix (sE_frz (sE_call (F__law_circle.mono (by decide)) hr rfl fnX_takes (by simp [agNd, posOf]) rfl (sAg_d (NameOk.dv ⟨rfl, (by first | exact Or.inl rfl | exact Or.inr (Or.inl rfl) | exact Or.inr (Or.inr rfl)), rfl, rfl⟩) (sAg_d (sE_frz (sE_lst (sA_cons (sD_int) (sA_nil) (fun _ _ => rfl)))) (sAg_nil) (fun _ _ => rfl)) (fun _ _ => rfl)) (fun _ _ => rfl) rfl rfl)) (sD_int) (fun _ _ => rfl)) (fun _ _ => rfl) (by decide) rfl))) rfl)
        (sSs_cons (sS_for (vs := [4]) fnX_passes hcm (sI_range1 rfl Bl.range (sE_frz (sE_call (F__law_taken.mono (by decide)) hr rfl fnX_takes (by simp [agNd, posOf]) rfl (sAg_s ⟨rfl, (by first | exact Or.inl rfl | exact Or.inr (Or.inl rfl) | exact Or.inr (Or.inr rfl)), rfl, rfl⟩ (sAg_d (sE_frz (sE_bin od_add (NameOk.dv ⟨rfl, (by first | exact Or.inl rfl | exact Or.inr (Or.inl rfl) | exact Or.inr (Or.inr rfl)), rfl, rfl⟩) (sD_int))) (sAg_nil) (fun _ _ => rfl))) (fun _ _ => rfl) rfl rfl)) (fun _ _ => rfl)) (sG_name ⟨nd, rfl, (by first | exact Or.inl rfl | exact Or.inr rfl), (by first | exact Or.inr rfl | exact Or.inl rfl), hk 4 rfl⟩ (by decide)) (gok_n) (sSs_cons (LocOk.set ⟨nd, rfl, (by first | exact Or.inl rfl | exact Or.inr rfl), (by first | exact Or.inr rfl | exact Or.inl rfl), hk 6 rfl⟩ (sE_dt (sE_frz (sE_tup (sA_cons (sE_frz (sE_call (F__law_taken.mono (by decide)) hr rfl fnX_takes (by simp [agNd, posOf]) rfl (sAg_s ⟨rfl, (by first | exact Or.inl rfl | exact Or.inr (Or.inl rfl) | exact Or.inr (Or.inr rfl)), rfl, rfl⟩ (sAg_d (NameOk.dv ⟨rfl, (by first | exact Or.inl rfl | exact Or.inr (Or.inl rfl) | exact Or.inr (Or.inr rfl)), rfl, rfl⟩) (sAg_nil) (fun _ _ => rfl))) (fun _ _ => rfl) rfl rfl)) (sA_cons (sE_frz (sE_call (F__law_taken.mono (by decide)) hr rfl fnX_takes (by simp [agNd, posOf]) rfl (sAg_s ⟨rfl, (by first | exact Or.inl rfl | exact Or.inr (Or.inl rfl) | exact Or.inr (Or.inr rfl)), rfl, rfl⟩ (sAg_d (NameOk.dv ⟨rfl, (by first | exact Or.inl rfl | exact Or.inr (Or.inl rfl) | exact Or.inr (Or.inr rfl)), rfl, rfl⟩) (sAg_nil) (fun _ _ => rfl))) (fun _ _ => rfl) rfl rfl)) (sA_nil) (fun _ _ => rfl)) (fun _ _ => rfl))))) rfl)
        (sSs_one (LocOk.set ⟨nd, rfl, (by first | exact Or.inl rfl | exact Or.inr rfl), (by first | exact Or.inr rfl | exact Or.inl rfl), hk 3 rfl⟩ (sE_dt (sE_frz (sE_bin od_add (NameOk.dv ⟨rfl, (by first | exact Or.inl rfl | exact Or.inr (Or.inl rfl) | exact Or.inr (Or.inr rfl)), rfl, rfl⟩) (sE_frz (sE_bin od_mul (sE_frz (sE_lst (sA_cons (NameOk.dv ⟨rfl, (by first | exact Or.inl rfl | exact Or.inr (Or.inl rfl) | exact Or.inr (Or.inr rfl)), rfl, rfl⟩) (sA_nil) (fun _ _ => rfl)))) (sE_frz (sE_callTy cr_int rfl Bl.int boot_int (sE_cmp (od_ne (Room.u hr)) (sE_frz (sE_ix (NameOk.dv ⟨rfl, (by first | exact Or.inl rfl | exact Or.inr (Or.inl rfl) | exact Or.inr (Or.inr rfl)), rfl, rfl⟩) (sD_int) (fun _ _ => rfl))) (sE_frz (sE_ix (NameOk.dv ⟨rfl, (by first | exact Or.inl rfl | exact Or.inr (Or.inl rfl) | exact Or.inr (Or.inr rfl)), rfl, rfl⟩) (sD_int) (fun _ _ => rfl))) rfl) (fun _ _ => rfl) (by decide) rfl))))))) rfl))) (fun _ => rfl))
        (sSs_one (sS_ret (sE_call (F__law_moved.mono (by decide)) hr rfl fnX_takes (by simp [agNd, posOf]) rfl (sAg_d (sE_frz (sE_tup (sA_cons (NameOk.dv ⟨rfl, (by first | exact Or.inl rfl | exact Or.inr (Or.inl rfl) | exact Or.inr (Or.inr rfl)), rfl, rfl⟩) (sA_cons (sE_frz (sE_callTy cr_tuple rfl Bl.tuple boot_tuple (sE_sset hcm (Room.u hr) rfl Bl.sorted rfl Bl.set (NameOk.dv ⟨rfl, (by first | exact Or.inl rfl | exact Or.inr (Or.inl rfl) | exact Or.inr (Or.inr rfl)), rfl, rfl⟩) (fun _ _ => rfl)) (fun _ _ => rfl) (by decide) rfl)) (sA_nil) (fun _ _ => rfl)) (fun _ _ => rfl)))) (sAg_d (sE_frz (sE_call (F__law_turn.mono (by decide)) hr rfl fnX_takes (by simp [agNd, posOf]) rfl (sAg_s ⟨rfl, (by first | exact Or.inl rfl | exact Or.inr (Or.inl rfl) | exact Or.inr (Or.inr rfl)), rfl, rfl⟩ (sAg_d (NameOk.dv ⟨rfl, (by first | exact Or.inl rfl | exact Or.inr (Or.inl rfl) | exact Or.inr (Or.inr rfl)), rfl, rfl⟩) (sAg_nil) (fun _ _ => rfl))) (fun _ _ => rfl) rfl rfl)) (sAg_nil) (fun _ _ => rfl)) (fun _ _ => rfl)) (fun _ _ => rfl) rfl rfl))))))

theorem d__law_maps {P : Program} {w : World} {K : PySem.W.Frag} {mg : Str → Option Value} {base : Heap} {T : List Addr} {ex : Str → Option Addr}  {f : Addr} {fd : FuncData} {cdv : Value} (Bl : Blt mg) 
    (F : FunC K "_law_maps" "_law_maps" (defArgs (top 28)) (defBody (top 28)) (defScope (top 28)) f fd cdv) (hx : mg "_law_maps" = some (.ref f)) : FnS P w K mg base T ex 1 "_law_maps" 2 f__law_maps := by
  have nd : (["_law_one", "_law_other", "_law_rows", "_law_place", "_law_longer", "_law_row", "_law_hall", "_law_far", "_law_mate", "_law_bad", "_law_at"] : List Str).Nodup := by decide
  refine FunC.fnS (N := ["_law_one", "_law_other", "_law_rows", "_law_place", "_law_longer", "_law_row", "_law_hall", "_law_far", "_law_mate", "_law_bad", "_law_at"]) (ps := ["_law_one", "_law_other"]) (ow := []) (k := 0) (mb := b__law_maps) F hx ⟨rfl, rfl, rfl, nd, rfl, by decide, by decide⟩ rfl (by decide) (fun _ _ _ _ _ _ us hl => match us, hl with | [_, _], _ => rfl) fun A outer s H E C hr hT hE hk => ?_
  subst hT hE
  have hcm : (fnX P w K mg base ["_law_one", "_law_other", "_law_rows", "_law_place", "_law_longer", "_law_row", "_law_hall", "_law_far", "_law_mate", "_law_bad", "_law_at"] "_law_maps" (defScope (top 28)) f cdv A outer s H E).calm = true := rfl
  exact sSs_cons (sS_if (PW.pt (sW_or (sT_cmp (od_ne (Room.u hr)) (sE_frz (sE_ix (NameOk.dv ⟨rfl, (by first | exact Or.inl rfl | exact Or.inr (Or.inl rfl) | exact Or.inr (Or.inr rfl)), rfl, rfl⟩) (sD_int) (fun _ _ => rfl))) (sE_frz (sE_ix (NameOk.dv ⟨rfl, (by first | exact Or.inl rfl | exact Or.inr (Or.inl rfl) | exact Or.inr (Or.inr rfl)), rfl, rfl⟩) (sD_int) (fun _ _ => rfl))) rfl) (sW_one (sT_cmp (od_ne (Room.u hr)) (sE_frz (sE_callB cr_len rfl Bl.len boot_len (sE_ix (NameOk.dv ⟨rfl, (by first | exact Or.inl rfl | exact Or.inr (Or.inl rfl) | exact Or.inr (Or.inr rfl)), rfl, rfl⟩) (sD_int) (fun _ _ => rfl)) (fun _ _ => rfl) (by decide) rfl)) (sE_frz (sE_callB cr_len rfl Bl.len boot_len (sE_ix (NameOk.dv ⟨rfl, (by first | exact Or.inl rfl | exact Or.inr (Or.inl rfl) | exact Or.inr (Or.inr rfl)), rfl, rfl⟩) (sD_int) (fun _ _ => rfl)) (fun _ _ => rfl) (by decide) rfl)) rfl)))) (sSs_one (sS_ret (sE_lst (sA_nil)))) (sSs_nil))
        (sSs_cons (LocOk.set ⟨nd, rfl, (by first | exact Or.inl rfl | exact Or.inr rfl), (by first | exact Or.inr rfl | exact Or.inl rfl), hk 2 rfl⟩ (sE_dt (sE_frz (sE_lst (sA_cons (sE_frz (sE_tup (sA_nil))) (sA_nil) (fun _ _ => rfl))))) rfl)
        (sSs_cons (sS_for (vs := [3]) fnX_passes hcm (sI_range1 rfl Bl.range (sE_frz (sE_ix (NameOk.dv ⟨rfl, (by first | exact Or.inl rfl | exact Or.inr (Or.inl rfl) | exact Or.inr (Or.inr rfl)), rfl, rfl⟩) (sD_int) (fun _ _ => rfl))) (fun _ _ => rfl)) (sG_name ⟨nd, rfl, (by first | exact Or.inl rfl | exact Or.inr rfl), (by first | exact Or.inr rfl | exact Or.inl rfl), hk 3 rfl⟩ (by decide)) (gok_n) (sSs_cons (LocOk.set ⟨nd, rfl, (by first | exact Or.inl rfl | exact Or.inr rfl), (by first | exact Or.inr rfl | exact Or.inl rfl), hk 4 rfl⟩ (sE_dt (sE_frz (sE_lst (sA_nil)))) rfl)
        (sSs_cons (sS_for (vs := [5]) fnX_passes hcm (sI_seq (NameOk.dv ⟨rfl, (by first | exact Or.inl rfl | exact Or.inr (Or.inl rfl) | exact Or.inr (Or.inr rfl)), rfl, rfl⟩)) (sG_name ⟨nd, rfl, (by first | exact Or.inl rfl | exact Or.inr rfl), (by first | exact Or.inr rfl | exact Or.inl rfl), hk 5 rfl⟩ (by decide)) (gok_n) (sSs_one (sS_for (vs := [6]) fnX_passes hcm (sI_range1 rfl Bl.range (sE_frz (sE_ix (NameOk.dv ⟨rfl, (by first | exact Or.inl rfl | exact Or.inr (Or.inl rfl) | exact Or.inr (Or.inr rfl)), rfl, rfl⟩) (sD_int) (fun _ _ => rfl))) (fun _ _ => rfl)) (sG_name ⟨nd, rfl, (by first | exact Or.inl rfl | exact Or.inr rfl), (by first | exact Or.inr rfl | exact Or.inl rfl), hk 6 rfl⟩ (by decide)) (gok_n) (sSs_one (sS_if (sT_cmp (od_notIn (Room.u hr)) (NameOk.dv ⟨rfl, (by first | exact Or.inl rfl | exact Or.inr (Or.inl rfl) | exact Or.inr (Or.inr rfl)), rfl, rfl⟩) (NameOk.dv ⟨rfl, (by first | exact Or.inl rfl | exact Or.inr (Or.inl rfl) | exact Or.inr (Or.inr rfl)), rfl, rfl⟩) rfl) (sSs_cons (sS_asg (vs := [7, 8]) (sG_tup hcm (sGs_cons (sG_name ⟨nd, rfl, (by first | exact Or.inl rfl | exact Or.inr rfl), (by first | exact Or.inr rfl | exact Or.inl rfl), hk 7 rfl⟩ (by decide)) (sGs_cons (sG_name ⟨nd, rfl, (by first | exact Or.inl rfl | exact Or.inr rfl), (by first | exact Or.inr rfl | exact Or.inl rfl), hk 8 rfl⟩ (by decide)) (sGs_nil) rfl) rfl) rfl rfl) (sE_frz (sE_tup (sA_cons (sE_frz (sE_ix (NameOk.dv ⟨rfl, (by first | exact Or.inl rfl | exact Or.inr (Or.inl rfl) | exact Or.inr (Or.inr rfl)), rfl, rfl⟩) (sD_int) (fun _ _ => rfl))) (sA_cons (sE_frz (sE_ix (NameOk.dv ⟨rfl, (by first | exact Or.inl rfl | exact Or.inr (Or.inl rfl) | exact Or.inr (Or.inr rfl)), rfl, rfl⟩) (sD_int) (fun _ _ => rfl))) (sA_nil) (fun _ _ => rfl)) (fun _ _ => rfl)))) (gok_t (gsok_cons (gok_n) (gsok_cons (gok_n) (gsok_nil)))) rfl rfl rfl)
        (sSs_cons (sS_setLcD (own := [("_law_at", 10)]) hcm nd rfl rfl (hk 9 rfl) rfl (sI_range1 rfl Bl.range (NameOk.dv ⟨rfl, (by first | exact Or.inl rfl | exact Or.inr (Or.inl rfl) | exact Or.inr (Or.inr rfl)), rfl, rfl⟩) (fun _ _ => rfl)) (blkOk_by rfl) ⟨fun _ _ _ _ _ _ => sG_name ⟨nd, rfl, (by first | exact Or.inl rfl | exact Or.inr rfl), (by first | exact Or.inr rfl | exact Or.inl rfl), hk 10 rfl⟩ (by decide), fun _ _ _ _ _ _ => sTs_one (sT_cmp (od_ne (Room.u hr)) (sE_frz (sE_cmp (od_in (Room.u hr)) (sE_frz (sE_tup (sA_cons (NameOk.dv ⟨rfl, (by first | exact Or.inl rfl | exact Or.inr (Or.inl rfl) | exact Or.inr (Or.inr rfl)), rfl, rfl⟩) (sA_cons (NameOk.dv ⟨rfl, (by first | exact Or.inl rfl | exact Or.inr (Or.inl rfl) | exact Or.inr (Or.inr rfl)), rfl, rfl⟩) (sA_nil) (fun _ _ => rfl)) (fun _ _ => rfl)))) (NameOk.dv ⟨rfl, (by first | exact Or.inl rfl | exact Or.inr (Or.inl rfl) | exact Or.inr (Or.inr rfl)), rfl, rfl⟩) rfl)) (sE_frz (sE_cmp (od_in (Room.u hr)) (sE_frz (sE_tup (sA_cons (sE_frz (sE_ix (NameOk.dv ⟨rfl, (by first | exact Or.inl rfl | exact Or.inr (Or.inl rfl) | exact Or.inr (Or.inr rfl)), rfl, rfl⟩) (NameOk.dv ⟨rfl, (by first | exact Or.inl rfl | exact Or.inr (Or.inl rfl) | exact Or.inr (Or.inr rfl)), rfl, rfl⟩) (fun _ _ => rfl))) (sA_cons (NameOk.dv ⟨rfl, (by first | exact Or.inl rfl | exact Or.inr (Or.inl rfl) | exact Or.inr (Or.inr rfl)), rfl, rfl⟩) (sA_nil) (fun _ _ => rfl)) (fun _ _ => rfl)))) (NameOk.dv ⟨rfl, (by first | exact Or.inl rfl | exact Or.inr (Or.inl rfl) | exact Or.inr (Or.inr rfl)), rfl, rfl⟩) rfl)) rfl), fun _ _ _ _ _ _ => NameOk.dv ⟨rfl, (by first | exact Or.inl rfl | exact Or.inr (Or.inl rfl) | exact Or.inr (Or.inr rfl)), rfl, rfl⟩⟩ (gok_n) (by intro i hi; exact hk i (by revert i; decide)) (fun _ => rfl))
        (sSs_cons (LocOk.set ⟨nd, rfl, (by first | exact Or.inl rfl | exact Or.inr rfl), (by first | exact Or.inr rfl | exact Or.inl rfl), hk 9 rfl⟩ (sE_dt (sE_frz (sE_bin od_add (NameOk.dv ⟨rfl, (by first | exact Or.inl rfl | exact Or.inr (Or.inl rfl) | exact Or.inr (Or.inr rfl)), rfl, rfl⟩) (sE_frz (sE_lc (own := [("_law_at", 10)]) hcm nd (sI_range1 rfl Bl.range (NameOk.dv ⟨rfl, (by first | exact Or.inl rfl | exact Or.inr (Or.inl rfl) | exact Or.inr (Or.inr rfl)), rfl, rfl⟩) (fun _ _ => rfl)) (blkOk_by rfl) ⟨fun _ _ _ _ _ _ => sG_name ⟨nd, rfl, (by first | exact Or.inl rfl | exact Or.inr rfl), (by first | exact Or.inr rfl | exact Or.inl rfl), hk 10 rfl⟩ (by decide), fun _ _ _ _ _ _ => sTs_one (sT_cmp (od_ne (Room.u hr)) (sE_frz (sE_cmp (od_in (Room.u hr)) (sE_frz (sE_tup (sA_cons (NameOk.dv ⟨rfl, (by first | exact Or.inl rfl | exact Or.inr (Or.inl rfl) | exact Or.inr (Or.inr rfl)), rfl, rfl⟩) (sA_cons (NameOk.dv ⟨rfl, (by first | exact Or.inl rfl | exact Or.inr (Or.inl rfl) | exact Or.inr (Or.inr rfl)), rfl, rfl⟩) (sA_nil) (fun _ _ => rfl)) (fun _ _ => rfl)))) (NameOk.dv ⟨rfl, (by first | exact Or.inl rfl | exact Or.inr (Or.inl rfl) | exact Or.inr (Or.inr rfl)), rfl, rfl⟩) rfl)) (sE_frz (sE_cmp (od_in (Room.u hr)) (sE_frz (sE_tup (sA_cons (NameOk.dv ⟨rfl, (by first | exact Or.inl rfl | exact Or.inr (Or.inl rfl) | exact Or.inr (Or.inr rfl)), rfl, rfl⟩) (sA_cons (sE_frz (sE_ix (NameOk.dv ⟨rfl, (by first | exact Or.inl rfl | exact Or.inr (Or.inl rfl) | exact Or.inr (Or.inr rfl)), rfl, rfl⟩) (NameOk.dv ⟨rfl, (by first | exact Or.inl rfl | exact Or.inr (Or.inl rfl) | exact Or.inr (Or.inr rfl)), rfl, rfl⟩) (fun _ _ => rfl))) (sA_nil) (fun _ _ => rfl)) (fun _ _ => rfl)))) (NameOk.dv ⟨rfl, (by first | exact Or.inl rfl | exact Or.inr (Or.inl rfl) | exact Or.inr (Or.inr rfl)), rfl, rfl⟩) rfl)) rfl), fun _ _ _ _ _ _ => NameOk.dv ⟨rfl, (by first | exact Or.inl rfl | exact Or.inr (Or.inl rfl) | exact Or.inr (Or.inr rfl)), rfl, rfl⟩⟩ (gok_n) (by intro i hi; exact hk i (by revert i; decide)) (fun _ => rfl)))))) rfl)
        (sSs_one (LocOk.set ⟨nd, rfl, (by first | exact Or.inl rfl | exact Or.inr rfl), (by first | exact Or.inr rfl | exact Or.inl rfl), hk 4 rfl⟩ (sE_dt (sE_frz (sE_bin od_add (NameOk.dv ⟨rfl, (by first | exact Or.inl rfl | exact Or.inr (Or.inl rfl) | exact Or.inr (Or.inr rfl)), rfl, rfl⟩) (sE_frz (sE_bin od_mul (sE_frz (sE_lst (sA_cons (sE_frz (sE_bin od_add (NameOk.dv ⟨rfl, (by first | exact Or.inl rfl | exact Or.inr (Or.inl rfl) | exact Or.inr (Or.inr rfl)), rfl, rfl⟩) (sE_frz (sE_tup (sA_cons (NameOk.dv ⟨rfl, (by first | exact Or.inl rfl | exact Or.inr (Or.inl rfl) | exact Or.inr (Or.inr rfl)), rfl, rfl⟩) (sA_nil) (fun _ _ => rfl)))))) (sA_nil) (fun _ _ => rfl)))) (sE_frz (sE_callTy cr_int rfl Bl.int boot_int (sE_cmp (od_eq (Room.u hr)) (NameOk.dv ⟨rfl, (by first | exact Or.inl rfl | exact Or.inr (Or.inl rfl) | exact Or.inr (Or.inr rfl)), rfl, rfl⟩) (sE_frz (sE_lst (sA_nil))) rfl) (fun _ _ => rfl) (by decide) rfl))))))) rfl))))) (sSs_nil))) (fun _ => rfl))) (fun _ => rfl))
        (sSs_one (LocOk.set ⟨nd, rfl, (by first | exact Or.inl rfl | exact Or.inr rfl), (by first | exact Or.inr rfl | exact Or.inl rfl), hk 2 rfl⟩ (sE_dt (NameOk.dv ⟨rfl, (by first | exact Or.inl rfl | exact Or.inr (Or.inl rfl) | exact Or.inr (Or.inr rfl)), rfl, rfl⟩)) rfl)))) (fun _ => rfl))
        (sSs_one (sS_ret (NameOk.var ⟨rfl, (by first | exact Or.inl rfl | exact Or.inr (Or.inl rfl) | exact Or.inr (Or.inr rfl)), rfl, rfl⟩)))))

theorem d_law {P : Program} {w : World} {K : PySem.W.Frag} {mg : Str → Option Value} {base : Heap} {T : List Addr} {ex : Str → Option Addr}  {f : Addr} {fd : FuncData} {cdv : Value} (Bl : Blt mg) (F__law_house : FnS P w K mg base T ex 3 "_law_house" 2 f__law_house) (F__law_pick : FnS P w K mg base T ex 2 "_law_pick" 2 f__law_pick) (F__law_moved : FnS P w K mg base T ex 1 "_law_moved" 2 f__law_moved) (F__law_turn : FnS P w K mg base T ex 2 "_law_turn" 2 f__law_turn) (F__law_maps : FnS P w K mg base T ex 1 "_law_maps" 2 f__law_maps) (F_like : FnS P w K mg base T ex 8 "like" 2 f_like) (F__law_alike : FnS P w K mg base T ex 9 "_law_alike" 2 f__law_alike) (F_are_alike : FnS P w K mg base T ex 8 "are_alike" 2 f_are_alike) (F_shows_like : FnS P w K mg base T ex 9 "shows_like" 3 f_shows_like) (F__law_taken : FnS P w K mg base T ex 1 "_law_taken" 2 f__law_taken)
    (F : FunC K "law" "law" (defArgs (top 29)) (defBody (top 29)) (defScope (top 29)) f fd cdv) (hx : mg "law" = some (.ref f)) : FnOk P w K mg base (L2.CX P w) 10 f fd ["_law_script"] (fnSp 1 T ex f_law) := by
  have nd : (["_law_script", "_law_row", "_law_one", "_law_other", "_law_due", "_law_told", "_law_turn_here", "_law_odd", "_law_some", "_law_value"] : List Str).Nodup := by decide
  refine FunC.fnOk (N := ["_law_script", "_law_row", "_law_one", "_law_other", "_law_due", "_law_told", "_law_turn_here", "_law_odd", "_law_some", "_law_value"]) (ps := ["_law_script"]) (k := 9) (mb := b_law) F ⟨rfl, rfl, rfl, nd, rfl, by decide, by decide⟩ rfl (by decide) fun A outer s H E C hr hT hE hk => ?_
  subst hT hE
  have hcm : (fnX P w K mg base ["_law_script", "_law_row", "_law_one", "_law_other", "_law_due", "_law_told", "_law_turn_here", "_law_odd", "_law_some", "_law_value"] "law" (defScope (top 29)) f cdv A outer s H E).calm = true := rfl
  exact sSs_cons (LocOk.set ⟨nd, rfl, (by first | exact Or.inl rfl | exact Or.inr rfl), (by first | exact Or.inr rfl | exact Or.inl rfl), hk 1 rfl⟩ (sE_lst (sA_cons (NameOk.dv ⟨rfl, (by first | exact Or.inl rfl | exact Or.inr (Or.inl rfl) | exact Or.inr (Or.inr rfl)), rfl, rfl⟩) (sA_cons (sD_int) (sA_cons (sD_int) (sA_cons (sD_int) (sA_nil) (fun _ _ => rfl)) (fun _ _ => rfl)) (fun _ _ => rfl)) (fun _ _ => rfl))) rfl)
        (sSs_cons (LocOk.set ⟨nd, rfl, (by first | exact Or.inl rfl | exact Or.inr rfl), (by first | exact Or.inr rfl | exact Or.inl rfl), hk 2 rfl⟩ (sE_dt (sE_frz (sE_call (F__law_house.mono (by decide)) hr rfl fnX_takes (by simp [agNd, posOf]) rfl (sAg_s ⟨rfl, (by first | exact Or.inl rfl | exact Or.inr (Or.inl rfl) | exact Or.inr (Or.inr rfl)), rfl, rfl⟩ (sAg_d (sD_int) (sAg_nil) (fun _ _ => rfl))) (fun _ _ => rfl) rfl rfl))) rfl)
        (sSs_cons (LocOk.set ⟨nd, rfl, (by first | exact Or.inl rfl | exact Or.inr rfl), (by first | exact Or.inr rfl | exact Or.inl rfl), hk 3 rfl⟩ (sE_dt (sE_frz (sE_call (F__law_pick.mono (by decide)) hr rfl fnX_takes (by simp [agNd, posOf]) rfl (sAg_s ⟨rfl, (by first | exact Or.inl rfl | exact Or.inr (Or.inl rfl) | exact Or.inr (Or.inr rfl)), rfl, rfl⟩ (sAg_d (sE_frz (sE_lst (sA_cons (sE_frz (sE_call (F__law_moved.mono (by decide)) hr rfl fnX_takes (by simp [agNd, posOf]) rfl (sAg_d (NameOk.dv ⟨rfl, (by first | exact Or.inl rfl | exact Or.inr (Or.inl rfl) | exact Or.inr (Or.inr rfl)), rfl, rfl⟩) (sAg_d (sE_frz (sE_call (F__law_turn.mono (by decide)) hr rfl fnX_takes (by simp [agNd, posOf]) rfl (sAg_s ⟨rfl, (by first | exact Or.inl rfl | exact Or.inr (Or.inl rfl) | exact Or.inr (Or.inr rfl)), rfl, rfl⟩ (sAg_d (sE_frz (sE_ix (NameOk.dv ⟨rfl, (by first | exact Or.inl rfl | exact Or.inr (Or.inl rfl) | exact Or.inr (Or.inr rfl)), rfl, rfl⟩) (sD_int) (fun _ _ => rfl))) (sAg_nil) (fun _ _ => rfl))) (fun _ _ => rfl) rfl rfl)) (sAg_nil) (fun _ _ => rfl)) (fun _ _ => rfl)) (fun _ _ => rfl) rfl rfl)) (sA_cons (sE_frz (sE_call (F__law_house.mono (by decide)) hr rfl fnX_takes (by simp [agNd, posOf]) rfl (sAg_s ⟨rfl, (by first | exact Or.inl rfl | exact Or.inr (Or.inl rfl) | exact Or.inr (Or.inr rfl)), rfl, rfl⟩ (sAg_d (sD_int) (sAg_nil) (fun _ _ => rfl))) (fun _ _ => rfl) rfl rfl)) (sA_cons (sE_frz (sE_call (F__law_house.mono (by decide)) hr rfl fnX_takes (by simp [agNd, posOf]) rfl (sAg_s ⟨rfl, (by first | exact Or.inl rfl | exact Or.inr (Or.inl rfl) | exact Or.inr (Or.inr rfl)), rfl, rfl⟩ (sAg_d (sD_int) (sAg_nil) (fun _ _ => rfl))) (fun _ _ => rfl) rfl rfl)) (sA_nil) (fun _ _ => rfl)) (fun _ _ => rfl)) (fun _ _ => rfl)))) (sAg_nil) (fun _ _ => rfl))) (fun _ _ => rfl) rfl rfl))) rfl)
        (sSs_cons (LocOk.set ⟨nd, rfl, (by first | exact Or.inl rfl | exact Or.inr rfl), (by first | exact Or.inr rfl | exact Or.inl rfl), hk 4 rfl⟩ (sE_dt (sE_frz (sE_call (F__law_maps.mono (by decide)) hr rfl fnX_takes (by simp [agNd, posOf]) rfl (sAg_d (NameOk.dv ⟨rfl, (by first | exact Or.inl rfl | exact Or.inr (Or.inl rfl) | exact Or.inr (Or.inr rfl)), rfl, rfl⟩) (sAg_d (NameOk.dv ⟨rfl, (by first | exact Or.inl rfl | exact Or.inr (Or.inl rfl) | exact Or.inr (Or.inr rfl)), rfl, rfl⟩) (sAg_nil) (fun _ _ => rfl)) (fun _ _ => rfl)) (fun _ _ => rfl) rfl rfl))) rfl)
        (sSs_cons (LocOk.set ⟨nd, rfl, (by first | exact Or.inl rfl | exact Or.inr rfl), (by first | exact Or.inr rfl | exact Or.inl rfl), hk 5 rfl⟩ (sE_dt (sE_frz (sE_call (F_like.mono (by decide)) hr rfl fnX_takes (by simp [agNd, posOf]) rfl (sAg_d (NameOk.dv ⟨rfl, (by first | exact Or.inl rfl | exact Or.inr (Or.inl rfl) | exact Or.inr (Or.inr rfl)), rfl, rfl⟩) (sAg_d (NameOk.dv ⟨rfl, (by first | exact Or.inl rfl | exact Or.inr (Or.inl rfl) | exact Or.inr (Or.inr rfl)), rfl, rfl⟩) (sAg_nil) (fun _ _ => rfl)) (fun _ _ => rfl)) (fun _ _ => rfl) rfl rfl))) rfl)
        (sSs_cons (sS_if (PW.pt (sW_or (sT_not (sT_tru (sE_call (F__law_alike.mono (by decide)) hr rfl fnX_takes (by simp [agNd, posOf]) rfl (sAg_d (sE_frz (sE_call (F_are_alike.mono (by decide)) hr rfl fnX_takes (by simp [agNd, posOf]) rfl (sAg_d (NameOk.dv ⟨rfl, (by first | exact Or.inl rfl | exact Or.inr (Or.inl rfl) | exact Or.inr (Or.inr rfl)), rfl, rfl⟩) (sAg_d (NameOk.dv ⟨rfl, (by first | exact Or.inl rfl | exact Or.inr (Or.inl rfl) | exact Or.inr (Or.inr rfl)), rfl, rfl⟩) (sAg_nil) (fun _ _ => rfl)) (fun _ _ => rfl)) (fun _ _ => rfl) rfl rfl)) (sAg_d (sE_frz (sE_cmp (od_ne (Room.u hr)) (NameOk.dv ⟨rfl, (by first | exact Or.inl rfl | exact Or.inr (Or.inl rfl) | exact Or.inr (Or.inr rfl)), rfl, rfl⟩) (sE_frz (sE_lst (sA_nil))) rfl)) (sAg_nil) (fun _ _ => rfl)) (fun _ _ => rfl)) (fun _ _ => rfl) rfl rfl) (fun _ => rfl))) (sW_one (sT_cmp (od_ne (Room.u hr)) (sE_frz (sE_cmp od_is (NameOk.dv ⟨rfl, (by first | exact Or.inl rfl | exact Or.inr (Or.inl rfl) | exact Or.inr (Or.inr rfl)), rfl, rfl⟩) (sD_none) rfl)) (sE_frz (sE_cmp (od_eq (Room.u hr)) (NameOk.dv ⟨rfl, (by first | exact Or.inl rfl | exact Or.inr (Or.inl rfl) | exact Or.inr (Or.inr rfl)), rfl, rfl⟩) (sE_frz (sE_lst (sA_nil))) rfl)) rfl)))) (sSs_one (sS_ret (sE_dt sD_bool))) (sSs_nil))
        (sSs_cons (sS_if (PW.pt (sW_or (PW.pt (sW_and (sT_cmp od_isNot (NameOk.dv ⟨rfl, (by first | exact Or.inl rfl | exact Or.inr (Or.inl rfl) | exact Or.inr (Or.inr rfl)), rfl, rfl⟩) (sD_none) rfl) (sW_one (sT_cmp (od_notIn (Room.u hr)) (NameOk.dv ⟨rfl, (by first | exact Or.inl rfl | exact Or.inr (Or.inl rfl) | exact Or.inr (Or.inr rfl)), rfl, rfl⟩) (NameOk.dv ⟨rfl, (by first | exact Or.inl rfl | exact Or.inr (Or.inl rfl) | exact Or.inr (Or.inr rfl)), rfl, rfl⟩) rfl)))) (sW_one (sT_cmp od_notB (sE_frz (sE_call (F_shows_like.mono (by decide)) hr rfl fnX_takes (by simp [agNd, posOf]) rfl (sAg_d (NameOk.dv ⟨rfl, (by first | exact Or.inl rfl | exact Or.inr (Or.inl rfl) | exact Or.inr (Or.inr rfl)), rfl, rfl⟩) (sAg_d (NameOk.dv ⟨rfl, (by first | exact Or.inl rfl | exact Or.inr (Or.inl rfl) | exact Or.inr (Or.inr rfl)), rfl, rfl⟩) (sAg_d (NameOk.dv ⟨rfl, (by first | exact Or.inl rfl | exact Or.inr (Or.inl rfl) | exact Or.inr (Or.inr rfl)), rfl, rfl⟩) (sAg_nil) (fun _ _ => rfl)) (fun _ _ => rfl)) (fun _ _ => rfl)) (fun _ _ => rfl) rfl rfl)) (sD_bool) rfl)))) (sSs_one (sS_ret (sE_dt sD_bool))) (sSs_nil))
        (sSs_cons (sS_if (sT_not (sT_tru (sE_call (F__law_alike.mono (by decide)) hr rfl fnX_takes (by simp [agNd, posOf]) rfl (sAg_d (sE_frz (sE_call (F_shows_like.mono (by decide)) hr rfl fnX_takes (by simp [agNd, posOf]) rfl (sAg_d (NameOk.dv ⟨rfl, (by first | exact Or.inl rfl | exact Or.inr (Or.inl rfl) | exact Or.inr (Or.inr rfl)), rfl, rfl⟩) (sAg_d (NameOk.dv ⟨rfl, (by first | exact Or.inl rfl | exact Or.inr (Or.inl rfl) | exact Or.inr (Or.inr rfl)), rfl, rfl⟩) (sAg_d (sD_none) (sAg_nil) (fun _ _ => rfl)) (fun _ _ => rfl)) (fun _ _ => rfl)) (fun _ _ => rfl) rfl rfl)) (sAg_d (sE_frz (sE_cmp (od_eq (Room.u hr)) (NameOk.dv ⟨rfl, (by first | exact Or.inl rfl | exact Or.inr (Or.inl rfl) | exact Or.inr (Or.inr rfl)), rfl, rfl⟩) (sE_frz (sE_lst (sA_nil))) rfl)) (sAg_nil) (fun _ _ => rfl)) (fun _ _ => rfl)) (fun _ _ => rfl) rfl rfl) (fun _ => rfl))) (sSs_one (sS_ret (sE_dt sD_bool))) (sSs_nil))
        (sSs_cons (sS_for (vs := [6]) fnX_passes hcm (sI_range1 rfl Bl.range (sD_int) (fun _ _ => rfl)) (sG_name ⟨nd, rfl, (by first | exact Or.inl rfl | exact Or.inr rfl), (by first | exact Or.inr rfl | exact Or.inl rfl), hk 6 rfl⟩ (by decide)) (gok_n) (sSs_cons (LocOk.set ⟨nd, rfl, (by first | exact Or.inl rfl | exact Or.inr rfl), (by first | exact Or.inr rfl | exact Or.inl rfl), hk 8 rfl⟩ (sE_dt (sE_frz (sE_call (F__law_turn.mono (by decide)) hr rfl fnX_takes (by simp [agNd, posOf]) rfl (sAg_s ⟨rfl, (by first | exact Or.inl rfl | exact Or.inr (Or.inl rfl) | exact Or.inr (Or.inr rfl)), rfl, rfl⟩ (sAg_d (sE_frz (sE_ix (NameOk.dv ⟨rfl, (by first | exact Or.inl rfl | exact Or.inr (Or.inl rfl) | exact Or.inr (Or.inr rfl)), rfl, rfl⟩) (sD_int) (fun _ _ => rfl))) (sAg_nil) (fun _ _ => rfl))) (fun _ _ => rfl) rfl rfl))) rfl)
        (sSs_cons (LocOk.set ⟨nd, rfl, (by first | exact Or.inl rfl | exact Or.inr rfl), (by first | exact Or.inr rfl | exact Or.inl rfl), hk 8 rfl⟩ (sE_dt (sE_frz (sE_if (PW.pt (sW_and (sT_cmp (od_ne (Room.u hr)) (NameOk.dv ⟨rfl, (by first | exact Or.inl rfl | exact Or.inr (Or.inl rfl) | exact Or.inr (Or.inr rfl)), rfl, rfl⟩) (sE_frz (sE_lst (sA_nil))) rfl) (sW_one (sT_cmp (od_eq (Room.u hr)) (sE_frz (sE_call (F__law_taken.mono (by decide)) hr rfl fnX_takes (by simp [agNd, posOf]) rfl (sAg_s ⟨rfl, (by first | exact Or.inl rfl | exact Or.inr (Or.inl rfl) | exact Or.inr (Or.inr rfl)), rfl, rfl⟩ (sAg_d (sD_int) (sAg_nil) (fun _ _ => rfl))) (fun _ _ => rfl) rfl rfl)) (sD_int) rfl)))) (sE_call (F__law_pick.mono (by decide)) hr rfl fnX_takes (by simp [agNd, posOf]) rfl (sAg_s ⟨rfl, (by first | exact Or.inl rfl | exact Or.inr (Or.inl rfl) | exact Or.inr (Or.inr rfl)), rfl, rfl⟩ (sAg_d (NameOk.dv ⟨rfl, (by first | exact Or.inl rfl | exact Or.inr (Or.inl rfl) | exact Or.inr (Or.inr rfl)), rfl, rfl⟩) (sAg_nil) (fun _ _ => rfl))) (fun _ _ => rfl) rfl rfl) (NameOk.var ⟨rfl, (by first | exact Or.inl rfl | exact Or.inr (Or.inl rfl) | exact Or.inr (Or.inr rfl)), rfl, rfl⟩)))) rfl)
        (sSs_one (sS_if (sT_not (sT_tru (sE_call (F__law_alike.mono (by decide)) hr rfl fnX_takes (by simp [agNd, posOf]) rfl (sAg_d (sE_frz (sE_call (F_shows_like.mono (by decide)) hr rfl fnX_takes (by simp [agNd, posOf]) rfl (sAg_d (NameOk.dv ⟨rfl, (by first | exact Or.inl rfl | exact Or.inr (Or.inl rfl) | exact Or.inr (Or.inr rfl)), rfl, rfl⟩) (sAg_d (NameOk.dv ⟨rfl, (by first | exact Or.inl rfl | exact Or.inr (Or.inl rfl) | exact Or.inr (Or.inr rfl)), rfl, rfl⟩) (sAg_d (NameOk.dv ⟨rfl, (by first | exact Or.inl rfl | exact Or.inr (Or.inl rfl) | exact Or.inr (Or.inr rfl)), rfl, rfl⟩) (sAg_nil) (fun _ _ => rfl)) (fun _ _ => rfl)) (fun _ _ => rfl)) (fun _ _ => rfl) rfl rfl)) (sAg_d (sE_frz (sE_cmp (od_in (Room.u hr)) (NameOk.dv ⟨rfl, (by first | exact Or.inl rfl | exact Or.inr (Or.inl rfl) | exact Or.inr (Or.inr rfl)), rfl, rfl⟩) (NameOk.dv ⟨rfl, (by first | exact Or.inl rfl | exact Or.inr (Or.inl rfl) | exact Or.inr (Or.inr rfl)), rfl, rfl⟩) rfl)) (sAg_nil) (fun _ _ => rfl)) (fun _ _ => rfl)) (fun _ _ => rfl) rfl rfl) (fun _ => rfl))) (sSs_one (sS_ret (sE_dt sD_bool))) (sSs_nil))))) (fun _ => rfl))
        (sSs_cons (LocOk.set ⟨nd, rfl, (by first | exact Or.inl rfl | exact Or.inr rfl), (by first | exact Or.inr rfl | exact Or.inl rfl), hk 7 rfl⟩ (sE_dt (sE_frz (sE_lst (sA_cons (sE_frz (sE_tup (sA_nil))) (sA_cons (sE_frz (sE_callTy cr_list rfl Bl.list boot_list (NameOk.var ⟨rfl, (by first | exact Or.inl rfl | exact Or.inr (Or.inl rfl) | exact Or.inr (Or.inr rfl)), rfl, rfl⟩) (fun _ _ => rfl) (by decide) rfl)) (sA_cons (sE_frz (sE_bin od_add (NameOk.dv ⟨rfl, (by first | exact Or.inl rfl | exact Or.inr (Or.inl rfl) | exact Or.inr (Or.inr rfl)), rfl, rfl⟩) (sE_frz (sE_tup (sA_cons (sE_frz (sE_ix (NameOk.dv ⟨rfl, (by first | exact Or.inl rfl | exact Or.inr (Or.inl rfl) | exact Or.inr (Or.inr rfl)), rfl, rfl⟩) (sD_int) (fun _ _ => rfl))) (sA_nil) (fun _ _ => rfl)))))) (sA_cons (sE_frz (sE_slice (NameOk.dv ⟨rfl, (by first | exact Or.inl rfl | exact Or.inr (Or.inl rfl) | exact Or.inr (Or.inr rfl)), rfl, rfl⟩) (sO_none) (sO_some (sE_frz (sE_neg (sD_int)))))) (sA_cons (sE_frz (sE_bin od_add (sE_frz (sE_slice (NameOk.dv ⟨rfl, (by first | exact Or.inl rfl | exact Or.inr (Or.inl rfl) | exact Or.inr (Or.inr rfl)), rfl, rfl⟩) (sO_none) (sO_some (sE_frz (sE_neg (sD_int)))))) (sE_frz (sE_tup (sA_cons (sD_none) (sA_nil) (fun _ _ => rfl)))))) (sA_nil) (fun _ _ => rfl)) (fun _ _ => rfl)) (fun _ _ => rfl)) (fun _ _ => rfl)) (fun _ _ => rfl))))) rfl)
        (sSs_cons (LocOk.set ⟨nd, rfl, (by first | exact Or.inl rfl | exact Or.inr rfl), (by first | exact Or.inr rfl | exact Or.inl rfl), hk 7 rfl⟩ (sE_dt (sE_frz (sE_bin od_add (NameOk.dv ⟨rfl, (by first | exact Or.inl rfl | exact Or.inr (Or.inl rfl) | exact Or.inr (Or.inr rfl)), rfl, rfl⟩) (sE_frz (sE_lst (sA_cons (sE_frz (sE_bin od_add (sE_frz (sE_tup (sA_cons (sD_bool) (sA_nil) (fun _ _ => rfl)))) (sE_frz (sE_slice (NameOk.dv ⟨rfl, (by first | exact Or.inl rfl | exact Or.inr (Or.inl rfl) | exact Or.inr (Or.inr rfl)), rfl, rfl⟩) (sO_some (sD_int)) (sO_none))))) (sA_cons (sD_int) (sA_cons (sE_frz (sE_newD)) (sA_cons (sE_frz (sE_bin od_add (sE_frz (sE_bin od_mul (sE_frz (sE_tup (sA_cons (sD_int) (sA_nil) (fun _ _ => rfl)))) (sE_frz (sE_ix (NameOk.dv ⟨rfl, (by first | exact Or.inl rfl | exact Or.inr (Or.inl rfl) | exact Or.inr (Or.inr rfl)), rfl, rfl⟩) (sD_int) (fun _ _ => rfl))))) (sE_frz (sE_tup (sA_cons (sD_int) (sA_nil) (fun _ _ => rfl)))))) (sA_nil) (fun _ _ => rfl)) (fun _ _ => rfl)) (fun _ _ => rfl)) (fun _ _ => rfl))))))) rfl)
        (sSs_cons (sS_if (sT_cmp od_notB (sE_frz (sE_call (F_are_alike.mono (by decide)) hr rfl fnX_takes (by simp [agNd, posOf]) rfl (sAg_d (NameOk.dv ⟨rfl, (by first | exact Or.inl rfl | exact Or.inr (Or.inl rfl) | exact Or.inr (Or.inr rfl)), rfl, rfl⟩) (sAg_d (NameOk.dv ⟨rfl, (by first | exact Or.inl rfl | exact Or.inr (Or.inl rfl) | exact Or.inr (Or.inr rfl)), rfl, rfl⟩) (sAg_nil) (fun _ _ => rfl)) (fun _ _ => rfl)) (fun _ _ => rfl) rfl rfl)) (sD_bool) rfl) (sSs_one (sS_ret (sE_dt sD_bool))) (sSs_nil))
        (sSs_one (sS_ret (sE_cmp (od_eq (Room.u hr)) (sE_frz (sE_lc (own := [("_law_value", 9)]) hcm nd (sI_seq (NameOk.dv ⟨rfl, (by first | exact Or.inl rfl | exact Or.inr (Or.inl rfl) | exact Or.inr (Or.inr rfl)), rfl, rfl⟩)) (blkOk_by rfl) ⟨fun _ _ _ _ _ _ => sG_name ⟨nd, rfl, (by first | exact Or.inl rfl | exact Or.inr rfl), (by first | exact Or.inr rfl | exact Or.inl rfl), hk 9 rfl⟩ (by decide), fun _ _ _ _ _ _ => sTs_one (sT_cmp od_notB (sE_frz (sE_call (F_shows_like.mono (by decide)) hr rfl takesB (by simp [agNd, posOf]) rfl (sAg_d (NameOk.dv ⟨rfl, (by first | exact Or.inl rfl | exact Or.inr (Or.inl rfl) | exact Or.inr (Or.inr rfl)), rfl, rfl⟩) (sAg_d (NameOk.dv ⟨rfl, (by first | exact Or.inl rfl | exact Or.inr (Or.inl rfl) | exact Or.inr (Or.inr rfl)), rfl, rfl⟩) (sAg_d (NameOk.dv ⟨rfl, (by first | exact Or.inl rfl | exact Or.inr (Or.inl rfl) | exact Or.inr (Or.inr rfl)), rfl, rfl⟩) (sAg_nil) (fun _ _ => rfl)) (fun _ _ => rfl)) (fun _ _ => rfl)) (fun _ _ => rfl) rfl rfl)) (sD_bool) rfl), fun _ _ _ _ _ _ => NameOk.dv ⟨rfl, (by first | exact Or.inl rfl | exact Or.inr (Or.inl rfl) | exact Or.inr (Or.inr rfl)), rfl, rfl⟩⟩ (gok_n) (by intro i hi; exact hk i (by revert i; decide)) (fun _ => rfl))) (sE_frz (sE_lst (sA_nil))) rfl))))))))))))))

end TL
set_option Elab.async false
set_option linter.all false
set_option maxRecDepth 100000
set_option maxHeartbeats 0
namespace TL
open PySem PySem.Spec PyProof.Rows L2 GxR
def h_is_number : He.DefD := ⟨("is_number", none), "is_number", "is_number", defArgs (top 5), defBody (top 5), defScope (top 5), [], []⟩
def h_is_door : He.DefD := ⟨("is_door", none), "is_door", "is_door", defArgs (top 6), defBody (top 6), defScope (top 6), [], []⟩
def h_come_to : He.DefD := ⟨("come_to", none), "come_to", "come_to", defArgs (top 7), defBody (top 7), defScope (top 7), [], []⟩
def h_is_joined : He.DefD := ⟨("is_joined", none), "is_joined", "is_joined", defArgs (top 8), defBody (top 8), defScope (top 8), [], []⟩
def h_wrong_part : He.DefD := ⟨("wrong_part", none), "wrong_part", "wrong_part", defArgs (top 9), defBody (top 9), defScope (top 9), [], []⟩
def h_need_house : He.DefD := ⟨("need_house", none), "need_house", "need_house", defArgs (top 10), defBody (top 10), defScope (top 10), [], []⟩
def h_Maps_init : He.DefD := ⟨("Maps", some "__init__"), "__init__", "Maps.__init__", defArgs (clsAt (top 12) 0), defBody (clsAt (top 12) 0), defScope (clsAt (top 12) 0), [], []⟩
def h_Maps_fits : He.DefD := ⟨("Maps", some "fits"), "fits", "Maps.fits", defArgs (clsAt (top 12) 1), defBody (clsAt (top 12) 1), defScope (clsAt (top 12) 1), [], []⟩
def h_Maps_found : He.DefD := ⟨("Maps", some "found"), "found", "Maps.found", defArgs (clsAt (top 12) 2), defBody (clsAt (top 12) 2), defScope (clsAt (top 12) 2), [], []⟩
def h_need_two : He.DefD := ⟨("need_two", none), "need_two", "need_two", defArgs (top 14), defBody (top 14), defScope (top 14), [], []⟩
def h_like_of : He.DefD := ⟨("like_of", none), "like_of", "like_of", defArgs (top 15), defBody (top 15), defScope (top 15), [], []⟩
def h_like : He.DefD := ⟨("like", none), "like", "like", defArgs (top 16), defBody (top 16), defScope (top 16), [], []⟩
def h_are_alike : He.DefD := ⟨("are_alike", none), "are_alike", "are_alike", defArgs (top 17), defBody (top 17), defScope (top 17), [], []⟩
def h_shows_like : He.DefD := ⟨("shows_like", none), "shows_like", "shows_like", defArgs (top 18), defBody (top 18), defScope (top 18), [], []⟩
def h__law_taken : He.DefD := ⟨("_law_taken", none), "_law_taken", "_law_taken", defArgs (top 20), defBody (top 20), defScope (top 20), [], []⟩
def h__law_pick : He.DefD := ⟨("_law_pick", none), "_law_pick", "_law_pick", defArgs (top 21), defBody (top 21), defScope (top 21), [], []⟩
def h__law_alike : He.DefD := ⟨("_law_alike", none), "_law_alike", "_law_alike", defArgs (top 22), defBody (top 22), defScope (top 22), [], []⟩
def h__law_circle : He.DefD := ⟨("_law_circle", none), "_law_circle", "_law_circle", defArgs (top 23), defBody (top 23), defScope (top 23), [], []⟩
def h__law_known : He.DefD := ⟨("_law_known", none), "_law_known", "_law_known", defArgs (top 24), defBody (top 24), defScope (top 24), [], []⟩
def h__law_moved : He.DefD := ⟨("_law_moved", none), "_law_moved", "_law_moved", defArgs (top 25), defBody (top 25), defScope (top 25), [], []⟩
def h__law_turn : He.DefD := ⟨("_law_turn", none), "_law_turn", "_law_turn", defArgs (top 26), defBody (top 26), defScope (top 26), [], []⟩
def h__law_house : He.DefD := ⟨("_law_house", none), "_law_house", "_law_house", defArgs (top 27), defBody (top 27), defScope (top 27), [], []⟩
def h__law_maps : He.DefD := ⟨("_law_maps", none), "_law_maps", "_law_maps", defArgs (top 28), defBody (top 28), defScope (top 28), [], []⟩
def h_law : He.DefD := ⟨("law", none), "law", "law", defArgs (top 29), defBody (top 29), defScope (top 29), [], []⟩
def hfn : List He.DefD := [h_is_number, h_is_door, h_come_to, h_is_joined, h_wrong_part, h_need_house, h_Maps_init, h_Maps_fits, h_Maps_found, h_need_two, h_like_of, h_like, h_are_alike, h_shows_like, h__law_taken, h__law_pick, h__law_alike, h__law_circle, h__law_known, h__law_moved, h__law_turn, h__law_house, h__law_maps, h_law]
def hblt : List Str := ["len", "isinstance", "int", "bool", "str", "tuple", "list", "dict", "set", "range", "zip", "enumerate", "sorted", "all", "min", "max", "sum"]
def hfa0 : List He.Fa := [.glo "is_number", .glo "is_door", .glo "come_to", .glo "is_joined", .glo "wrong_part", .glo "need_house", .glo "Maps", .glo "Maps", .glo "Maps", .glo "need_two", .glo "like_of", .glo "like", .glo "are_alike", .glo "shows_like", .glo "_law_taken", .glo "_law_pick", .glo "_law_alike", .glo "_law_circle", .glo "_law_known", .glo "_law_moved", .glo "_law_turn", .glo "_law_house", .glo "_law_maps", .glo "law", .int "MOST_HALLS" 10]
def hfb : List He.Fa := [.cls "Maps", .mkr "Maps", .noat "Maps" "halls", .noat "Maps" "there", .noat "Maps" "mates", .noat "Maps" "most", .meth "Maps" "fits", .meth "Maps" "found"]
def hfa : List He.Fa := (hfa0 ++ hblt.map He.Fa.free) ++ hfb
def htf : List He.Defn := [("is_door", none), ("wrong_part", none), ("shows_like", none)]
def hnames : List Str := ["HallError", "BadHouse", "MOST_HALLS", "is_number", "is_door", "come_to", "is_joined", "wrong_part", "need_house", "Maps", "need_two", "like_of", "like", "are_alike", "shows_like", "_law_taken", "_law_pick", "_law_alike", "_law_circle", "_law_known", "_law_moved", "_law_turn", "_law_house", "_law_maps"]
abbrev R0 : PySem.W.OpenRow := PySem.W.OpenLaw.row PySem.Challenge.rw_letterhalls_k09_whole_likes
def exOf (K : PySem.W.Frag) : Str → Option Addr := fun x => if x = "Maps" then some (He.ga K "Maps") else none
abbrev hk0 : PySem.W.Hook := He.hookX 5 hfa hfn [] htf noLists
def ob0 (s : PySem.W.SharedT) : He.AlX := He.obsX 5 hfa hfn [] htf noLists (HandSHeadRun.getT s)
theorem ob0_eq (s : PySem.W.SharedT) : ob0 s = hk0.obs s.abs := He.obsX_eq (HandSHeadRun.getT_eq s)
theorem run0 (w : World) : HandSHeadRun.RunEq R0 (PySem.W.view R0.prog [29]) hk0 ob0 4000 hnames w := by
  intro os
  kernel_rfl
theorem facts0 (w : World) (mg : Str → Option Value) (h : Heap) (K : PySem.W.Frag) (X : K.In h) (G : h.Ns mainGlobals mg) (c : He.SaysX hfa hfn [] htf noLists w h K) : ∃ fd ex, mg "law" = some (.ref (He.ga K "law")) ∧ (∀ (s : Shared) (u : Value), BindsTo s fd ⟨[u], []⟩ [("_law_script", u)]) ∧
    ∀ base : Heap, K.In base → base.Ns mainGlobals mg → (∀ p ∈ htf, TabB base mg (He.cT K p).1 (He.cT K p).2) → FnOk R0.prog w K mg base (L2.CX R0.prog w) 10 (He.ga K "law") fd ["_law_script"] (fnSp 1 (htf.map fun p => (He.cT K p).2) ex f_law) := by
  have cd := c.t.d
  have Bl : Blt mg := blt_of X G cd fun x hx => List.mem_append_left _ (List.mem_append_right _ (List.mem_map.mpr ⟨x, hx, rfl⟩))
  have g_is_number := glo_of X G cd (x := "is_number") (List.mem_append_left _ (List.mem_append_left _ (List.mem_of_getElem? (i := 0) rfl)))
  obtain ⟨fd_is_number, C_is_number⟩ := funC_of cd (d := h_is_number) (List.mem_of_getElem? (i := 0) rfl) rfl
  have g_is_door := glo_of X G cd (x := "is_door") (List.mem_append_left _ (List.mem_append_left _ (List.mem_of_getElem? (i := 1) rfl)))
  obtain ⟨fd_is_door, C_is_door⟩ := funC_of cd (d := h_is_door) (List.mem_of_getElem? (i := 1) rfl) rfl
  have g_come_to := glo_of X G cd (x := "come_to") (List.mem_append_left _ (List.mem_append_left _ (List.mem_of_getElem? (i := 2) rfl)))
  obtain ⟨fd_come_to, C_come_to⟩ := funC_of cd (d := h_come_to) (List.mem_of_getElem? (i := 2) rfl) rfl
  have g_is_joined := glo_of X G cd (x := "is_joined") (List.mem_append_left _ (List.mem_append_left _ (List.mem_of_getElem? (i := 3) rfl)))
  obtain ⟨fd_is_joined, C_is_joined⟩ := funC_of cd (d := h_is_joined) (List.mem_of_getElem? (i := 3) rfl) rfl
  have g_wrong_part := glo_of X G cd (x := "wrong_part") (List.mem_append_left _ (List.mem_append_left _ (List.mem_of_getElem? (i := 4) rfl)))
  obtain ⟨fd_wrong_part, C_wrong_part⟩ := funC_of cd (d := h_wrong_part) (List.mem_of_getElem? (i := 4) rfl) rfl
  have g_need_house := glo_of X G cd (x := "need_house") (List.mem_append_left _ (List.mem_append_left _ (List.mem_of_getElem? (i := 5) rfl)))
  obtain ⟨fd_need_house, C_need_house⟩ := funC_of cd (d := h_need_house) (List.mem_of_getElem? (i := 5) rfl) rfl
  obtain ⟨fd_Maps_init, C_Maps_init⟩ := funC_of cd (d := h_Maps_init) (List.mem_of_getElem? (i := 6) rfl) rfl
  obtain ⟨fd_Maps_fits, C_Maps_fits⟩ := funC_of cd (d := h_Maps_fits) (List.mem_of_getElem? (i := 7) rfl) rfl
  obtain ⟨fd_Maps_found, C_Maps_found⟩ := funC_of cd (d := h_Maps_found) (List.mem_of_getElem? (i := 8) rfl) rfl
  have g_need_two := glo_of X G cd (x := "need_two") (List.mem_append_left _ (List.mem_append_left _ (List.mem_of_getElem? (i := 9) rfl)))
  obtain ⟨fd_need_two, C_need_two⟩ := funC_of cd (d := h_need_two) (List.mem_of_getElem? (i := 9) rfl) rfl
  have g_like_of := glo_of X G cd (x := "like_of") (List.mem_append_left _ (List.mem_append_left _ (List.mem_of_getElem? (i := 10) rfl)))
  obtain ⟨fd_like_of, C_like_of⟩ := funC_of cd (d := h_like_of) (List.mem_of_getElem? (i := 10) rfl) rfl
  have g_like := glo_of X G cd (x := "like") (List.mem_append_left _ (List.mem_append_left _ (List.mem_of_getElem? (i := 11) rfl)))
  obtain ⟨fd_like, C_like⟩ := funC_of cd (d := h_like) (List.mem_of_getElem? (i := 11) rfl) rfl
  have g_are_alike := glo_of X G cd (x := "are_alike") (List.mem_append_left _ (List.mem_append_left _ (List.mem_of_getElem? (i := 12) rfl)))
  obtain ⟨fd_are_alike, C_are_alike⟩ := funC_of cd (d := h_are_alike) (List.mem_of_getElem? (i := 12) rfl) rfl
  have g_shows_like := glo_of X G cd (x := "shows_like") (List.mem_append_left _ (List.mem_append_left _ (List.mem_of_getElem? (i := 13) rfl)))
  obtain ⟨fd_shows_like, C_shows_like⟩ := funC_of cd (d := h_shows_like) (List.mem_of_getElem? (i := 13) rfl) rfl
  have g__law_taken := glo_of X G cd (x := "_law_taken") (List.mem_append_left _ (List.mem_append_left _ (List.mem_of_getElem? (i := 14) rfl)))
  obtain ⟨fd__law_taken, C__law_taken⟩ := funC_of cd (d := h__law_taken) (List.mem_of_getElem? (i := 14) rfl) rfl
  have g__law_pick := glo_of X G cd (x := "_law_pick") (List.mem_append_left _ (List.mem_append_left _ (List.mem_of_getElem? (i := 15) rfl)))
  obtain ⟨fd__law_pick, C__law_pick⟩ := funC_of cd (d := h__law_pick) (List.mem_of_getElem? (i := 15) rfl) rfl
  have g__law_alike := glo_of X G cd (x := "_law_alike") (List.mem_append_left _ (List.mem_append_left _ (List.mem_of_getElem? (i := 16) rfl)))
  obtain ⟨fd__law_alike, C__law_alike⟩ := funC_of cd (d := h__law_alike) (List.mem_of_getElem? (i := 16) rfl) rfl
  have g__law_circle := glo_of X G cd (x := "_law_circle") (List.mem_append_left _ (List.mem_append_left _ (List.mem_of_getElem? (i := 17) rfl)))
  obtain ⟨fd__law_circle, C__law_circle⟩ := funC_of cd (d := h__law_circle) (List.mem_of_getElem? (i := 17) rfl) rfl
  have g__law_known := glo_of X G cd (x := "_law_known") (List.mem_append_left _ (List.mem_append_left _ (List.mem_of_getElem? (i := 18) rfl)))
  obtain ⟨fd__law_known, C__law_known⟩ := funC_of cd (d := h__law_known) (List.mem_of_getElem? (i := 18) rfl) rfl
  have g__law_moved := glo_of X G cd (x := "_law_moved") (List.mem_append_left _ (List.mem_append_left _ (List.mem_of_getElem? (i := 19) rfl)))
  obtain ⟨fd__law_moved, C__law_moved⟩ := funC_of cd (d := h__law_moved) (List.mem_of_getElem? (i := 19) rfl) rfl
  have g__law_turn := glo_of X G cd (x := "_law_turn") (List.mem_append_left _ (List.mem_append_left _ (List.mem_of_getElem? (i := 20) rfl)))
  obtain ⟨fd__law_turn, C__law_turn⟩ := funC_of cd (d := h__law_turn) (List.mem_of_getElem? (i := 20) rfl) rfl
  have g__law_house := glo_of X G cd (x := "_law_house") (List.mem_append_left _ (List.mem_append_left _ (List.mem_of_getElem? (i := 21) rfl)))
  obtain ⟨fd__law_house, C__law_house⟩ := funC_of cd (d := h__law_house) (List.mem_of_getElem? (i := 21) rfl) rfl
  have g__law_maps := glo_of X G cd (x := "_law_maps") (List.mem_append_left _ (List.mem_append_left _ (List.mem_of_getElem? (i := 22) rfl)))
  obtain ⟨fd__law_maps, C__law_maps⟩ := funC_of cd (d := h__law_maps) (List.mem_of_getElem? (i := 22) rfl) rfl
  have g_law := glo_of X G cd (x := "law") (List.mem_append_left _ (List.mem_append_left _ (List.mem_of_getElem? (i := 23) rfl)))
  obtain ⟨fd_law, C_law⟩ := funC_of cd (d := h_law) (List.mem_of_getElem? (i := 23) rfl) rfl
  have g_Maps := glo_of X G cd (x := "Maps") (List.mem_append_left _ (List.mem_append_left _ (List.mem_of_getElem? (i := 6) rfl)))
  have k_Maps := He.cls_ok (x := "Maps") (cd.facts (List.mem_append_right _ (List.mem_of_getElem? (i := 0) rfl)))
  have m_Maps := He.mkr_ok (x := "Maps") (cd.facts (List.mem_append_right _ (List.mem_of_getElem? (i := 1) rfl)))
  have X_Maps_halls : FldOk K (exOf K) "Maps" "halls" := fun cl h => by cases h; exact ⟨k_Maps, He.noat_ok (cd.facts (List.mem_append_right _ (List.mem_of_getElem? (i := 2) rfl)))⟩
  have X_Maps_there : FldOk K (exOf K) "Maps" "there" := fun cl h => by cases h; exact ⟨k_Maps, He.noat_ok (cd.facts (List.mem_append_right _ (List.mem_of_getElem? (i := 3) rfl)))⟩
  have X_Maps_mates : FldOk K (exOf K) "Maps" "mates" := fun cl h => by cases h; exact ⟨k_Maps, He.noat_ok (cd.facts (List.mem_append_right _ (List.mem_of_getElem? (i := 4) rfl)))⟩
  have X_Maps_most : FldOk K (exOf K) "Maps" "most" := fun cl h => by cases h; exact ⟨k_Maps, He.noat_ok (cd.facts (List.mem_append_right _ (List.mem_of_getElem? (i := 5) rfl)))⟩
  have t_Maps_fits := He.meth_ok (x := "Maps") (m := "fits") (cd.facts (List.mem_append_right _ (List.mem_of_getElem? (i := 6) rfl)))
  have t_Maps_found := He.meth_ok (x := "Maps") (m := "found") (cd.facts (List.mem_append_right _ (List.mem_of_getElem? (i := 7) rfl)))
  obtain ⟨t_MOST_HALLS, hc_MOST_HALLS⟩ := He.int_ok X G (cd.facts (f := .int "MOST_HALLS" 10) (List.mem_append_left _ (List.mem_append_left _ (List.mem_of_getElem? (i := 24) rfl))))
  refine ⟨fd_law, exOf K, g_law, fun s u => C_law.bindsA (ps := ["_law_script"]) (fun _ _ _ _ _ _ us hl => match us, hl with | [_], _ => rfl) s [u] rfl, fun base hKb hns TB => ?_⟩
  have F_is_number := d_is_number (P := R0.prog) (w := w) (base := base) (T := htf.map fun p => (He.cT K p).2) (ex := exOf K) Bl C_is_number g_is_number
  have F_is_door := d_is_door (P := R0.prog) (w := w) (base := base) (T := htf.map fun p => (He.cT K p).2) (ex := exOf K) Bl F_is_number (TB ("is_door", none) (List.mem_of_getElem? (i := 0) rfl)) (List.mem_map.mpr ⟨("is_door", none), List.mem_of_getElem? (i := 0) rfl, rfl⟩) C_is_door g_is_door
  have F_come_to := d_come_to (P := R0.prog) (w := w) (base := base) (T := htf.map fun p => (He.cT K p).2) (ex := exOf K) Bl C_come_to g_come_to
  have F_is_joined := d_is_joined (P := R0.prog) (w := w) (base := base) (T := htf.map fun p => (He.cT K p).2) (ex := exOf K) Bl F_come_to C_is_joined g_is_joined
  have F_wrong_part := d_wrong_part (P := R0.prog) (w := w) (base := base) (T := htf.map fun p => (He.cT K p).2) (ex := exOf K) Bl hc_MOST_HALLS F_is_number F_is_door F_is_joined (TB ("wrong_part", none) (List.mem_of_getElem? (i := 1) rfl)) (List.mem_map.mpr ⟨("wrong_part", none), List.mem_of_getElem? (i := 1) rfl, rfl⟩) C_wrong_part g_wrong_part
  have F_need_house := d_need_house (P := R0.prog) (w := w) (base := base) (T := htf.map fun p => (He.cT K p).2) (ex := exOf K) Bl F_wrong_part C_need_house g_need_house
  have F_Maps_init := d_Maps_init (P := R0.prog) (w := w) (base := base) (T := htf.map fun p => (He.cT K p).2) (ex := exOf K) Bl X_Maps_halls X_Maps_there X_Maps_mates X_Maps_most C_Maps_init rfl g_Maps m_Maps
  have F_Maps_fits := d_Maps_fits (P := R0.prog) (w := w) (base := base) (T := htf.map fun p => (He.cT K p).2) (ex := exOf K) Bl X_Maps_there X_Maps_mates C_Maps_fits rfl k_Maps t_Maps_fits
  have F_Maps_found := d_Maps_found (P := R0.prog) (w := w) (base := base) (T := htf.map fun p => (He.cT K p).2) (ex := exOf K) Bl F_Maps_fits X_Maps_most X_Maps_halls C_Maps_found rfl k_Maps t_Maps_found
  have F_need_two := d_need_two (P := R0.prog) (w := w) (base := base) (T := htf.map fun p => (He.cT K p).2) (ex := exOf K) Bl F_need_house C_need_two g_need_two
  have F_like_of := d_like_of (P := R0.prog) (w := w) (base := base) (T := htf.map fun p => (He.cT K p).2) (ex := exOf K) Bl F_Maps_init F_Maps_found C_like_of g_like_of
  have F_like := d_like (P := R0.prog) (w := w) (base := base) (T := htf.map fun p => (He.cT K p).2) (ex := exOf K) Bl F_need_two F_like_of C_like g_like
  have F_are_alike := d_are_alike (P := R0.prog) (w := w) (base := base) (T := htf.map fun p => (He.cT K p).2) (ex := exOf K) Bl F_need_two F_like_of C_are_alike g_are_alike
  have F_shows_like := d_shows_like (P := R0.prog) (w := w) (base := base) (T := htf.map fun p => (He.cT K p).2) (ex := exOf K) Bl F_need_two F_like_of F_is_number (TB ("shows_like", none) (List.mem_of_getElem? (i := 2) rfl)) (List.mem_map.mpr ⟨("shows_like", none), List.mem_of_getElem? (i := 2) rfl, rfl⟩) C_shows_like g_shows_like
  have F__law_taken := d__law_taken (P := R0.prog) (w := w) (base := base) (T := htf.map fun p => (He.cT K p).2) (ex := exOf K) Bl C__law_taken g__law_taken
  have F__law_pick := d__law_pick (P := R0.prog) (w := w) (base := base) (T := htf.map fun p => (He.cT K p).2) (ex := exOf K) Bl F__law_taken C__law_pick g__law_pick
  have F__law_alike := d__law_alike (P := R0.prog) (w := w) (base := base) (T := htf.map fun p => (He.cT K p).2) (ex := exOf K) Bl C__law_alike g__law_alike
  have F__law_circle := d__law_circle (P := R0.prog) (w := w) (base := base) (T := htf.map fun p => (He.cT K p).2) (ex := exOf K) Bl C__law_circle g__law_circle
  have F__law_known := d__law_known (P := R0.prog) (w := w) (base := base) (T := htf.map fun p => (He.cT K p).2) (ex := exOf K) Bl F__law_circle C__law_known g__law_known
  have F__law_moved := d__law_moved (P := R0.prog) (w := w) (base := base) (T := htf.map fun p => (He.cT K p).2) (ex := exOf K) Bl C__law_moved g__law_moved
  have F__law_turn := d__law_turn (P := R0.prog) (w := w) (base := base) (T := htf.map fun p => (He.cT K p).2) (ex := exOf K) Bl F__law_taken C__law_turn g__law_turn
  have F__law_house := d__law_house (P := R0.prog) (w := w) (base := base) (T := htf.map fun p => (He.cT K p).2) (ex := exOf K) Bl F__law_taken F__law_pick F__law_known F__law_moved F__law_turn F__law_circle C__law_house g__law_house
  have F__law_maps := d__law_maps (P := R0.prog) (w := w) (base := base) (T := htf.map fun p => (He.cT K p).2) (ex := exOf K) Bl C__law_maps g__law_maps
  exact d_law (P := R0.prog) (w := w) (base := base) Bl F__law_house F__law_pick F__law_moved F__law_turn F__law_maps F_like F__law_alike F_are_alike F_shows_like F__law_taken C_law g_law
end TL
open PySem PySem.W PySem.Calls PyProof.Rows
theorem PySem.Challenge.holds0 (hm : TL.Says TL.f_law) : PySem.Challenge.rw_letterhalls_k09_whole_likes.Holds := by
  w_on; o_law
  refine HandSHeadRun.head_any (r := OpenLaw.row PySem.Challenge.rw_letterhalls_k09_whole_likes) (q := view (OpenLaw.row PySem.Challenge.rw_letterhalls_k09_whole_likes).prog [29]) (H := TL.hk0) (ob := TL.ob0) (M := 4000) (loose := TL.hnames) (d := HandSHeadRun.topDef (OpenLaw.row PySem.Challenge.rw_letterhalls_k09_whole_likes).prog 29) (kwd := []) TL.ob0_eq
    (by kernel_rfl) (fun s => by kernel_rfl) TL.run0 (by kernel_rfl) (by kernel_rfl) (by kernel_rfl) (by rfl) (by first | assumption | decide +kernel) (by decide +kernel) ⟨rfl, rfl, rfl, rfl, rfl, by decide +kernel⟩ ?hw ?hc
  case hw => w_witness2
  case hc => exact TL.walk_tl (x := "_law_script") (k := 10) (ex := fun _ => none) rfl (by kernel_rfl) (by kernel_rfl) ⟨rfl, by decide, by decide⟩ TL.facts0 hm
set_option Elab.async false
set_option linter.all false
set_option maxRecDepth 100000
namespace TL
open PySem PySem.Spec PyProof.Rows L2
/-! ### mirrors, run -/
section
variable {α β : Type}
@[simp] theorem aT_ok (a : α) (e : Env) (f : α → M β) : Out.andThen (some (.ok a e)) f = f a e := rfl
@[simp] theorem aT_exc (x : Exn) (e : Env) (f : α → M β) : Out.andThen (some (.exc x e)) f = some (.exc x e) := rfl
@[simp] theorem aT_none (f : α → M β) : Out.andThen none f = none := rfl
@[simp] theorem bind_at' (m : M α) (f : α → M β) (e : Env) : (m >>= f) e = Out.andThen (m e) f := rfl
@[simp] theorem pure_at' (a : α) (e : Env) : (pure a : M α) e = some (.ok a e) := rfl
@[simp] theorem opt_some_at (a : α) (e : Env) : M.opt (some a) e = some (.ok a e) := rfl
@[simp] theorem opt_none_at (e : Env) : M.opt (none : Option α) e = none := rfl
@[simp] theorem dat_d (x : PyData) : (OV.d x).dat = some x := rfl
@[simp] theorem dat_lst (x : List PyData) : (OV.lst x).dat = some (.list x) := rfl
@[simp] theorem frz_at (m : M OV) (e : Env) : frz m e = Out.andThen (m e) fun v => M.opt v.dat := rfl
@[simp] theorem dat_at (m : M PyData) (e : Env) : dat m e = Out.andThen (m e) fun x => pure (.d x) := rfl
@[simp] theorem dC_at (x : PyData) (e : Env) : dC x e = some (.ok x e) := rfl
@[simp] theorem mBin_at (g : PyData → PyData → Option OV) (a b : M PyData) (e : Env) : mBin g a b e = Out.andThen (a e) fun x => b >>= fun y => M.opt (g x y) := rfl
@[simp] theorem mOne_at (g : OV → Option OV) (m : M OV) (e : Env) : mOne g m e = Out.andThen (m e) fun v => M.opt (g v) := rfl
@[simp] theorem mCons_at (a : M PyData) (r : M (List PyData)) (e : Env) : mCons a r e = Out.andThen (a e) fun x => r >>= fun xs => pure (x :: xs) := rfl
@[simp] theorem mNot_at (m : M Bool) (e : Env) : mNot m e = Out.andThen (m e) fun b => pure (!b) := rfl
@[simp] theorem mAnd_at (a b : M Bool) (e : Env) : mAnd a b e = Out.andThen (a e) fun x => if x then b else pure false := rfl
@[simp] theorem mOr_at (a b : M Bool) (e : Env) : mOr a b e = Out.andThen (a e) fun x => if x then pure true else b := rfl
@[simp] theorem mAndV_at (a b : M OV) (e : Env) : mAndV a b e = Out.andThen (asB a e) fun x => if x then b else pure (.d (.bool false)) := rfl
@[simp] theorem mOrV_at (a b : M OV) (e : Env) : mOrV a b e = Out.andThen (asB a e) fun x => if x then pure (.d (.bool true)) else b := rfl
@[simp] theorem mNotV_at (a : M OV) (e : Env) : mNotV a e = Out.andThen (asB a e) fun x => pure (.d (.bool (!x))) := rfl
def boolOf : OV → M Bool
  | .d (.bool b) => pure b
  | _ => fun _ => none
@[simp] theorem boolOf_b (b : Bool) : boolOf (.d (.bool b)) = pure b := rfl
@[simp] theorem asB_at (m : M OV) (e : Env) : asB m e = Out.andThen (m e) boolOf := rfl
@[simp] theorem mTru_at (m : M OV) (e : Env) : mTru m e = Out.andThen (m e) fun v => M.opt (ovTru v) := rfl
@[simp] theorem ovTru_b (b : Bool) : ovTru (.d (.bool b)) = some b := rfl
@[simp] theorem ovTru_t (xs : List PyData) : ovTru (.d (.tuple xs)) = some (!xs.isEmpty) := rfl
@[simp] theorem ovTru_l (xs : List PyData) : ovTru (.d (.list xs)) = some (!xs.isEmpty) := rfl
@[simp] theorem ovTru_o (xs : List PyData) : ovTru (.lst xs) = some (!xs.isEmpty) := rfl
@[simp] theorem mIf_at (t : M Bool) (a b : M α) (e : Env) : mIf t a b e = Out.andThen (t e) fun x => if x then a else b := rfl
@[simp] theorem mRet_at (m : M OV) (e : Env) : mRet m e = Out.andThen (m e) fun v => pure (.rt v) := rfl
@[simp] theorem mDrop_at (m : M OV) (e : Env) : mDrop m e = Out.andThen (m e) fun _ => pure .nx := rfl
@[simp] theorem mSet_at (i : Nat) (m : M OV) (e : Env) : mSet i m e = Out.andThen (m e) fun v => fun e => some (.ok .nx (e.set i (some v))) := rfl
def fThen (b : M Fl) : Fl → M Fl
  | .nx => b
  | f => pure f
@[simp] theorem fThen_nx (b : M Fl) : fThen b .nx = b := rfl
@[simp] theorem fThen_rt (b : M Fl) (r : OV) : fThen b (.rt r) = pure (.rt r) := rfl
@[simp] theorem mThen_at (a b : M Fl) (e : Env) : mThen a b e = Out.andThen (a e) (fThen b) := rfl
@[simp] theorem mPar_at (i j : Nat) (a b : M OV) (e : Env) : mPar i j a b e = Out.andThen (a e) fun x => b >>= fun y => fun e => some (.ok .nx ((e.set i (some x)).set j (some y))) := rfl
def setBy (g : PyData → M Unit) (x : PyData) : M Fl := g x >>= fun _ => pure .nx
@[simp] theorem mAsg_at (g : PyData → M Unit) (m : M PyData) (e : Env) : mAsg g m e = Out.andThen (m e) (setBy g) := rfl
@[simp] theorem setBy_at (g : PyData → M Unit) (x : PyData) (e : Env) : setBy g x e = Out.andThen (g x e) fun _ => pure .nx := rfl
@[simp] theorem gN_at (i : Nat) (x : PyData) (e : Env) : gN i x e = some (.ok () (e.set i (some (.d x)))) := rfl
@[simp] theorem gsCons_at (g : PyData → M Unit) (r : List PyData → M Unit) (x : PyData) (xs : List PyData) (e : Env) : gsCons g r (x :: xs) e = Out.andThen (g x e) fun _ => r xs := rfl
@[simp] theorem gsNil_at (e : Env) : gsNil [] e = some (.ok () e) := rfl
theorem gT_at (n : Nat) (g : List PyData → M Unit) (xs : List PyData) (e : Env) (h : xs.length = n) : gT n g (.tuple xs) e = g xs e := by
  show (if xs.length = n then g xs else fun _ => none) e = _
  rw [if_pos h]
@[simp] theorem gT2_at (g : List PyData → M Unit) (x y : PyData) (e : Env) : gT 2 g (.tuple [x, y]) e = g [x, y] e := rfl
end
/-! slots -/
theorem dV_at {i : Nat} {x : PyData} {e : Env} (h : e[i]? = some (some (.d x))) : dV i e = some (.ok x e) := by
  unfold dV
  rw [h]
theorem mVar_at {i : Nat} {x : PyData} {e : Env} (h : e[i]? = some (some (.d x))) : mVar i e = some (.ok (.d x) e) := by
  unfold mVar
  rw [h]
theorem mMove_at {i : Nat} {v : OV} {e : Env} (h : e[i]? = some (some v)) : mMove i e = some (.ok v (e.set i none)) := by
  unfold mMove
  rw [h]
theorem mFrz_at {i : Nat} {v : OV} {x : PyData} {e : Env} (h : e[i]? = some (some v)) (hd : v.dat = some x) : mFrz i e = some (.ok (.d x) (e.set i (some (.d x)))) := by
  unfold mFrz
  rw [h]
  simp only [hd]
theorem mPeek_at {α : Type} {i : Nat} {f : OV → Option α} {v : OV} {a : α} {e : Env} (h : e[i]? = some (some v)) (hf : f v = some a) : mPeek i f e = some (.ok a e) := by
  unfold mPeek
  rw [h]
  simp only [hf]
theorem mHas_at {i : Nat} {p : OV → Bool} {v : OV} {e : Env} (h : e[i]? = some (some v)) (hp : p v = true) : mHas i p e = some (.ok () e) := by
  unfold mHas
  rw [h]
  simp only [hp, if_true]
theorem mMut_at {α : Type} {i : Nat} {f : OV → Option (OV × α)} {v v' : OV} {a : α} {e : Env} (h : e[i]? = some (some v)) (hf : f v = some (v', a)) : mMut i f e = some (.ok a (e.set i (some v'))) := by
  unfold mMut
  rw [h]
  simp only [hf]
theorem dV_app (i : Nat) (e : Env) : dV i e = (match e[i]? with
  | some (some (.d x)) => some (.ok x e)
  | _ => none) := rfl
theorem mVar_app (i : Nat) (e : Env) : mVar i e = (match e[i]? with
  | some (some (.d x)) => some (.ok (.d x) e)
  | _ => none) := rfl
theorem mMove_app (i : Nat) (e : Env) : mMove i e = (match e[i]? with
  | some (some v) => some (.ok v (e.set i none))
  | _ => none) := rfl
theorem mFrz_app (i : Nat) (e : Env) : mFrz i e = (match e[i]? with
  | some (some v) => (match v.dat with
    | some x => some (.ok (.d x) (e.set i (some (.d x))))
    | none => none)
  | _ => none) := rfl
theorem mPeek_app {α : Type} (i : Nat) (f : OV → Option α) (e : Env) : mPeek i f e = (match e[i]? with
  | some (some v) => (match f v with
    | some a => some (.ok a e)
    | none => none)
  | _ => none) := rfl
theorem mHas_app (i : Nat) (p : OV → Bool) (e : Env) : mHas i p e = (match e[i]? with
  | some (some v) => if p v then some (.ok () e) else none
  | _ => none) := rfl
theorem mMut_app {α : Type} (i : Nat) (f : OV → Option (OV × α)) (e : Env) : mMut i f e = (match e[i]? with
  | some (some v) => (match f v with
    | some (v', a) => some (.ok a (e.set i (some v')))
    | none => none)
  | _ => none) := rfl
@[simp] theorem mIxL_at (i : Nat) (mk : M PyData) (e : Env) : mIxL i mk e = Out.andThen (mHas i isLst e) fun _ => mk >>= fun y => mPeek i (gIxL y) := rfl
@[simp] theorem mIxD_at (i : Nat) (mk : M PyData) (e : Env) : mIxD i mk e = Out.andThen (mHas i isDct e) fun _ => mk >>= fun y => mPeek i (gIxD y) := rfl
@[simp] theorem mInD_at (neg : Bool) (i : Nat) (mk : M PyData) (e : Env) : mInD neg i mk e = Out.andThen (mHas i isDct e) fun _ => mk >>= fun y => mPeek i (gInD neg y) := rfl
@[simp] theorem mAppend_at (i : Nat) (mk : M PyData) (e : Env) : mAppend i mk e = Out.andThen (mHas i isLst e) fun _ => mk >>= fun y => mMut i (gApp y) := rfl
@[simp] theorem mPopAt_at (i : Nat) (mk : M PyData) (e : Env) : mPopAt i mk e = Out.andThen (mHas i isLst e) fun _ => mk >>= fun y => mMut i (gPopAt y) := rfl
@[simp] theorem mPutD_at (i : Nat) (mk mv : M PyData) (e : Env) : mPutD i mk mv e = Out.andThen (mv e) fun x => mHas i isDct >>= fun _ => mk >>= fun y => mMut i (gPutD y x) >>= fun _ => pure .nx := rfl
@[simp] theorem mSetL_at (i : Nat) (mk mv : M PyData) (e : Env) : mSetL i mk mv e = Out.andThen (mv e) fun x => mHas i isLst >>= fun _ => mk >>= fun y => mMut i (gSetL y x) >>= fun _ => pure .nx := rfl
@[simp] theorem mCmpS_at (g : PyData → PyData → Option OV) (i : Nat) (mb : M PyData) (e : Env) : mCmpS g i mb e = Out.andThen (mHas i isAny e) fun _ => mb >>= fun y => mPeek i (gCmpS g y) := rfl
def dict1K (v : PyData) : PyData → M OV
  | .int i => pure (.dct [(i, v)])
  | _ => fun _ => none
@[simp] theorem dict1K_int (v : PyData) (i : Int) : dict1K v (.int i) = pure (.dct [(i, v)]) := rfl
@[simp] theorem mDict1_at (mk mv : M PyData) (e : Env) : mDict1 mk mv e = Out.andThen (mk e) fun k => mv >>= fun v => dict1K v k := rfl
/-! calls -/
@[simp] theorem agsM_nil (e : Env) : agsM [] e = some (.ok [] e) := rfl
@[simp] theorem agsM_d (m : M PyData) (r : List Ag) (e : Env) : agsM (.d m :: r) e = Out.andThen (m e) fun x => agsM r >>= fun xs => pure (x :: xs) := rfl
theorem agsM_s {i : Nat} {r : List Ag} {v : OV} {e : Env} (h : e[i]? = some (some v)) : agsM (.s i :: r) e = agsM r e := by
  show Out.andThen (mHas i isAny e) (fun _ => agsM r) = _
  rw [mHas_at h rfl]
  rfl
@[simp] theorem argE_nil (env : Env) (xs : List PyData) : argE env [] xs = [] := by unfold argE; rfl
@[simp] theorem argE_d (env : Env) (m : M PyData) (r : List Ag) (x : PyData) (xs : List PyData) : argE env (.d m :: r) (x :: xs) = some (.d x) :: argE env r xs := rfl
@[simp] theorem argE_s (env : Env) (i : Nat) (r : List Ag) (xs : List PyData) : argE env (.s i :: r) xs = (env[i]?).join :: argE env r xs := rfl
@[simp] theorem backA_nil (env e : Env) : backA env [] e = env := by unfold backA; rfl
@[simp] theorem backA_d (env : Env) (m : M PyData) (r : List Ag) (o : Option OV) (e : Env) : backA env (.d m :: r) (o :: e) = backA env r e := rfl
@[simp] theorem backA_s (env : Env) (i : Nat) (r : List Ag) (o : Option OV) (e : Env) : backA env (.s i :: r) (o :: e) = backA (env.set i o) r e := rfl
theorem mCall_at {as : List Ag} {mf : M OV} {e e1 : Env} {xs : List PyData} {r : OV} {e2 : Env} (h : agsM as e = some (.ok xs e1)) (hf : mf (argE e1 as xs) = some (.ok r e2)) : mCall as mf e = some (.ok r (backA e1 as e2)) := by
  show Out.andThen (agsM as e) (fun xs => fun env => match mf (argE env as xs) with
    | none => none
    | some (Out.ok r e) => some (Out.ok r (backA env as e))
    | some (Out.exc x e) => some (Out.exc x (backA env as e))) = _
  rw [h]
  show (match mf (argE e1 as xs) with
    | none => none
    | some (Out.ok r e) => some (Out.ok r (backA e1 as e))
    | some (Out.exc x e) => some (Out.exc x (backA e1 as e))) = _
  rw [hf]
theorem fnM_rt {np N : Nat} {ow : List Nat} {mb : M Fl} {env e : Env} {r : OV} (h : mb (env ++ List.replicate (N - np) none) = some (.ok (.rt r) e)) : fnM np N ow mb env = some (.ok r (endE ow 0 env e)) := by
  unfold fnM
  rw [h]
theorem fnM_nx {np N : Nat} {ow : List Nat} {mb : M Fl} {env e : Env} (h : mb (env ++ List.replicate (N - np) none) = some (.ok .nx e)) : fnM np N ow mb env = some (.ok (.d .none) (endE ow 0 env e)) := by
  unfold fnM
  rw [h]
/-- all arguments data: they stand as they were -/
theorem endE_data : ∀ {xs : List PyData} {i : Nat} {e : Env}, endE [] i (xs.map fun x => some (.d x)) e = xs.map fun x => some (.d x)
  | [], i, e => by unfold endE; rfl
  | x :: xs, i, [] => by
    show endO [] i (some (.d x)) none :: endE [] (i + 1) _ [] = _
    rw [endE_data]
    rfl
  | x :: xs, i, o :: e => by
    show endO [] i (some (.d x)) o :: endE [] (i + 1) _ e = _
    rw [endE_data]
    rfl
/-! displays -/
theorem mTup_at {m : M (List PyData)} {e e1 : Env} {xs : List PyData} (h : m e = some (.ok xs e1)) (hz : xs.length ≤ sizeLine) : mTup m e = some (.ok (.d (.tuple xs)) e1) := by
  show Out.andThen (m e) (fun xs => if xs.length ≤ sizeLine then (pure (OV.d (.tuple xs)) : M OV) else fun _ => none) = _
  rw [h]
  show (if xs.length ≤ sizeLine then (pure (.d (.tuple xs)) : M OV) else fun _ => none) e1 = _
  rw [if_pos hz]
  rfl
theorem mLst_at {m : M (List PyData)} {e e1 : Env} {xs : List PyData} (h : m e = some (.ok xs e1)) (hz : xs.length ≤ sizeLine) : mLst m e = some (.ok (.lst xs) e1) := by
  show Out.andThen (m e) (fun xs => if xs.length ≤ sizeLine then (pure (OV.lst xs) : M OV) else fun _ => none) = _
  rw [h]
  show (if xs.length ≤ sizeLine then (pure (.lst xs) : M OV) else fun _ => none) e1 = _
  rw [if_pos hz]
  rfl
theorem fits {n : Nat} (h : n ≤ 1000) : n ≤ sizeLine := by rw [sizeLine_eq]; omega
/-! operators on ints -/
@[simp] theorem gAdd_int (i j : Int) : gAdd (.int i) (.int j) = some (.d (.int (i + j))) := rfl
@[simp] theorem gSub_int (i j : Int) : gSub (.int i) (.int j) = some (.d (.int (i - j))) := rfl
theorem gMod_int {i j : Int} (h : 0 < j) : gMod (.int i) (.int j) = some (.d (.int (i % j))) := by
  show (if 0 < j then some (OV.d (.int (i % j))) else none) = _
  rw [if_pos h]
theorem gFdiv_int {i j : Int} (h : 0 < j) (h2 : j < 1073741824) : gFdiv (.int i) (.int j) = some (.d (.int (i / j))) := by
  show (if 0 < j ∧ j < 1073741824 then some (OV.d (.int (i / j))) else none) = _
  rw [if_pos ⟨h, h2⟩]
theorem gMul_int {i j : Int} (h : i.natAbs.log2 + j.natAbs.log2 < 1000000) : gMulX (.int i) (.int j) = some (.d (.int (i * j))) := by
  show (if i.natAbs.log2 + j.natAbs.log2 < 1000000 then some (OV.d (.int (i * j))) else none) = _
  rw [if_pos h]
@[simp] theorem gLe_int (i j : Int) : gLe (.int i) (.int j) = some (.d (.bool (decide (i ≤ j)))) := by
  have e : gLe (.int i) (.int j) = some (.d (.bool (!PySem.W.dataLt (.int j) (.int i)))) := rfl
  rw [e, PySem.W.dataLt_int]
  congr 3
  by_cases h : i ≤ j
  · rw [decide_eq_true h, decide_eq_false (by omega)]; rfl
  · rw [decide_eq_false h, decide_eq_true (by omega)]; rfl
@[simp] theorem gLt_int (i j : Int) : gLt (.int i) (.int j) = some (.d (.bool (decide (i < j)))) := by
  have e : gLt (.int i) (.int j) = some (.d (.bool (PySem.W.dataLt (.int i) (.int j)))) := rfl
  rw [e, PySem.W.dataLt_int]
@[simp] theorem gGt_int (i j : Int) : gGt (.int i) (.int j) = some (.d (.bool (decide (j < i)))) := by
  have e : gGt (.int i) (.int j) = some (.d (.bool (PySem.W.dataLt (.int j) (.int i)))) := rfl
  rw [e, PySem.W.dataLt_int]
@[simp] theorem gGe_int (i j : Int) : gGe (.int i) (.int j) = some (.d (.bool (decide (j ≤ i)))) := by
  have e : gGe (.int i) (.int j) = some (.d (.bool (!PySem.W.dataLt (.int i) (.int j)))) := rfl
  rw [e, PySem.W.dataLt_int]
  congr 3
  by_cases h : j ≤ i
  · rw [decide_eq_true h, decide_eq_false (by omega)]; rfl
  · rw [decide_eq_false h, decide_eq_true (by omega)]; rfl
@[simp] theorem eqv_int (i j : Int) : PyData.eqv (.int i) (.int j) = decide (i = j) := by
  have e : PyData.eqv (.int i) (.int j) = (i == j) := by simp [PyData.eqv]
  rw [e, Bool.eq_iff_iff]
  simp
@[simp] theorem gEq_int (i j : Int) : gEq (.int i) (.int j) = some (.d (.bool (decide (i = j)))) := by
  have e : gEq (.int i) (.int j) = some (.d (.bool (PyData.eqv (.int i) (.int j)))) := rfl
  rw [e, eqv_int]
@[simp] theorem gNe_int (i j : Int) : gNe (.int i) (.int j) = some (.d (.bool (!decide (i = j)))) := by
  have e : gNe (.int i) (.int j) = some (.d (.bool (!PyData.eqv (.int i) (.int j)))) := rfl
  rw [e, eqv_int]
@[simp] theorem gIsNone (x : PyData) : gIs x .none = some (.d (.bool (isNone x))) := rfl
@[simp] theorem gIsNotNone (x : PyData) : gIsNot x .none = some (.d (.bool (!isNone x))) := rfl
/-! types -/
@[simp] theorem tyIs_int_int (i : Int) : tyIs (.int i) "int" = some true := by show kitB "int" "int" = _; decide +kernel
@[simp] theorem tyIs_int_bool (i : Int) : tyIs (.int i) "bool" = some false := by show kitB "int" "bool" = _; decide +kernel
@[simp] theorem tyIs_tuple_tuple (xs : List PyData) : tyIs (.tuple xs) "tuple" = some true := by show kitB "tuple" "tuple" = _; decide +kernel
@[simp] theorem mIsI_at (T : String) (m : M PyData) (e : Env) : mIsI T m e = Out.andThen (m e) fun x => M.opt ((tyIs x T).map fun b => .d (.bool b)) := rfl

/-! ### defs over data -/
def dEnv (xs : List PyData) : Env := xs.map fun x => some (.d x)
/-- the def answers r at the data xs -/
def Fd (mf : M OV) (xs : List PyData) (r : OV) : Prop := mf (dEnv xs) = some (.ok r (dEnv xs))
theorem Fd.rt {np N : Nat} {mb : M Fl} {xs : List PyData} {r : OV} (h : ∃ e, mb (dEnv xs ++ List.replicate (N - np) none) = some (.ok (.rt r) e)) : Fd (fnM np N [] mb) xs r := by
  obtain ⟨e, h⟩ := h
  unfold Fd
  rw [fnM_rt h]
  unfold dEnv
  rw [endE_data]
theorem Fd.nx {np N : Nat} {mb : M Fl} {xs : List PyData} (h : ∃ e, mb (dEnv xs ++ List.replicate (N - np) none) = some (.ok .nx e)) : Fd (fnM np N [] mb) xs (.d .none) := by
  obtain ⟨e, h⟩ := h
  unfold Fd
  rw [fnM_nx h]
  unfold dEnv
  rw [endE_data]
def callK (mf : M OV) (xs : List PyData) : M OV := fun e => match mf (dEnv xs) with
  | none => none
  | some (.ok r _) => some (.ok r e)
  | some (.exc x _) => some (.exc x e)
theorem Fd.call {mf : M OV} {xs : List PyData} {r : OV} (F : Fd mf xs r) (e : Env) : callK mf xs e = some (.ok r e) := by
  unfold callK
  rw [F]
theorem callK_eq {as : List Ag} {mf : M OV} {xs : List PyData} {e : Env} (h1 : argE e as xs = dEnv xs) (h2 : ∀ e2, e2.length = xs.length → backA e as e2 = e) (hl : ∀ r e2, mf (dEnv xs) = some (.ok r e2) → e2.length = xs.length) (hl2 : ∀ r e2, mf (dEnv xs) = some (.exc r e2) → e2.length = xs.length) :
    (match mf (argE e as xs) with
    | none => none
    | some (Out.ok r e2) => some (Out.ok r (backA e as e2))
    | some (Out.exc x e2) => some (Out.exc x (backA e as e2))) = callK mf xs e := by
  rw [h1]
  unfold callK
  cases em : mf (dEnv xs) with
  | none => rfl
  | some o =>
    cases o with
    | ok r e2 => simp only [h2 e2 (hl r e2 em)]
    | exc r e2 => simp only [h2 e2 (hl2 r e2 em)]
/-- the def keeps its environment's length -/
def Keeps (mf : M OV) : Prop := ∀ e, (∀ r e2, mf e = some (.ok r e2) → e2.length = e.length) ∧ ∀ r e2, mf e = some (.exc r e2) → e2.length = e.length
theorem fnM_len {np N : Nat} {ow : List Nat} {mb : M Fl} : Keeps (fnM np N ow mb) := fun e => by
  constructor
  · intro r e2 h
    unfold fnM at h
    split at h
    · cases h
    · cases h; exact endE_length
    · cases h; exact endE_length
    · cases h
    · cases h
  · intro r e2 h
    unfold fnM at h
    split at h
    · cases h
    · cases h
    · cases h
    · cases h
    · cases h; exact endE_length
theorem mCall1_at {m : M PyData} {mf : M OV} (k : Keeps mf) (e : Env) : mCall (.d m :: []) mf e = Out.andThen (m e) fun x => callK mf [x] := by
  show Out.andThen (agsM (.d m :: []) e) _ = _
  rw [agsM_d]
  cases m e with
  | none => rfl
  | some o =>
    cases o with
    | exc x e1 => rfl
    | ok x e1 =>
      refine callK_eq (as := [.d m]) (xs := [x]) rfl (fun e2 h => ?_) (fun r e2 h => (k _).1 r e2 h) fun r e2 h => (k _).2 r e2 h
      match e2, h with
      | [_], _ => rfl
theorem mCall2_at {m m2 : M PyData} {mf : M OV} (k : Keeps mf) (e : Env) : mCall (.d m :: .d m2 :: []) mf e = Out.andThen (m e) fun x => m2 >>= fun y => callK mf [x, y] := by
  show Out.andThen (agsM (.d m :: .d m2 :: []) e) _ = _
  rw [agsM_d]
  cases m e with
  | none => rfl
  | some o =>
    cases o with
    | exc x e1 => rfl
    | ok x e1 =>
      show Out.andThen ((agsM (.d m2 :: []) >>= fun xs => pure (x :: xs)) e1) _ = Out.andThen (m2 e1) _
      rw [bind_at', agsM_d]
      cases m2 e1 with
      | none => rfl
      | some o =>
        cases o with
        | exc x e1 => rfl
        | ok y e2 =>
          refine callK_eq (as := [.d m, .d m2]) (xs := [x, y]) rfl (fun e2 h => ?_) (fun r e2 h => (k _).1 r e2 h) fun r e2 h => (k _).2 r e2 h
          match e2, h with
          | [_, _], _ => rfl
theorem mCall3_at {m m2 m3 : M PyData} {mf : M OV} (k : Keeps mf) (e : Env) : mCall (.d m :: .d m2 :: .d m3 :: []) mf e = Out.andThen (m e) fun x => m2 >>= fun y => m3 >>= fun z => callK mf [x, y, z] := by
  show Out.andThen (agsM (.d m :: .d m2 :: .d m3 :: []) e) _ = _
  rw [agsM_d]
  cases m e with
  | none => rfl
  | some o =>
    cases o with
    | exc x e1 => rfl
    | ok x e1 =>
      show Out.andThen ((agsM (.d m2 :: .d m3 :: []) >>= fun xs => pure (x :: xs)) e1) _ = Out.andThen (m2 e1) _
      rw [bind_at', agsM_d]
      cases m2 e1 with
      | none => rfl
      | some o =>
        cases o with
        | exc x e1 => rfl
        | ok y e2 =>
          show Out.andThen (Out.andThen ((agsM (.d m3 :: []) >>= fun xs => pure (y :: xs)) e2) _) _ = Out.andThen (m3 e2) _
          rw [bind_at', agsM_d]
          cases m3 e2 with
          | none => rfl
          | some o =>
            cases o with
            | exc x e1 => rfl
            | ok z e3 =>
              refine callK_eq (as := [.d m, .d m2, .d m3]) (xs := [x, y, z]) rfl (fun e2 h => ?_) (fun r e2 h => (k _).1 r e2 h) fun r e2 h => (k _).2 r e2 h
              match e2, h with
              | [_, _, _], _ => rfl
/-- a chain's second half -/
def chainK (g' : PyData → PyData → Option OV) (y : PyData) (c : M PyData) : OV → M OV
  | .d (.bool true) => c >>= fun z => M.opt (g' y z)
  | .d (.bool false) => pure (.d (.bool false))
  | _ => fun _ => none
@[simp] theorem chainK_t (g' : PyData → PyData → Option OV) (y : PyData) (c : M PyData) : chainK g' y c (.d (.bool true)) = (c >>= fun z => M.opt (g' y z)) := rfl
@[simp] theorem chainK_f (g' : PyData → PyData → Option OV) (y : PyData) (c : M PyData) : chainK g' y c (.d (.bool false)) = pure (.d (.bool false)) := rfl
@[simp] theorem mChain_at (g g' : PyData → PyData → Option OV) (a b c : M PyData) (e : Env) : mChain g g' a b c e = Out.andThen (a e) fun x => b >>= fun y => M.opt (g x y) >>= chainK g' y c := rfl
end TL
set_option Elab.async false
set_option linter.all false
set_option maxRecDepth 100000
namespace TL
open PySem PySem.Spec PyProof.Rows L2
/-! ### loops -/
/-- each turn keeps I -/
theorem forM_inv {g : PyData → M Unit} {b : M Fl} (I : Nat → Env → Prop) {ys : List PyData} : ∀ {xs : List PyData} {i : Nat} {e : Env}, (∀ j x, xs[j]? = some x → ys[i + j]? = some x) →
    (∀ j x e, ys[j]? = some x → I j e → ∃ e1 e2, g x e = some (.ok () e1) ∧ (b e1 = some (.ok .nx e2) ∨ b e1 = some (.ok .ct e2)) ∧ I (j + 1) e2) → I i e → ∃ e', forM g b xs e = some (.ok .nx e') ∧ I (i + xs.length) e'
  | [], i, e, _, _, h => ⟨e, rfl, h⟩
  | x :: xs, i, e, hx, hb, h => by
    obtain ⟨e1, e2, h1, h2, h3⟩ := hb i x e (hx 0 x rfl) h
    obtain ⟨e', h4, h5⟩ := forM_inv I (xs := xs) (i := i + 1) (fun j y hy => by
      have := hx (j + 1) y (by simpa using hy)
      rwa [show i + (j + 1) = i + 1 + j by omega] at this) hb h3
    refine ⟨e', ?_, by rw [List.length_cons, show i + (xs.length + 1) = i + 1 + xs.length by omega]; exact h5⟩
    show Out.andThen (g x e) (fun _ => b >>= fun f => match f with
      | .nx => forM g b xs
      | .ct => forM g b xs
      | .bk => pure .nx
      | .rt r => pure (.rt r)) = _
    rw [h1]
    show Out.andThen (b e1) (fun f => match f with
      | .nx => forM g b xs
      | .ct => forM g b xs
      | .bk => pure .nx
      | .rt r => pure (.rt r)) = _
    rcases h2 with h2 | h2 <;> rw [h2] <;> exact h4
theorem mFor_inv {mi : M (List PyData)} {g : PyData → M Unit} {b : M Fl} (I : Nat → Env → Prop) {xs : List PyData} {e e0 : Env} (hi : mi e = some (.ok xs e0)) (h0 : I 0 e0)
    (hb : ∀ j x e, xs[j]? = some x → I j e → ∃ e1 e2, g x e = some (.ok () e1) ∧ (b e1 = some (.ok .nx e2) ∨ b e1 = some (.ok .ct e2)) ∧ I (j + 1) e2) : ∃ e', mFor mi g b e = some (.ok .nx e') ∧ I xs.length e' := by
  obtain ⟨e', h1, h2⟩ := forM_inv I (ys := xs) (xs := xs) (i := 0) (e := e0) (fun j x h => by rwa [Nat.zero_add]) hb h0
  rw [Nat.zero_add] at h2
  refine ⟨e', ?_, h2⟩
  show Out.andThen (mi e) (forM g b) = _
  rw [hi]
  exact h1
/-- a while loop by its turns: a measure that falls -/
theorem whileM_inv {t : M Bool} {b : M Fl} (I : Nat → Env → Prop) (Z : Env → Prop) (hb : ∀ n e, I n e → (∃ e1, t e = some (.ok false e1) ∧ Z e1) ∨ ∃ e1 e2 m, t e = some (.ok true e1) ∧ (b e1 = some (.ok .nx e2) ∨ b e1 = some (.ok .ct e2)) ∧ m < n ∧ I m e2) :
    ∀ {n : Nat} {e : Env}, I n e → ∃ k e', whileM t b k e = some (.ok .nx e') ∧ Z e' := by
  intro n
  induction n using Nat.strongRecOn with
  | ind n ih =>
    intro e h
    rcases hb n e h with ⟨e1, h1, h2⟩ | ⟨e1, e2, m, h1, h2, h3, h4⟩
    · refine ⟨1, e1, ?_, h2⟩
      show Out.andThen (t e) _ = _
      rw [h1]
      rfl
    · obtain ⟨k, e', h5, h6⟩ := ih m h3 h4
      refine ⟨k + 1, e', ?_, h6⟩
      show Out.andThen (t e) (fun c => if c then b >>= fun f => match f with
        | .nx => whileM t b k
        | .ct => whileM t b k
        | .bk => pure .nx
        | .rt r => pure (.rt r)
        else pure .nx) = _
      rw [h1]
      show Out.andThen (b e1) (fun f => match f with
        | .nx => whileM t b k
        | .ct => whileM t b k
        | .bk => pure .nx
        | .rt r => pure (.rt r)) = _
      rcases h2 with h2 | h2 <;> rw [h2] <;> exact h5
theorem mWhile_inv {t : M Bool} {b : M Fl} (I : Nat → Env → Prop) (Z : Env → Prop) (hb : ∀ n e, I n e → (∃ e1, t e = some (.ok false e1) ∧ Z e1) ∨ ∃ e1 e2 m, t e = some (.ok true e1) ∧ (b e1 = some (.ok .nx e2) ∨ b e1 = some (.ok .ct e2)) ∧ m < n ∧ I m e2)
    {n : Nat} {e : Env} (h : I n e) : ∃ e', mWhile t b e = some (.ok .nx e') ∧ Z e' := by
  obtain ⟨k, e', h1, h2⟩ := whileM_inv I Z hb h
  exact ⟨e', mWhile_of h1, h2⟩
/-! ### comprehensions, all -/
theorem backE_selfB {env : Env} : ∀ {vs : List Nat}, backE env env vs = env
  | [] => rfl
  | v :: vs => by
    show (backE env env vs).set v (env[v]?.getD none) = env
    rw [backE_selfB]
    apply List.ext_getElem?
    intro i
    by_cases hi : v = i
    · subst hi
      by_cases hl : v < env.length
      · rw [List.getElem?_set_self hl, List.getElem?_eq_getElem hl]
        rfl
      · rw [List.getElem?_eq_none (by rw [List.length_set]; omega), List.getElem?_eq_none (by omega)]
    · rw [List.getElem?_set_ne hi]
theorem backE_of {env e : Env} {vs : List Nat} (h : wipeE e vs = wipeE env vs) : backE e env vs = env := by
  rw [← backE_wipe (ws := vs) (fun w hw => hw), h, backE_wipe (fun w hw => hw), backE_selfB]
/-- one turn's condition -/
def allT (g : PyData → M Unit) (elt : M OV) (x : PyData) : M Bool := g x >>= fun _ => asB elt
theorem allM_run {vs : List Nat} {g : PyData → M Unit} {elt : M OV} {env : Env} (p : PyData → Bool) : ∀ {xs : List PyData} {e : Env}, (∀ x ∈ xs, ∃ e3, allT g elt x (wipeE env vs) = some (.ok (p x) e3) ∧ wipeE e3 vs = wipeE env vs) → wipeE e vs = wipeE env vs →
    ∃ e', allM vs g elt xs e = some (.ok (xs.all p) e') ∧ wipeE e' vs = wipeE env vs
  | [], e, _, h => ⟨e, rfl, h⟩
  | x :: xs, e, hb, h => by
    obtain ⟨e3, h1, h2⟩ := hb x List.mem_cons_self
    have e1 : allM vs g elt (x :: xs) e = Out.andThen (allT g elt x (wipeE e vs)) fun b => if b then fun env => allM vs g elt xs env else fun env => some (.ok false env) := by
      show (g x >>= fun _ => asB elt >>= fun b => if b then fun env => allM vs g elt xs env else fun env => some (.ok false env)) (wipeE e vs) = _
      unfold allT
      rw [bind_at', bind_at']
      cases g x (wipeE e vs) with
      | none => rfl
      | some o => cases o <;> rfl
    rw [h, h1] at e1
    cases hp : p x with
    | true =>
      rw [hp] at e1
      obtain ⟨e', h3, h4⟩ := allM_run p (xs := xs) (fun y hy => hb y (List.mem_cons_of_mem _ hy)) h2
      exact ⟨e', by rw [e1, List.all_cons, hp, Bool.true_and]; exact h3, h4⟩
    | false =>
      rw [hp] at e1
      exact ⟨e3, by rw [e1, List.all_cons, hp, Bool.false_and]; rfl, h2⟩
theorem mAll_run {vs : List Nat} {mi : M (List PyData)} {g : PyData → M Unit} {elt : M OV} {e env : Env} {xs : List PyData} (p : PyData → Bool) (hi : mi e = some (.ok xs env)) (hf : vs.all (flatAt env) = true)
    (hb : ∀ x ∈ xs, ∃ e3, allT g elt x (wipeE env vs) = some (.ok (p x) e3) ∧ wipeE e3 vs = wipeE env vs) : mAll vs mi g elt e = some (.ok (.d (.bool (xs.all p))) env) := by
  obtain ⟨e', h1, h2⟩ := allM_run p hb rfl
  show Out.andThen (mi e) (fun xs => fun env1 => if vs.all (flatAt env1) then (match allM vs g elt xs env1 with
    | some (Out.ok b env2) => some (Out.ok (OV.d (.bool b)) (backE env2 env1 vs))
    | _ => none) else none) = _
  rw [hi]
  show (if vs.all (flatAt env) then (match allM vs g elt xs env with
    | some (Out.ok b env2) => some (Out.ok (OV.d (.bool b)) (backE env2 env vs))
    | _ => none) else none) = _
  rw [if_pos hf, h1]
  show some (Out.ok (OV.d (.bool (xs.all p))) (backE e' env vs)) = _
  rw [backE_of h2]
/-- one turn of a comprehension -/
def compT (g : PyData → M Unit) (t : M Bool) (elt : M PyData) (x : PyData) : M (Option PyData) := g x >>= fun _ => t >>= fun c => if c then elt >>= fun y => pure (some y) else pure none
theorem compM_step {vs : List Nat} {g : PyData → M Unit} {t : M Bool} {elt : M PyData} {x : PyData} {xs acc : List PyData} {e : Env} : compM vs g t elt (x :: xs) acc e = Out.andThen (compT g t elt x (wipeE e vs)) fun o => match o with
    | some y => (if acc.length < sizeLine then fun env => compM vs g t elt xs (acc ++ [y]) env else fun _ => none)
    | none => fun env => compM vs g t elt xs acc env := by
  show (g x >>= fun _ => t >>= fun c => if c then elt >>= fun y => (if acc.length < sizeLine then fun env => compM vs g t elt xs (acc ++ [y]) env else fun _ => none) else fun env => compM vs g t elt xs acc env) (wipeE e vs) = _
  unfold compT
  rw [bind_at', bind_at']
  cases g x (wipeE e vs) with
  | none => rfl
  | some o =>
    cases o with
    | exc y e => rfl
    | ok u e1 =>
      show Out.andThen (t e1) _ = Out.andThen (Out.andThen (t e1) _) _
      cases t e1 with
      | none => rfl
      | some o =>
        cases o with
        | exc y e => rfl
        | ok c e2 =>
          cases c with
          | false => rfl
          | true =>
            show Out.andThen (elt e2) _ = Out.andThen (Out.andThen (elt e2) _) _
            cases elt e2 with
            | none => rfl
            | some o => cases o <;> rfl
theorem compM_run {vs : List Nat} {g : PyData → M Unit} {t : M Bool} {elt : M PyData} {env : Env} (f : PyData → Option PyData) : ∀ {xs acc : List PyData} {e : Env}, acc.length + xs.length ≤ sizeLine → (∀ x ∈ xs, ∃ e3, compT g t elt x (wipeE env vs) = some (.ok (f x) e3) ∧ wipeE e3 vs = wipeE env vs) → wipeE e vs = wipeE env vs →
    ∃ e', compM vs g t elt xs acc e = some (.ok (acc ++ xs.filterMap f) e') ∧ wipeE e' vs = wipeE env vs
  | [], acc, e, _, _, h => ⟨e, by rw [List.filterMap_nil, List.append_nil]; rfl, h⟩
  | x :: xs, acc, e, hl, hb, h => by
    obtain ⟨e3, h1, h2⟩ := hb x List.mem_cons_self
    rw [compM_step, h, h1]
    rw [List.length_cons] at hl
    cases hf : f x with
    | none =>
      obtain ⟨e', h3, h4⟩ := compM_run f (xs := xs) (acc := acc) (by omega) (fun y hy => hb y (List.mem_cons_of_mem _ hy)) h2
      exact ⟨e', by rw [List.filterMap_cons_none hf]; exact h3, h4⟩
    | some y =>
      obtain ⟨e', h3, h4⟩ := compM_run f (xs := xs) (acc := acc ++ [y]) (by rw [List.length_append, List.length_singleton]; omega) (fun y hy => hb y (List.mem_cons_of_mem _ hy)) h2
      refine ⟨e', ?_, h4⟩
      rw [List.filterMap_cons_some hf]
      show (if acc.length < sizeLine then fun env => compM vs g t elt xs (acc ++ [y]) env else fun _ => none) e3 = _
      rw [if_pos (by omega)]
      show compM vs g t elt xs (acc ++ [y]) e3 = _
      rw [h3, List.append_assoc]
      rfl
theorem mComp_run {vs : List Nat} {mi : M (List PyData)} {g : PyData → M Unit} {t : M Bool} {elt : M PyData} {e env : Env} {xs : List PyData} (f : PyData → Option PyData) (hi : mi e = some (.ok xs env)) (hf : vs.all (flatAt env) = true) (hl : xs.length ≤ sizeLine)
    (hb : ∀ x ∈ xs, ∃ e3, compT g t elt x (wipeE env vs) = some (.ok (f x) e3) ∧ wipeE e3 vs = wipeE env vs) : mComp vs mi g t elt e = some (.ok (.lst (xs.filterMap f)) env) := by
  obtain ⟨e', h1, h2⟩ := compM_run f (acc := []) (by simpa using hl) hb rfl
  show Out.andThen (mi e) (fun xs => fun env1 => if vs.all (flatAt env1) then (match compM vs g t elt xs [] env1 with
    | some (Out.ok acc env2) => some (Out.ok (OV.lst acc) (backE env2 env1 vs))
    | _ => none) else none) = _
  rw [hi]
  show (if vs.all (flatAt env) then (match compM vs g t elt xs [] env with
    | some (Out.ok acc env2) => some (Out.ok (OV.lst acc) (backE env2 env vs))
    | _ => none) else none) = _
  rw [if_pos hf, h1]
  show some (Out.ok (OV.lst ([] ++ xs.filterMap f)) (backE e' env vs)) = _
  rw [backE_of h2, List.nil_append]
/-! walked data -/
theorem mItems_l {m : M PyData} {e e1 : Env} {xs : List PyData} (h : m e = some (.ok (.list xs) e1)) : mItems m e = some (.ok xs e1) := by
  show Out.andThen (m e) _ = _
  rw [h]
  rfl
theorem mItems_t {m : M PyData} {e e1 : Env} {xs : List PyData} (h : m e = some (.ok (.tuple xs) e1)) : mItems m e = some (.ok xs e1) := by
  show Out.andThen (m e) _ = _
  rw [h]
  rfl
theorem mRange1_at {m : M PyData} {e e1 : Env} {j : Int} (h : m e = some (.ok (.int j) e1)) (h1 : -(2 ^ 62) ≤ j) (h2 : j < 2 ^ 62) : mRange1 m e = some (.ok (rngD 0 j.toNat) e1) := by
  show Out.andThen (m e) _ = _
  rw [h]
  show (if -(2 ^ 62) ≤ j ∧ j < 2 ^ 62 then (pure (rngD 0 j.toNat) : M (List PyData)) else fun _ => none) e1 = _
  rw [if_pos ⟨h1, h2⟩]
  rfl
end TL
set_option Elab.async false
set_option linter.all false
set_option maxRecDepth 100000
namespace TL
open PySem PySem.Spec PyProof.Rows L2
theorem atI_nat {α : Type} {xs : List α} {i : Nat} {x : α} (h : xs[i]? = some x) : atI xs (i : Nat) = some x := by
  have hl : i < xs.length := (List.getElem?_eq_some_iff.mp h).1
  unfold atI ixN
  rw [if_pos (by omega), if_pos (by omega)]
  simpa using h
theorem gIx_tn {xs : List PyData} {i : Nat} {x : PyData} (h : xs[i]? = some x) : gIx (.tuple xs) (.int (i : Nat)) = some (.d x) := by
  show (atI xs (i : Nat)).map OV.d = _
  rw [atI_nat h]
  rfl
theorem gIx_ln {xs : List PyData} {i : Nat} {x : PyData} (h : xs[i]? = some x) : gIx (.list xs) (.int (i : Nat)) = some (.d x) := by
  show (atI xs (i : Nat)).map OV.d = _
  rw [atI_nat h]
  rfl
@[simp] theorem gIx_t0 (a : PyData) (r : List PyData) : gIx (.tuple (a :: r)) (.int 0) = some (.d a) := gIx_tn (i := 0) rfl
@[simp] theorem gIx_t1 (a b : PyData) (r : List PyData) : gIx (.tuple (a :: b :: r)) (.int 1) = some (.d b) := gIx_tn (i := 1) rfl
theorem is_number_int (v lo hi : Int) : Fd f_is_number [.int v, .int lo, .int hi] (.d (.bool (decide (lo ≤ v) && decide (v ≤ hi)))) := by
  refine Fd.rt ?_
  simp [b_is_number, dV_app, dEnv]
  cases decide (lo ≤ v) <;> simp [dV_app]
def inR (n i : Int) : Bool := decide (0 ≤ i) && decide (i ≤ n - 1)
def doorOk (n : Int) (p : Int × Int) : Bool := inR n p.1 && inR n p.2 && !decide (p.1 = p.2)
theorem is_door_run (n : Int) (p : Int × Int) : Fd f_is_door [.int n, pairD p] (.d (.bool (doorOk n p))) := by
  unfold pairD
  have ha : mAll [2] (mItems (dV 1)) (gN 2) (mCall (.d (dV 2) :: .d (dC (.int 0)) :: .d (frz (mBin gSub (dV 0) (dC (.int 1)))) :: []) f_is_number) [some (.d (.int n)), some (.d (.tuple [.int p.1, .int p.2])), none] = some (.ok (.d (.bool (inR n p.1 && inR n p.2))) [some (.d (.int n)), some (.d (.tuple [.int p.1, .int p.2])), none]) := by
    have := mAll_run (vs := [2]) (mi := mItems (dV 1)) (g := gN 2) (elt := mCall (.d (dV 2) :: .d (dC (.int 0)) :: .d (frz (mBin gSub (dV 0) (dC (.int 1)))) :: []) f_is_number) (e := [some (.d (.int n)), some (.d (.tuple [.int p.1, .int p.2])), none]) (env := [some (.d (.int n)), some (.d (.tuple [.int p.1, .int p.2])), none]) (xs := [.int p.1, .int p.2])
      (fun x => match x with | .int i => inR n i | _ => false) (by rfl) (by rfl) (fun x hx => ?_)
    · simpa using this
    · have : ∃ i, x = .int i := by
        rcases List.mem_cons.mp hx with rfl | hx
        · exact ⟨_, rfl⟩
        · exact ⟨_, List.mem_singleton.mp hx⟩
      obtain ⟨i, rfl⟩ := this
      simp [allT, wipeE, mCall3_at (mf := f_is_number) fnM_len, dV_app, (is_number_int i 0 (n - 1)).call, inR]
  refine Fd.rt ?_
  have hl : gLen (.d (.tuple [.int p.1, .int p.2])) = some (.d (.int 2)) := rfl
  simp [b_is_door, dEnv, dV_app, mPeek_app, hl, ha, doorOk]
  cases inR n p.1 <;> cases inR n p.2 <;> simp [dV_app]
end TL
set_option Elab.async false
set_option linter.all false
set_option maxRecDepth 100000
namespace TL
open PySem PySem.Spec PyProof.Rows L2
/-! ### distances -/
section
variable (ds : List (Int × Int)) (a : Int)
/-- reached from a over at most t doors -/
def ball : Nat → Int → Prop
  | 0, y => y = a
  | t + 1, y => ball t y ∨ ∃ x, ball t x ∧ (x, y) ∈ ds
/-- the least number of doors -/
def dist (y : Int) (d : Nat) : Prop := ball ds a d y ∧ ∀ s, s < d → ¬ ball ds a s y
end
section
variable {ds : List (Int × Int)} {a : Int}
theorem ball_mono {s t : Nat} (h : s ≤ t) {y : Int} (hy : ball ds a s y) : ball ds a t y := by
  induction t with
  | zero => rwa [show s = 0 by omega] at hy
  | succ t ih =>
    by_cases e : s = t + 1
    · rwa [e] at hy
    · exact .inl (ih (by omega))
theorem dist_uniq {y : Int} {d e : Nat} (h : dist ds a y d) (k : dist ds a y e) : d = e := by
  rcases Nat.lt_trichotomy d e with q | q | q
  · exact absurd h.1 (k.2 d q)
  · exact q
  · exact absurd k.1 (h.2 e q)
theorem dist_of {t : Nat} {y : Int} (h : ball ds a t y) : ∃ d, d ≤ t ∧ dist ds a y d := by
  induction t with
  | zero => exact ⟨0, Nat.le_refl _, h, fun s hs => by omega⟩
  | succ t ih =>
    by_cases q : ball ds a t y
    · obtain ⟨d, h1, h2⟩ := ih q
      exact ⟨d, by omega, h2⟩
    · exact ⟨t + 1, Nat.le_refl _, h, fun s hs z => q (ball_mono (by omega) z)⟩
theorem ball_step {t : Nat} {y : Int} : ball ds a (t + 1) y ↔ ball ds a t y ∨ ∃ x, dist ds a x t ∧ (x, y) ∈ ds := by
  constructor
  · intro h
    rcases h with h | ⟨x, h1, h2⟩
    · exact .inl h
    · obtain ⟨d, h3, h4⟩ := dist_of h1
      by_cases e : d = t
      · subst e
        exact .inr ⟨x, h4, h2⟩
      · exact .inl (ball_mono (s := d + 1) (by omega) (.inr ⟨x, h4.1, h2⟩))
  · intro h
    rcases h with h | ⟨x, h1, h2⟩
    · exact .inl h
    · exact .inr ⟨x, h1.1, h2⟩
theorem ball_stop {t : Nat} (h : ∀ x, ¬ dist ds a x t) : ∀ s y, ball ds a s y → ball ds a t y := by
  have h1 : ∀ s, t ≤ s → ∀ y, ball ds a s y → ball ds a t y := by
    intro s
    induction s with
    | zero =>
      intro hs y hy
      rwa [show t = 0 by omega]
    | succ s ih =>
      intro hs y hy
      by_cases e : t = s + 1
      · rwa [e]
      · rcases hy with hy | ⟨x, hx, he⟩
        · exact ih (by omega) y hy
        · have hx' := ih (by omega) x hx
          have : ball ds a (t + 1) y := .inr ⟨x, hx', he⟩
          rcases ball_step.mp this with z | ⟨x', z, _⟩
          · exact z
          · exact absurd z (h x')
  intro s y hy
  by_cases hs : t ≤ s
  · exact h1 s hs y hy
  · exact ball_mono (by omega) hy
end
/-! ### the dict of distances -/
def encK (kv : List (Int × Int)) : List (Int × PyData) := kv.map fun p => (p.1, .int p.2)
theorem look_encK {kv : List (Int × Int)} {y : Int} : look (encK kv) y = (kv.lookup y).map .int := by
  unfold look encK
  induction kv with
  | nil => rfl
  | cons p kv ih =>
    rw [List.map_cons, List.find?_cons]
    by_cases h : p.1 = y
    · rw [decide_eq_true (by exact h)]
      rw [show (p :: kv).lookup y = some p.2 by obtain ⟨p1, p2⟩ := p; simp at h; simp [List.lookup, h]]
      rfl
    · rw [decide_eq_false (by exact h)]
      rw [show (p :: kv).lookup y = kv.lookup y by obtain ⟨p1, p2⟩ := p; simp at h; simp [List.lookup]; rw [show (y == p1) = false by simp; exact fun e => h e.symm]]
      exact ih
theorem lookup_none {kv : List (Int × Int)} {y : Int} : kv.lookup y = none ↔ y ∉ kv.map (·.1) := by
  induction kv with
  | nil => simp
  | cons p kv ih =>
    obtain ⟨p1, p2⟩ := p
    simp only [List.lookup, List.map_cons, List.mem_cons, not_or]
    by_cases h : y = p1
    · subst h
      simp
    · rw [show (y == p1) = false by simpa using h]
      simp [h, ih]
theorem lookup_mem' {kv : List (Int × Int)} {y d : Int} (h : kv.lookup y = some d) : (y, d) ∈ kv := by
  induction kv with
  | nil => cases h
  | cons p kv ih =>
    obtain ⟨p1, p2⟩ := p
    simp only [List.lookup] at h
    by_cases e : y = p1
    · subst e
      simp at h
      subst h
      exact List.mem_cons_self
    · rw [show (y == p1) = false by simpa using e] at h
      exact List.mem_cons_of_mem _ (ih h)
theorem mem_lookup' {kv : List (Int × Int)} {y d : Int} (hn : (kv.map (·.1)).Nodup) (h : (y, d) ∈ kv) : kv.lookup y = some d := by
  induction kv with
  | nil => cases h
  | cons p kv ih =>
    obtain ⟨p1, p2⟩ := p
    rw [List.map_cons, List.nodup_cons] at hn
    simp only [List.lookup]
    rcases List.mem_cons.mp h with e | e
    · cases e
      simp
    · have ne : y ≠ p1 := fun z => hn.1 (by rw [← z]; exact List.mem_map.mpr ⟨(y, d), e, rfl⟩)
      rw [show (y == p1) = false by simpa using ne]
      exact ih hn.2 e
theorem put_newH {kv : List (Int × Int)} {y d : Int} (h : y ∉ kv.map (·.1)) : put (encK kv) y (.int d) = encK (kv ++ [(y, d)]) := by
  unfold put
  have : ((encK kv).any fun p => decide (p.1 = y)) = false := by
    rw [List.any_eq_false]
    intro p hp
    unfold encK at hp
    obtain ⟨q, hq, rfl⟩ := List.mem_map.mp hp
    simp only [decide_eq_true_eq]
    exact fun e => h (by rw [← e]; exact List.mem_map.mpr ⟨q, hq, rfl⟩)
  rw [this, if_neg Bool.false_ne_true]
  unfold encK
  rw [List.map_append]
  rfl
/-- what has been found: all within t, and what new shows -/
structure Found (ds : List (Int × Int)) (a : Int) (t : Nat) (new : Int → Prop) (kv : List (Int × Int)) (later : List Int) : Prop where
  nd : (kv.map (·.1)).Nodup
  keys : ∀ y, y ∈ kv.map (·.1) ↔ ball ds a t y ∨ new y
  val : ∀ p ∈ kv, ∃ d : Nat, p.2 = d ∧ dist ds a p.1 d
  later : ∀ y, y ∈ later ↔ new y ∧ ¬ ball ds a t y
theorem Found.congr {ds : List (Int × Int)} {a : Int} {t : Nat} {n n' : Int → Prop} {kv : List (Int × Int)} {l : List Int} (f : Found ds a t n kv l) (h : ∀ y, n y ↔ n' y) : Found ds a t n' kv l :=
  ⟨f.nd, fun y => by rw [f.keys, h], f.val, fun y => by rw [f.later, h]⟩
/-- one door more: (x, y), x at distance t -/
theorem Found.add {ds : List (Int × Int)} {a : Int} {t : Nat} {n : Int → Prop} {kv : List (Int × Int)} {l : List Int} (f : Found ds a t n kv l) {x y : Int} (hx : dist ds a x t) (he : (x, y) ∈ ds) (hy : y ∉ kv.map (·.1)) :
    Found ds a t (fun z => n z ∨ z = y) (kv ++ [(y, ((t + 1 : Nat) : Int))]) (l ++ [y]) := by
  have hb : ¬ ball ds a t y := fun z => hy ((f.keys y).mpr (.inl z))
  refine ⟨?_, fun z => ?_, fun p hp => ?_, fun z => ?_⟩
  · rw [List.map_append, List.nodup_append]
    refine ⟨f.nd, by simp, fun u hu v hv => ?_⟩
    simp only [List.map_cons, List.map_nil, List.mem_singleton] at hv
    subst hv
    exact fun e => hy (by rw [← e]; exact hu)
  · rw [List.map_append, List.mem_append, f.keys]
    simp only [List.map_cons, List.map_nil, List.mem_singleton]
    constructor
    · rintro ((h | h) | h)
      · exact .inl h
      · exact .inr (.inl h)
      · exact .inr (.inr h)
    · rintro (h | h | h)
      · exact .inl (.inl h)
      · exact .inl (.inr h)
      · exact .inr h
  · rcases List.mem_append.mp hp with h | h
    · exact f.val p h
    · rw [List.mem_singleton.mp h]
      refine ⟨t + 1, rfl, .inr ⟨x, hx.1, he⟩, fun s hs z => hb (ball_mono (by omega) z)⟩
  · rw [List.mem_append, f.later, List.mem_singleton]
    constructor
    · rintro (⟨h1, h2⟩ | h)
      · exact ⟨.inl h1, h2⟩
      · subst h
        exact ⟨.inr rfl, hb⟩
    · rintro ⟨h1 | h1, h2⟩
      · exact .inl ⟨h1, h2⟩
      · exact .inr h1
theorem Found.skip {ds : List (Int × Int)} {a : Int} {t : Nat} {n : Int → Prop} {kv : List (Int × Int)} {l : List Int} (f : Found ds a t n kv l) {y : Int} (hy : y ∈ kv.map (·.1)) : Found ds a t (fun z => n z ∨ z = y) kv l := by
  have h := (f.keys y).mp hy
  refine ⟨f.nd, fun z => ?_, f.val, fun z => ?_⟩
  · rw [f.keys]
    constructor
    · rintro (h | h)
      · exact .inl h
      · exact .inr (.inl h)
    · rintro (h' | h' | h')
      · exact .inl h'
      · exact .inr h'
      · subst h'
        exact h
  · rw [f.later]
    constructor
    · rintro ⟨h1, h2⟩
      exact ⟨.inl h1, h2⟩
    · rintro ⟨h1 | h1, h2⟩
      · exact ⟨h1, h2⟩
      · subst h1
        rcases h with h | h
        · exact absurd h h2
        · exact ⟨h, h2⟩
end TL
set_option Elab.async false
set_option linter.all false
set_option maxRecDepth 100000
namespace TL
open PySem PySem.Spec PyProof.Rows L2
/-! ### come_to, run -/
def IsDoors (q : PyData) (ds : List (Int × Int)) : Prop := q = .tuple (ds.map pairD) ∨ q = .list (ds.map pairD)
theorem IsDoors.items {q : PyData} {ds : List (Int × Int)} (h : IsDoors q ds) {m : M PyData} {e e1 : Env} (hm : m e = some (.ok q e1)) : mItems m e = some (.ok (ds.map pairD) e1) := by
  rcases h with rfl | rfl
  · exact mItems_t hm
  · exact mItems_l hm
/-- come_to's slots -/
def cE (n a : Int) (q : PyData) (kv : List (Int × Int)) (L : List Int) (j5 j6 j7 j8 : Option OV) : Env := [some (.d (.int n)), some (.d q), some (.d (.int a)), some (.dct (encK kv)), some (.d (.list (L.map .int))), j5, j6, j7, j8]
def cBody : M Fl := mIf (mAnd (asB (mBin gEq (dV 7) (dV 6))) (asB (mInD true 3 (dV 8)))) (mThen (mPutD 3 (dV 8) (frz (mBin gAdd (frz (mIxD 3 (dV 6))) (dC (.int 1)))))
  (mDrop (mAppend 5 (dV 8)))) (pure .nx)
theorem nodup_le {α : Type} [DecidableEq α] : ∀ {l m : List α}, l.Nodup → (∀ x ∈ l, x ∈ m) → l.length ≤ m.length
  | [], m, _, _ => Nat.zero_le _
  | x :: l, m, h, k => by
    obtain ⟨h1, h2⟩ := List.nodup_cons.mp h
    have hx := k x List.mem_cons_self
    have := nodup_le (l := l) (m := m.erase x) h2 fun y hy => (List.mem_erase_of_ne (fun e => h1 (by rw [← e]; exact hy))).mpr (k y (List.mem_cons_of_mem _ hy))
    rw [List.length_erase_of_mem hx] at this
    have := List.length_pos_of_mem hx
    rw [List.length_cons]
    omega
theorem keys_small {ds : List (Int × Int)} {a : Int} {t : Nat} {n : Int → Prop} {kv : List (Int × Int)} {l : List Int} (f : Found ds a t n kv l) (hn : ∀ y, n y → ∃ x, (x, y) ∈ ds) : kv.length ≤ ds.length + 1 := by
  have h : (kv.map (·.1)).length ≤ (a :: ds.map (·.2)).length := by
    refine nodup_le f.nd ?_
    · intro y hy
      rcases (f.keys y).mp hy with h | h
      · have : ∀ t y, ball ds a t y → y ∈ a :: ds.map (·.2) := by
          intro t
          induction t with
          | zero => intro y h; rw [show y = a from h]; exact List.mem_cons_self
          | succ t ih =>
            intro y h
            rcases h with h | ⟨x, _, he⟩
            · exact ih y h
            · exact List.mem_cons_of_mem _ (List.mem_map.mpr ⟨(x, y), he, rfl⟩)
        exact this t y h
      · obtain ⟨x, he⟩ := hn y h
        exact List.mem_cons_of_mem _ (List.mem_map.mpr ⟨(x, y), he, rfl⟩)
  simpa using h
theorem inner_run {n a x : Int} {q : PyData} {ds : List (Int × Int)} (hq : IsDoors q ds) (hl : ds.length ≤ 1000) {t : Nat} {new : Int → Prop} {kv : List (Int × Int)} {L later : List Int} {j7 j8 : Option OV} (f : Found ds a t new kv later) (hx : dist ds a x t) (hn : ∀ y, new y → ∃ x, (x, y) ∈ ds) (hlt : later.length ≤ kv.length) :
    ∃ kv' later' j7' j8', mFor (mItems (dV 1)) (gT 2 (gsCons (gN 7) (gsCons (gN 8) (gsNil)))) cBody (cE n a q kv L (some (.lst (later.map .int))) (some (.d (.int x))) j7 j8) = some (.ok .nx (cE n a q kv' L (some (.lst (later'.map .int))) (some (.d (.int x))) j7' j8')) ∧
      Found ds a t (fun y => new y ∨ (x, y) ∈ ds) kv' later' ∧ kv'.length + later.length = kv.length + later'.length := by
  let I : Nat → Env → Prop := (fun j e => ∃ kv' later' j7' j8', e = cE n a q kv' L (some (.lst (later'.map .int))) (some (.d (.int x))) j7' j8' ∧ Found ds a t (fun y => new y ∨ (x, y) ∈ ds.take j) kv' later' ∧ kv'.length + later.length = kv.length + later'.length)
  have turn : ∀ j z e, (ds.map pairD)[j]? = some z → I j e → ∃ e1 e2, gT 2 (gsCons (gN 7) (gsCons (gN 8) (gsNil))) z e = some (.ok () e1) ∧ (cBody e1 = some (.ok .nx e2) ∨ cBody e1 = some (.ok .ct e2)) ∧ I (j + 1) e2 := by
    intro j z e hz h
    obtain ⟨kv', later', j7', j8', rfl, f', hlen⟩ := h
    rw [List.getElem?_map] at hz
    obtain ⟨⟨o, y⟩, hd, rfl⟩ := Option.map_eq_some_iff.mp hz
    have hmem : (o, y) ∈ ds := List.mem_of_getElem? hd
    have htk : ∀ u v, (u, v) ∈ ds.take (j + 1) ↔ (u, v) ∈ ds.take j ∨ (u, v) = (o, y) := fun u v => by
      rw [List.take_add_one, hd]
      simp
    have hsm : kv'.length ≤ ds.length + 1 := keys_small f' fun y h => by
      rcases h with h | h
      · exact hn y h
      · exact ⟨x, List.mem_of_mem_take h⟩
    have hkx : ∃ d : Int, kv'.lookup x = some d ∧ d = (t : Int) := by
      have hk : x ∈ kv'.map (·.1) := (f'.keys x).mpr (.inl hx.1)
      obtain ⟨p, hp, e⟩ := List.mem_map.mp hk
      obtain ⟨d, hd1, hd2⟩ := f'.val p hp
      rw [e] at hd2
      have := dist_uniq hd2 hx
      subst this
      obtain ⟨p1, p2⟩ := p
      simp only at e hd1
      subst e hd1
      exact ⟨_, mem_lookup' f'.nd hp, rfl⟩
    obtain ⟨dx, hkx, rfl⟩ := hkx
    by_cases ho : o = x
    · subst ho
      by_cases hy : y ∈ kv'.map (·.1)
      · have hlk : ∃ d, kv'.lookup y = some d := by
          cases e : kv'.lookup y with
          | none => exact absurd hy (lookup_none.mp e)
          | some d => exact ⟨d, rfl⟩
        obtain ⟨d, hlk⟩ := hlk
        refine ⟨cE n a q kv' L (some (.lst (later'.map .int))) (some (.d (.int o))) (some (.d (.int o))) (some (.d (.int y))), cE n a q kv' L (some (.lst (later'.map .int))) (some (.d (.int o))) (some (.d (.int o))) (some (.d (.int y))), by simp [pairD, cE], .inl ?_, kv', later', _, _, rfl, (f'.skip hy).congr (fun z => ?_), hlen⟩
        · simp [cBody, dV_app, cE, mHas_app, isDct, mPeek_app, gInD, look_encK, hlk]
        · rw [htk]
          constructor
          · rintro ((h | h) | h)
            · exact .inl h
            · exact .inr (.inl h)
            · exact .inr (.inr (by rw [h]))
          · rintro (h | h | h)
            · exact .inl (.inl h)
            · exact .inl (.inr h)
            · cases h; exact .inr rfl
      · have hlk : kv'.lookup y = none := lookup_none.mpr hy
        refine ⟨cE n a q kv' L (some (.lst (later'.map .int))) (some (.d (.int o))) (some (.d (.int o))) (some (.d (.int y))), cE n a q (kv' ++ [(y, ((t + 1 : Nat) : Int))]) L (some (.lst ((later' ++ [y]).map .int))) (some (.d (.int o))) (some (.d (.int o))) (some (.d (.int y))), by simp [pairD, cE], .inl ?_, _, later' ++ [y], _, _, rfl, (f'.add hx hmem hy).congr (fun z => ?_), ?_⟩
        · have hz1 : (encK kv').length < sizeLine := by rw [encK, List.length_map, sizeLine_eq]; omega
          have hz2 : later'.length < sizeLine := by rw [sizeLine_eq]; omega
          simp [cBody, dV_app, cE, mHas_app, isDct, isLst, mPeek_app, mMut_app, gInD, gIxD, gPutD, gApp, look_encK, hlk, hkx, hz1, hz2, put_newH hy]
        · rw [htk]
          constructor
          · rintro ((h | h) | h)
            · exact .inl h
            · exact .inr (.inl h)
            · exact .inr (.inr (by rw [h]))
          · rintro (h | h | h)
            · exact .inl (.inl h)
            · exact .inl (.inr h)
            · cases h; exact .inr rfl
        · rw [List.length_append, List.length_append]
          simp only [List.length_cons, List.length_nil]
          omega
    · refine ⟨cE n a q kv' L (some (.lst (later'.map .int))) (some (.d (.int x))) (some (.d (.int o))) (some (.d (.int y))), cE n a q kv' L (some (.lst (later'.map .int))) (some (.d (.int x))) (some (.d (.int o))) (some (.d (.int y))), by simp [pairD, cE], .inl ?_, kv', later', _, _, rfl, f'.congr (fun z => ?_), hlen⟩
      · simp [cBody, dV_app, cE, ho]
      · rw [htk]
        constructor
        · rintro (h | h)
          · exact .inl h
          · exact .inr (.inl h)
        · rintro (h | h | h)
          · exact .inl h
          · exact .inr h
          · cases h; exact absurd rfl ho
  obtain ⟨e', h1, h2⟩ := mFor_inv (mi := mItems (dV 1)) (g := gT 2 (gsCons (gN 7) (gsCons (gN 8) (gsNil)))) (b := cBody) (xs := ds.map pairD) (e := cE n a q kv L (some (.lst (later.map .int))) (some (.d (.int x))) j7 j8) (e0 := cE n a q kv L (some (.lst (later.map .int))) (some (.d (.int x))) j7 j8)
    I (hq.items (by simp [cE, dV_app])) ⟨kv, later, j7, j8, rfl, f.congr (fun y => by simp), rfl⟩ turn
  obtain ⟨kv', later', j7', j8', rfl, f', hlen⟩ := h2
  refine ⟨kv', later', j7', j8', h1, f'.congr (fun y => ?_), hlen⟩
  rw [List.length_map, List.take_length]
/-- all halls of a layer -/
theorem layer_run {n a : Int} {q : PyData} {ds : List (Int × Int)} (hq : IsDoors q ds) (hl : ds.length ≤ 1000) {t : Nat} {kv : List (Int × Int)} {L : List Int} {j6 j7 j8 : Option OV} (f : Found ds a t (fun _ => False) kv []) (hL : ∀ x, x ∈ L ↔ dist ds a x t) :
    ∃ kv' later' j6' j7' j8', mFor (mItems (dV 4)) (gN 6) (mFor (mItems (dV 1)) (gT 2 (gsCons (gN 7) (gsCons (gN 8) (gsNil)))) cBody) (cE n a q kv L (some (.lst [])) j6 j7 j8) = some (.ok .nx (cE n a q kv' L (some (.lst (later'.map .int))) j6' j7' j8')) ∧
      Found ds a t (fun y => ∃ x ∈ L, (x, y) ∈ ds) kv' later' ∧ kv'.length = kv.length + later'.length := by
  let I : Nat → Env → Prop := fun j e => ∃ kv' later' j6' j7' j8', e = cE n a q kv' L (some (.lst (later'.map .int))) j6' j7' j8' ∧ Found ds a t (fun y => ∃ x ∈ L.take j, (x, y) ∈ ds) kv' later' ∧ kv'.length = kv.length + later'.length
  have turn : ∀ j z e, (L.map PyData.int)[j]? = some z → I j e → ∃ e1 e2, gN 6 z e = some (.ok () e1) ∧ (mFor (mItems (dV 1)) (gT 2 (gsCons (gN 7) (gsCons (gN 8) (gsNil)))) cBody e1 = some (.ok .nx e2) ∨ mFor (mItems (dV 1)) (gT 2 (gsCons (gN 7) (gsCons (gN 8) (gsNil)))) cBody e1 = some (.ok .ct e2)) ∧ I (j + 1) e2 := by
    intro j z e hz h
    obtain ⟨kv', later', j6', j7', j8', rfl, f', hlen⟩ := h
    rw [List.getElem?_map] at hz
    obtain ⟨x, hx, rfl⟩ := Option.map_eq_some_iff.mp hz
    have hmem : x ∈ L := List.mem_of_getElem? hx
    have htk : ∀ u, u ∈ L.take (j + 1) ↔ u ∈ L.take j ∨ u = x := fun u => by
      rw [List.take_add_one, hx]
      simp
    obtain ⟨kv2, later2, j72, j82, h1, f2, hlen2⟩ := inner_run (j7 := j7') (j8 := j8') (L := L) (n := n) hq hl f' ((hL x).mp hmem) (fun y ⟨x, _, he⟩ => ⟨x, he⟩) (by omega)
    refine ⟨cE n a q kv' L (some (.lst (later'.map .int))) (some (.d (.int x))) j7' j8', _, by simp [cE], .inl h1, kv2, later2, _, _, _, rfl, f2.congr (fun y => ?_), by omega⟩
    constructor
    · rintro (⟨u, hu, he⟩ | he)
      · exact ⟨u, (htk u).mpr (.inl hu), he⟩
      · exact ⟨x, (htk x).mpr (.inr rfl), he⟩
    · rintro ⟨u, hu, he⟩
      rcases (htk u).mp hu with h | h
      · exact .inl ⟨u, h, he⟩
      · subst h; exact .inr he
  obtain ⟨e', h1, h2⟩ := mFor_inv (mi := mItems (dV 4)) (g := gN 6) (b := mFor (mItems (dV 1)) (gT 2 (gsCons (gN 7) (gsCons (gN 8) (gsNil)))) cBody) (xs := L.map PyData.int) (e := cE n a q kv L (some (.lst [])) j6 j7 j8) (e0 := cE n a q kv L (some (.lst [])) j6 j7 j8)
    I (mItems_l (by simp [cE, dV_app])) ⟨kv, [], j6, j7, j8, rfl, f.congr (fun y => by simp), rfl⟩ turn
  obtain ⟨kv', later', j6', j7', j8', rfl, f', hlen⟩ := h2
  refine ⟨kv', later', j6', j7', j8', h1, f'.congr (fun y => ?_), hlen⟩
  rw [List.length_map, List.take_length]
theorem come_to_run {n a : Int} {q : PyData} {ds : List (Int × Int)} (hq : IsDoors q ds) (hl : ds.length ≤ 1000) : ∃ (kv : List (Int × Int)) (t : Nat), Fd f_come_to [.int n, q, .int a] (.dct (encK kv)) ∧ (kv.map (·.1)).Nodup ∧ (∀ y, y ∈ kv.map (·.1) ↔ ball ds a t y) ∧
    (∀ p ∈ kv, ∃ d : Nat, p.2 = d ∧ dist ds a p.1 d) ∧ ∀ s y, ball ds a s y → ball ds a t y := by
  let lp : M Fl := mThen (mSet 5 (mLst (pure []))) (mThen (mFor (mItems (dV 4)) (gN 6) (mFor (mItems (dV 1)) (gT 2 (gsCons (gN 7) (gsCons (gN 8) (gsNil)))) cBody)) (mSet 4 (dat (frz (mFrz 5)))))
  let I : Nat → Env → Prop := fun m e => ∃ (t : Nat) (kv : List (Int × Int)) (L : List Int) (j5 j6 j7 j8 : Option OV), e = cE n a q kv L j5 j6 j7 j8 ∧ Found ds a t (fun _ => False) kv [] ∧ (∀ x, x ∈ L ↔ dist ds a x t) ∧ m = 2 * (ds.length + 1 - kv.length) + (if L = [] then 0 else 1)
  let Z : Env → Prop := fun e => ∃ (t : Nat) (kv : List (Int × Int)) (L : List Int) (j5 j6 j7 j8 : Option OV), e = cE n a q kv L j5 j6 j7 j8 ∧ Found ds a t (fun _ => False) kv [] ∧ ∀ s y, ball ds a s y → ball ds a t y
  have turn : ∀ m e, I m e → (∃ e1, mPeek 4 ovTru e = some (.ok false e1) ∧ Z e1) ∨ ∃ e1 e2 m', mPeek 4 ovTru e = some (.ok true e1) ∧ (lp e1 = some (.ok .nx e2) ∨ lp e1 = some (.ok .ct e2)) ∧ m' < m ∧ I m' e2 := by
    rintro m e ⟨t, kv, L, j5, j6, j7, j8, rfl, f, hL, rfl⟩
    by_cases hLe : L = []
    · subst hLe
      refine .inl ⟨cE n a q kv [] j5 j6 j7 j8, by simp [cE, mPeek_app], t, kv, [], j5, j6, j7, j8, rfl, f, ball_stop fun x hx => ?_⟩
      have := (hL x).mpr hx
      cases this
    · have hne : L.isEmpty = false := by cases L with | nil => exact absurd rfl hLe | cons => rfl
      obtain ⟨kv', later', j6', j7', j8', h1, f', hlen⟩ := layer_run (n := n) (j6 := j6) (j7 := j7) (j8 := j8) hq hl f hL
      have hsm := keys_small f' fun y ⟨x, _, he⟩ => ⟨x, he⟩
      have f2 : Found ds a (t + 1) (fun _ => False) kv' [] := by
        refine ⟨f'.nd, fun y => ?_, f'.val, fun y => ⟨fun h => (by cases h), fun h => h.1.elim⟩⟩
        rw [f'.keys, ball_step]
        constructor
        · rintro (h | ⟨x, hx, he⟩)
          · exact .inl (.inl h)
          · exact .inl (.inr ⟨x, (hL x).mp hx, he⟩)
        · rintro ((h | ⟨x, hx, he⟩) | h)
          · exact .inl h
          · exact .inr ⟨x, (hL x).mpr hx, he⟩
          · exact h.elim
      have hL2 : ∀ x, x ∈ later' ↔ dist ds a x (t + 1) := fun y => by
        rw [f'.later]
        constructor
        · rintro ⟨⟨x, hx, he⟩, hb⟩
          exact ⟨.inr ⟨x, ((hL x).mp hx).1, he⟩, fun s hs z => hb (ball_mono (by omega) z)⟩
        · intro h
          have hb : ¬ ball ds a t y := h.2 t (by omega)
          rcases ball_step.mp h.1 with z | ⟨x, hx, he⟩
          · exact absurd z hb
          · exact ⟨⟨x, (hL x).mpr hx, he⟩, hb⟩
      refine .inr ⟨cE n a q kv L j5 j6 j7 j8, cE n a q kv' later' (some (.d (.list (later'.map .int)))) j6' j7' j8', 2 * (ds.length + 1 - kv'.length) + (if later' = [] then 0 else 1), by simp [cE, mPeek_app, hLe], .inl ?_, ?_, t + 1, kv', later', _, _, _, _, rfl, f2, hL2, rfl⟩
      · have e1 : (cE n a q kv L j5 j6 j7 j8).set 5 (some (.lst [])) = cE n a q kv L (some (.lst [])) j6 j7 j8 := rfl
        show mThen (mSet 5 (mLst (pure []))) (mThen (mFor (mItems (dV 4)) (gN 6) (mFor (mItems (dV 1)) (gT 2 (gsCons (gN 7) (gsCons (gN 8) (gsNil)))) cBody)) (mSet 4 (dat (frz (mFrz 5))))) _ = _
        rw [mThen_at, mSet_at, mLst_at (xs := []) (e1 := cE n a q kv L j5 j6 j7 j8) rfl (Nat.zero_le _), aT_ok, e1, aT_ok, fThen_nx, mThen_at, h1, aT_ok, fThen_nx]
        simp [cE, mFrz_app]
      · rw [if_neg hLe]
        by_cases hl' : later' = []
        · rw [if_pos hl']
          rw [hl'] at hlen
          simp only [List.length_nil] at hlen
          omega
        · rw [if_neg hl']
          have : 0 < later'.length := List.length_pos_iff.mpr hl'
          omega
  have h0 : I (2 * (ds.length + 1 - 1) + 1) (cE n a q [(a, 0)] [a] none none none none) := by
    refine ⟨0, [(a, 0)], [a], none, none, none, none, rfl, ⟨by simp, fun y => ?_, fun p hp => ?_, fun y => ⟨fun h => (by cases h), fun h => h.1.elim⟩⟩, fun x => ?_, by simp⟩
    · simp [ball]
    · rw [List.mem_singleton.mp hp]
      exact ⟨0, rfl, rfl, fun s hs => by omega⟩
    · rw [List.mem_singleton]
      exact ⟨fun h => ⟨h, fun s hs => by omega⟩, fun h => h.1⟩
  obtain ⟨e', h1, t, kv, L, j5, j6, j7, j8, rfl, f, hs⟩ := mWhile_inv (t := mPeek 4 ovTru) (b := lp) I Z turn h0
  refine ⟨kv, t, Fd.rt ⟨(cE n a q kv L j5 j6 j7 j8).set 3 none, ?_⟩, f.nd, fun y => ?_, f.val, hs⟩
  · have e0 : mPar 3 4 (mDict1 (dV 2) (dC (.int 0))) (dat (frz (mLst (mCons (dV 2) (pure []))))) (dEnv [.int n, q, .int a] ++ List.replicate (9 - 3) none) = some (.ok .nx (cE n a q [(a, 0)] [a] none none none none)) := by
      have hz : (1 : Nat) ≤ sizeLine := fits (by omega)
      simp [dEnv, dV_app, cE, encK]
      rw [mLst_at (xs := [.int a]) (e1 := [some (.d (.int n)), some (.d q), some (.d (.int a)), none, none, none, none, none, none]) (by simp [dV_app]) (by simpa using hz)]
      simp
    show mThen (mPar 3 4 (mDict1 (dV 2) (dC (.int 0))) (dat (frz (mLst (mCons (dV 2) (pure [])))))) (mThen (mWhile (mPeek 4 ovTru) lp) (mRet (mMove 3))) _ = _
    rw [mThen_at, e0, aT_ok, fThen_nx, mThen_at, h1, aT_ok, fThen_nx]
    simp [cE, mMove_app]
  · rw [f.keys]
    simp
end TL
set_option Elab.async false
set_option linter.all false
set_option maxRecDepth 100000
namespace TL
open PySem PySem.Spec PyProof.Rows L2
/-! ### ways -/
inductive Reach (ds : List (Int × Int)) : Int → Int → Prop
  | refl (x : Int) : Reach ds x x
  | step {x y z : Int} : Reach ds x y → (y, z) ∈ ds → Reach ds x z
theorem Reach.trans {ds : List (Int × Int)} {x y z : Int} (h : Reach ds x y) (k : Reach ds y z) : Reach ds x z := by
  induction k with
  | refl => exact h
  | step _ e ih => exact .step ih e
theorem Reach.one {ds : List (Int × Int)} {x y : Int} (h : (x, y) ∈ ds) : Reach ds x y := .step (.refl x) h
def swp (p : Int × Int) : Int × Int := (p.2, p.1)
theorem mem_swp {ds : List (Int × Int)} {x y : Int} : (x, y) ∈ ds.map swp ↔ (y, x) ∈ ds := by
  constructor
  · intro h
    obtain ⟨⟨a, b⟩, h1, h2⟩ := List.mem_map.mp h
    cases h2
    exact h1
  · exact fun h => List.mem_map.mpr ⟨(y, x), h, rfl⟩
theorem Reach.back {ds es : List (Int × Int)} (hs : ∀ x y, (x, y) ∈ ds → (y, x) ∈ es) {x y : Int} (h : Reach ds x y) : Reach es y x := by
  induction h with
  | refl => exact .refl _
  | step _ e ih => exact (Reach.one (hs _ _ e)).trans ih
theorem Reach.mono {ds es : List (Int × Int)} (hs : ∀ x y, (x, y) ∈ ds → Reach es x y) {x y : Int} (h : Reach ds x y) : Reach es x y := by
  induction h with
  | refl => exact .refl _
  | step _ e ih => exact ih.trans (hs _ _ e)
theorem Reach.of_ball {ds : List (Int × Int)} {a : Int} : ∀ {t : Nat} {y : Int}, ball ds a t y → Reach ds a y
  | 0, y, h => by rw [show y = a from h]; exact .refl a
  | t + 1, y, h => by
    rcases h with h | ⟨x, h1, h2⟩
    · exact Reach.of_ball h
    · exact .step (Reach.of_ball h1) h2
theorem Reach.ball {ds : List (Int × Int)} {a y : Int} (h : Reach ds a y) : ∃ t, ball ds a t y := by
  induction h with
  | refl => exact ⟨0, rfl⟩
  | step _ e ih =>
    obtain ⟨t, h⟩ := ih
    exact ⟨t + 1, .inr ⟨_, h, e⟩⟩
def inN (n y : Int) : Prop := 0 ≤ y ∧ y < n
instance (n y : Int) : Decidable (inN n y) := inferInstanceAs (Decidable (_ ∧ _))
theorem Reach.inN {ds : List (Int × Int)} {n : Int} (hd : ∀ p ∈ ds, inN n p.1 ∧ inN n p.2) {x y : Int} (h : Reach ds x y) (hx : inN n x) : inN n y := by
  induction h with
  | refl => exact hx
  | step _ e _ => exact (hd _ e).2
/-- each hall can be reached from each -/
def SC (n : Int) (ds : List (Int × Int)) : Prop := ∀ x y, inN n x → inN n y → Reach ds x y
theorem SC.of0 {n : Int} {ds es : List (Int × Int)} (hs : ∀ x y, (x, y) ∈ es ↔ (y, x) ∈ ds) (h1 : ∀ y, inN n y → Reach ds 0 y) (h2 : ∀ y, inN n y → Reach es 0 y) : SC n ds := fun x y hx hy =>
  ((h2 x hx).back (es := ds) (fun a b h => (hs a b).mp h)).trans (h1 y hy)
def rangeI (n : Int) : List Int := (List.range n.toNat).map fun (k : Nat) => (k : Int)
theorem mem_rangeI {n y : Int} : y ∈ rangeI n ↔ inN n y := by
  unfold rangeI inN
  rw [List.mem_map]
  constructor
  · rintro ⟨k, h, rfl⟩
    rw [List.mem_range] at h
    omega
  · intro h
    exact ⟨y.toNat, List.mem_range.mpr (by omega), by omega⟩
theorem rangeI_len (n : Int) : (rangeI n).length = n.toNat := by unfold rangeI; simp
theorem rangeI_nodup (n : Int) : (rangeI n).Nodup := by
  unfold rangeI
  rw [List.nodup_iff_pairwise_ne, List.pairwise_map]
  exact List.nodup_iff_pairwise_ne.mp (List.nodup_range) |>.imp fun h e => h (by omega)
/-- a list of unlike halls holds all of them just if it is as long -/
theorem full_iff {n : Int} (hn : 0 ≤ n) {l : List Int} (h : l.Nodup) (hl : ∀ y ∈ l, inN n y) : (l.length : Int) = n ↔ ∀ y, inN n y → y ∈ l := by
  have h1 : l.length ≤ n.toNat := by
    rw [← rangeI_len]
    exact nodup_le h fun y hy => mem_rangeI.mpr (hl y hy)
  constructor
  · intro e y hy
    apply Decidable.byContradiction
    intro hc
    have : (y :: l).length ≤ (rangeI n).length := nodup_le (List.nodup_cons.mpr ⟨hc, h⟩) fun z hz => by
      rcases List.mem_cons.mp hz with rfl | hz
      · exact mem_rangeI.mpr hy
      · exact mem_rangeI.mpr (hl z hz)
    rw [rangeI_len, List.length_cons] at this
    omega
  · intro ha
    have : (rangeI n).length ≤ l.length := nodup_le (rangeI_nodup n) fun y hy => ha y (mem_rangeI.mp hy)
    rw [rangeI_len] at this
    omega
/-! ### comprehensions over doors -/
theorem comp_doors {i j : Nat} {mi : M (List PyData)} {t : M Bool} {elt : M PyData} {e env : Env} {ds : List (Int × Int)} (f : Int × Int → Option PyData) (hi : mi e = some (.ok (ds.map pairD) env)) (hf : [i, j].all (flatAt env) = true) (hl : ds.length ≤ 1000)
    (hb : ∀ p ∈ ds, ∃ e3, compT (gT 2 (gsCons (gN i) (gsCons (gN j) (gsNil)))) t elt (pairD p) (wipeE env [i, j]) = some (.ok (f p) e3) ∧ wipeE e3 [i, j] = wipeE env [i, j]) :
    mComp [i, j] mi (gT 2 (gsCons (gN i) (gsCons (gN j) (gsNil)))) t elt e = some (.ok (.lst (ds.filterMap f)) env) := by
  rw [mComp_run (xs := ds.map pairD) (fun x => match x with | .tuple [.int a, .int b] => f (a, b) | _ => none) hi hf (fits (by simpa using hl))]
  · rw [List.filterMap_map]
    rfl
  · intro x hx
    obtain ⟨p, hp, rfl⟩ := List.mem_map.mp hx
    exact hb p hp
theorem all_doors {i : Nat} {mi : M (List PyData)} {elt : M OV} {e env : Env} {ds : List (Int × Int)} (f : Int × Int → Bool) (hi : mi e = some (.ok (ds.map pairD) env)) (hf : [i].all (flatAt env) = true)
    (hb : ∀ p ∈ ds, ∃ e3, allT (gN i) elt (pairD p) (wipeE env [i]) = some (.ok (f p) e3) ∧ wipeE e3 [i] = wipeE env [i]) :
    mAll [i] mi (gN i) elt e = some (.ok (.d (.bool (ds.all f))) env) := by
  rw [mAll_run (xs := ds.map pairD) (fun x => match x with | .tuple [.int a, .int b] => f (a, b) | _ => false) hi hf]
  · rw [List.all_map]
    rfl
  · intro x hx
    obtain ⟨p, hp, rfl⟩ := List.mem_map.mp hx
    exact hb p hp
/-! ### is_joined, run -/
@[simp] theorem gLen_dct (kv : List (Int × PyData)) : gLen (.dct kv) = some (.d (.int kv.length)) := rfl
@[simp] theorem gLen_t (xs : List PyData) : gLen (.d (.tuple xs)) = some (.d (.int xs.length)) := rfl
@[simp] theorem gLen_l (xs : List PyData) : gLen (.d (.list xs)) = some (.d (.int xs.length)) := rfl
@[simp] theorem gLen_o (xs : List PyData) : gLen (.lst xs) = some (.d (.int xs.length)) := rfl
@[simp] theorem encK_len (kv : List (Int × Int)) : (encK kv).length = kv.length := by unfold encK; simp
theorem come_full {n : Int} {q : PyData} {ds : List (Int × Int)} (hq : IsDoors q ds) (hl : ds.length ≤ 1000) (hn : 1 ≤ n) (hd : ∀ p ∈ ds, inN n p.1 ∧ inN n p.2) :
    ∃ kv, Fd f_come_to [.int n, q, .int 0] (.dct (encK kv)) ∧ ((kv.length : Int) = n ↔ ∀ y, inN n y → Reach ds 0 y) := by
  obtain ⟨kv, t, F, nd, keys, val, st⟩ := come_to_run (n := n) (a := 0) hq hl
  have hr : ∀ y, y ∈ kv.map (·.1) ↔ Reach ds 0 y := fun y => by
    rw [keys]
    exact ⟨Reach.of_ball, fun h => by obtain ⟨s, hs⟩ := h.ball; exact st s y hs⟩
  refine ⟨kv, F, ?_⟩
  have := full_iff (n := n) (by omega) nd fun y hy => ((hr y).mp hy).inN hd ⟨by omega, by omega⟩
  rw [List.length_map] at this
  rw [this]
  exact ⟨fun h y hy => (hr y).mp (h y hy), fun h y hy => (hr y).mpr (h y hy)⟩
theorem is_joined_run {n : Int} {ds : List (Int × Int)} (hn : 1 ≤ n) (hd : ∀ p ∈ ds, inN n p.1 ∧ inN n p.2) (hl : ds.length ≤ 1000) : ∃ b, Fd f_is_joined [.int n, .tuple (ds.map pairD)] (.d (.bool b)) ∧ (b = true ↔ SC n ds) := by
  obtain ⟨kv1, F1, h1⟩ := come_full (q := .tuple (ds.map pairD)) (.inl rfl) hl hn hd
  obtain ⟨kv2, F2, h2⟩ := come_full (n := n) (q := .list ((ds.map swp).map pairD)) (.inr rfl) (by simpa using hl) hn (fun p hp => by
    obtain ⟨r, hr, rfl⟩ := List.mem_map.mp hp
    exact ⟨(hd r hr).2, (hd r hr).1⟩)
  refine ⟨decide ((kv1.length : Int) = n) && decide ((kv2.length : Int) = n), Fd.rt ⟨[some (.d (.int n)), some (.d (.tuple (ds.map pairD))), some (.d (.list ((ds.map swp).map pairD))), none, none], ?_⟩, ?_⟩
  · have hc : mComp [3, 4] (mItems (dV 1)) (gT 2 (gsCons (gN 3) (gsCons (gN 4) (gsNil)))) (pure true) (frz (mTup (mCons (dV 4) (mCons (dV 3) (pure []))))) [some (.d (.int n)), some (.d (.tuple (ds.map pairD))), none, none, none] = some (.ok (.lst ((ds.map swp).map pairD)) [some (.d (.int n)), some (.d (.tuple (ds.map pairD))), none, none, none]) := by
      rw [comp_doors (env := [some (.d (.int n)), some (.d (.tuple (ds.map pairD))), none, none, none]) (ds := ds) (fun p => some (pairD (swp p))) (mItems_t (by simp [dV_app])) rfl hl]
      · simp [List.filterMap_eq_map', Function.comp_def]
      · intro p hp
        refine ⟨[some (.d (.int n)), some (.d (.tuple (ds.map pairD))), none, some (.d (.int p.1)), some (.d (.int p.2))], ?_, rfl⟩
        simp [compT, wipeE, pairD, swp]
        rw [mTup_at (xs := [.int p.2, .int p.1]) (e1 := [some (.d (.int n)), some (.d (.tuple (ds.map pairD))), none, some (.d (.int p.1)), some (.d (.int p.2))]) (by simp [dV_app]) (fits (by simp))]
        simp
    have hb : (dEnv [.int n, .tuple (ds.map pairD)] ++ List.replicate (5 - 2) none) = [some (.d (.int n)), some (.d (.tuple (ds.map pairD))), none, none, none] := rfl
    rw [hb]
    unfold b_is_joined
    rw [mThen_at, mSet_at, dat_at, frz_at, hc]
    by_cases c : (kv1.length : Int) = n
    · simp [-List.map_map, dV_app, mCall3_at (mf := f_come_to) fnM_len, F1.call, F2.call, c]
    · simp [-List.map_map, dV_app, mCall3_at (mf := f_come_to) fnM_len, F1.call, F2.call, c]
  · rw [Bool.and_eq_true_iff, decide_eq_true_iff, decide_eq_true_iff, h1, h2]
    constructor
    · rintro ⟨a, b⟩
      exact SC.of0 (fun x y => mem_swp) a b
    · intro s
      refine ⟨fun y hy => s 0 y ⟨by omega, by omega⟩ hy, fun y hy => (s y 0 hy ⟨by omega, by omega⟩).back fun a b h => mem_swp.mpr h⟩
end TL
set_option Elab.async false
set_option linter.all false
set_option maxRecDepth 100000
namespace TL
open PySem PySem.Spec PyProof.Rows L2
/-! ### is_house and its like, run -/
def plt (p q : Int × Int) : Prop := p.1 < q.1 ∨ (p.1 = q.1 ∧ p.2 < q.2)
instance (p q : Int × Int) : Decidable (plt p q) := inferInstanceAs (Decidable (_ ∨ _))
theorem plt.trans {p q r : Int × Int} (h : plt p q) (k : plt q r) : plt p r := by unfold plt at *; omega
def chainB : List (Int × Int) → Bool
  | p :: q :: r => decide (plt p q) && chainB (q :: r)
  | _ => true
theorem chainB_iff : ∀ {ds : List (Int × Int)}, chainB ds = true ↔ ds.Pairwise plt
  | [] => by simp [chainB]
  | [p] => by simp [chainB]
  | p :: q :: r => by
    rw [chainB, Bool.and_eq_true_iff, decide_eq_true_iff, chainB_iff (ds := q :: r), List.pairwise_cons (l := q :: r)]
    constructor
    · rintro ⟨h1, h2⟩
      refine ⟨fun z hz => ?_, h2⟩
      rcases List.mem_cons.mp hz with rfl | hz
      · exact h1
      · exact h1.trans ((List.pairwise_cons.mp h2).1 z hz)
    · rintro ⟨h1, h2⟩
      exact ⟨h1 q List.mem_cons_self, h2⟩
def pltD : PyData → Bool
  | .tuple [.tuple [.int a, .int b], .tuple [.int c, .int d]] => decide (plt (a, b) (c, d))
  | _ => false
theorem zip_chain : ∀ (ds : List (Int × Int)), (zipD (ds.map pairD) (ds.map pairD).tail).all pltD = chainB ds
  | [] => rfl
  | [p] => rfl
  | p :: q :: r => by
    show (pltD (.tuple [pairD p, pairD q]) && (zipD ((q :: r).map pairD) ((q :: r).map pairD).tail).all pltD) = _
    rw [zip_chain (q :: r)]
    rfl
theorem cutD_tail (xs : List PyData) : cutD xs (some 1) none = xs.tail := by
  unfold cutD
  rw [HT.sIx_none, show HT.sIx xs.length 0 (some 1) = min 1 xs.length from HT.sIx_nat xs.length 0 1]
  cases xs with
  | nil => rfl
  | cons x xs =>
    rw [show min 1 (x :: xs).length = 1 by rw [List.length_cons]; omega, List.drop_one, List.tail_cons, List.take_of_length_le (by simp)]
theorem gLt_pair (p q : Int × Int) : gLt (pairD p) (pairD q) = some (.d (.bool (decide (plt p q)))) := by
  show (if _ then some (OV.d (.bool (PySem.W.dataLt (.tuple [.int p.1, .int p.2]) (.tuple [.int q.1, .int q.2])))) else none) = _
  have hc : (PySem.W.alike (pairD p) (pairD q) && (!isNone (pairD p) && (okD (pairD p) && okD (pairD q)))) = true := by rfl
  rw [if_pos hc, PySem.W.dataLt_ii]
  rfl
theorem pltD_pair (p q : Int × Int) : pltD (.tuple [pairD p, pairD q]) = decide (plt p q) := rfl
theorem mZip_t {a b : M PyData} {e e1 e2 : Env} {xs ys : List PyData} (h1 : a e = some (.ok (.tuple xs) e1)) (h2 : b e1 = some (.ok (.tuple ys) e2)) : mZip a b e = some (.ok (zipD xs ys) e2) := by
  show Out.andThen (a e) _ = _
  rw [h1]
  show Out.andThen (b e1) _ = _
  rw [h2]
  rfl
theorem mSlice_t1 {m : M PyData} {e e1 : Env} {xs : List PyData} (h1 : m e = some (.ok (.tuple xs) e1)) : mSlice m (some (dC (.int 1))) none e = some (.ok (.d (.tuple xs.tail)) e1) := by
  show Out.andThen (m e) _ = _
  rw [h1, ← cutD_tail]
  rfl
theorem zip_mem {ds : List (Int × Int)} {x : PyData} (h : x ∈ zipD (ds.map pairD) (ds.map pairD).tail) : ∃ p q, x = .tuple [pairD p, pairD q] := by
  obtain ⟨i, hi⟩ := List.getElem?_of_mem h
  obtain ⟨y, z, h1, h2, rfl⟩ := zipD_get hi
  obtain ⟨p, _, rfl⟩ := List.mem_map.mp (List.mem_of_getElem? h1)
  obtain ⟨q, _, rfl⟩ := List.mem_map.mp (List.mem_of_mem_tail (List.mem_of_getElem? h2))
  exact ⟨p, q, rfl⟩
/-- a house as data -/
def houseD (n : Int) (ds : List (Int × Int)) : PyData := .tuple [.int n, .tuple (ds.map pairD)]
structure Good (n : Int) (ds : List (Int × Int)) : Prop where
  lo : 1 ≤ n
  hi : n ≤ 10
  ok : ∀ p ∈ ds, inN n p.1 ∧ inN n p.2 ∧ p.1 ≠ p.2
  srt : ds.Pairwise plt
  sc : SC n ds
  len : ds.length ≤ 1000
theorem doorOk_iff {n : Int} {p : Int × Int} : doorOk n p = true ↔ inN n p.1 ∧ inN n p.2 ∧ p.1 ≠ p.2 := by
  unfold doorOk inR inN
  simp only [Bool.and_eq_true, decide_eq_true_eq, Bool.not_eq_true', decide_eq_false_iff_not]
  omega
def word (b : Bool) : PyData := if b then .none else .str "doors"
theorem isNone_word (b : Bool) : isNone (word b) = b := by cases b <;> rfl
theorem wrong_part_run {n : Int} {ds : List (Int × Int)} (h1 : 1 ≤ n) (h2 : n ≤ 10) (hl : ds.length ≤ 1000) : ∃ b, Fd f_wrong_part [houseD n ds] (.d (word b)) ∧ (b = true ↔ Good n ds) := by
  let E (o3 : Option OV) : Env := [some (.d (houseD n ds)), some (.d (.int n)), some (.d (.tuple (ds.map pairD))), o3, none, none]
  have ha : mAll [3] (mItems (dV 2)) (gN 3) (mCall (.d (dV 1) :: .d (dV 3) :: []) f_is_door) (E none) = some (.ok (.d (.bool (ds.all (doorOk n)))) (E none)) := by
    refine all_doors (doorOk n) (mItems_t (by simp [dV_app, E])) rfl fun p hp => ⟨E (some (.d (pairD p))), ?_, rfl⟩
    simp [allT, wipeE, E, mCall2_at (mf := f_is_door) fnM_len, dV_app, (is_door_run n p).call]
  have hz : mAll [4, 5] (mZip (dV 2) (frz (mSlice (dV 2) (some (dC (.int 1))) none))) (gT 2 (gsCons (gN 4) (gsCons (gN 5) (gsNil)))) (mBin gLt (dV 4) (dV 5)) (E none) = some (.ok (.d (.bool (chainB ds))) (E none)) := by
    rw [← zip_chain]
    refine mAll_run pltD ?_ rfl fun x hx => ?_
    · have e2 : dV 2 (E none) = some (.ok (.tuple (ds.map pairD)) (E none)) := rfl
      refine mZip_t e2 ?_
      rw [frz_at, mSlice_t1 e2]
      rfl
    · obtain ⟨p, q, rfl⟩ := zip_mem hx
      refine ⟨[some (.d (houseD n ds)), some (.d (.int n)), some (.d (.tuple (ds.map pairD))), none, some (.d (pairD p)), some (.d (pairD q))], ?_, rfl⟩
      simp [allT, wipeE, E, dV_app, gLt_pair, pltD_pair]
  have hstart : (dEnv [houseD n ds] ++ List.replicate (6 - 1) none) = [some (.d (houseD n ds)), none, none, none, none, none] := rfl
  have hnum : (decide (1 ≤ n) && decide (n ≤ 10)) = true := by simp [h1, h2]
  have hnum2 := is_number_int n 1 10
  rw [hnum] at hnum2
  have hgo : ∀ {r : OV} (e : Env), (mThen (mIf (mOr (mNot (mTru (mIsI "tuple" (dV 2)))) (mNot (mTru (mAll [3] (mItems (dV 2)) (gN 3) (mCall (.d (dV 1) :: .d (dV 3) :: []) f_is_door))))) (mRet (dat (dC (.str "doors")))) (pure .nx))
      (mThen (mIf (mOr (mNot (mTru (mAll [4, 5] (mZip (dV 2) (frz (mSlice (dV 2) (some (dC (.int 1))) none))) (gT 2 (gsCons (gN 4) (gsCons (gN 5) (gsNil)))) (mBin gLt (dV 4) (dV 5))))) (mNot (mTru (mCall (.d (dV 1) :: .d (dV 2) :: []) f_is_joined)))) (mRet (dat (dC (.str "doors")))) (pure .nx))
      (mRet (dat (dC .none))))) (E none) = some (.ok (.rt r) e) → b_wrong_part (dEnv [houseD n ds] ++ List.replicate (6 - 1) none) = some (.ok (.rt r) e) := by
    intro r e h
    rw [hstart]
    unfold b_wrong_part
    simp only [houseD, mThen_at, mIf_at, mOr_at, mNot_at, mTru_at, mIsI_at, dV_app, List.getElem?_cons_zero, List.getElem?_cons_succ, aT_ok, tyIs_tuple_tuple, Option.map_some, opt_some_at, ovTru_b, pure_at', Bool.not_true, Bool.false_eq_true, if_false, asB_at, mBin_at, frz_at, mPeek_app, gLen_t, List.length_cons, List.length_nil, dat_d, bind_at', dC_at, gNe_int, boolOf_b, mAsg_at, setBy_at, gT2_at, gsCons_at, gN_at, gsNil_at, fThen_nx, mCall3_at (mf := f_is_number) fnM_len, List.set_cons_succ, List.set_cons_zero, hnum2.call]
    simp only [mThen_at, mIf_at, mOr_at, mNot_at, mTru_at, houseD, E] at h
    simpa [hnum2.call, dV_app, mCall3_at (mf := f_is_number) fnM_len] using h
  by_cases c1 : ds.all (doorOk n) = true
  · have hd : ∀ p ∈ ds, inN n p.1 ∧ inN n p.2 ∧ p.1 ≠ p.2 := fun p hp => doorOk_iff.mp (List.all_eq_true.mp c1 p hp)
    obtain ⟨b, hj, hb⟩ := is_joined_run h1 (fun p hp => ⟨(hd p hp).1, (hd p hp).2.1⟩) hl
    refine ⟨chainB ds && b, Fd.rt ⟨E none, hgo _ ?_⟩, ?_⟩
    · have e1 : dV 1 (E none) = some (.ok (.int n) (E none)) := rfl
      have e2 : dV 2 (E none) = some (.ok (.tuple (ds.map pairD)) (E none)) := rfl
      simp [ha, hz, c1, e1, e2]
      cases chainB ds
      · simp [word]
      · simp [mCall2_at (mf := f_is_joined) fnM_len, e1, e2, hj.call]
        cases b <;> simp [word]
    · rw [Bool.and_eq_true_iff, chainB_iff, hb]
      exact ⟨fun ⟨a, b⟩ => ⟨h1, h2, hd, a, b, hl⟩, fun g => ⟨g.srt, g.sc⟩⟩
  · refine ⟨false, Fd.rt ⟨E none, hgo _ ?_⟩, ?_⟩
    · have e2 : dV 2 (E none) = some (.ok (.tuple (ds.map pairD)) (E none)) := rfl
      simp [ha, c1, e2, word]
    · refine ⟨fun h => (by cases h), fun g => absurd ?_ c1⟩
      exact List.all_eq_true.mpr fun p hp => doorOk_iff.mpr (g.ok p hp)
end TL
set_option Elab.async false
set_option linter.all false
set_option maxRecDepth 100000
namespace TL
open PySem PySem.Spec PyProof.Rows L2
@[simp] theorem mIxT_at (m : M OV) (j : Nat) (e : Env) : mIxT m j e = Out.andThen (m e) fun v => dV j >>= fun y => M.opt (gIxD y v) := rfl
/-! ### plain data -/
def OkN (d : Nat) (x : PyData) : Prop := x.plain = true ∧ x.depth ≤ d
theorem OkN.ok {d : Nat} {x : PyData} (h : OkN d x) (hd : d ≤ 64) : okD x = true := by
  unfold okD
  rw [h.1, Bool.true_and, decide_eq_true_iff]
  exact Nat.le_trans h.2 hd
theorem okN_none {d : Nat} : OkN d .none := ⟨rfl, Nat.zero_le _⟩
theorem okN_int {d : Nat} (i : Int) : OkN d (.int i) := ⟨rfl, Nat.zero_le _⟩
theorem okN_bool {d : Nat} (b : Bool) : OkN d (.bool b) := ⟨rfl, Nat.zero_le _⟩
theorem okN_str {d : Nat} (b : Str) : OkN d (.str b) := ⟨rfl, Nat.zero_le _⟩
theorem okN_all {d : Nat} : ∀ {xs : List PyData}, (∀ x ∈ xs, OkN d x) → PyData.plainAll xs = true ∧ PyData.depthAll xs ≤ d
  | [], _ => ⟨rfl, Nat.zero_le _⟩
  | x :: xs, h => by
    obtain ⟨h1, h2⟩ := okN_all (xs := xs) fun y hy => h y (List.mem_cons_of_mem _ hy)
    obtain ⟨h3, h4⟩ := h x List.mem_cons_self
    exact ⟨by rw [PyData.plainAll, h3, h1]; rfl, by rw [PyData.depthAll]; omega⟩
theorem okN_tuple {d : Nat} {xs : List PyData} (h : ∀ x ∈ xs, OkN d x) : OkN (d + 1) (.tuple xs) := by
  obtain ⟨h1, h2⟩ := okN_all h
  exact ⟨by rw [PyData.plain]; exact h1, by rw [PyData.depth]; omega⟩
theorem okN_list {d : Nat} {xs : List PyData} (h : ∀ x ∈ xs, OkN d x) : OkN (d + 1) (.list xs) := by
  obtain ⟨h1, h2⟩ := okN_all h
  exact ⟨by rw [PyData.plain]; exact h1, by rw [PyData.depth]; omega⟩
theorem okN_pair {d : Nat} (p : Int × Int) : OkN (d + 1) (pairD p) := okN_tuple fun x hx => by
  simp only [List.mem_cons, List.not_mem_nil, or_false] at hx
  rcases hx with rfl | rfl <;> exact okN_int _
theorem okN_house {d : Nat} (n : Int) (ds : List (Int × Int)) : OkN (d + 3) (houseD n ds) := okN_tuple fun x hx => by
  simp only [List.mem_cons, List.not_mem_nil, or_false] at hx
  rcases hx with rfl | rfl
  · exact okN_int _
  · refine okN_tuple fun x hx => ?_
    obtain ⟨p, _, rfl⟩ := List.mem_map.mp hx
    exact okN_pair p
theorem gEq_ok {d : Nat} {x y : PyData} (hx : OkN d x) (hy : OkN d y) (hd : d ≤ 64) : gEq x y = some (.d (.bool (PyData.eqv x y))) := by
  unfold gEq
  rw [hx.ok hd, hy.ok hd]
  rfl
theorem gNe_ok {d : Nat} {x y : PyData} (hx : OkN d x) (hy : OkN d y) (hd : d ≤ 64) : gNe x y = some (.d (.bool (!PyData.eqv x y))) := by
  unfold gNe
  rw [hx.ok hd, hy.ok hd]
  rfl
/-! ### sorted lists of doors -/
def sortP (ps : List (Int × Int)) : List (Int × Int) := ps.mergeSort pairLe
theorem dSort_pairs (ps : List (Int × Int)) : dSort (ps.map pairD) = (sortP ps).map pairD := by
  unfold dSort sortP
  rw [List.map_mergeSort]
  intro p _ q _
  have := congrFun (congrFun (PySem.W.dataLe_ii (β := Int × Int) (·.1) (·.2)) p) q
  exact this.symm
theorem srtB_pairs (ps : List (Int × Int)) : srtB (ps.map pairD) = true := by
  unfold srtB alikeB
  rw [Bool.and_eq_true_iff, Bool.and_eq_true_iff, Bool.or_eq_true_iff]
  refine ⟨List.all_eq_true.mpr fun x hx => List.all_eq_true.mpr fun y hy => ?_, .inl (List.all_eq_true.mpr fun x hx => ?_), List.all_eq_true.mpr fun x hx => ?_⟩
  · obtain ⟨p, _, rfl⟩ := List.mem_map.mp hx
    obtain ⟨q, _, rfl⟩ := List.mem_map.mp hy
    rfl
  · obtain ⟨p, _, rfl⟩ := List.mem_map.mp hx
    rfl
  · obtain ⟨p, _, rfl⟩ := List.mem_map.mp hx
    exact (okN_pair (d := 0) p).ok (by decide)
theorem gSorted_pairs (ps : List (Int × Int)) : gSorted (.lst (ps.map pairD)) = some (.lst ((sortP ps).map pairD)) := by
  show (if srtB (ps.map pairD) then some (OV.lst (dSort (ps.map pairD))) else none) = _
  rw [if_pos (srtB_pairs ps), dSort_pairs]
theorem gSorted_pairsL (ps : List (Int × Int)) : gSorted (.d (.list (ps.map pairD))) = some (.lst ((sortP ps).map pairD)) := by
  show (if srtB (ps.map pairD) then some (OV.lst (dSort (ps.map pairD))) else none) = _
  rw [if_pos (srtB_pairs ps), dSort_pairs]
theorem mem_sortP {ps : List (Int × Int)} {p : Int × Int} : p ∈ sortP ps ↔ p ∈ ps := List.mem_mergeSort
theorem sortP_len (ps : List (Int × Int)) : (sortP ps).length = ps.length := List.length_mergeSort _
theorem plt_of {l : List (Int × Int)} (h : l.Pairwise fun p q => pairLe p q = true) (n : l.Nodup) : l.Pairwise plt := by
  refine (h.and (List.nodup_iff_pairwise_ne.mp n)).imp fun {p q} ⟨h1, h2⟩ => ?_
  unfold pairLe at h1
  rw [decide_eq_true_iff] at h1
  unfold plt
  have : p.1 = q.1 → p.2 ≠ q.2 := fun e1 e2 => h2 (Prod.ext e1 e2)
  omega
theorem sortP_plt {ps : List (Int × Int)} (n : ps.Nodup) : (sortP ps).Pairwise plt := plt_of (List.pairwise_mergeSort pairLe_trans pairLe_total _) ((List.mergeSort_perm _ _).nodup_iff.mpr n)
theorem setP_plt (ps : List (Int × Int)) : (setP ps).Pairwise plt := plt_of (setP_sorted ps) (setP_nodup ps)
theorem plt_nodup {ps : List (Int × Int)} (h : ps.Pairwise plt) : ps.Nodup := by
  rw [List.nodup_iff_pairwise_ne]
  exact h.imp fun {p q} h e => by subst e; unfold plt at h; omega
@[simp] theorem gTuple_o (xs : List PyData) : gTuple (.lst xs) = some (.d (.tuple xs)) := rfl
@[simp] theorem gTuple_l (xs : List PyData) : gTuple (.d (.list xs)) = some (.d (.tuple xs)) := rfl
/-! ### what the program's functions answer at a house -/
section
variable {n : Int} {ds : List (Int × Int)}
theorem need_house_run (g : Good n ds) : Fd f_need_house [houseD n ds] (.d .none) := by
  obtain ⟨b, F, h⟩ := wrong_part_run g.lo g.hi g.len
  rw [h.mpr g] at F
  refine Fd.nx ⟨[some (.d (houseD n ds)), some (.d .none)], ?_⟩
  simp [b_need_house, dEnv, dV_app, mCall1_at (mf := f_wrong_part) fnM_len, F.call, word, isNone]
theorem houseD_ix0 : gIx (houseD n ds) (.int 0) = some (.d (.int n)) := gIx_t0 _ _
theorem houseD_ix1 : gIx (houseD n ds) (.int 1) = some (.d (.tuple (ds.map pairD))) := gIx_t1 _ _ _
def turnD (ds : List (Int × Int)) : List (Int × Int) := sortP (ds.map swp)
end
end TL
set_option Elab.async false
set_option linter.all false
set_option maxRecDepth 100000
namespace TL
open PySem PySem.Spec PyProof.Rows L2
/-! ### data of bounded size and depth -/
inductive Tame : Nat → PyData → Prop
  | none {d : Nat} : Tame d .none
  | bool {d : Nat} (b : Bool) : Tame d (.bool b)
  | int {d : Nat} (i : Int) : Tame d (.int i)
  | str {d : Nat} (s : Str) : Tame d (.str s)
  | list {d : Nat} {xs : List PyData} : xs.length ≤ 1000 → (∀ x ∈ xs, Tame d x) → Tame (d + 1) (.list xs)
  | tuple {d : Nat} {xs : List PyData} : xs.length ≤ 1000 → (∀ x ∈ xs, Tame d x) → Tame (d + 1) (.tuple xs)
theorem Tame.okN {d : Nat} {x : PyData} (h : Tame d x) : OkN d x := by
  induction h with
  | none => exact okN_none
  | bool b => exact okN_bool b
  | int i => exact okN_int i
  | str s => exact okN_str s
  | list _ _ ih => exact okN_list ih
  | tuple _ _ ih => exact okN_tuple ih
theorem eqvAll_refl {xs : List PyData} (h : ∀ x ∈ xs, PyData.eqv x x = true) : PyData.eqvAll xs xs = true := by
  induction xs with
  | nil => simp [PyData.eqvAll]
  | cons x xs ih => simp only [PyData.eqvAll, Bool.and_eq_true]; exact ⟨h x List.mem_cons_self, ih fun y hy => h y (List.mem_cons_of_mem _ hy)⟩
theorem Tame.eqv {d : Nat} {x : PyData} (h : Tame d x) : PyData.eqv x x = true := by
  induction h with
  | none => simp [PyData.eqv]
  | bool b => simp [PyData.eqv]
  | int i => simp [PyData.eqv]
  | str s => simp [PyData.eqv]
  | list _ _ ih => rw [PyData.eqv]; exact eqvAll_refl ih
  | tuple _ _ ih => rw [PyData.eqv]; exact eqvAll_refl ih
@[simp] theorem mIsI2_at (T1 T2 : String) (m : M PyData) (e : Env) : mIsI2 T1 T2 m e = Out.andThen (m e) fun x => M.opt (match tyIs x T1, tyIs x T2 with
  | some a, some b => some (.d (.bool (a || b)))
  | _, _ => none) := rfl
def tyNames : List String := ["tuple", "list", "str", "bool", "int"]
theorem tyIs_none : tyIs .none "tuple" = some false ∧ tyIs .none "list" = some false ∧ tyIs .none "str" = some false := by
  refine ⟨?_, ?_, ?_⟩ <;> (show kitB "NoneType" _ = _; decide +kernel)
theorem tyIs_bool (b : Bool) : tyIs (.bool b) "tuple" = some false ∧ tyIs (.bool b) "list" = some false ∧ tyIs (.bool b) "str" = some false ∧ tyIs (.bool b) "int" = some true ∧ tyIs (.bool b) "bool" = some true := by
  refine ⟨?_, ?_, ?_, ?_, ?_⟩ <;> (show kitB "bool" _ = _; decide +kernel)
theorem tyIs_int (i : Int) : tyIs (.int i) "tuple" = some false ∧ tyIs (.int i) "list" = some false ∧ tyIs (.int i) "str" = some false ∧ tyIs (.int i) "int" = some true ∧ tyIs (.int i) "bool" = some false := by
  refine ⟨?_, ?_, ?_, ?_, ?_⟩ <;> (show kitB "int" _ = _; decide +kernel)
theorem tyIs_str (s : Str) : tyIs (.str s) "tuple" = some false ∧ tyIs (.str s) "list" = some false ∧ tyIs (.str s) "str" = some true := by
  refine ⟨?_, ?_, ?_⟩ <;> (show kitB "str" _ = _; decide +kernel)
theorem tyIs_list (xs : List PyData) : tyIs (.list xs) "tuple" = some false ∧ tyIs (.list xs) "list" = some true := by
  refine ⟨?_, ?_⟩ <;> (show kitB "list" _ = _; decide +kernel)
theorem tyIs_tuple (xs : List PyData) : tyIs (.tuple xs) "tuple" = some true ∧ tyIs (.tuple xs) "list" = some false := by
  refine ⟨?_, ?_⟩ <;> (show kitB "tuple" _ = _; decide +kernel)
@[simp] theorem gEq_bool (a b : Bool) : gEq (.bool a) (.bool b) = some (.d (.bool (a == b))) := by
  rw [gEq_ok (okN_bool (d := 0) a) (okN_bool b) (by omega), PyData.eqv]
@[simp] theorem gNe_bool (a b : Bool) : gNe (.bool a) (.bool b) = some (.d (.bool (!(a == b)))) := by
  rw [gNe_ok (okN_bool (d := 0) a) (okN_bool b) (by omega), PyData.eqv]
theorem rngD_mem {n : Nat} {x : PyData} (h : x ∈ rngD 0 n) : ∃ i : Nat, i < n ∧ x = .int (i : Nat) := by
  unfold rngD at h
  obtain ⟨i, h1, rfl⟩ := List.mem_map.mp h
  exact ⟨i, List.mem_range.mp h1, by rw [Int.zero_add]⟩
theorem rngD_len (lo : Int) (n : Nat) : (rngD lo n).length = n := by unfold rngD; simp
/-! ### _law_alike at two equal data -/
theorem alike_comp {f : M OV} (kf : Keeps f) {x : PyData} {xs : List PyData} (hx : x = .list xs ∨ x = .tuple xs) (hl : xs.length ≤ 1000) (hf : ∀ y ∈ xs, Fd f [y, y] (.d (.bool true))) :
    mComp [2] (mRange1 (frz (mPeek 1 gLen))) (gN 2) (mNot (mTru (mCall (.d (frz (mBin gIx (dV 0) (dV 2))) :: .d (frz (mBin gIx (dV 1) (dV 2))) :: []) f))) (dV 2) [some (.d x), some (.d x), none] = some (.ok (.lst []) [some (.d x), some (.d x), none]) := by
  have hlen : gLen (.d x) = some (.d (.int (xs.length : Nat))) := by rcases hx with rfl | rfl <;> rfl
  rw [mComp_run (env := [some (.d x), some (.d x), none]) (xs := rngD 0 xs.length) (fun _ => none)]
  · rw [List.filterMap_eq_nil_iff.mpr fun _ _ => rfl]
  · rw [mRange1_at (j := (xs.length : Nat)) (e1 := [some (.d x), some (.d x), none]) (by simp [mPeek_app, hlen]) (by omega) (by omega)]
    rfl
  · rfl
  · rw [rngD_len]; exact fits hl
  · intro z hz
    obtain ⟨i, hi, rfl⟩ := rngD_mem hz
    obtain ⟨y, hy⟩ : ∃ y, xs[i]? = some y := ⟨xs[i], List.getElem?_eq_getElem hi⟩
    have hg : gIx x (.int (i : Nat)) = some (.d y) := by
      rcases hx with rfl | rfl
      · exact gIx_ln hy
      · exact gIx_tn hy
    refine ⟨[some (.d x), some (.d x), some (.d (.int (i : Nat)))], ?_, rfl⟩
    simp [compT, wipeE, mCall2_at (mf := f) kf, dV_app, hg, (hf y (List.mem_of_getElem? hy)).call]
theorem Fd.rt1 {np N : Nat} {mb : M Fl} {xs : List PyData} {r : OV} (e0 e : Env) (h0 : dEnv xs ++ List.replicate (N - np) none = e0) (h : mb e0 = some (.ok (.rt r) e)) : Fd (fnM np N [] mb) xs r := Fd.rt ⟨e, by rw [h0]; exact h⟩
theorem r_len : ∀ n, Keeps (r__law_alike n)
  | 0 => fnM_len
  | _ + 1 => fnM_len
theorem alike_sq {f : M OV} (kf : Keeps f) {x : PyData} {xs : List PyData} (hx : x = .list xs ∨ x = .tuple xs) (hl : xs.length ≤ 1000) (hf : ∀ y ∈ xs, Fd f [y, y] (.d (.bool true))) : b__law_alike f [some (.d x), some (.d x), none] = some (.ok (.rt (.d (.bool true))) [some (.d x), some (.d x), none]) := by
  have hc := alike_comp kf hx hl hf
  have hm : ∀ e, mLst (pure []) e = some (.ok (.lst []) e) := fun e => mLst_at rfl (Nat.zero_le _)
  have h0 : OkN 1 (.list []) := okN_list fun x hx => by cases hx
  have hq : gEq (.list []) (.list []) = some (.d (.bool true)) := by rw [gEq_ok h0 h0 (by omega)]; rfl
  have hlen : gLen (.d x) = some (.d (.int (xs.length : Nat))) := by rcases hx with rfl | rfl <;> rfl
  have ht : ∃ a b, tyIs x "tuple" = some a ∧ tyIs x "list" = some b ∧ (a || b) = true := by
    rcases hx with rfl | rfl
    · exact ⟨_, _, (tyIs_list xs).1, (tyIs_list xs).2, rfl⟩
    · exact ⟨_, _, (tyIs_tuple xs).1, (tyIs_tuple xs).2, rfl⟩
  obtain ⟨a, b, h1, h2, h3⟩ := ht
  unfold b__law_alike
  simp only [mThen_at, mIf_at, mTru_at, mIsI2_at, dV_app, List.getElem?_cons_zero, List.getElem?_cons_succ, aT_ok, h1, h2, h3, opt_some_at, ovTru_b, if_true, mOr_at, mNot_at, pure_at', Bool.not_true, Bool.false_eq_true, if_false, asB_at, mBin_at, frz_at, mIsI_at, Option.map_some, dat_d, bind_at', gNe_bool, beq_self_eq_true, boolOf_b, fThen_nx, mPeek_app, hlen, gNe_int, decide_true, mRet_at, hc, dat_lst, hm, hq, fThen_rt]
theorem alike_step {f : M OV} (kf : Keeps f) {d : Nat} {x : PyData} (h : Tame d x) (hf : ∀ e y, e < d → Tame e y → Fd f [y, y] (.d (.bool true))) : b__law_alike f [some (.d x), some (.d x), none] = some (.ok (.rt (.d (.bool true))) [some (.d x), some (.d x), none]) := by
  cases h with
  | none =>
    obtain ⟨h1, h2, h3⟩ := tyIs_none
    have hq : gEq .none .none = some (.d (.bool true)) := by rw [gEq_ok (okN_none (d := 0)) okN_none (by omega)]; rfl
    unfold b__law_alike
    simp [dV_app, h1, h2, h3, isNone, hq]
  | bool b =>
    obtain ⟨h1, h2, h3, h4, h5⟩ := tyIs_bool b
    unfold b__law_alike
    simp [dV_app, h1, h2, h3, h4, h5, isNone]
  | int i =>
    obtain ⟨h1, h2, h3, h4, h5⟩ := tyIs_int i
    unfold b__law_alike
    simp [dV_app, h1, h2, h3, h4, h5, isNone]
  | str s =>
    obtain ⟨h1, h2, h3⟩ := tyIs_str s
    have hq : gEq (.str s) (.str s) = some (.d (.bool true)) := by rw [gEq_ok (okN_str (d := 0) s) (okN_str s) (by omega)]; simp [PyData.eqv]
    unfold b__law_alike
    simp [dV_app, h1, h2, h3, isNone, hq]
  | list hl h => exact alike_sq kf (.inl rfl) hl fun y hy => hf _ y (by omega) (h y hy)
  | tuple hl h => exact alike_sq kf (.inr rfl) hl fun y hy => hf _ y (by omega) (h y hy)
theorem alike_run (n : Nat) : ∀ (d : Nat) (x : PyData), d < n → Tame d x → Fd (r__law_alike n) [x, x] (.d (.bool true)) := by
  induction n with
  | zero => intro d x hd; omega
  | succ n ih => exact fun d x hd h => Fd.rt1 (mb := b__law_alike (r__law_alike n)) [some (.d x), some (.d x), none] [some (.d x), some (.d x), none] rfl (alike_step (r_len n) h fun e y he hy => ih e y (by omega) hy)
theorem law_alike_run {d : Nat} {x : PyData} (h : Tame d x) (hd : d < 8) : Fd f__law_alike [x, x] (.d (.bool true)) := alike_run 8 d x hd h
end TL
set_option Elab.async false
set_option linter.all false
set_option maxRecDepth 100000
namespace TL
open PySem PySem.Spec PyProof.Rows L2
/-! ### the row of a law and what is taken from it -/
def rowV (ns : List Int) (k seed rest : Int) : OV := .lst [.list (ns.map .int), .int k, .int seed, .int rest]
def RowOk (v : OV) : Prop := ∃ (ns : List Int) (k seed rest : Int), v = rowV ns k seed rest ∧ 0 ≤ k ∧ 0 ≤ seed ∧ seed < 2147483647
section
variable (ns : List Int) (k seed rest x : Int)
theorem row_ix0 : gIxL (.int 0) (rowV ns k seed rest) = some (.d (.list (ns.map .int))) := rfl
theorem row_ix1 : gIxL (.int 1) (rowV ns k seed rest) = some (.d (.int k)) := rfl
theorem row_ix2 : gIxL (.int 2) (rowV ns k seed rest) = some (.d (.int seed)) := rfl
theorem row_ix3 : gIxL (.int 3) (rowV ns k seed rest) = some (.d (.int rest)) := rfl
theorem row_set1 : gSetL (.int 1) (.int x) (rowV ns k seed rest) = some (rowV ns x seed rest, .d .none) := rfl
theorem row_set2 : gSetL (.int 2) (.int x) (rowV ns k seed rest) = some (rowV ns k x rest, .d .none) := rfl
theorem row_set3 : gSetL (.int 3) (.int x) (rowV ns k seed rest) = some (rowV ns k seed x, .d .none) := rfl
theorem row_lst : isLst (rowV ns k seed rest) = true := rfl
end
@[simp] theorem gInt_i (i : Int) : gInt (.d (.int i)) = some (.d (.int i)) := rfl
@[simp] theorem gInt_b (b : Bool) : gInt (.d (.bool b)) = some (.d (.int (if b then 1 else 0))) := rfl
theorem small_log {i : Int} (h0 : 0 ≤ i) (h : i < 2147483648) : i.natAbs.log2 < 32 := by
  by_cases c : i.natAbs = 0
  · rw [c]; decide
  · rw [Nat.log2_lt c]
    omega
theorem mul_small {i j : Int} (h0 : 0 ≤ i) (h : i < 2147483648) (k0 : 0 ≤ j) (k : j < 2147483648) : gMulX (.int i) (.int j) = some (.d (.int (i * j))) := gMul_int (by have := small_log h0 h; have := small_log k0 k; omega)
theorem gPow_1018 : gPow (.int 10) (.int 18) = some (.d (.int 1000000000000000000)) := by
  rfl
theorem taken_run {v : OV} {many : Int} (hv : RowOk v) (h1 : 0 < many) (h2 : many < 1073741824) : ∃ r v', f__law_taken [some v, some (.d (.int many))] = some (.ok (.d (.int r)) [some v', some (.d (.int many))]) ∧ RowOk v' ∧ 0 ≤ r ∧ r < many := by
  obtain ⟨ns, k, seed, rest, rfl, hk, hs1, hs2⟩ := hv
  have fin : ∀ {r : Int} {v' : OV} {o2 o3 : Option OV}, b__law_taken [some (rowV ns k seed rest), some (.d (.int many)), none, none] = some (.ok (.rt (.d (.int r))) [some v', some (.d (.int many)), o2, o3]) → f__law_taken [some (rowV ns k seed rest), some (.d (.int many))] = some (.ok (.d (.int r)) [some v', some (.d (.int many))]) := fun {r v' o2 o3} h => fnM_rt (np := 2) (N := 4) (ow := [0]) (mb := b__law_taken) (env := [some (rowV ns k seed rest), some (.d (.int many))]) (e := [some v', some (.d (.int many)), o2, o3]) h
  have hm := fun (i : Int) => gMod_int (i := i) h1
  have hd := fun (i : Int) => gFdiv_int (i := i) h1 h2
  have hM := fun (i : Int) => gMod_int (i := i) (j := 2147483647) (by omega)
  have h7 := fun (i : Int) => gFdiv_int (i := i) (j := 7) (by omega) (by omega)
  have hmul : gMulX (.int seed) (.int 48271) = some (.d (.int (seed * 48271))) := mul_small hs1 (by omega) (by omega) (by omega)
  have hr : ∀ i : Int, 0 ≤ i % many ∧ i % many < many := fun i => ⟨Int.emod_nonneg _ (by omega), Int.emod_lt_of_pos _ h1⟩
  have hR : ∀ i : Int, 0 ≤ i % 2147483647 ∧ i % 2147483647 < 2147483647 := fun i => ⟨Int.emod_nonneg _ (by omega), Int.emod_lt_of_pos _ (by omega)⟩
  by_cases c3 : 0 < rest
  · refine ⟨rest % many, rowV ns k seed (rest / many), fin (o2 := none) (o3 := some (.d (.int (rest % many)))) ?_, ⟨ns, k, seed, rest / many, rfl, hk, hs1, hs2⟩, (hr _).1, (hr _).2⟩
    unfold b__law_taken
    simp [mHas_app, row_lst, mPeek_app, row_ix3, c3, dV_app, hm, hd, mMut_app, row_set3, mVar_app]
  · by_cases c1 : (ns.length : Int) < k + 1
    · refine ⟨(seed * 48271 + 11) % 2147483647 / 7 % many, rowV ns (k + 1) ((seed * 48271 + 11) % 2147483647) rest, fin (o2 := none) (o3 := none) ?_, ⟨ns, k + 1, _, rest, rfl, by omega, (hR _).1, (hR _).2⟩, (hr _).1, (hr _).2⟩
      unfold b__law_taken
      simp [mHas_app, row_lst, mPeek_app, row_ix3, row_ix0, row_ix1, row_ix2, c3, c1, dV_app, hm, hd, hM, h7, hmul, mMut_app, row_set1, row_set2, mVar_app]
    · obtain ⟨c, hc⟩ : ∃ c, ns[k.toNat]? = some c := ⟨ns[k.toNat]'(by omega), List.getElem?_eq_getElem (by omega)⟩
      have hix : gIx (.list (ns.map .int)) (.int (k + 1 - 1)) = some (.d (.int c)) := by
        have := gIx_ln (xs := ns.map PyData.int) (i := k.toNat) (x := .int c) (by rw [List.getElem?_map, hc]; rfl)
        rwa [show ((k.toNat : Nat) : Int) = k + 1 - 1 by omega] at this
      by_cases cb : 1000000000000000000 ≤ c
      · refine ⟨c % many, rowV ns (k + 1) ((seed * 48271 + c + 11) % 2147483647) (c / many), fin (o2 := some (.d (.int c))) (o3 := none) ?_, ⟨ns, k + 1, _, _, rfl, by omega, (hR _).1, (hR _).2⟩, (hr _).1, (hr _).2⟩
        unfold b__law_taken
        simp [-Int.add_sub_cancel, mHas_app, row_lst, mPeek_app, row_ix3, row_ix0, row_ix1, row_ix2, c3, c1, dV_app, hm, hd, hM, h7, hmul, mMut_app, row_set1, row_set2, row_set3, mVar_app, hix, gPow_1018, cb]
      · refine ⟨c % many, rowV ns (k + 1) ((seed * 48271 + c + 11) % 2147483647) rest, fin (o2 := some (.d (.int c))) (o3 := none) ?_, ⟨ns, k + 1, _, _, rfl, by omega, (hR _).1, (hR _).2⟩, (hr _).1, (hr _).2⟩
        unfold b__law_taken
        simp [-Int.add_sub_cancel, mHas_app, row_lst, mPeek_app, row_ix3, row_ix0, row_ix1, row_ix2, c3, c1, dV_app, hm, hd, hM, h7, hmul, mMut_app, row_set1, row_set2, row_set3, mVar_app, hix, gPow_1018, cb]
/-! ### calls that hand a slot on -/
theorem mCall_s1 {i : Nat} {m : M PyData} {f : M OV} {e e1 : Env} {x : PyData} {v0 v v' r : OV} {o : Option OV} (h0 : e[i]? = some (some v0)) (hm : m e = some (.ok x e1)) (h1 : e1[i]? = some (some v)) (hf : f [some v, some (.d x)] = some (.ok r [some v', o])) :
    mCall (.s i :: .d m :: []) f e = some (.ok r (e1.set i (some v'))) := by
  have ha : agsM (.s i :: .d m :: []) e = some (.ok [x] e1) := by
    rw [agsM_s h0, agsM_d, hm]
    rfl
  have hg : argE e1 (.s i :: .d m :: []) [x] = [some v, some (.d x)] := by
    simp [h1]
  rw [mCall_at ha (hg ▸ hf)]
  simp
theorem taken_call {i : Nat} {m : M PyData} {e e1 : Env} {many : Int} {v0 v : OV} (h0 : e[i]? = some (some v0)) (hm : m e = some (.ok (.int many) e1)) (h1 : e1[i]? = some (some v)) (hv : RowOk v) (h2 : 0 < many) (h3 : many < 1073741824) :
    ∃ r v', mCall (.s i :: .d m :: []) f__law_taken e = some (.ok (.d (.int r)) (e1.set i (some v'))) ∧ RowOk v' ∧ 0 ≤ r ∧ r < many := by
  obtain ⟨r, v', h, h4, h5, h6⟩ := taken_run hv h2 h3
  exact ⟨r, v', mCall_s1 h0 hm h1 h, h4, h5, h6⟩
end TL
set_option Elab.async false
set_option linter.all false
set_option maxRecDepth 100000
namespace TL
open PySem PySem.Spec PyProof.Rows L2
/-! ### sorting that the kernel can run -/
def insP (p : Int × Int) : List (Int × Int) → List (Int × Int)
  | [] => [p]
  | q :: r => if pairLe p q then p :: q :: r else q :: insP p r
def isP : List (Int × Int) → List (Int × Int)
  | [] => []
  | p :: r => insP p (isP r)
theorem insP_perm (p : Int × Int) : ∀ l, (insP p l).Perm (p :: l)
  | [] => .refl _
  | q :: r => by
    unfold insP
    split
    · exact .refl _
    · exact ((insP_perm p r).cons q).trans (.swap p q r)
theorem isP_perm : ∀ l, (isP l).Perm l
  | [] => .refl _
  | p :: r => (insP_perm p _).trans ((isP_perm r).cons p)
theorem insP_sorted (p : Int × Int) : ∀ l : List (Int × Int), l.Pairwise (fun p q => pairLe p q = true) → (insP p l).Pairwise (fun p q => pairLe p q = true)
  | [], _ => by simp [insP]
  | q :: r, h => by
    obtain ⟨h1, h2⟩ := List.pairwise_cons.mp h
    unfold insP
    split
    · rename_i c
      refine List.pairwise_cons.mpr ⟨fun z hz => ?_, h⟩
      rcases List.mem_cons.mp hz with rfl | hz
      · exact c
      · exact pairLe_trans _ _ _ c (h1 z hz)
    · rename_i c
      refine List.pairwise_cons.mpr ⟨fun z hz => ?_, insP_sorted p r h2⟩
      rcases List.mem_cons.mp ((insP_perm p r).mem_iff.mp hz) with rfl | hz
      · have := pairLe_total z q
        rw [Bool.or_eq_true_iff] at this
        rcases this with a | a
        · exact absurd a c
        · exact a
      · exact h1 z hz
theorem isP_sorted : ∀ l : List (Int × Int), (isP l).Pairwise (fun p q => pairLe p q = true)
  | [] => .nil
  | p :: r => insP_sorted p _ (isP_sorted r)
theorem sortP_eq (ps : List (Int × Int)) : sortP ps = isP ps :=
  ((List.mergeSort_perm ps pairLe).trans (isP_perm ps).symm).eq_of_pairwise (fun a b _ _ h k => pairLe_anti a b h k) (List.pairwise_mergeSort pairLe_trans pairLe_total _) (isP_sorted ps)
theorem setP_eq (ps : List (Int × Int)) : setP ps = isP ps.eraseDups := sortP_eq ps.eraseDups
def kSset : PyData → Option OV
  | .list xs => if xs.length < 64 then (match intsOf xs with
    | some ns => some (.lst ((setI ns).map .int))
    | none => (match pairsOf xs with
      | some ps => if ps.all pairOk then some (.lst ((isP ps.eraseDups).map pairD)) else none
      | none => none)) else none
  | _ => none
theorem gSset_eq : gSset = kSset := by
  funext x
  cases x with
  | list xs =>
    simp only [gSset, kSset, setP_eq]
    all_goals split
    all_goals first
      | rfl
      | (cases intsOf xs with
        | some ns => rfl
        | none => cases pairsOf xs <;> rfl)
  | _ => rfl
def mSsetK (m : M PyData) : M OV := m >>= fun x => M.opt (kSset x)
theorem mSset_eq : mSset = mSsetK := by
  funext m
  show (m >>= fun x => M.opt (gSset x)) = _
  rw [gSset_eq]
  rfl
def kSort (xs : List PyData) : List PyData := match pairsOf xs with
  | some ps => (isP ps).map pairD
  | none => dSort xs
theorem dSort_eq (xs : List PyData) : dSort xs = kSort xs := by
  unfold kSort
  split
  · rename_i ps e
    rw [pairsOf_eq e, dSort_pairs, sortP_eq]
  · rfl
def kSorted : OV → Option OV
  | .d (.list xs) => if srtB xs then some (.lst (kSort xs)) else none
  | .lst xs => if srtB xs then some (.lst (kSort xs)) else none
  | _ => none
theorem gSorted_eq : gSorted = kSorted := by
  funext x
  cases x with
  | d x => cases x <;> simp only [gSorted, kSorted, dSort_eq]
  | lst xs => simp only [gSorted, kSorted, dSort_eq]
  | dct xs => simp only [gSorted, kSorted]
  | ext e => simp only [gSorted, kSorted]
end TL
set_option Elab.async false
set_option linter.all false
set_option maxRecDepth 100000
namespace TL
open PySem PySem.Spec PyProof.Rows L2
/-! ### the known houses -/
def knownL : List (Int × List (Int × Int)) := [
  (1, []),
  (2, [(0, 1), (1, 0)]),
  (3, [(0, 1), (1, 2), (2, 0)]),
  (3, [(0, 1), (0, 2), (1, 0), (1, 2), (2, 0), (2, 1)]),
  (4, [(0, 1), (1, 2), (2, 3), (3, 0)]),
  (4, [(0, 1), (0, 3), (1, 0), (1, 2), (2, 1), (2, 3), (3, 0), (3, 2)]),
  (4, [(0, 1), (0, 2), (0, 3), (1, 0), (1, 2), (1, 3), (2, 0), (2, 1), (2, 3), (3, 0), (3, 1), (3, 2)]),
  (5, [(0, 1), (0, 4), (1, 0), (1, 2), (2, 1), (2, 3), (3, 2), (3, 4), (4, 0), (4, 3)]),
  (4, [(0, 1), (0, 2), (1, 2), (1, 3), (2, 0), (2, 3), (3, 0), (3, 1)]),
  (5, [(0, 1), (0, 2), (1, 2), (1, 3), (2, 3), (2, 4), (3, 0), (3, 4), (4, 0), (4, 1)]),
  (6, [(0, 1), (1, 2), (2, 3), (3, 4), (4, 5), (5, 0)]),
  (6, [(0, 1), (0, 5), (1, 0), (1, 2), (2, 1), (2, 3), (3, 2), (3, 4), (4, 3), (4, 5), (5, 0), (5, 4)]),
  (6, [(0, 1), (0, 3), (0, 5), (1, 0), (1, 2), (1, 4), (2, 1), (2, 3), (2, 5), (3, 0), (3, 2), (3, 4), (4, 1), (4, 3), (4, 5), (5, 0), (5, 2), (5, 4)]),
  (3, [(0, 1), (1, 0), (1, 2), (2, 1)]),
  (4, [(0, 1), (1, 2), (1, 3), (2, 0), (3, 0)]),
  (6, [(0, 1), (0, 3), (1, 2), (1, 4), (2, 0), (2, 5), (3, 0), (3, 4), (4, 1), (4, 5), (5, 2), (5, 3)]),
  (4, [(0, 1), (1, 0), (1, 2), (2, 3), (3, 0), (3, 2)])]
def knownsD (most : Int) : List PyData := (knownL.filter fun p => decide (p.1 ≤ most)).map fun p => houseD p.1 p.2
theorem known_run6 : Fd f__law_known [.int 6] (.lst (knownsD 6)) := by
  show f__law_known [some (.d (.int 6))] = some (.ok (.lst (knownsD 6)) [some (.d (.int 6))])
  unfold f__law_known b__law_known f__law_circle b__law_circle
  rw [mSset_eq, gSorted_eq]
  kernel_rfl
theorem known_run10 : Fd f__law_known [.int 10] (.lst (knownsD 10)) := by
  show f__law_known [some (.d (.int 10))] = some (.ok (.lst (knownsD 10)) [some (.d (.int 10))])
  unfold f__law_known b__law_known f__law_circle b__law_circle
  rw [mSset_eq, gSorted_eq]
  kernel_rfl
/-- checked by reckoning -/
def ballL (ds : List (Int × Int)) (a : Int) : Nat → List Int
  | 0 => [a]
  | t + 1 => let l := ballL ds a t; l ++ (ds.filterMap fun p => if l.contains p.1 && !l.contains p.2 then some p.2 else none)
theorem ballL_reach {ds : List (Int × Int)} {a : Int} : ∀ {t : Nat} {y : Int}, y ∈ ballL ds a t → Reach ds a y
  | 0, y, h => by rw [List.mem_singleton.mp h]; exact .refl a
  | t + 1, y, h => by
    rcases List.mem_append.mp h with h | h
    · exact ballL_reach h
    · obtain ⟨p, hp, e⟩ := List.mem_filterMap.mp h
      split at e
      · rename_i c
        cases e
        rw [Bool.and_eq_true_iff, List.contains_iff_mem] at c
        exact .step (ballL_reach c.1) hp
      · cases e
def scB (n : Int) (ds : List (Int × Int)) : Bool := (rangeI n).all fun x => (rangeI n).all fun y => (ballL ds x n.toNat).contains y
theorem sc_of {n : Int} {ds : List (Int × Int)} (h : scB n ds = true) : SC n ds := fun x y hx hy => by
  have := List.all_eq_true.mp (List.all_eq_true.mp h x (mem_rangeI.mpr hx)) y (mem_rangeI.mpr hy)
  exact ballL_reach (List.contains_iff_mem.mp this)
def goodB (n : Int) (ds : List (Int × Int)) : Bool := decide (1 ≤ n) && (decide (n ≤ 10) && (ds.all (doorOk n) && (chainB ds && (scB n ds && decide (ds.length ≤ 20)))))
theorem good_of {n : Int} {ds : List (Int × Int)} (h : goodB n ds = true) : Good n ds ∧ ds.length ≤ 20 := by
  unfold goodB at h
  simp only [Bool.and_eq_true, decide_eq_true_eq] at h
  obtain ⟨h1, h2, h3, h4, h5, h6⟩ := h
  exact ⟨⟨h1, h2, fun p hp => doorOk_iff.mp (List.all_eq_true.mp h3 p hp), chainB_iff.mp h4, sc_of h5, by omega⟩, h6⟩
theorem known_goodB : (knownL.all fun p => goodB p.1 p.2) = true := by decide +kernel
theorem knownsD_mem {most : Int} {x : PyData} (h : x ∈ knownsD most) : ∃ n ds, x = houseD n ds ∧ n ≤ most ∧ Good n ds ∧ ds.length ≤ 20 := by
  unfold knownsD at h
  obtain ⟨p, hp, rfl⟩ := List.mem_map.mp h
  obtain ⟨h1, h2⟩ := List.mem_filter.mp hp
  obtain ⟨h3, h4⟩ := good_of (List.all_eq_true.mp known_goodB p h1)
  exact ⟨p.1, p.2, rfl, of_decide_eq_true h2, h3, h4⟩
/-! ### _law_pick -/
theorem pick_run {v : OV} {xs : List PyData} (hv : RowOk v) (h1 : 0 < xs.length) (h2 : xs.length ≤ 1000000) : ∃ x v', f__law_pick [some v, some (.d (.list xs))] = some (.ok (.d x) [some v', some (.d (.list xs))]) ∧ RowOk v' ∧ x ∈ xs := by
  obtain ⟨r, v', h, h3, h4, h5⟩ := taken_call (i := 0) (m := frz (mPeek 1 gLen)) (e := [some v, some (.d (.list xs))]) (e1 := [some v, some (.d (.list xs))]) (many := (xs.length : Nat)) (v := v) rfl (by simp [mPeek_app]) rfl hv (by omega) (by omega)
  have hx : xs[r.toNat]? = some (xs[r.toNat]'(by omega)) := List.getElem?_eq_getElem (by omega)
  have hg := gIx_ln hx
  rw [show ((r.toNat : Nat) : Int) = r by omega] at hg
  refine ⟨_, v', ?_, h3, List.mem_of_getElem? hx⟩
  refine fnM_rt (np := 2) (N := 2) (ow := [0]) (mb := b__law_pick) (env := [some v, some (.d (.list xs))]) (e := [some v', some (.d (.list xs))]) ?_
  show b__law_pick [some v, some (.d (.list xs))] = _
  unfold b__law_pick
  simp [dV_app, h, hg]
/-! ### _law_circle of one step -/
def circ (n : Int) : List (Int × Int) := (rangeI n).map fun h => (h, (h + 1) % n)
theorem circle_run {n : Int} (h1 : 2 ≤ n) (h2 : n ≤ 10) : Fd f__law_circle [.int n, .list [.int 1]] (.d (houseD n (circ n))) := by
  have : n = 2 ∨ n = 3 ∨ n = 4 ∨ n = 5 ∨ n = 6 ∨ n = 7 ∨ n = 8 ∨ n = 9 ∨ n = 10 := by omega
  rcases this with rfl | rfl | rfl | rfl | rfl | rfl | rfl | rfl | rfl
  · show f__law_circle [some (.d (.int 2)), some (.d (.list [.int 1]))] = some (.ok (.d (houseD 2 (circ 2))) [some (.d (.int 2)), some (.d (.list [.int 1]))])
    unfold f__law_circle b__law_circle
    rw [mSset_eq]
    kernel_rfl
  · show f__law_circle [some (.d (.int 3)), some (.d (.list [.int 1]))] = some (.ok (.d (houseD 3 (circ 3))) [some (.d (.int 3)), some (.d (.list [.int 1]))])
    unfold f__law_circle b__law_circle
    rw [mSset_eq]
    kernel_rfl
  · show f__law_circle [some (.d (.int 4)), some (.d (.list [.int 1]))] = some (.ok (.d (houseD 4 (circ 4))) [some (.d (.int 4)), some (.d (.list [.int 1]))])
    unfold f__law_circle b__law_circle
    rw [mSset_eq]
    kernel_rfl
  · show f__law_circle [some (.d (.int 5)), some (.d (.list [.int 1]))] = some (.ok (.d (houseD 5 (circ 5))) [some (.d (.int 5)), some (.d (.list [.int 1]))])
    unfold f__law_circle b__law_circle
    rw [mSset_eq]
    kernel_rfl
  · show f__law_circle [some (.d (.int 6)), some (.d (.list [.int 1]))] = some (.ok (.d (houseD 6 (circ 6))) [some (.d (.int 6)), some (.d (.list [.int 1]))])
    unfold f__law_circle b__law_circle
    rw [mSset_eq]
    kernel_rfl
  · show f__law_circle [some (.d (.int 7)), some (.d (.list [.int 1]))] = some (.ok (.d (houseD 7 (circ 7))) [some (.d (.int 7)), some (.d (.list [.int 1]))])
    unfold f__law_circle b__law_circle
    rw [mSset_eq]
    kernel_rfl
  · show f__law_circle [some (.d (.int 8)), some (.d (.list [.int 1]))] = some (.ok (.d (houseD 8 (circ 8))) [some (.d (.int 8)), some (.d (.list [.int 1]))])
    unfold f__law_circle b__law_circle
    rw [mSset_eq]
    kernel_rfl
  · show f__law_circle [some (.d (.int 9)), some (.d (.list [.int 1]))] = some (.ok (.d (houseD 9 (circ 9))) [some (.d (.int 9)), some (.d (.list [.int 1]))])
    unfold f__law_circle b__law_circle
    rw [mSset_eq]
    kernel_rfl
  · show f__law_circle [some (.d (.int 10)), some (.d (.list [.int 1]))] = some (.ok (.d (houseD 10 (circ 10))) [some (.d (.int 10)), some (.d (.list [.int 1]))])
    unfold f__law_circle b__law_circle
    rw [mSset_eq]
    kernel_rfl
theorem circ_good {n : Int} (h1 : 2 ≤ n) (h2 : n ≤ 10) : Good n (circ n) ∧ (circ n).length = n.toNat := by
  refine ⟨(good_of ?_).1, by unfold circ; rw [List.length_map, rangeI_len]⟩
  have : n = 2 ∨ n = 3 ∨ n = 4 ∨ n = 5 ∨ n = 6 ∨ n = 7 ∨ n = 8 ∨ n = 9 ∨ n = 10 := by omega
  rcases this with rfl | rfl | rfl | rfl | rfl | rfl | rfl | rfl | rfl <;> decide +kernel
/-! ### _law_moved -/
structure Perm1 (n : Int) (p : List Int) : Prop where
  len : (p.length : Int) = n
  nd : p.Nodup
  mem : ∀ x ∈ p, inN n x
def at1 (p : List Int) (x : Int) : Int := p.getD x.toNat 0
theorem at1_get {n : Int} {p : List Int} (h : Perm1 n p) {x : Int} (hx : inN n x) : p[x.toNat]? = some (at1 p x) := by
  have hl := h.len
  obtain ⟨h1, h2⟩ := hx
  have : x.toNat < p.length := by omega
  unfold at1
  rw [List.getD_eq_getElem?_getD, List.getElem?_eq_getElem this]
  rfl
theorem at1_in {n : Int} {p : List Int} (h : Perm1 n p) {x : Int} (hx : inN n x) : inN n (at1 p x) := h.mem _ (List.mem_of_getElem? (at1_get h hx))
theorem at1_inj {n : Int} {p : List Int} (h : Perm1 n p) {x y : Int} (hx : inN n x) (hy : inN n y) (e : at1 p x = at1 p y) : x = y := by
  have h1 := at1_get h hx
  have h2 := at1_get h hy
  rw [e] at h1
  have := (List.getElem?_inj (by have := h.len; unfold inN at hx; omega) h.nd).mp (h1.trans h2.symm)
  unfold inN at hx hy
  omega
theorem at1_sur {n : Int} {p : List Int} (h : Perm1 n p) (h0 : 0 ≤ n) {y : Int} (hy : inN n y) : ∃ x, inN n x ∧ at1 p x = y := by
  have := (full_iff h0 h.nd h.mem).mp h.len y hy
  obtain ⟨i, hi⟩ := List.getElem?_of_mem this
  have hl := (List.getElem?_eq_some_iff.mp hi).1
  have hi2 : inN n (i : Int) := ⟨by omega, by have := h.len; omega⟩
  refine ⟨i, hi2, ?_⟩
  have := at1_get h hi2
  rw [show ((i : Int)).toNat = i by omega, hi] at this
  exact (Option.some.inj this).symm
def mv (p : List Int) (d : Int × Int) : Int × Int := (at1 p d.1, at1 p d.2)
def movedD (p : List Int) (ds : List (Int × Int)) : List (Int × Int) := sortP (ds.map (mv p))
theorem reach_mv {p : List Int} {ds : List (Int × Int)} {x y : Int} (h : Reach ds x y) : Reach (ds.map (mv p)) (at1 p x) (at1 p y) := by
  induction h with
  | refl => exact .refl _
  | step _ e ih => exact .step ih (List.mem_map.mpr ⟨_, e, rfl⟩)
theorem moved_good {n : Int} {p : List Int} {ds : List (Int × Int)} (h : Perm1 n p) (g : Good n ds) : Good n (movedD p ds) := by
  refine ⟨g.lo, g.hi, fun d hd => ?_, sortP_plt ?_, fun x y hx hy => ?_, by unfold movedD; rw [sortP_len, List.length_map]; exact g.len⟩
  · obtain ⟨d0, h0, rfl⟩ := List.mem_map.mp (mem_sortP.mp hd)
    obtain ⟨h1, h2, h3⟩ := g.ok d0 h0
    exact ⟨at1_in h h1, at1_in h h2, fun e => h3 (at1_inj h h1 h2 e)⟩
  · rw [List.nodup_iff_pairwise_ne, List.pairwise_map]
    refine (List.nodup_iff_pairwise_ne.mp (plt_nodup g.srt)).imp_of_mem fun {a b} ha hb hab e => hab ?_
    have e1 := congrArg Prod.fst e
    have e2 := congrArg Prod.snd e
    exact Prod.ext (at1_inj h (g.ok a ha).1 (g.ok b hb).1 e1) (at1_inj h (g.ok a ha).2.1 (g.ok b hb).2.1 e2)
  · obtain ⟨x0, hx0, rfl⟩ := at1_sur h (by have := g.lo; omega) hx
    obtain ⟨y0, hy0, rfl⟩ := at1_sur h (by have := g.lo; omega) hy
    exact (reach_mv (g.sc x0 y0 hx0 hy0)).mono fun a b hab => .one (mem_sortP.mpr hab)
theorem moved_run {n : Int} {p : List Int} {ds : List (Int × Int)} (h : Perm1 n p) (hd : ∀ d ∈ ds, inN n d.1 ∧ inN n d.2) (hl : ds.length ≤ 1000) : Fd f__law_moved [houseD n ds, .tuple (p.map .int)] (.d (houseD n (movedD p ds))) := by
  let E (a b : Option OV) : Env := [some (.d (houseD n ds)), some (.d (.tuple (p.map .int))), a, b]
  refine Fd.rt1 (E none none) (E none none) rfl ?_
  have hix : ∀ x, inN n x → gIx (.tuple (p.map .int)) (.int x) = some (.d (.int (at1 p x))) := fun x hx => by
    have := gIx_tn (xs := p.map PyData.int) (i := x.toNat) (x := .int (at1 p x)) (by rw [List.getElem?_map, at1_get h hx]; rfl)
    rwa [show ((x.toNat : Nat) : Int) = x by unfold inN at hx; omega] at this
  have e0 : ∀ a b, dV 0 (E a b) = some (.ok (houseD n ds) (E a b)) := fun _ _ => rfl
  have e1 : ∀ a b, dV 1 (E a b) = some (.ok (.tuple (p.map .int)) (E a b)) := fun _ _ => rfl
  have hc : mComp [2, 3] (mItems (frz (mBin gIx (dV 0) (dC (.int 1))))) (gT 2 (gsCons (gN 2) (gsCons (gN 3) (gsNil)))) (pure true) (frz (mTup (mCons (frz (mBin gIx (dV 1) (dV 2))) (mCons (frz (mBin gIx (dV 1) (dV 3))) (pure []))))) (E none none) = some (.ok (.lst ((ds.map (mv p)).map pairD)) (E none none)) := by
    rw [comp_doors (env := E none none) (ds := ds) (fun d => some (pairD (mv p d))) (mItems_t (by simp [e0, houseD_ix1])) rfl hl]
    · simp [List.filterMap_eq_map', Function.comp_def]
    · intro d hdm
      refine ⟨E (some (.d (.int d.1))) (some (.d (.int d.2))), ?_, rfl⟩
      have e2 : dV 2 (E (some (.d (.int d.1))) (some (.d (.int d.2)))) = some (.ok (.int d.1) (E (some (.d (.int d.1))) (some (.d (.int d.2))))) := rfl
      have e3 : dV 3 (E (some (.d (.int d.1))) (some (.d (.int d.2)))) = some (.ok (.int d.2) (E (some (.d (.int d.1))) (some (.d (.int d.2))))) := rfl
      have ht := mTup_at (m := mCons (frz (mBin gIx (dV 1) (dV 2))) (mCons (frz (mBin gIx (dV 1) (dV 3))) (pure []))) (xs := [.int (at1 p d.1), .int (at1 p d.2)]) (e := E (some (.d (.int d.1))) (some (.d (.int d.2)))) (e1 := E (some (.d (.int d.1))) (some (.d (.int d.2)))) (by simp [e1, e2, e3, hix _ (hd d hdm).1, hix _ (hd d hdm).2]) (fits (by simp))
      have hw : gT 2 (gsCons (gN 2) (gsCons (gN 3) (gsNil))) (pairD d) (wipeE (E none none) [2, 3]) = some (.ok () (E (some (.d (.int d.1))) (some (.d (.int d.2))))) := rfl
      unfold compT
      rw [bind_at', hw]
      simp [ht, mv, pairD]
  have ht : mTup (mCons (frz (mBin gIx (dV 0) (dC (.int 0)))) (mCons (frz (mOne gTuple (mOne gSorted (mComp [2, 3] (mItems (frz (mBin gIx (dV 0) (dC (.int 1))))) (gT 2 (gsCons (gN 2) (gsCons (gN 3) (gsNil)))) (pure true) (frz (mTup (mCons (frz (mBin gIx (dV 1) (dV 2))) (mCons (frz (mBin gIx (dV 1) (dV 3))) (pure []))))))))) (pure []))) (E none none) = some (.ok (.d (houseD n (movedD p ds))) (E none none)) := by
    refine mTup_at (xs := [.int n, .tuple ((movedD p ds).map pairD)]) ?_ (fits (by simp))
    simp [-List.map_map, e0, houseD_ix0, hc, gSorted_pairs, movedD]
  unfold b__law_moved
  simp [ht]
end TL
set_option Elab.async false
set_option linter.all false
set_option maxRecDepth 100000
namespace TL
open PySem PySem.Spec PyProof.Rows L2
theorem eraseIdx_map' {α β : Type} (f : α → β) : ∀ (l : List α) (i : Nat), (l.map f).eraseIdx i = (l.eraseIdx i).map f
  | [], i => rfl
  | x :: l, 0 => rfl
  | x :: l, i + 1 => by
    show f x :: (l.map f).eraseIdx i = f x :: (l.eraseIdx i).map f
    rw [eraseIdx_map' f l i]
theorem eraseIdx_perm' {α : Type} : ∀ (l : List α) (i : Nat) (z : α), l[i]? = some z → (z :: l.eraseIdx i).Perm l
  | x :: l, 0, z, h => by
    cases h
    exact .refl _
  | x :: l, i + 1, z, h => by
    have := eraseIdx_perm' l i z h
    exact (List.Perm.swap x z _).trans (this.cons x)
theorem gPopAt_ok {xs : List Int} {i : Nat} {z : Int} (h : xs[i]? = some z) (hl : xs.length ≤ 1000) : gPopAt (.int (i : Nat)) (.lst (xs.map .int)) = some (.lst ((xs.eraseIdx i).map .int), .d (.int z)) := by
  have hlt : i < xs.length := (List.getElem?_eq_some_iff.mp h).1
  show (if (xs.map PyData.int).length ≤ sizeLine then (ixN (xs.map PyData.int).length (i : Nat)).bind fun k => ((xs.map PyData.int)[k]?).map fun z => (OV.lst ((xs.map PyData.int).eraseIdx k), OV.d z) else none) = _
  rw [if_pos (fits (by simpa using hl))]
  have : ixN (xs.map PyData.int).length (i : Nat) = some i := by
    unfold ixN
    rw [List.length_map, if_pos (by omega), if_pos (by omega)]
    simp
  rw [this]
  show ((xs.map PyData.int)[i]?).map _ = _
  rw [List.getElem?_map, h, eraseIdx_map']
  rfl
theorem mListR1_at {m : M PyData} {e e1 : Env} {n : Int} (h : m e = some (.ok (.int n) e1)) (h0 : 0 ≤ n) (h1 : n ≤ 1000) : mListR1 m e = some (.ok (.lst ((rangeI n).map .int)) e1) := by
  show Out.andThen (m e) _ = _
  rw [h]
  show M.opt (if rgOk 0 n then some (OV.lst (rngD 0 n.toNat)) else none) e1 = _
  rw [if_pos (by unfold rgOk; rw [decide_eq_true_iff]; omega), opt_some_at]
  unfold rngD rangeI
  rw [List.map_map]
  simp [Function.comp_def]
/-! ### _law_turn -/
def tE (v : OV) (n : Int) (fs ls : List Int) : Env := [some v, some (.d (.int n)), some (.d (.tuple (fs.map .int))), some (.lst (ls.map .int))]
theorem eqv_nil (ls : List Int) : gNe (.list (ls.map .int)) (.list []) = some (.d (.bool (!ls.isEmpty))) := by
  rw [gNe_ok (d := 1) (okN_list fun x hx => by obtain ⟨i, _, rfl⟩ := List.mem_map.mp hx; exact okN_int i) (okN_list fun x hx => by cases hx) (by omega)]
  cases ls with
  | nil => rfl
  | cons => rfl
def tBody : M Fl := mSet 2 (dat (frz (mBin gAdd (dV 2) (frz (mTup (mCons (frz (mPopAt 3 (frz (mCall (.s 0 :: .d (frz (mPeek 3 gLen)) :: []) f__law_taken)))) (pure [])))))))
theorem tBody_run {v : OV} {n : Int} {fs ls : List Int} (hv : RowOk v) (hn : ls ≠ []) (hl : fs.length + ls.length ≤ 1000) : ∃ v' z i, tBody (tE v n fs ls) = some (.ok .nx (tE v' n (fs ++ [z]) (ls.eraseIdx i))) ∧ RowOk v' ∧ ls[i]? = some z := by
  have hpos : 0 < ls.length := List.length_pos_iff.mpr hn
  obtain ⟨r, v', hc, h3, h4, h5⟩ := taken_call (i := 0) (m := frz (mPeek 3 gLen)) (e := tE v n fs ls) (e1 := tE v n fs ls) (many := (ls.length : Nat)) (v := v) rfl (by simp [mPeek_app, tE]) rfl hv (by omega) (by omega)
  rw [show (tE v n fs ls).set 0 (some v') = tE v' n fs ls from rfl] at hc
  have hx : ls[r.toNat]? = some (ls[r.toNat]'(by omega)) := List.getElem?_eq_getElem (by omega)
  have hg := gPopAt_ok hx (by omega)
  rw [show ((r.toNat : Nat) : Int) = r by omega] at hg
  generalize ls[r.toNat]'(by omega) = z at hx hg
  refine ⟨v', z, r.toNat, ?_, h3, hx⟩
  have hpop : frz (mPopAt 3 (frz (mCall (.s 0 :: .d (frz (mPeek 3 gLen)) :: []) f__law_taken))) (tE v n fs ls) = some (.ok (.int z) (tE v' n fs (ls.eraseIdx r.toNat))) := by
    rw [frz_at, mPopAt_at]
    have : mHas 3 isLst (tE v n fs ls) = some (.ok () (tE v n fs ls)) := rfl
    rw [this, aT_ok]
    show Out.andThen (Out.andThen (frz (mCall (.s 0 :: .d (frz (mPeek 3 gLen)) :: []) f__law_taken) (tE v n fs ls)) fun y => mMut 3 (gPopAt y)) _ = _
    rw [frz_at, hc]
    have hm := mMut_at (i := 3) (f := gPopAt (.int r)) (e := tE v' n fs ls) (v := .lst (ls.map .int)) rfl hg
    simp only [aT_ok, dat_d, opt_some_at, hm]
    rfl
  have e2 : dV 2 (tE v n fs ls) = some (.ok (.tuple (fs.map .int)) (tE v n fs ls)) := rfl
  have ht : mTup (mCons (frz (mPopAt 3 (frz (mCall (.s 0 :: .d (frz (mPeek 3 gLen)) :: []) f__law_taken)))) (pure [])) (tE v n fs ls) = some (.ok (.d (.tuple [.int z])) (tE v' n fs (ls.eraseIdx r.toNat))) := by
    refine mTup_at ?_ (fits (by simp))
    rw [mCons_at, hpop]
    rfl
  have ha : gAdd (.tuple (fs.map .int)) (.tuple [.int z]) = some (.d (.tuple ((fs ++ [z]).map .int))) := by
    show (if _ then _ else _) = _
    rw [if_pos (fits (by simp; omega)), List.map_append]
    rfl
  unfold tBody
  rw [mSet_at, dat_at, frz_at, mBin_at, e2, aT_ok]
  show Out.andThen (Out.andThen (Out.andThen (Out.andThen (frz (mTup _) _) _) _) _) _ = _
  rw [frz_at, ht]
  simp only [aT_ok, dat_d, opt_some_at, ha, pure_at']
  rfl
theorem turn_run {v : OV} {n : Int} (hv : RowOk v) (h1 : 0 ≤ n) (h2 : n ≤ 10) : ∃ p v', f__law_turn [some v, some (.d (.int n))] = some (.ok (.d (.tuple (p.map .int))) [some v', some (.d (.int n))]) ∧ RowOk v' ∧ Perm1 n p := by
  let I : Nat → Env → Prop := fun m e => ∃ v fs ls, e = tE v n fs ls ∧ RowOk v ∧ (fs ++ ls).Perm (rangeI n) ∧ m = ls.length
  let Z : Env → Prop := fun e => ∃ v fs, e = tE v n fs [] ∧ RowOk v ∧ fs.Perm (rangeI n)
  have turn : ∀ m e, I m e → (∃ e1, asB (mCmpS gNe 3 (frz (mLst (pure [])))) e = some (.ok false e1) ∧ Z e1) ∨ ∃ e1 e2 m', asB (mCmpS gNe 3 (frz (mLst (pure [])))) e = some (.ok true e1) ∧ (tBody e1 = some (.ok .nx e2) ∨ tBody e1 = some (.ok .ct e2)) ∧ m' < m ∧ I m' e2 := by
    rintro m e ⟨v, fs, ls, rfl, hv, hp, rfl⟩
    have htest : asB (mCmpS gNe 3 (frz (mLst (pure [])))) (tE v n fs ls) = some (.ok (!ls.isEmpty) (tE v n fs ls)) := by
      have hm : ∀ e, mLst (pure []) e = some (.ok (.lst []) e) := fun e => mLst_at rfl (Nat.zero_le _)
      have hh : mHas 3 isAny (tE v n fs ls) = some (.ok () (tE v n fs ls)) := rfl
      have hk : mPeek 3 (gCmpS gNe (.list [])) (tE v n fs ls) = some (.ok (.d (.bool (!ls.isEmpty))) (tE v n fs ls)) := mPeek_at (v := .lst (ls.map .int)) rfl (by
        show gNe (.list (ls.map .int)) (.list []) = _
        exact eqv_nil ls)
      simp [hh, hm, hk]
    have hlen := hp.length_eq
    rw [List.length_append, rangeI_len] at hlen
    by_cases c : ls = []
    · subst c
      exact .inl ⟨_, htest, v, fs, rfl, hv, by simpa using hp⟩
    · obtain ⟨v', z, i, h, h3, h4⟩ := tBody_run (n := n) (fs := fs) hv c (by omega)
      have hi : i < ls.length := (List.getElem?_eq_some_iff.mp h4).1
      refine .inr ⟨_, _, _, by rw [htest]; cases ls with | nil => exact absurd rfl c | cons => rfl, .inl h, ?_, v', fs ++ [z], ls.eraseIdx i, rfl, h3, ?_, rfl⟩
      · rw [List.length_eraseIdx, if_pos hi]
        omega
      · rw [List.append_assoc]
        exact ((eraseIdx_perm' ls i z h4).append_left fs).trans hp
  obtain ⟨e', h, v', fs, rfl, h3, hp⟩ := mWhile_inv (t := asB (mCmpS gNe 3 (frz (mLst (pure []))))) (b := tBody) I Z turn (n := (rangeI n).length) (e := tE v n [] (rangeI n)) ⟨v, [], rangeI n, rfl, hv, .refl _, rfl⟩
  refine ⟨fs, v', ?_, h3, ?_⟩
  · refine fnM_rt (np := 2) (N := 4) (ow := [0]) (mb := b__law_turn) (env := [some v, some (.d (.int n))]) (e := tE v' n fs []) ?_
    show mThen (mPar 2 3 (dat (frz (mTup (pure [])))) (mListR1 (dV 1))) (mThen (mWhile (asB (mCmpS gNe 3 (frz (mLst (pure []))))) tBody) (mRet (mVar 2))) [some v, some (.d (.int n)), none, none] = _
    have ht : mTup (pure []) [some v, some (.d (.int n)), none, none] = some (.ok (.d (.tuple [])) [some v, some (.d (.int n)), none, none]) := mTup_at rfl (Nat.zero_le _)
    have hl := mListR1_at (m := dV 1) (e := [some v, some (.d (.int n)), none, none]) (e1 := [some v, some (.d (.int n)), none, none]) rfl h1 (by omega)
    have hp : mPar 2 3 (dat (frz (mTup (pure [])))) (mListR1 (dV 1)) [some v, some (.d (.int n)), none, none] = some (.ok .nx (tE v n [] (rangeI n))) := by
      rw [mPar_at, dat_at, frz_at, ht]
      simp only [aT_ok, dat_d, opt_some_at, pure_at', bind_at', hl]
      rfl
    have hv2 : mVar 2 (tE v' n fs []) = some (.ok (.d (.tuple (fs.map .int))) (tE v' n fs [])) := rfl
    rw [mThen_at, hp, aT_ok, fThen_nx, mThen_at, h, aT_ok, fThen_nx, mRet_at, hv2]
    rfl
  · refine ⟨?_, hp.nodup_iff.mpr (rangeI_nodup n), fun x hx => mem_rangeI.mp (hp.mem_iff.mp hx)⟩
    rw [hp.length_eq, rangeI_len]
    omega
end TL
set_option Elab.async false
set_option linter.all false
set_option maxRecDepth 100000
namespace TL
open PySem PySem.Spec PyProof.Rows L2
theorem setP_len (ps : List (Int × Int)) : (setP ps).length ≤ ps.length := nodup_le (setP_nodup ps) fun x hx => mem_setP.mp hx
theorem intsOf_pairs (p : Int × Int) (ps : List (Int × Int)) : intsOf ((p :: ps).map pairD) = none := rfl
theorem pairsOf_pairs : ∀ (ps : List (Int × Int)), pairsOf (ps.map pairD) = some ps
  | [] => rfl
  | p :: ps => by
    show (pairsOf (ps.map pairD)).map ((p.1, p.2) :: ·) = _
    rw [pairsOf_pairs ps]
    rfl
theorem gSset_pairs {ps : List (Int × Int)} (hl : ps.length < 64) (h : ∀ p ∈ ps, inN 64 p.1 ∧ inN 64 p.2) : gSset (.list (ps.map pairD)) = some (.lst ((setP ps).map pairD)) := by
  cases ps with
  | nil =>
    show (if ([] : List PyData).length < 64 then some (OV.lst ((setI []).map .int)) else none) = _
    rw [if_pos (by decide)]
    have h1 : setI [] = [] := List.length_eq_zero_iff.mp (by unfold setI; rw [List.length_mergeSort]; rfl)
    have h2 : setP [] = [] := List.length_eq_zero_iff.mp (by unfold setP; rw [List.length_mergeSort]; rfl)
    rw [h1, h2]
    rfl
  | cons p ps =>
    show (if ((p :: ps).map pairD).length < 64 then (match intsOf ((p :: ps).map pairD) with
      | some ns => some (OV.lst ((setI ns).map .int))
      | none => (match pairsOf ((p :: ps).map pairD) with
        | some ps => if ps.all pairOk then some (OV.lst ((setP ps).map pairD)) else none
        | none => none)) else none) = _
    rw [if_pos (by simpa using hl), intsOf_pairs, pairsOf_pairs]
    show (if (p :: ps).all pairOk then _ else _) = _
    rw [if_pos]
    rw [List.all_eq_true]
    intro q hq
    obtain ⟨⟨a, b⟩, c, d⟩ := h q hq
    unfold pairOk
    rw [decide_eq_true_iff]
    exact ⟨a, b, c, d⟩
theorem mSset_at {m : M PyData} {e e1 : Env} {x : PyData} {r : OV} (h : m e = some (.ok x e1)) (g : gSset x = some r) : mSset m e = some (.ok r e1) := by
  show Out.andThen (m e) _ = _
  rw [h]
  show M.opt (gSset x) e1 = _
  rw [g]
  rfl
/-- doors more -/
theorem good_more {n : Int} {ds es : List (Int × Int)} (g : Good n ds) (h : ∀ p ∈ es, p ∈ ds ∨ (inN n p.1 ∧ inN n p.2 ∧ p.1 ≠ p.2)) (hs : ∀ p ∈ ds, p ∈ es) (hl : es.length ≤ 1000) : Good n (setP es) := by
  refine ⟨g.lo, g.hi, fun p hp => ?_, setP_plt es, fun x y hx hy => ?_, Nat.le_trans (setP_len es) hl⟩
  · rcases h p (mem_setP.mp hp) with h | h
    · exact g.ok p h
    · exact h
  · exact (g.sc x y hx hy).mono fun a b hab => .one (mem_setP.mpr (hs _ hab))
/-! ### _law_house -/
def hE (v : OV) (most : Int) (o2 o3 o4 o5 o6 : Option OV) : Env := [some v, some (.d (.int most)), o2, o3, o4, o5, o6]
def hBody : M Fl := mThen (mSet 6 (dat (frz (mTup (mCons (frz (mCall (.s 0 :: .d (dV 2) :: []) f__law_taken)) (mCons (frz (mCall (.s 0 :: .d (dV 2) :: []) f__law_taken)) (pure [])))))))
  (mSet 3 (dat (frz (mBin gAdd (dV 3) (frz (mBin gMulX (frz (mLst (mCons (dV 6) (pure [])))) (frz (mOne gInt (mBin gNe (frz (mBin gIx (dV 6) (dC (.int 0)))) (frz (mBin gIx (dV 6) (dC (.int 1)))))))))))))
theorem gMul_l0 (x : PyData) : gMulX (.list [x]) (.int 0) = some (.lst []) := by
  show (if -(2 ^ 63) ≤ (0 : Int) ∧ (0 : Int) < 2 ^ 63 ∧ [x].length * (0 : Int).toNat ≤ sizeLine then some (OV.lst (List.replicate (0 : Int).toNat [x]).flatten) else none) = _
  rw [if_pos ⟨by decide, by decide, by simp⟩]
  rfl
theorem gMul_l1 (x : PyData) : gMulX (.list [x]) (.int 1) = some (.lst [x]) := by
  show (if -(2 ^ 63) ≤ (1 : Int) ∧ (1 : Int) < 2 ^ 63 ∧ [x].length * (1 : Int).toNat ≤ sizeLine then some (OV.lst (List.replicate (1 : Int).toNat [x]).flatten) else none) = _
  rw [if_pos ⟨by decide, by decide, fits (by simp)⟩]
  rfl
/-- two taken side by side -/
theorem taken_pair {i j : Nat} {e : Env} {n : Int} {v : OV} (hi : e[i]? = some (some v)) (hj : e[j]? = some (some (.d (.int n)))) (hij : i ≠ j) (hv : RowOk v) (h2 : 0 < n) (h3 : n < 1073741824) :
    ∃ p v', frz (mTup (mCons (frz (mCall (.s i :: .d (dV j) :: []) f__law_taken)) (mCons (frz (mCall (.s i :: .d (dV j) :: []) f__law_taken)) (pure [])))) e = some (.ok (pairD p) (e.set i (some v'))) ∧ RowOk v' ∧ inN n p.1 ∧ inN n p.2 := by
  obtain ⟨r, v1, hc, k1, k2, k3⟩ := taken_call (i := i) (m := dV j) (e := e) (e1 := e) (many := n) hi (dV_at hj) hi hv h2 h3
  have hl : i < e.length := (List.getElem?_eq_some_iff.mp hi).1
  have hi1 : (e.set i (some v1))[i]? = some (some v1) := List.getElem?_set_self hl
  have hj1 : (e.set i (some v1))[j]? = some (some (.d (.int n))) := by rw [List.getElem?_set_ne hij]; exact hj
  obtain ⟨s, v2, hd, l1, l2, l3⟩ := taken_call (i := i) (m := dV j) (e := e.set i (some v1)) (e1 := e.set i (some v1)) (many := n) hi1 (dV_at hj1) hi1 k1 h2 h3
  rw [List.set_set] at hd
  refine ⟨(r, s), v2, ?_, l1, ⟨k2, k3⟩, ⟨l2, l3⟩⟩
  have ht := mTup_at (m := mCons (frz (mCall (.s i :: .d (dV j) :: []) f__law_taken)) (mCons (frz (mCall (.s i :: .d (dV j) :: []) f__law_taken)) (pure []))) (e := e) (e1 := e.set i (some v2)) (xs := [.int r, .int s]) (by simp [hc, hd]) (fits (by simp))
  rw [frz_at, ht]
  rfl
theorem hBody_run {v : OV} {most n : Int} {ds : List (Int × Int)} {o4 o5 o6 : Option OV} (hv : RowOk v) (h1 : 0 < n) (h2 : n ≤ 10) (hl : ds.length ≤ 100) : ∃ v' es o6', hBody (hE v most (some (.d (.int n))) (some (.d (.list (ds.map pairD)))) o4 o5 o6) = some (.ok .nx (hE v' most (some (.d (.int n))) (some (.d (.list ((ds ++ es).map pairD)))) o4 o5 o6')) ∧ RowOk v' ∧ es.length ≤ 1 ∧ ∀ p ∈ es, inN n p.1 ∧ inN n p.2 ∧ p.1 ≠ p.2 := by
  obtain ⟨p, v', hc, k1, k2, k3⟩ := taken_pair (i := 0) (j := 2) (e := hE v most (some (.d (.int n))) (some (.d (.list (ds.map pairD)))) o4 o5 o6) rfl rfl (by omega) hv h1 (by omega)
  refine ⟨v', if p.1 = p.2 then [] else [p], some (.d (pairD p)), ?_, k1, ?_, ?_⟩
  · have e1 : (hE v most (some (.d (.int n))) (some (.d (.list (ds.map pairD)))) o4 o5 o6).set 0 (some v') = hE v' most (some (.d (.int n))) (some (.d (.list (ds.map pairD)))) o4 o5 o6 := rfl
    rw [e1] at hc
    have e2 : (hE v' most (some (.d (.int n))) (some (.d (.list (ds.map pairD)))) o4 o5 o6).set 6 (some (.d (pairD p))) = hE v' most (some (.d (.int n))) (some (.d (.list (ds.map pairD)))) o4 o5 (some (.d (pairD p))) := rfl
    have e3 : dV 3 (hE v' most (some (.d (.int n))) (some (.d (.list (ds.map pairD)))) o4 o5 (some (.d (pairD p)))) = some (.ok (.list (ds.map pairD)) (hE v' most (some (.d (.int n))) (some (.d (.list (ds.map pairD)))) o4 o5 (some (.d (pairD p))))) := rfl
    have e6 : dV 6 (hE v' most (some (.d (.int n))) (some (.d (.list (ds.map pairD)))) o4 o5 (some (.d (pairD p)))) = some (.ok (pairD p) (hE v' most (some (.d (.int n))) (some (.d (.list (ds.map pairD)))) o4 o5 (some (.d (pairD p))))) := rfl
    have hl1 := mLst_at (m := mCons (dV 6) (pure [])) (xs := [pairD p]) (e := hE v' most (some (.d (.int n))) (some (.d (.list (ds.map pairD)))) o4 o5 (some (.d (pairD p)))) (e1 := hE v' most (some (.d (.int n))) (some (.d (.list (ds.map pairD)))) o4 o5 (some (.d (pairD p)))) (by simp [e6]) (fits (by simp))
    have i0 : gIx (pairD p) (.int 0) = some (.d (.int p.1)) := gIx_t0 _ _
    have i1 : gIx (pairD p) (.int 1) = some (.d (.int p.2)) := gIx_t1 _ _ _
    have hm : gMulX (.list [pairD p]) (.int (if (!decide (p.1 = p.2)) = true then 1 else 0)) = some (.lst ((if p.1 = p.2 then [] else [p]).map pairD)) := by
      by_cases c : p.1 = p.2
      · rw [if_pos c, decide_eq_true c]
        exact gMul_l0 _
      · rw [if_neg c, decide_eq_false c]
        exact gMul_l1 _
    have ha : gAdd (.list (ds.map pairD)) (.list ((if p.1 = p.2 then [] else [p]).map pairD)) = some (.lst ((ds ++ (if p.1 = p.2 then [] else [p])).map pairD)) := by
      show (if (ds.map pairD).length + ((if p.1 = p.2 then [] else [p]).map pairD).length ≤ sizeLine then some (OV.lst (ds.map pairD ++ (if p.1 = p.2 then [] else [p]).map pairD)) else none) = _
      rw [if_pos (fits (by rw [List.length_map, List.length_map]; split <;> simp <;> omega)), List.map_append]
    unfold hBody
    rw [mThen_at, mSet_at, dat_at, hc]
    simp only [aT_ok, pure_at', e2, fThen_nx, mSet_at, dat_at, frz_at, mBin_at, e3, bind_at', hl1, opt_some_at, dat_lst, mOne_at, e6, i0, i1, dat_d, dC_at, gNe_int, gInt_b, hm, ha]
    rfl
  · split <;> simp
  · intro q hq
    split at hq
    · cases hq
    · rw [List.mem_singleton.mp hq]
      exact ⟨k2, k3, by assumption⟩
end TL
set_option Elab.async false
set_option linter.all false
set_option maxRecDepth 100000
namespace TL
open PySem PySem.Spec PyProof.Rows L2
theorem knownsD_pos {most : Int} (h : 1 ≤ most) : 0 < (knownsD most).length := by
  refine List.length_pos_of_mem (a := houseD 1 []) (List.mem_map.mpr ⟨(1, []), List.mem_filter.mpr ⟨List.mem_cons_self, decide_eq_true h⟩, rfl⟩)
theorem knownsD_len (most : Int) : (knownsD most).length ≤ 17 := by
  unfold knownsD
  rw [List.length_map]
  exact Nat.le_trans (List.length_filter_le _ _) (by decide)
theorem law_house_run {v : OV} {most : Int} (hv : RowOk v) (h1 : 2 ≤ most) (h2 : most ≤ 10) (K : Fd f__law_known [.int most] (.lst (knownsD most))) : ∃ n ds v', f__law_house [some v, some (.d (.int most))] = some (.ok (.d (houseD n ds)) [some v', some (.d (.int most))]) ∧ RowOk v' ∧ n ≤ most ∧ Good n ds ∧ ds.length ≤ 20 := by
  have fin : ∀ {x : PyData} {v' : OV} {o2 o3 o4 o5 o6 : Option OV}, b__law_house (hE v most none none none none none) = some (.ok (.rt (.d x)) (hE v' most o2 o3 o4 o5 o6)) → f__law_house [some v, some (.d (.int most))] = some (.ok (.d x) [some v', some (.d (.int most))]) := fun {x v' o2 o3 o4 o5 o6} h => fnM_rt (np := 2) (N := 7) (ow := [0]) (mb := b__law_house) (env := [some v, some (.d (.int most))]) (e := hE v' most o2 o3 o4 o5 o6) h
  obtain ⟨r, v1, hc, k1, k2, k3⟩ := taken_call (i := 0) (m := dC (.int 3)) (e := hE v most none none none none none) (e1 := hE v most none none none none none) (many := 3) (v := v) rfl rfl rfl hv (by omega) (by omega)
  rw [show (hE v most none none none none none).set 0 (some v1) = hE v1 most none none none none none from rfl] at hc
  by_cases c : 0 < r
  · -- a known house
    have e1 : ∀ {v : OV} {o5 : Option OV}, dV 1 (hE v most none none none o5 none) = some (.ok (.int most) (hE v most none none none o5 none)) := rfl
    obtain ⟨x, v2, hp, l1, l2⟩ := pick_run k1 (knownsD_pos (most := most) (by omega)) (by have := knownsD_len most; omega)
    obtain ⟨n, ds, rfl, m1, m2, m3⟩ := knownsD_mem l2
    have hk : frz (mCall (.d (dV 1) :: []) f__law_known) (hE v1 most none none none none none) = some (.ok (.list (knownsD most)) (hE v1 most none none none none none)) := by
      simp [mCall1_at (mf := f__law_known) fnM_len, e1, K.call]
    have hp2 := mCall_s1 (i := 0) (m := frz (mCall (.d (dV 1) :: []) f__law_known)) (f := f__law_pick) (e := hE v1 most none none none none none) (v0 := v1) rfl hk rfl hp
    rw [show (hE v1 most none none none none none).set 0 (some v2) = hE v2 most none none none none none from rfl] at hp2
    obtain ⟨p, v3, ht, n1, n2⟩ := turn_run (n := n) l1 (by have := m2.lo; omega) m2.hi
    have e5 : ∀ {v : OV}, dV 5 (hE v most none none none (some (.d (houseD n ds))) none) = some (.ok (houseD n ds) (hE v most none none none (some (.d (houseD n ds))) none)) := rfl
    have ht2 := mCall_s1 (i := 0) (m := frz (mBin gIx (dV 5) (dC (.int 0)))) (f := f__law_turn) (e := hE v2 most none none none (some (.d (houseD n ds))) none) (v0 := v2) rfl (x := .int n) (e1 := hE v2 most none none none (some (.d (houseD n ds))) none) (by simp [e5, houseD_ix0]) rfl ht
    rw [show (hE v2 most none none none (some (.d (houseD n ds))) none).set 0 (some v3) = hE v3 most none none none (some (.d (houseD n ds))) none from rfl] at ht2
    have hm := moved_run n2 (fun d hd => ⟨(m2.ok d hd).1, (m2.ok d hd).2.1⟩) m2.len
    refine ⟨n, movedD p ds, v3, fin (o2 := none) (o3 := none) (o4 := none) (o5 := some (.d (houseD n ds))) (o6 := none) ?_, n1, m1, moved_good n2 m2, by unfold movedD; rw [sortP_len, List.length_map]; exact m3⟩
    have es : (hE v2 most none none none none none).set 5 (some (.d (houseD n ds))) = hE v2 most none none none (some (.d (houseD n ds))) none := rfl
    unfold b__law_house
    rw [mThen_at, mIf_at, asB_at, mBin_at, frz_at, hc]
    simp only [aT_ok, dat_d, opt_some_at, bind_at', dC_at, gGt_int, decide_eq_true c, boolOf_b, pure_at', if_true, mThen_at, mSet_at, dat_at, frz_at, hp2, es, fThen_nx, mRet_at, mCall2_at (mf := f__law_moved) fnM_len, e5, ht2, hm.call, fThen_rt]
  · -- a house made by chance
    obtain ⟨r2, v2, hc2, l1, l2, l3⟩ := taken_call (i := 0) (m := frz (mBin gSub (dV 1) (dC (.int 1)))) (e := hE v1 most none none none none none) (e1 := hE v1 most none none none none none) (many := most - 1) (v := v1) rfl (by simp [dV_app, hE]) rfl k1 (by omega) (by omega)
    rw [show (hE v1 most none none none none none).set 0 (some v2) = hE v2 most none none none none none from rfl] at hc2
    generalize hn : 2 + r2 = n
    have n1 : 2 ≤ n := by omega
    have n2 : n ≤ most := by omega
    obtain ⟨gc, lc⟩ := circ_good n1 (by omega : n ≤ 10)
    let E (v : OV) (ds : List (Int × Int)) (o4 o6 : Option OV) : Env := hE v most (some (.d (.int n))) (some (.d (.list (ds.map pairD)))) o4 none o6
    obtain ⟨r3, v3, hc3, p1, p2, p3⟩ := taken_call (i := 0) (m := frz (mBin gAdd (dV 2) (dC (.int 1)))) (e := E v2 (circ n) none none) (e1 := E v2 (circ n) none none) (many := n + 1) (v := v2) rfl (by simp [dV_app, hE, E]) rfl l1 (by omega) (by omega)
    rw [show (E v2 (circ n) none none).set 0 (some v3) = E v3 (circ n) none none from rfl] at hc3
    let I : Nat → Env → Prop := fun j e => ∃ v es o4 o6, e = E v (circ n ++ es) o4 o6 ∧ RowOk v ∧ es.length ≤ j ∧ ∀ p ∈ es, inN n p.1 ∧ inN n p.2 ∧ p.1 ≠ p.2
    have hlen : (rngD 0 r3.toNat).length ≤ 10 := by rw [rngD_len]; omega
    have turn : ∀ j x e, (rngD 0 r3.toNat)[j]? = some x → I j e → ∃ e1 e2, gN 4 x e = some (.ok () e1) ∧ (hBody e1 = some (.ok .nx e2) ∨ hBody e1 = some (.ok .ct e2)) ∧ I (j + 1) e2 := by
      rintro j x e hx ⟨v, es, o4, o6, rfl, hv, hl, ho⟩
      have hj : j < (rngD 0 r3.toNat).length := (List.getElem?_eq_some_iff.mp hx).1
      obtain ⟨v', es', o6', hb, q1, q2, q3⟩ := hBody_run (most := most) (n := n) (ds := circ n ++ es) (o4 := some (.d x)) (o5 := none) (o6 := o6) hv (by omega) (by omega) (by rw [List.length_append, lc]; omega)
      refine ⟨E v (circ n ++ es) (some (.d x)) o6, _, rfl, .inl hb, v', es ++ es', some (.d x), o6', by rw [List.append_assoc], q1, by rw [List.length_append]; omega, fun p hp => ?_⟩
      rcases List.mem_append.mp hp with h | h
      · exact ho p h
      · exact q3 p h
    obtain ⟨e', hf, v4, es, o4, o6, rfl, s1, s2, s3⟩ := mFor_inv (mi := mRange1 (frz (mCall (.s 0 :: .d (frz (mBin gAdd (dV 2) (dC (.int 1)))) :: []) f__law_taken))) (g := gN 4) (b := hBody) I (e := E v2 (circ n) none none) (e0 := E v3 (circ n) none none) (xs := rngD 0 r3.toNat)
      (mRange1_at (j := r3) (by simp [hc3]) (by omega) (by omega)) ⟨v3, [], none, none, by rw [List.append_nil], p1, Nat.zero_le _, fun p hp => by cases hp⟩ turn
    rw [rngD_len] at s2
    have hcl : (circ n ++ es).length ≤ 20 := by rw [List.length_append, lc]; omega
    have hall : ∀ p ∈ circ n ++ es, inN n p.1 ∧ inN n p.2 ∧ p.1 ≠ p.2 := fun p hp => by
      rcases List.mem_append.mp hp with h | h
      · exact gc.ok p h
      · exact s3 p h
    have gm : Good n (setP (circ n ++ es)) := good_more gc (fun p hp => .inr (hall p hp)) (fun p hp => List.mem_append.mpr (.inl hp)) (by omega)
    obtain ⟨p, v5, ht, t1, t2⟩ := turn_run (n := n) s1 (by omega) (by omega)
    have ht2 := mCall_s1 (i := 0) (m := dV 2) (f := f__law_turn) (e := E v4 (circ n ++ es) o4 o6) (v0 := v4) rfl (x := .int n) (e1 := E v4 (circ n ++ es) o4 o6) rfl rfl ht
    rw [show (E v4 (circ n ++ es) o4 o6).set 0 (some v5) = E v5 (circ n ++ es) o4 o6 from rfl] at ht2
    have hm := moved_run t2 (fun d hd => ⟨(gm.ok d hd).1, (gm.ok d hd).2.1⟩) gm.len
    refine ⟨n, movedD p (setP (circ n ++ es)), v5, fin (o2 := some (.d (.int n))) (o3 := some (.d (.list ((circ n ++ es).map pairD)))) (o4 := o4) (o5 := none) (o6 := o6) ?_, t1, n2, moved_good t2 gm, by unfold movedD; rw [sortP_len, List.length_map]; have := setP_len (circ n ++ es); omega⟩
    have hss : mSset (dV 3) (E v4 (circ n ++ es) o4 o6) = some (.ok (.lst ((setP (circ n ++ es)).map pairD)) (E v4 (circ n ++ es) o4 o6)) := mSset_at (x := .list ((circ n ++ es).map pairD)) rfl (gSset_pairs (by omega) fun p hp => by
      obtain ⟨a, b, _⟩ := hall p hp
      unfold inN at *
      omega)
    have e2 : ∀ v ds o4 o6, dV 2 (E v ds o4 o6) = some (.ok (.int n) (E v ds o4 o6)) := fun _ _ _ _ => rfl
    have htup := mTup_at (m := mCons (dV 2) (mCons (frz (mOne gTuple (mSset (dV 3)))) (pure []))) (xs := [.int n, .tuple ((setP (circ n ++ es)).map pairD)]) (e := E v4 (circ n ++ es) o4 o6) (e1 := E v4 (circ n ++ es) o4 o6) (by simp [e2, hss]) (fits (by simp))
    have hcirc := circle_run n1 (by omega : n ≤ 10)
    have hl1 := mLst_at (m := mCons (dC (.int 1)) (pure [])) (xs := [.int 1]) (e := hE v2 most (some (.d (.int n))) none none none none) (e1 := hE v2 most (some (.d (.int n))) none none none none) rfl (fits (by simp))
    have e2' : dV 2 (hE v2 most (some (.d (.int n))) none none none none) = some (.ok (.int n) (hE v2 most (some (.d (.int n))) none none none none)) := rfl
    have s2' : (hE v2 most none none none none none).set 2 (some (.d (.int n))) = hE v2 most (some (.d (.int n))) none none none none := rfl
    have s3' : (hE v2 most (some (.d (.int n))) none none none none).set 3 (some (.d (.list ((circ n).map pairD)))) = E v2 (circ n) none none := rfl
    have hgl : gList (.d (.tuple ((circ n).map pairD))) = some (.lst ((circ n).map pairD)) := rfl
    show mThen _ (mThen _ (mThen _ (mThen (mFor (mRange1 (frz (mCall (.s 0 :: .d (frz (mBin gAdd (dV 2) (dC (.int 1)))) :: []) f__law_taken))) (gN 4) hBody) _))) _ = _
    rw [mThen_at, mIf_at, asB_at, mBin_at, frz_at, hc]
    simp only [aT_ok, dat_d, opt_some_at, bind_at', dC_at, gGt_int, decide_eq_false c, boolOf_b, pure_at', Bool.false_eq_true, if_false, fThen_nx]
    rw [mThen_at, mSet_at]
    simp only [dat_at, frz_at, mBin_at, dC_at, aT_ok, bind_at', hc2, dat_d, opt_some_at, gAdd_int, hn, pure_at', s2', fThen_nx]
    rw [mThen_at, mSet_at]
    simp only [dat_at, frz_at, mOne_at, mBin_at, mCall2_at (mf := f__law_circle) fnM_len, e2', aT_ok, bind_at', hl1, dat_lst, opt_some_at, hcirc.call, dat_d, dC_at, houseD_ix1, hgl, pure_at', s3', fThen_nx]
    rw [mThen_at, hf, aT_ok, fThen_nx]
    simp only [mRet_at, mCall2_at (mf := f__law_moved) fnM_len, frz_at, htup, aT_ok, dat_d, opt_some_at, bind_at', ht2]
    show Out.andThen (callK f__law_moved [houseD n (setP (circ n ++ es)), .tuple (p.map .int)] (E v5 (circ n ++ es) o4 o6)) _ = _
    rw [hm.call]
    rfl
end TL
set_option Elab.async false
set_option linter.all false
set_option maxRecDepth 100000
namespace TL
open PySem PySem.Spec PyProof.Rows L2
/-! ### running: m comes to an end at e, with Q -/
def Tr {α : Type} (m : M α) (e : Env) (Q : α → Env → Prop) : Prop := ∃ a e', m e = some (.ok a e') ∧ Q a e'
section
variable {α β : Type} {e : Env}
theorem Tr.mono {m : M α} {Q Q' : α → Env → Prop} (h : Tr m e Q) (k : ∀ a e, Q a e → Q' a e) : Tr m e Q' := by
  obtain ⟨a, e', h1, h2⟩ := h
  exact ⟨a, e', h1, k a e' h2⟩
theorem Tr.of {m : M α} {Q : α → Env → Prop} {a : α} {e' : Env} (h : m e = some (.ok a e')) (q : Q a e') : Tr m e Q := ⟨a, e', h, q⟩
theorem Tr_eq {m : M α} {Q : α → Env → Prop} {a : α} {e' : Env} (h : m e = some (.ok a e')) : Tr m e Q ↔ Q a e' := by
  constructor
  · rintro ⟨b, e2, h1, h2⟩
    rw [h] at h1
    cases h1
    exact h2
  · exact fun q => ⟨a, e', h, q⟩
@[simp] theorem Tr_bind {m : M α} {f : α → M β} {Q : β → Env → Prop} : Tr (m >>= f) e Q ↔ Tr m e fun a e1 => Tr (f a) e1 Q := by
  constructor
  · rintro ⟨b, e2, h1, h2⟩
    have h1 : Out.andThen (m e) f = some (.ok b e2) := h1
    cases em : m e with
    | none => rw [em] at h1; cases h1
    | some o =>
      rw [em] at h1
      cases o with
      | exc x e1 => cases h1
      | ok a e1 => exact ⟨a, e1, em, b, e2, h1, h2⟩
  · rintro ⟨a, e1, h1, b, e2, h2, h3⟩
    refine ⟨b, e2, ?_, h3⟩
    show Out.andThen (m e) f = _
    rw [h1]
    exact h2
@[simp] theorem Tr_pure {a : α} {Q : α → Env → Prop} : Tr (pure a) e Q ↔ Q a e := Tr_eq rfl
@[simp] theorem Tr_opt {o : Option α} {Q : α → Env → Prop} : Tr (M.opt o) e Q ↔ ∃ a, o = some a ∧ Q a e := by
  constructor
  · rintro ⟨a, e', h1, h2⟩
    cases o with
    | none => cases h1
    | some b => cases h1; exact ⟨_, rfl, h2⟩
  · rintro ⟨a, rfl, h⟩
    exact ⟨a, e, rfl, h⟩
@[simp] theorem Tr_dC {x : PyData} {Q : PyData → Env → Prop} : Tr (dC x) e Q ↔ Q x e := Tr_eq rfl
@[simp] theorem Tr_dV {i : Nat} {Q : PyData → Env → Prop} : Tr (dV i) e Q ↔ ∃ x, e[i]? = some (some (.d x)) ∧ Q x e := by
  unfold Tr
  constructor
  · rintro ⟨a, e', h1, h2⟩
    rw [dV_app] at h1
    split at h1
    · rename_i x hx
      cases h1
      exact ⟨_, hx, h2⟩
    · cases h1
  · rintro ⟨x, h1, h2⟩
    exact ⟨x, e, dV_at h1, h2⟩
@[simp] theorem Tr_mVar {i : Nat} {Q : OV → Env → Prop} : Tr (mVar i) e Q ↔ ∃ x, e[i]? = some (some (.d x)) ∧ Q (.d x) e := by
  constructor
  · rintro ⟨a, e', h1, h2⟩
    rw [mVar_app] at h1
    split at h1
    · rename_i x hx
      cases h1
      exact ⟨_, hx, h2⟩
    · cases h1
  · rintro ⟨x, h1, h2⟩
    exact ⟨_, e, mVar_at h1, h2⟩
@[simp] theorem Tr_mMove {i : Nat} {Q : OV → Env → Prop} : Tr (mMove i) e Q ↔ ∃ v, e[i]? = some (some v) ∧ Q v (e.set i none) := by
  constructor
  · rintro ⟨a, e', h1, h2⟩
    rw [mMove_app] at h1
    split at h1
    · rename_i x hx
      cases h1
      exact ⟨_, hx, h2⟩
    · cases h1
  · rintro ⟨x, h1, h2⟩
    exact ⟨_, _, mMove_at h1, h2⟩
@[simp] theorem Tr_frz {m : M OV} {Q : PyData → Env → Prop} : Tr (frz m) e Q ↔ Tr m e fun v e1 => ∃ x, v.dat = some x ∧ Q x e1 := by
  show Tr (m >>= fun v => M.opt v.dat) e Q ↔ _
  simp only [Tr_bind, Tr_opt]
@[simp] theorem Tr_dat {m : M PyData} {Q : OV → Env → Prop} : Tr (dat m) e Q ↔ Tr m e fun x e1 => Q (.d x) e1 := by
  show Tr (m >>= fun x => pure (.d x)) e Q ↔ _
  simp only [Tr_bind, Tr_pure]
@[simp] theorem Tr_bin {g : PyData → PyData → Option OV} {a b : M PyData} {Q : OV → Env → Prop} : Tr (mBin g a b) e Q ↔ Tr a e fun x e1 => Tr b e1 fun y e2 => ∃ r, g x y = some r ∧ Q r e2 := by
  show Tr (a >>= fun x => b >>= fun y => M.opt (g x y)) e Q ↔ _
  simp only [Tr_bind, Tr_opt]
@[simp] theorem Tr_one {g : OV → Option OV} {m : M OV} {Q : OV → Env → Prop} : Tr (mOne g m) e Q ↔ Tr m e fun v e1 => ∃ r, g v = some r ∧ Q r e1 := by
  show Tr (m >>= fun x => M.opt (g x)) e Q ↔ _
  simp only [Tr_bind, Tr_opt]
@[simp] theorem Tr_cons {a : M PyData} {r : M (List PyData)} {Q : List PyData → Env → Prop} : Tr (mCons a r) e Q ↔ Tr a e fun x e1 => Tr r e1 fun xs e2 => Q (x :: xs) e2 := by
  show Tr (a >>= fun x => r >>= fun xs => pure (x :: xs)) e Q ↔ _
  simp only [Tr_bind, Tr_pure]
@[simp] theorem Tr_tup {m : M (List PyData)} {Q : OV → Env → Prop} : Tr (mTup m) e Q ↔ Tr m e fun xs e1 => xs.length ≤ sizeLine ∧ Q (.d (.tuple xs)) e1 := by
  constructor
  · rintro ⟨a, e', h1, h2⟩
    have h1 : Out.andThen (m e) _ = _ := h1
    cases em : m e with
    | none => rw [em] at h1; cases h1
    | some o =>
      rw [em] at h1
      cases o with
      | exc x e1 => cases h1
      | ok xs e1 =>
        by_cases hz : xs.length ≤ sizeLine
        · have := mTup_at em hz
          have h3 : mTup m e = some (.ok a e') := by
            show Out.andThen (m e) _ = _
            rw [em]
            exact h1
          rw [this] at h3
          cases h3
          exact ⟨xs, _, em, hz, h2⟩
        · have h1 : (if xs.length ≤ sizeLine then (pure (OV.d (.tuple xs)) : M OV) else fun _ => none) e1 = some (.ok a e') := h1
          rw [if_neg hz] at h1
          cases h1
  · rintro ⟨xs, e1, h1, hz, h2⟩
    exact ⟨_, _, mTup_at h1 hz, h2⟩
@[simp] theorem Tr_lst {m : M (List PyData)} {Q : OV → Env → Prop} : Tr (mLst m) e Q ↔ Tr m e fun xs e1 => xs.length ≤ sizeLine ∧ Q (.lst xs) e1 := by
  constructor
  · rintro ⟨a, e', h1, h2⟩
    have h1 : Out.andThen (m e) _ = _ := h1
    cases em : m e with
    | none => rw [em] at h1; cases h1
    | some o =>
      rw [em] at h1
      cases o with
      | exc x e1 => cases h1
      | ok xs e1 =>
        by_cases hz : xs.length ≤ sizeLine
        · have := mLst_at em hz
          have h3 : mLst m e = some (.ok a e') := by
            show Out.andThen (m e) _ = _
            rw [em]
            exact h1
          rw [this] at h3
          cases h3
          exact ⟨xs, _, em, hz, h2⟩
        · have h1 : (if xs.length ≤ sizeLine then (pure (OV.lst xs) : M OV) else fun _ => none) e1 = some (.ok a e') := h1
          rw [if_neg hz] at h1
          cases h1
  · rintro ⟨xs, e1, h1, hz, h2⟩
    exact ⟨_, _, mLst_at h1 hz, h2⟩
@[simp] theorem Tr_not {m : M Bool} {Q : Bool → Env → Prop} : Tr (mNot m) e Q ↔ Tr m e fun b e1 => Q (!b) e1 := by
  show Tr (m >>= fun b => pure (!b)) e Q ↔ _
  simp only [Tr_bind, Tr_pure]
@[simp] theorem Tr_and {a b : M Bool} {Q : Bool → Env → Prop} : Tr (mAnd a b) e Q ↔ Tr a e fun x e1 => if x = true then Tr b e1 Q else Q false e1 := by
  show Tr (a >>= fun x => if x then b else pure false) e Q ↔ _
  rw [Tr_bind]
  refine ⟨fun h => h.mono fun x e1 h => ?_, fun h => h.mono fun x e1 h => ?_⟩ <;> cases x <;> simpa using h
@[simp] theorem Tr_or {a b : M Bool} {Q : Bool → Env → Prop} : Tr (mOr a b) e Q ↔ Tr a e fun x e1 => if x = true then Q true e1 else Tr b e1 Q := by
  show Tr (a >>= fun x => if x then pure true else b) e Q ↔ _
  rw [Tr_bind]
  refine ⟨fun h => h.mono fun x e1 h => ?_, fun h => h.mono fun x e1 h => ?_⟩ <;> cases x <;> simpa using h
@[simp] theorem Tr_asB {m : M OV} {Q : Bool → Env → Prop} : Tr (asB m) e Q ↔ Tr m e fun v e1 => ∃ b, v = .d (.bool b) ∧ Q b e1 := by
  constructor
  · rintro ⟨a, e', h1, h2⟩
    rw [asB_at] at h1
    cases em : m e with
    | none => rw [em] at h1; cases h1
    | some o =>
      rw [em] at h1
      cases o with
      | exc x e1 => cases h1
      | ok v e1 =>
        have h1 : boolOf v e1 = _ := h1
        unfold boolOf at h1
        split at h1
        · cases h1
          exact ⟨_, _, em, _, rfl, h2⟩
        · cases h1
  · rintro ⟨v, e1, h1, b, rfl, h2⟩
    exact ⟨b, e1, by rw [asB_at, h1]; rfl, h2⟩
@[simp] theorem Tr_andV {a b : M OV} {Q : OV → Env → Prop} : Tr (mAndV a b) e Q ↔ Tr (asB a) e fun x e1 => if x = true then Tr b e1 Q else Q (.d (.bool false)) e1 := by
  show Tr (asB a >>= fun x => if x then b else pure (.d (.bool false))) e Q ↔ _
  rw [Tr_bind]
  refine ⟨fun h => h.mono fun x e1 h => ?_, fun h => h.mono fun x e1 h => ?_⟩ <;> cases x <;> simpa using h
@[simp] theorem Tr_orV {a b : M OV} {Q : OV → Env → Prop} : Tr (mOrV a b) e Q ↔ Tr (asB a) e fun x e1 => if x = true then Q (.d (.bool true)) e1 else Tr b e1 Q := by
  show Tr (asB a >>= fun x => if x then pure (.d (.bool true)) else b) e Q ↔ _
  rw [Tr_bind]
  refine ⟨fun h => h.mono fun x e1 h => ?_, fun h => h.mono fun x e1 h => ?_⟩ <;> cases x <;> simpa using h
@[simp] theorem Tr_notV {a : M OV} {Q : OV → Env → Prop} : Tr (mNotV a) e Q ↔ Tr (asB a) e fun x e1 => Q (.d (.bool (!x))) e1 := by
  show Tr (asB a >>= fun x => pure (.d (.bool (!x)))) e Q ↔ _
  rw [Tr_bind]
  refine ⟨fun h => h.mono fun x e1 h => by simpa using h, fun h => h.mono fun x e1 h => by simpa using h⟩
@[simp] theorem Tr_tru {m : M OV} {Q : Bool → Env → Prop} : Tr (mTru m) e Q ↔ Tr m e fun v e1 => ∃ b, ovTru v = some b ∧ Q b e1 := by
  show Tr (m >>= fun v => M.opt (ovTru v)) e Q ↔ _
  simp only [Tr_bind, Tr_opt]
@[simp] theorem Tr_if {t : M Bool} {a b : M α} {Q : α → Env → Prop} : Tr (mIf t a b) e Q ↔ Tr t e fun x e1 => if x = true then Tr a e1 Q else Tr b e1 Q := by
  show Tr (t >>= fun x => if x then a else b) e Q ↔ _
  rw [Tr_bind]
  refine ⟨fun h => h.mono fun x e1 h => ?_, fun h => h.mono fun x e1 h => ?_⟩ <;> cases x <;> simpa using h
@[simp] theorem Tr_ret {m : M OV} {Q : Fl → Env → Prop} : Tr (mRet m) e Q ↔ Tr m e fun v e1 => Q (.rt v) e1 := by
  show Tr (m >>= fun v => pure (.rt v)) e Q ↔ _
  simp only [Tr_bind, Tr_pure]
@[simp] theorem Tr_drop {m : M OV} {Q : Fl → Env → Prop} : Tr (mDrop m) e Q ↔ Tr m e fun v e1 => Q .nx e1 := by
  show Tr (m >>= fun v => pure .nx) e Q ↔ _
  simp only [Tr_bind, Tr_pure]
@[simp] theorem Tr_set {i : Nat} {m : M OV} {Q : Fl → Env → Prop} : Tr (mSet i m) e Q ↔ Tr m e fun v e1 => Q .nx (e1.set i (some v)) := by
  show Tr (m >>= fun v => fun e => some (.ok .nx (e.set i (some v)))) e Q ↔ _
  rw [Tr_bind]
  refine ⟨fun h => h.mono fun x e1 h => ?_, fun h => h.mono fun x e1 h => ?_⟩
  · obtain ⟨a, e2, h1, h2⟩ := h
    cases h1
    exact h2
  · exact ⟨_, _, rfl, h⟩
/-- what comes behind -/
def fQ (Q : Fl → Env → Prop) (b : M Fl) : Fl → Env → Prop
  | .nx, e => Tr b e Q
  | f, e => Q f e
@[simp] theorem fQ_nx {Q : Fl → Env → Prop} {b : M Fl} : fQ Q b .nx e = Tr b e Q := rfl
@[simp] theorem fQ_rt {Q : Fl → Env → Prop} {b : M Fl} {r : OV} : fQ Q b (.rt r) e = Q (.rt r) e := rfl
@[simp] theorem fQ_bk {Q : Fl → Env → Prop} {b : M Fl} : fQ Q b .bk e = Q .bk e := rfl
@[simp] theorem fQ_ct {Q : Fl → Env → Prop} {b : M Fl} : fQ Q b .ct e = Q .ct e := rfl
@[simp] theorem Tr_then {a b : M Fl} {Q : Fl → Env → Prop} : Tr (mThen a b) e Q ↔ Tr a e (fQ Q b) := by
  show Tr (a >>= fun f => match f with
    | .nx => b
    | f => pure f) e Q ↔ _
  rw [Tr_bind]
  refine ⟨fun h => h.mono fun x e1 h => ?_, fun h => h.mono fun x e1 h => ?_⟩ <;> cases x <;> simpa using h
@[simp] theorem Tr_par {i j : Nat} {a b : M OV} {Q : Fl → Env → Prop} : Tr (mPar i j a b) e Q ↔ Tr a e fun x e1 => Tr b e1 fun y e2 => Q .nx ((e2.set i (some x)).set j (some y)) := by
  show Tr (a >>= fun x => b >>= fun y => fun e => some (.ok .nx ((e.set i (some x)).set j (some y)))) e Q ↔ _
  rw [Tr_bind]
  refine ⟨fun h => h.mono fun x e1 h => ?_, fun h => h.mono fun x e1 h => ?_⟩
  · rw [Tr_bind] at h
    refine h.mono fun y e2 h => ?_
    obtain ⟨a, e2, h1, h2⟩ := h
    cases h1
    exact h2
  · rw [Tr_bind]
    refine h.mono fun y e2 h => ?_
    exact ⟨_, _, rfl, h⟩
@[simp] theorem Tr_asg {g : PyData → M Unit} {m : M PyData} {Q : Fl → Env → Prop} : Tr (mAsg g m) e Q ↔ Tr m e fun x e1 => Tr (g x) e1 fun _ e2 => Q .nx e2 := by
  show Tr (m >>= fun x => g x >>= fun _ => pure .nx) e Q ↔ _
  simp only [Tr_bind, Tr_pure]
@[simp] theorem Tr_gN {i : Nat} {x : PyData} {Q : Unit → Env → Prop} : Tr (gN i x) e Q ↔ Q () (e.set i (some (.d x))) := Tr_eq rfl
@[simp] theorem Tr_gsNil {Q : Unit → Env → Prop} : Tr (gsNil []) e Q ↔ Q () e := Tr_eq rfl
@[simp] theorem Tr_gsCons {g : PyData → M Unit} {r : List PyData → M Unit} {x : PyData} {xs : List PyData} {Q : Unit → Env → Prop} : Tr (gsCons g r (x :: xs)) e Q ↔ Tr (g x) e fun _ e1 => Tr (r xs) e1 Q := by
  show Tr (g x >>= fun _ => r xs) e Q ↔ _
  simp only [Tr_bind]
@[simp] theorem Tr_gT2 {g : List PyData → M Unit} {x y : PyData} {Q : Unit → Env → Prop} : Tr (gT 2 g (.tuple [x, y])) e Q ↔ Tr (g [x, y]) e Q := Iff.rfl
@[simp] theorem Tr_gT3 {g : List PyData → M Unit} {x y z : PyData} {Q : Unit → Env → Prop} : Tr (gT 3 g (.tuple [x, y, z])) e Q ↔ Tr (g [x, y, z]) e Q := Iff.rfl
@[simp] theorem Tr_peek {i : Nat} {f : OV → Option α} {Q : α → Env → Prop} : Tr (mPeek i f) e Q ↔ ∃ v, e[i]? = some (some v) ∧ ∃ a, f v = some a ∧ Q a e := by
  constructor
  · rintro ⟨a, e', h1, h2⟩
    rw [mPeek_app] at h1
    split at h1
    · rename_i v hv
      cases hf : f v with
      | none => rw [hf] at h1; cases h1
      | some b =>
        rw [hf] at h1
        cases h1
        exact ⟨v, hv, _, hf, h2⟩
    · cases h1
  · rintro ⟨v, h1, a, h2, h3⟩
    exact ⟨a, e, mPeek_at h1 h2, h3⟩
@[simp] theorem Tr_has {i : Nat} {p : OV → Bool} {Q : Unit → Env → Prop} : Tr (mHas i p) e Q ↔ ∃ v, e[i]? = some (some v) ∧ p v = true ∧ Q () e := by
  constructor
  · rintro ⟨a, e', h1, h2⟩
    obtain ⟨v, h3, h4, h5⟩ := has_at (f := fun _ => (pure () : M Unit)) (i := i) (p := p) (env := e) (o := .ok () e) (by
      show Out.andThen (mHas i p e) _ = _
      rw [h1]
      unfold mHas at h1
      split at h1
      · split at h1
        · cases h1; rfl
        · cases h1
      · cases h1)
    refine ⟨v, h3, h4, ?_⟩
    rw [mHas_at h3 h4] at h1
    cases h1
    exact h2
  · rintro ⟨v, h1, h2, h3⟩
    exact ⟨(), e, mHas_at h1 h2, h3⟩
@[simp] theorem ex_pair {A B : Type} {x : A} {y : B} {R : A → B → Prop} : (∃ a b, (x = a ∧ y = b) ∧ R a b) ↔ R x y := ⟨fun ⟨a, b, ⟨h1, h2⟩, h⟩ => by subst h1 h2; exact h, fun h => ⟨x, y, ⟨rfl, rfl⟩, h⟩⟩
@[simp] theorem Tr_mut {i : Nat} {f : OV → Option (OV × α)} {Q : α → Env → Prop} : Tr (mMut i f) e Q ↔ ∃ v, e[i]? = some (some v) ∧ ∃ w, f v = some w ∧ Q w.2 (e.set i (some w.1)) := by
  constructor
  · rintro ⟨a, e', h1, h2⟩
    rw [mMut_app] at h1
    split at h1
    · rename_i v hv
      cases hf : f v with
      | none => rw [hf] at h1; cases h1
      | some b =>
        rw [hf] at h1
        cases h1
        exact ⟨v, hv, _, hf, h2⟩
    · cases h1
  · rintro ⟨v, h1, ⟨v', a⟩, h2, h3⟩
    exact ⟨a, _, mMut_at h1 h2, h3⟩
@[simp] theorem Tr_append {i : Nat} {mk : M PyData} {Q : OV → Env → Prop} : Tr (mAppend i mk) e Q ↔ Tr (mHas i isLst) e fun _ e1 => Tr mk e1 fun y e2 => Tr (mMut i (gApp y)) e2 Q := by
  show Tr (mHas i isLst >>= fun _ => mk >>= fun y => mMut i (gApp y)) e Q ↔ _
  simp only [Tr_bind]
@[simp] theorem Tr_extend {i : Nat} {mk : M PyData} {Q : OV → Env → Prop} : Tr (mExtend i mk) e Q ↔ Tr (mHas i isLst) e fun _ e1 => Tr mk e1 fun y e2 => Tr (mMut i (gExt y)) e2 Q := by
  show Tr (mHas i isLst >>= fun _ => mk >>= fun y => mMut i (gExt y)) e Q ↔ _
  simp only [Tr_bind]
@[simp] theorem Tr_ixL {i : Nat} {mk : M PyData} {Q : OV → Env → Prop} : Tr (mIxL i mk) e Q ↔ Tr (mHas i isLst) e fun _ e1 => Tr mk e1 fun y e2 => Tr (mPeek i (gIxL y)) e2 Q := by
  show Tr (mHas i isLst >>= fun _ => mk >>= fun y => mPeek i (gIxL y)) e Q ↔ _
  simp only [Tr_bind]
@[simp] theorem Tr_ixD {i : Nat} {mk : M PyData} {Q : OV → Env → Prop} : Tr (mIxD i mk) e Q ↔ Tr (mHas i isDct) e fun _ e1 => Tr mk e1 fun y e2 => Tr (mPeek i (gIxD y)) e2 Q := by
  show Tr (mHas i isDct >>= fun _ => mk >>= fun y => mPeek i (gIxD y)) e Q ↔ _
  simp only [Tr_bind]
@[simp] theorem Tr_inD {neg : Bool} {i : Nat} {mk : M PyData} {Q : OV → Env → Prop} : Tr (mInD neg i mk) e Q ↔ Tr (mHas i isDct) e fun _ e1 => Tr mk e1 fun y e2 => Tr (mPeek i (gInD neg y)) e2 Q := by
  show Tr (mHas i isDct >>= fun _ => mk >>= fun y => mPeek i (gInD neg y)) e Q ↔ _
  simp only [Tr_bind]
@[simp] theorem Tr_putD {i : Nat} {mk mv : M PyData} {Q : Fl → Env → Prop} : Tr (mPutD i mk mv) e Q ↔ Tr mv e fun x e1 => Tr (mHas i isDct) e1 fun _ e1 => Tr mk e1 fun y e2 => Tr (mMut i (gPutD y x)) e2 fun _ e3 => Q .nx e3 := by
  show Tr (mv >>= fun x => mHas i isDct >>= fun _ => mk >>= fun y => mMut i (gPutD y x) >>= fun _ => pure .nx) e Q ↔ _
  simp only [Tr_bind, Tr_pure]
@[simp] theorem Tr_setL {i : Nat} {mk mv : M PyData} {Q : Fl → Env → Prop} : Tr (mSetL i mk mv) e Q ↔ Tr mv e fun x e1 => Tr (mHas i isLst) e1 fun _ e1 => Tr mk e1 fun y e2 => Tr (mMut i (gSetL y x)) e2 fun _ e3 => Q .nx e3 := by
  show Tr (mv >>= fun x => mHas i isLst >>= fun _ => mk >>= fun y => mMut i (gSetL y x) >>= fun _ => pure .nx) e Q ↔ _
  simp only [Tr_bind, Tr_pure]
@[simp] theorem Tr_isI {T : String} {m : M PyData} {Q : OV → Env → Prop} : Tr (mIsI T m) e Q ↔ Tr m e fun x e1 => ∃ b, tyIs x T = some b ∧ Q (.d (.bool b)) e1 := by
  unfold Tr
  simp only [mIsI_at]
  show Tr (m >>= fun x => M.opt ((tyIs x T).map fun b => .d (.bool b))) e Q ↔ _
  simp only [Tr_bind, Tr_opt]
  refine ⟨fun h => h.mono fun x e1 h => ?_, fun h => Tr.mono h fun x e1 h => ?_⟩
  · obtain ⟨a, h1, h2⟩ := h
    obtain ⟨b, h3, rfl⟩ := Option.map_eq_some_iff.mp h1
    exact ⟨b, h3, h2⟩
  · obtain ⟨b, h1, h2⟩ := h
    exact ⟨_, by rw [h1]; rfl, h2⟩
@[simp] theorem Tr_call1 {m : M PyData} {np N : Nat} {ow : List Nat} {mb : M Fl} {Q : OV → Env → Prop} : Tr (mCall (.d m :: []) (fnM np N ow mb)) e Q ↔ Tr m e fun x e1 => Tr (callK (fnM np N ow mb) [x]) e1 Q := by
  show (∃ a e', mCall _ _ e = _ ∧ _) ↔ _
  simp only [mCall1_at (mf := fnM np N ow mb) fnM_len]
  exact Tr_bind
@[simp] theorem Tr_call2 {m m2 : M PyData} {np N : Nat} {ow : List Nat} {mb : M Fl} {Q : OV → Env → Prop} : Tr (mCall (.d m :: .d m2 :: []) (fnM np N ow mb)) e Q ↔ Tr m e fun x e1 => Tr m2 e1 fun y e2 => Tr (callK (fnM np N ow mb) [x, y]) e2 Q := by
  show (∃ a e', mCall _ _ e = _ ∧ _) ↔ _
  simp only [mCall2_at (mf := fnM np N ow mb) fnM_len]
  refine Tr_bind.trans ?_
  simp only [Tr_bind]
@[simp] theorem Tr_call3 {m m2 m3 : M PyData} {np N : Nat} {ow : List Nat} {mb : M Fl} {Q : OV → Env → Prop} : Tr (mCall (.d m :: .d m2 :: .d m3 :: []) (fnM np N ow mb)) e Q ↔ Tr m e fun x e1 => Tr m2 e1 fun y e2 => Tr m3 e2 fun z e3 => Tr (callK (fnM np N ow mb) [x, y, z]) e3 Q := by
  show (∃ a e', mCall _ _ e = _ ∧ _) ↔ _
  simp only [mCall3_at (mf := fnM np N ow mb) fnM_len]
  refine Tr_bind.trans ?_
  simp only [Tr_bind]
theorem Fd.tr {mf : M OV} {xs : List PyData} {r : OV} (F : Fd mf xs r) {Q : OV → Env → Prop} : Tr (callK mf xs) e Q ↔ Q r e := Tr_eq (F.call e)
/-- a def's answer -/
theorem Fd.by_ {np N : Nat} {mb : M Fl} {xs : List PyData} {r : OV} (h : Tr mb (dEnv xs ++ List.replicate (N - np) none) fun f _ => f = .rt r ∨ (f = .nx ∧ r = .d .none)) : Fd (fnM np N [] mb) xs r := by
  obtain ⟨f, e1, h1, h2 | ⟨h2, h3⟩⟩ := h
  · subst h2
    exact Fd.rt ⟨e1, h1⟩
  · subst h2 h3
    exact Fd.nx ⟨e1, h1⟩
/-! ### loops -/
theorem Tr.forM {g : PyData → M Unit} {b : M Fl} {Q : Fl → Env → Prop} {ys : List PyData} (I : Nat → Env → Prop) (hb : ∀ k x e, ys[k]? = some x → I k e → Tr (g x) e fun _ e1 => Tr b e1 fun f e2 => match f with
    | .nx => I (k + 1) e2
    | .ct => I (k + 1) e2
    | .bk => Q .nx e2
    | .rt r => Q (.rt r) e2) (hz : ∀ e, I ys.length e → Q .nx e) : ∀ {xs : List PyData} {k : Nat} {e : Env}, ys.drop k = xs → k ≤ ys.length → I k e → Tr (TL.forM g b xs) e Q
  | [], k, e, hd, hk, h => by
    have : k = ys.length := by
      have := congrArg List.length hd
      rw [List.length_drop, List.length_nil] at this
      omega
    subst this
    exact ⟨.nx, e, rfl, hz e h⟩
  | x :: xs, k, e, hd, hk, h => by
    have hx : ys[k]? = some x := by
      have := congrArg (·[0]?) hd
      simpa [List.getElem?_drop] using this
    have hd2 : ys.drop (k + 1) = xs := by
      have := congrArg (List.drop 1) hd
      simpa [List.drop_drop, Nat.add_comm] using this
    have hlt : k < ys.length := (List.getElem?_eq_some_iff.mp hx).1
    show Tr (g x >>= fun _ => b >>= fun f => match f with
      | .nx => TL.forM g b xs
      | .ct => TL.forM g b xs
      | .bk => pure .nx
      | .rt r => pure (.rt r)) e Q
    rw [Tr_bind]
    refine (hb k x e hx h).mono fun _ e1 h1 => ?_
    rw [Tr_bind]
    refine h1.mono fun f e2 h2 => ?_
    cases f with
    | nx => exact Tr.forM I hb hz hd2 hlt h2
    | ct => exact Tr.forM I hb hz hd2 hlt h2
    | bk => exact ⟨_, _, rfl, h2⟩
    | rt r => exact ⟨_, _, rfl, h2⟩
theorem Tr.for_ {mi : M (List PyData)} {g : PyData → M Unit} {b : M Fl} {Q : Fl → Env → Prop} {xs : List PyData} (I : Nat → Env → Prop) (hi : Tr mi e fun ys e0 => ys = xs ∧ I 0 e0)
    (hb : ∀ k x e, xs[k]? = some x → I k e → Tr (g x) e fun _ e1 => Tr b e1 fun f e2 => match f with
    | .nx => I (k + 1) e2
    | .ct => I (k + 1) e2
    | .bk => Q .nx e2
    | .rt r => Q (.rt r) e2) (hz : ∀ e, I xs.length e → Q .nx e) : Tr (mFor mi g b) e Q := by
  show Tr (mi >>= TL.forM g b) e Q
  rw [Tr_bind]
  refine hi.mono fun ys e0 ⟨h1, h2⟩ => ?_
  subst h1
  exact Tr.forM I hb hz (k := 0) rfl (Nat.zero_le _) h2
def whK (t : M Bool) (b : M Fl) (k : Nat) : Fl → M Fl
  | .nx => TL.whileM t b k
  | .ct => TL.whileM t b k
  | .bk => pure .nx
  | .rt r => pure (.rt r)
theorem whK_bind {t : M Bool} {b : M Fl} {Q : Fl → Env → Prop} {k : Nat} : Tr (TL.whileM t b (k + 1)) e Q ↔ Tr t e fun c e1 => Tr (if c = true then b >>= whK t b k else pure .nx) e1 Q := by
  have h : TL.whileM t b (k + 1) = (t >>= fun c => if c = true then b >>= whK t b k else pure .nx) := rfl
  rw [h, Tr_bind]
theorem Tr.whileM {t : M Bool} {b : M Fl} {Q : Fl → Env → Prop} (I : Nat → Env → Prop) (hb : ∀ n e, I n e → Tr t e fun c e1 => if c = true then Tr b e1 fun f e2 => match f with
    | .nx => ∃ m, m < n ∧ I m e2
    | .ct => ∃ m, m < n ∧ I m e2
    | .bk => Q .nx e2
    | .rt r => Q (.rt r) e2 else Q .nx e1) : ∀ {n : Nat} {e : Env}, I n e → ∃ k, Tr (TL.whileM t b k) e Q := by
  intro n
  induction n using Nat.strongRecOn with
  | ind n ih =>
    intro e h
    obtain ⟨c, e1, h1, h2⟩ := hb n e h
    have key : ∀ k, Tr (TL.whileM t b (k + 1)) e Q ↔ Tr (if c = true then b >>= whK t b k else pure .nx) e1 Q := fun k => whK_bind.trans (Tr_eq h1)
    cases c with
    | false =>
      refine ⟨1, (key 0).mpr ?_⟩
      rw [if_neg Bool.false_ne_true] at h2 ⊢
      exact ⟨_, _, rfl, h2⟩
    | true =>
      rw [if_pos rfl] at h2
      obtain ⟨f, e2, h3, h4⟩ := h2
      cases f with
      | nx =>
        obtain ⟨m, hm, hi⟩ := h4
        obtain ⟨k, h5⟩ := ih m hm hi
        refine ⟨k + 1, (key k).mpr ?_⟩
        rw [if_pos rfl, Tr_bind]
        exact ⟨_, e2, h3, h5⟩
      | ct =>
        obtain ⟨m, hm, hi⟩ := h4
        obtain ⟨k, h5⟩ := ih m hm hi
        refine ⟨k + 1, (key k).mpr ?_⟩
        rw [if_pos rfl, Tr_bind]
        exact ⟨_, e2, h3, h5⟩
      | bk =>
        refine ⟨1, (key 0).mpr ?_⟩
        rw [if_pos rfl, Tr_bind]
        exact ⟨.bk, e2, h3, _, _, rfl, h4⟩
      | rt r =>
        refine ⟨1, (key 0).mpr ?_⟩
        rw [if_pos rfl, Tr_bind]
        exact ⟨.rt r, e2, h3, _, _, rfl, h4⟩
theorem Tr.while_ {t : M Bool} {b : M Fl} {Q : Fl → Env → Prop} {n : Nat} (I : Nat → Env → Prop) (h : I n e) (hb : ∀ n e, I n e → Tr t e fun c e1 => if c = true then Tr b e1 fun f e2 => match f with
    | .nx => ∃ m, m < n ∧ I m e2
    | .ct => ∃ m, m < n ∧ I m e2
    | .bk => Q .nx e2
    | .rt r => Q (.rt r) e2 else Q .nx e1) : Tr (mWhile t b) e Q := by
  obtain ⟨k, f, e', h1, h2⟩ := Tr.whileM I hb h
  exact ⟨f, e', mWhile_of h1, h2⟩
/-! ### comprehensions -/
/-- one that leaves the slots -/
theorem Tr.comp {vs : List Nat} {mi : M (List PyData)} {g : PyData → M Unit} {t : M Bool} {elt : M PyData} {Q : OV → Env → Prop} {xs : List PyData} (f : PyData → Option PyData) (hi : Tr mi e fun ys e0 => ys = xs ∧ e0 = e) (hf : vs.all (flatAt e) = true) (hl : xs.length ≤ 1000)
    (hb : ∀ x ∈ xs, Tr (g x) (wipeE e vs) fun _ e1 => Tr t e1 fun c e2 => if c = true then Tr elt e2 fun y e3 => f x = some y ∧ wipeE e3 vs = wipeE e vs else f x = none ∧ wipeE e2 vs = wipeE e vs) (q : Q (.lst (xs.filterMap f)) e) : Tr (mComp vs mi g t elt) e Q := by
  obtain ⟨ys, e0, h1, rfl, rfl⟩ := hi
  refine ⟨_, _, mComp_run f h1 hf (fits hl) fun x hx => ?_, q⟩
  obtain ⟨u, e1, h2, c, e2, h3, h4⟩ := hb x hx
  cases c with
  | true =>
    rw [if_pos rfl] at h4
    obtain ⟨y, e3, h5, h6, h7⟩ := h4
    refine ⟨e3, ?_, h7⟩
    rw [h6]
    unfold compT
    rw [bind_at', h2, aT_ok, bind_at', h3, aT_ok, if_pos rfl, bind_at', h5]
    rfl
  | false =>
    rw [if_neg Bool.false_ne_true] at h4
    refine ⟨e2, ?_, h4.2⟩
    rw [h4.1]
    unfold compT
    rw [bind_at', h2, aT_ok, bind_at', h3, aT_ok, if_neg Bool.false_ne_true]
    rfl
/-- all of them -/
theorem Tr.all {vs : List Nat} {mi : M (List PyData)} {g : PyData → M Unit} {elt : M OV} {Q : OV → Env → Prop} {xs : List PyData} (p : PyData → Bool) (hi : Tr mi e fun ys e0 => ys = xs ∧ e0 = e) (hf : vs.all (flatAt e) = true)
    (hb : ∀ x ∈ xs, Tr (g x) (wipeE e vs) fun _ e1 => Tr elt e1 fun v e2 => v = .d (.bool (p x)) ∧ wipeE e2 vs = wipeE e vs) (q : Q (.d (.bool (xs.all p))) e) : Tr (mAll vs mi g elt) e Q := by
  obtain ⟨ys, e0, h1, rfl, rfl⟩ := hi
  refine ⟨_, _, mAll_run p h1 hf fun x hx => ?_, q⟩
  obtain ⟨u, e1, h2, v, e2, h3, rfl, h4⟩ := hb x hx
  refine ⟨e2, ?_, h4⟩
  unfold allT
  rw [bind_at', h2, aT_ok, asB_at, h3]
  rfl
@[simp] theorem Tr_items {m : M PyData} {Q : List PyData → Env → Prop} : Tr (mItems m) e Q ↔ Tr m e fun x e1 => ∃ xs, (x = .list xs ∨ x = .tuple xs) ∧ Q xs e1 := by
  constructor
  · rintro ⟨a, e', h1, h2⟩
    have h1 : Out.andThen (m e) _ = _ := h1
    cases em : m e with
    | none => rw [em] at h1; cases h1
    | some o =>
      rw [em] at h1
      cases o with
      | exc x e1 => cases h1
      | ok x e1 =>
        refine ⟨x, e1, em, ?_⟩
        cases x with
        | list xs =>
          have h1 : (some (Out.ok xs e1) : Option (Out (List PyData))) = some (.ok a e') := h1
          cases h1
          exact ⟨_, .inl rfl, h2⟩
        | tuple xs =>
          have h1 : (some (Out.ok xs e1) : Option (Out (List PyData))) = some (.ok a e') := h1
          cases h1
          exact ⟨_, .inr rfl, h2⟩
        | _ => cases h1
  · rintro ⟨x, e1, h1, xs, rfl | rfl, h2⟩
    · exact ⟨_, _, mItems_l h1, h2⟩
    · exact ⟨_, _, mItems_t h1, h2⟩
theorem Tr_range1 {m : M PyData} {Q : List PyData → Env → Prop} {n : Int} (h0 : 0 ≤ n) (h1 : n ≤ 1000000) (h : Tr m e fun x e1 => x = .int n ∧ Q (rngD 0 n.toNat) e1) : Tr (mRange1 m) e Q := by
  obtain ⟨x, e1, h2, rfl, h3⟩ := h
  exact ⟨_, _, mRange1_at h2 (by omega) (by omega), h3⟩
end
end TL
set_option Elab.async false
set_option linter.all false
set_option maxRecDepth 100000
namespace TL
open PySem PySem.Spec PyProof.Rows L2
section
variable {α β : Type} {e : Env}
theorem Tr_fldSet {i : Nat} {c f : Str} {m : M PyData} {Q : Fl → Env → Prop} : Tr (mFldSet i c f m) e Q ↔ Tr m e fun x e1 => ∃ v, e1[i]? = some (some v) ∧ ∃ v', putIns c f x v = some v' ∧ Q .nx (e1.set i (some v')) := by
  show Tr (m >>= fun x => mMut i (fun ov => (putIns c f x ov).map fun o => (o, ())) >>= fun _ => pure .nx) e Q ↔ _
  simp only [Tr_bind, Tr_mut, Tr_pure]
  refine ⟨fun h => h.mono fun x e1 ⟨v, h1, ⟨v', a⟩, h2, h3⟩ => ?_, fun h => h.mono fun x e1 ⟨v, h1, v', h2, h3⟩ => ?_⟩
  · obtain ⟨w, h4, h5⟩ := Option.map_eq_some_iff.mp h2
    cases h5
    exact ⟨v, h1, _, h4, h3⟩
  · exact ⟨v, h1, (v', ()), by rw [h2]; rfl, h3⟩
theorem Tr_fld {i : Nat} {c f : Str} {Q : PyData → Env → Prop} : Tr (mFld i c f) e Q ↔ ∃ v, e[i]? = some (some v) ∧ ∃ x, fldOf c f v = some x ∧ Q x e := by
  unfold Tr mFld
  constructor
  · rintro ⟨a, e', h1, h2⟩
    split at h1
    · rename_i ov hv
      split at h1
      · rename_i x hx
        cases h1
        exact ⟨ov, hv, _, hx, h2⟩
      · cases h1
    · cases h1
  · rintro ⟨v, h1, x, h2, h3⟩
    refine ⟨x, e, ?_, h3⟩
    rw [h1]
    show (match fldOf c f v with | some x => some (Out.ok x e) | none => none) = _
    rw [h2]
theorem Tr.fn {np N : Nat} {ow : List Nat} {mb : M Fl} {Q : OV → Env → Prop} (h : Tr mb (e ++ List.replicate (N - np) none) fun f e2 => match f with
    | .rt r => Q r (endE ow 0 e e2)
    | .nx => Q (.d .none) (endE ow 0 e e2)
    | _ => False) : Tr (fnM np N ow mb) e Q := by
  obtain ⟨f, e2, h1, h2⟩ := h
  cases f with
  | nx => exact ⟨_, _, fnM_nx h1, h2⟩
  | rt r => exact ⟨_, _, fnM_rt h1, h2⟩
  | bk => exact h2.elim
  | ct => exact h2.elim
theorem Tr.end1 {np N : Nat} {ow : List Nat} {mb : M Fl} {r : OV} {e' : Env} (h : Tr mb (e ++ List.replicate (N - np) none) fun f e2 => (f = .rt r ∨ (f = .nx ∧ r = .d .none)) ∧ endE ow 0 e e2 = e') : fnM np N ow mb e = some (.ok r e') := by
  obtain ⟨f, e2, h1, h2 | ⟨h2, h3⟩, h4⟩ := h
  · subst h2
    rw [fnM_rt h1, h4]
  · subst h2 h3
    rw [fnM_nx h1, h4]
/-! ### dicts made of doors -/
theorem dcM_run {vs : List Nat} {g : PyData → M Unit} {t : M Bool} {mk mv : M PyData} {env : Env} (kf : PyData → NestedKey × PyData) : ∀ {xs : List PyData} {acc : List (NestedKey × PyData)} {e : Env}, acc.length + xs.length ≤ 1000 →
    (∀ x ∈ xs, Tr (g x) (wipeE env vs) fun _ e1 => Tr t e1 fun c e2 => c = true ∧ Tr mk e2 fun y e3 => keyTop y = some (kf x).1 ∧ Tr mv e3 fun z e4 => z = (kf x).2 ∧ wipeE e4 vs = wipeE env vs) → wipeE e vs = wipeE env vs →
    ∃ e', dcM vs g t mk mv xs acc e = some (.ok (xs.foldl (fun a x => putN a (kf x).1 (kf x).2) acc) e') ∧ wipeE e' vs = wipeE env vs
  | [], acc, e, _, _, h => ⟨e, rfl, h⟩
  | x :: xs, acc, e, hl, hb, h => by
    obtain ⟨u, e1, h1, c, e2, h2, rfl, y, e3, h3, h4, z, e4, h5, rfl, h6⟩ := hb x List.mem_cons_self
    have hlen : (putN acc (kf x).1 (kf x).2).length ≤ acc.length + 1 := by
      unfold putN
      split
      · rw [List.length_map]; omega
      · rw [List.length_append]; simp
    rw [List.length_cons] at hl
    obtain ⟨e', h7, h8⟩ := dcM_run kf (xs := xs) (acc := putN acc (kf x).1 (kf x).2) (e := e4) (by omega) (fun y hy => hb y (List.mem_cons_of_mem _ hy)) h6
    refine ⟨e', ?_, h8⟩
    show (g x >>= fun _ => t >>= fun c => if c then mk >>= fun y => mv >>= fun z => (match keyTop y with
      | some k => if acc.length < sizeLine then fun env => dcM vs g t mk mv xs (putN acc k z) env else fun _ => none
      | none => fun _ => none) else fun env => dcM vs g t mk mv xs acc env) (wipeE e vs) = _
    rw [h, bind_at', h1, aT_ok, bind_at', h2, aT_ok, if_pos rfl, bind_at', h3, aT_ok, bind_at', h5, aT_ok, h4]
    show (if acc.length < sizeLine then fun env => dcM vs g t mk mv xs (putN acc (kf x).1 (kf x).2) env else fun _ => none) e4 = _
    rw [if_pos (by rw [sizeLine_eq]; omega)]
    exact h7
theorem Tr.dcomp {vs : List Nat} {mi : M (List PyData)} {g : PyData → M Unit} {t : M Bool} {mk mv : M PyData} {Q : OV → Env → Prop} {xs : List PyData} (kf : PyData → NestedKey × PyData) (hi : Tr mi e fun ys e0 => ys = xs ∧ e0 = e) (hf : vs.all (flatAt e) = true) (hl : xs.length ≤ 1000)
    (hb : ∀ x ∈ xs, Tr (g x) (wipeE e vs) fun _ e1 => Tr t e1 fun c e2 => c = true ∧ Tr mk e2 fun y e3 => keyTop y = some (kf x).1 ∧ Tr mv e3 fun z e4 => z = (kf x).2 ∧ wipeE e4 vs = wipeE e vs) (q : Q (.ext (.dn (xs.foldl (fun a x => putN a (kf x).1 (kf x).2) []))) e) : Tr (mDComp vs mi g t mk mv) e Q := by
  obtain ⟨ys, e0, h1, rfl, rfl⟩ := hi
  obtain ⟨e', h2, h3⟩ := dcM_run kf (acc := []) (by simpa using hl) hb rfl
  refine ⟨_, _, ?_, q⟩
  show Out.andThen (mi e0) (fun xs => fun env1 => if vs.all (flatAt env1) then (match dcM vs g t mk mv xs [] env1 with
    | some (Out.ok acc env2) => some (Out.ok (OV.ext (.dn acc)) (backE env2 env1 vs))
    | _ => none) else none) = _
  rw [h1]
  show (if vs.all (flatAt e0) then (match dcM vs g t mk mv ys [] e0 with
    | some (Out.ok acc env2) => some (Out.ok (OV.ext (.dn acc)) (backE env2 e0 vs))
    | _ => none) else none) = _
  rw [if_pos hf, h2]
  show some (Out.ok _ (backE e' e0 vs)) = _
  rw [backE_of h3]
end
def dK (p : Int × Int) : NestedKey := .tup [.num p.1, .num p.2]
def doorK (ds : List (Int × Int)) : List (NestedKey × PyData) := ds.map fun p => (dK p, .bool true)
theorem dK_inj {p q : Int × Int} (h : dK p = dK q) : p = q := by
  unfold dK at h
  injection h with h
  injection h with h1 h2
  injection h2 with h2 _
  injection h1 with h1
  injection h2 with h2
  exact Prod.ext h1 h2
theorem keyTop_pair (p : Int × Int) : keyTop (pairD p) = some (dK p) := rfl
def unD : PyData → Int × Int
  | .tuple [.int a, .int b] => (a, b)
  | _ => (0, 0)
theorem unD_pair (p : Int × Int) : unD (pairD p) = p := rfl
theorem fold_doors : ∀ {ds acc : List (Int × Int)}, (acc ++ ds).Nodup → (ds.map pairD).foldl (fun a x => putN a (dK (unD x)) (.bool true)) (doorK acc) = doorK (acc ++ ds)
  | [], acc, _ => by simp
  | p :: ds, acc, h => by
    have hp : p ∉ acc := fun hm => by
      rw [List.nodup_append] at h
      exact h.2.2 p hm p List.mem_cons_self rfl
    have e : putN (doorK acc) (dK (unD (pairD p))) (.bool true) = doorK (acc ++ [p]) := by
      unfold putN
      rw [unD_pair, if_neg]
      · unfold doorK
        rw [List.map_append]
        rfl
      · intro hc
        obtain ⟨q, hq, e⟩ := List.any_eq_true.mp hc
        obtain ⟨r, hr, rfl⟩ := List.mem_map.mp hq
        have := dK_inj (of_decide_eq_true e)
        exact hp (this ▸ hr)
    rw [List.map_cons, List.foldl_cons, e, fold_doors (ds := ds) (acc := acc ++ [p]) (by rw [List.append_assoc]; exact h), List.append_assoc]
    rfl
theorem find_doors (q : Int × Int) : ∀ ds : List (Int × Int), (((doorK ds).map fun p => (p.1.data, p.2)).find? fun p => isKey (dK q) p.1).isSome = decide (q ∈ ds)
  | [] => rfl
  | p :: ds => by
    have e : isKey (dK q) (dK p).data = decide (p = q) := by
      show decide (keyD (pairD p) = some (dK q)) = _
      have : keyD (pairD p) = some (dK p) := rfl
      rw [this, decide_eq_decide]
      exact ⟨fun h => dK_inj (Option.some.inj h), fun h => by rw [h]⟩
    show (List.find? _ (((dK p).data, PyData.bool true) :: ((doorK ds).map fun p => (p.1.data, p.2)))).isSome = _
    rw [List.find?_cons]
    by_cases h : p = q
    · subst h
      simp [e]
    · rw [e]
      simp only [h, decide_false]
      rw [find_doors q ds, decide_eq_decide]
      simp [Ne.symm h]
theorem gInU_doors (q : Int × Int) (ds : List (Int × Int)) : gInU false (pairD q) (dictN (doorK ds)) = some (.d (.bool (decide (q ∈ ds)))) := by
  have : lookF ((.str "#", .none) :: (doorK ds).map fun p => (p.1.data, p.2)) (pairD q) = some ((((doorK ds).map fun p => (p.1.data, p.2)).find? fun p => isKey (dK q) p.1).map (·.2)) := by
    unfold lookF
    simp only [keyTop_pair, Option.map_some]
  unfold gInU dictN
  simp only [Bool.false_eq_true, if_false]
  rw [this, Option.map_some, ← find_doors q ds, Option.isSome_map]
/-! ### the maps' object -/
def mapsF (n : Int) (ds es : List (Int × Int)) (most : Int) : List (Str × FV) := [("halls", .d (.int n)), ("there", .d (dictN (doorK ds))), ("mates", .d (dictN (doorK es))), ("most", .d (.int most))]
def mapsO (n : Int) (ds es : List (Int × Int)) (most : Int) : OV := .ext (.ins "Maps" (mapsF n ds es most))
theorem maps_halls (n : Int) (ds es : List (Int × Int)) (most : Int) : fldOf "Maps" "halls" (mapsO n ds es most) = some (.int n) := rfl
theorem maps_there (n : Int) (ds es : List (Int × Int)) (most : Int) : fldOf "Maps" "there" (mapsO n ds es most) = some (dictN (doorK ds)) := rfl
theorem maps_mates (n : Int) (ds es : List (Int × Int)) (most : Int) : fldOf "Maps" "mates" (mapsO n ds es most) = some (dictN (doorK es)) := rfl
theorem maps_most (n : Int) (ds es : List (Int × Int)) (most : Int) : fldOf "Maps" "most" (mapsO n ds es most) = some (.int most) := rfl
theorem maps_put1 (x : PyData) : putIns "Maps" "halls" x (.ext (.ins "Maps" [])) = some (.ext (.ins "Maps" [("halls", .d x)])) := rfl
theorem maps_put2 (a x : PyData) : putIns "Maps" "there" x (.ext (.ins "Maps" [("halls", .d a)])) = some (.ext (.ins "Maps" [("halls", .d a), ("there", .d x)])) := rfl
theorem maps_put3 (a b x : PyData) : putIns "Maps" "mates" x (.ext (.ins "Maps" [("halls", .d a), ("there", .d b)])) = some (.ext (.ins "Maps" [("halls", .d a), ("there", .d b), ("mates", .d x)])) := rfl
theorem maps_put4 (a b c x : PyData) : putIns "Maps" "most" x (.ext (.ins "Maps" [("halls", .d a), ("there", .d b), ("mates", .d c)])) = some (.ext (.ins "Maps" [("halls", .d a), ("there", .d b), ("mates", .d c), ("most", .d x)])) := rfl
theorem dcomp_doors {e : Env} {j k : Nat} {n : Int} {ds : List (Int × Int)} (hj : e[j]? = some (some (.d (houseD n ds)))) (hk : e[k]? = some none) (hjk : j ≠ k) (nd : ds.Nodup) (hl : ds.length ≤ 1000) {Q : OV → Env → Prop} (q : Q (.ext (.dn (doorK ds))) e) :
    Tr (mDComp [k] (mItems (frz (mBin gIx (dV j) (dC (.int 1))))) (gN k) (pure true) (dV k) (dC (.bool true))) e Q := by
  have hkl : k < e.length := by
    by_cases h : k < e.length
    · exact h
    · rw [List.getElem?_eq_none (by omega)] at hk; cases hk
  refine Tr.dcomp (xs := ds.map pairD) (fun x => (dK (unD x), .bool true)) ?_ ?_ (by rw [List.length_map]; exact hl) (fun x hx => ?_) ?_
  · simp [hj, houseD_ix1]
  · simp [flatAt, hk]
  · obtain ⟨p, _, rfl⟩ := List.mem_map.mp hx
    simp [wipeE, keyTop_pair, unD_pair, hkl]
  · have := fold_doors (ds := ds) (acc := []) (by simpa using nd)
    rw [show doorK [] = [] from rfl, List.nil_append] at this
    rw [this]
    exact q
theorem maps_init_run {n : Int} {ds es : List (Int × Int)} {most : Int} (n1 : ds.Nodup) (n2 : es.Nodup) (l1 : ds.length ≤ 1000) (l2 : es.length ≤ 1000) :
    f_Maps_init [some (.ext (.ins "Maps" [])), some (.d (houseD n ds)), some (.d (houseD n es)), some (.d (.int most))] = some (.ok (.d .none) [some (mapsO n ds es most), some (.d (houseD n ds)), some (.d (houseD n es)), some (.d (.int most))]) := by
  refine Tr.end1 (np := 4) (N := 5) (ow := [0]) (mb := b_Maps_init) ?_
  unfold b_Maps_init
  simp [Tr_fldSet, houseD_ix0, maps_put1]
  refine dcomp_doors rfl rfl (by decide) n1 l1 ?_
  simp [maps_put2, OV.dat]
  refine dcomp_doors rfl rfl (by decide) n2 l2 ?_
  simp [maps_put3, maps_put4, OV.dat]
  rfl
end TL
set_option Elab.async false
set_option linter.all false
set_option maxRecDepth 100000
namespace TL
open PySem PySem.Spec PyProof.Rows L2
def tupI (r : List Int) : PyData := .tuple (r.map .int)
def fit1 (ds es : List (Int × Int)) (r : List Int) (h : Int) (a : Nat) : Bool :=
  (decide (((a : Int), (r.length : Int)) ∈ ds) == decide ((r.getD a 0, h) ∈ es)) && (decide (((r.length : Int), (a : Int)) ∈ ds) == decide ((h, r.getD a 0) ∈ es))
def fitB (ds es : List (Int × Int)) (r : List Int) (h : Int) : Bool := (List.range r.length).all (fit1 ds es r h)
theorem gLen_tup (r : List Int) : gLen (.d (tupI r)) = some (.d (.int r.length)) := by
  show some (OV.d (.int ((r.map PyData.int).length : Nat))) = _
  rw [List.length_map]
theorem sz2 (a b : PyData) : [a, b].length ≤ sizeLine := fits (by simp)
theorem sz1 (a : PyData) : [a].length ≤ sizeLine := fits (by simp)
theorem sz0 : ([] : List PyData).length ≤ sizeLine := fits (by simp)
theorem gInU_doors' (a b : Int) (ds : List (Int × Int)) : gInU false (.tuple [.int a, .int b]) (dictN (doorK ds)) = some (.d (.bool (decide ((a, b) ∈ ds)))) := gInU_doors (a, b) ds
@[simp] theorem Tr_enum {m : M PyData} {e : Env} {Q : List PyData → Env → Prop} : Tr (mEnum m) e Q ↔ Tr m e fun x e1 => ∃ xs, (x = .list xs ∨ x = .tuple xs) ∧ Q (enumD xs) e1 := by
  constructor
  · rintro ⟨a, e', h1, h2⟩
    have h1 : Out.andThen (m e) _ = _ := h1
    cases em : m e with
    | none => rw [em] at h1; cases h1
    | some o =>
      rw [em] at h1
      cases o with
      | exc x e1 => cases h1
      | ok x e1 =>
        refine ⟨x, e1, em, ?_⟩
        cases x with
        | list xs =>
          have h1 : (some (Out.ok (enumD xs) e1) : Option (Out (List PyData))) = some (.ok a e') := h1
          cases h1
          exact ⟨_, .inl rfl, h2⟩
        | tuple xs =>
          have h1 : (some (Out.ok (enumD xs) e1) : Option (Out (List PyData))) = some (.ok a e') := h1
          cases h1
          exact ⟨_, .inr rfl, h2⟩
        | _ => cases h1
  · rintro ⟨x, e1, h1, xs, rfl | rfl, h2⟩
    · refine ⟨_, _, ?_, h2⟩
      show Out.andThen (m e) _ = _
      rw [h1]
      rfl
    · refine ⟨_, _, ?_, h2⟩
      show Out.andThen (m e) _ = _
      rw [h1]
      rfl
theorem fits_run {n : Int} {ds es : List (Int × Int)} {most : Int} {r : List Int} {h : Int} :
    f_Maps_fits [some (mapsO n ds es most), some (.d (tupI r)), some (.d (.int h))] = some (.ok (.d (.bool (fitB ds es r h))) [some (mapsO n ds es most), some (.d (tupI r)), some (.d (.int h))]) := by
  refine Tr.end1 (np := 3) (N := 6) (ow := [0]) (mb := b_Maps_fits) ?_
  unfold b_Maps_fits
  simp [gLen_tup]
  refine Tr.for_ (xs := enumD (r.map .int)) (fun k e => (∃ o4 o5, e = [some (mapsO n ds es most), some (.d (tupI r)), some (.d (.int h)), some (.d (.int r.length)), o4, o5]) ∧ (List.range k).all (fit1 ds es r h) = true) ?_ ?_ ?_
  · simp [tupI]
  · rintro k x e hx ⟨⟨o4, o5, rfl⟩, hk⟩
    obtain ⟨y, hy, rfl⟩ := enumD_get hx
    rw [List.getElem?_map] at hy
    obtain ⟨z, hz, rfl⟩ := Option.map_eq_some_iff.mp hy
    have hlt : k < r.length := (List.getElem?_eq_some_iff.mp hz).1
    have hg : r.getD k 0 = z := by rw [List.getD_eq_getElem?_getD, hz]; rfl
    have hfalse : fit1 ds es r h k = false → fitB ds es r h = false := fun hf => by
      rw [Bool.eq_false_iff]
      intro ht
      have := List.all_eq_true.mp ht k (List.mem_range.mpr hlt)
      rw [hf] at this
      cases this
    have hf1 : fit1 ds es r h k = ((decide (((k : Int), (r.length : Int)) ∈ ds) == decide ((z, h) ∈ es)) && (decide (((r.length : Int), (k : Int)) ∈ ds) == decide ((h, z) ∈ es))) := by
      unfold fit1
      rw [hg]
    simp [fits, Tr_fld, maps_there, maps_mates, gInU_doors']
    have he : ∀ e4 e5 : Option OV, endE [0] 0 [some (mapsO n ds es most), some (.d (tupI r)), some (.d (.int h))] [some (mapsO n ds es most), some (.d (tupI r)), some (.d (.int h)), some (.d (.int r.length)), e4, e5] = [some (mapsO n ds es most), some (.d (tupI r)), some (.d (.int h))] := fun _ _ => rfl
    simp only [he, and_true]
    by_cases c1 : (((k : Int), (r.length : Int)) ∈ ds ↔ (z, h) ∈ es)
    · by_cases c2 : (((r.length : Int), (k : Int)) ∈ ds ↔ (h, z) ∈ es)
      · refine .inl ⟨c1, .inl ⟨c2, fun x hx => ?_⟩⟩
        by_cases hxk : x = k
        · subst hxk
          rw [hf1]
          simp [c1, c2]
        · exact List.all_eq_true.mp hk x (List.mem_range.mpr (by omega))
      · refine .inl ⟨c1, .inr ⟨c2, hfalse ?_⟩⟩
        rw [hf1, Bool.and_eq_false_iff]
        right
        simpa using c2
    · refine .inr ⟨c1, hfalse ?_⟩
      rw [hf1, Bool.and_eq_false_iff]
      left
      simpa using c1
  · rintro e ⟨⟨o4, o5, rfl⟩, hk⟩
    rw [enumD_length, List.length_map] at hk
    simp [fitB, hk]
    rfl
end TL
set_option Elab.async false
set_option linter.all false
set_option maxRecDepth 100000
namespace TL
open PySem PySem.Spec PyProof.Rows L2
@[simp] theorem Tr_pop {i : Nat} {e : Env} {Q : OV → Env → Prop} : Tr (mPop i) e Q ↔ Tr (mHas i isLst) e fun _ e1 => Tr (mMut i gPop) e1 Q := by
  show Tr (mHas i isLst >>= fun _ => mMut i gPop) e Q ↔ _
  simp only [Tr_bind]
@[simp] theorem Tr_revL {m : M PyData} {e : Env} {Q : OV → Env → Prop} : Tr (mRevL m) e Q ↔ Tr m e fun x e1 => ∃ xs, x = .list xs ∧ Q (.lst xs.reverse) e1 := by
  show Tr (m >>= fun x => M.opt (match x with
    | .list xs => some (OV.lst xs.reverse)
    | _ => none)) e Q ↔ _
  rw [Tr_bind]
  refine ⟨fun h => h.mono fun x e1 h => ?_, fun h => h.mono fun x e1 ⟨xs, hx, h⟩ => ?_⟩
  · rw [Tr_opt] at h
    obtain ⟨a, h1, h2⟩ := h
    cases x with
    | list xs => cases h1; exact ⟨xs, rfl, h2⟩
    | _ => cases h1
  · subst hx
    rw [Tr_opt]
    exact ⟨_, rfl, h⟩
theorem set_same {α : Type} {xs : List α} {i : Nat} {x : α} (h : xs[i]? = some x) : xs.set i x = xs := by
  apply List.ext_getElem?
  intro j
  by_cases hj : i = j
  · subst hj
    rw [List.getElem?_set_self (List.getElem?_eq_some_iff.mp h).1, h]
  · rw [List.getElem?_set_ne hj]
/-- a method that leaves the slots -/
theorem Tr.meth2 {i : Nat} {e : Env} {c m : Str} {a b : M PyData} {mf : M OV} {Q : OV → Env → Prop} {O r : OV} {x y : PyData} (h0 : e[i]? = some (some O)) (hi : isIns c m O = true) (ha : Tr a e fun x' e1 => x' = x ∧ Tr b e1 fun y' e2 => y' = y ∧ e2 = e)
    (hf : mf [some O, some (.d x), some (.d y)] = some (.ok r [some O, some (.d x), some (.d y)])) (q : Q r e) : Tr (mMeth i c m (.d a :: .d b :: []) mf) e Q := by
  obtain ⟨x', e1, h1, rfl, y', e2, h2, rfl, rfl⟩ := ha
  refine ⟨r, e2, ?_, q⟩
  have hh := mHas_at (p := isIns c m) h0 hi
  show Out.andThen (mHas i (isIns c m) e2) (fun _ => mCall (.s i :: .d a :: .d b :: []) mf) = _
  rw [hh, aT_ok]
  have hag : agsM (.s i :: .d a :: .d b :: []) e2 = some (.ok [x', y'] e2) := by
    rw [agsM_s h0, agsM_d, h1, aT_ok, bind_at', agsM_d, h2]
    rfl
  have := mCall_at (as := .s i :: .d a :: .d b :: []) (mf := mf) (e := e2) (e1 := e2) (xs := [x', y']) (r := r) (e2 := [some O, some (.d x'), some (.d y')]) hag (by
    show mf ((e2[i]?).join :: _) = _
    rw [h0]
    exact hf)
  rw [this]
  show some (Out.ok r (e2.set i (some O))) = _
  rw [set_same h0]
/-- the halls kept -/
def keepI (f : Int → Bool) : PyData → Option PyData
  | .int h => if f h then some (.int h) else none
  | _ => none
theorem keepI_map (f : Int → Bool) : ∀ xs : List Int, (xs.map .int).filterMap (keepI f) = (xs.filter f).map .int
  | [] => rfl
  | x :: xs => by
    rw [List.map_cons, List.filterMap_cons, List.filter_cons]
    have e : keepI f (.int x) = if f x then some (.int x) else none := rfl
    by_cases h : f x = true
    · rw [e, if_pos h, if_pos h, List.map_cons, keepI_map f xs]
    · rw [e, if_neg h, if_neg h, keepI_map f xs]
theorem rngD_rangeI {n : Int} (h : 0 ≤ n) : rngD 0 n.toNat = (rangeI n).map .int := by
  unfold rngD rangeI
  rw [List.map_map]
  refine List.map_congr_left fun k _ => ?_
  simp
theorem pushI_map (r : List Int) : ∀ xs : List Int, ((xs.map PyData.int).filterMap fun x => match x with
    | .int h => some (tupI (r ++ [h]))
    | _ => none) = (xs.map fun h => r ++ [h]).map tupI
  | [] => rfl
  | x :: xs => by
    rw [List.map_cons, List.filterMap_cons]
    simp only [List.map_cons]
    rw [pushI_map r xs]
theorem gExt_ok {xs ys : List PyData} (h : xs.length + ys.length ≤ 2000) : gExt (.list ys) (.lst xs) = some (.lst (xs ++ ys), .d .none) := by
  show (if xs.length + ys.length ≤ sizeLine then some (OV.lst (xs ++ ys), OV.d .none) else none) = _
  rw [if_pos (by rw [sizeLine_eq]; omega)]
theorem isLst_lst (xs : List PyData) : isLst (.lst xs) = true := rfl
theorem gPop_snoc (xs : List PyData) (x : PyData) : gPop (.lst (xs ++ [x])) = some (.lst xs, .d x) := by
  show ((xs ++ [x])[(xs ++ [x]).length - 1]?).map (fun y => (OV.lst (xs ++ [x]).dropLast, OV.d y)) = _
  rw [List.dropLast_concat, List.length_append]
  simp
theorem gApp_ok {xs : List PyData} (h : xs.length ≤ 2000) (x : PyData) : gApp x (.lst xs) = some (.lst (xs ++ [x]), .d .none) := by
  show (if xs.length < sizeLine then some (OV.lst (xs ++ [x]), OV.d .none) else none) = _
  rw [if_pos (by rw [sizeLine_eq]; omega)]
theorem okD_tupI (r : List Int) : okD (tupI r) = true := (okN_tuple (d := 0) (xs := r.map .int) fun x hx => by
  obtain ⟨i, _, rfl⟩ := List.mem_map.mp hx
  exact okN_int i).ok (by decide)
theorem any_int0 (xs : List Int) (a : Int) : ((xs.map PyData.int).any fun z => PyData.eqv z (.int a)) = decide (a ∈ xs) := by
  rw [List.any_map, Bool.eq_iff_iff, List.any_eq_true, decide_eq_true_iff]
  constructor
  · rintro ⟨z, hz, e⟩
    have : z = a := by simpa using e
    rwa [← this]
  · exact fun h => ⟨a, h, by simp⟩
theorem gNotIn_tup (a : Int) (r : List Int) : gNotIn (.int a) (tupI r) = some (.d (.bool (!decide (a ∈ r)))) := by
  show (if okD (.int a) && okD (tupI r) then some (OV.d (.bool (!(r.map PyData.int).any fun z => PyData.eqv z (.int a)))) else none) = _
  rw [(okN_int (d := 0) a).ok (by decide), okD_tupI, any_int0]
  rfl
theorem gAdd_tup1 (r : List Int) (h : Int) (hl : r.length < 1000) : gAdd (tupI r) (.tuple [.int h]) = some (.d (tupI (r ++ [h]))) := by
  show (if (r.map PyData.int).length + [PyData.int h].length ≤ sizeLine then some (OV.d (.tuple (r.map .int ++ [.int h]))) else none) = _
  rw [if_pos (fits (by rw [List.length_map]; show r.length + 1 ≤ 1000; omega))]
  unfold tupI
  rw [List.map_append]
  rfl
/-! ### the maps, one after another -/
def extR (n : Int) (ds es : List (Int × Int)) (r : List Int) : List Int := (rangeI n).filter fun h => !decide (h ∈ r) && fitB ds es r h
def fullK (n : Int) (ds es : List (Int × Int)) : Nat → List Int → List (List Int)
  | 0, r => [r]
  | k + 1, r => (extR n ds es r).flatMap fun h => fullK n ds es k (r ++ [h])
def full (n : Int) (ds es : List (Int × Int)) (r : List Int) : List (List Int) := fullK n ds es (n.toNat - r.length) r
def wt (N : Nat) : Nat → Nat
  | 0 => 1
  | k + 1 => 1 + N * wt N k
def wts (N : Nat) (st : List (List Int)) : Nat := (st.map fun r => wt N (N - r.length)).sum
theorem extR_len (n : Int) (ds es : List (Int × Int)) (r : List Int) : (extR n ds es r).length ≤ n.toNat := by
  unfold extR
  rw [← rangeI_len n]
  exact List.length_filter_le _ _
theorem full_done {n : Int} {ds es : List (Int × Int)} {r : List Int} (h : r.length = n.toNat) : full n ds es r = [r] := by
  unfold full
  rw [h, Nat.sub_self]
  rfl
theorem full_more {n : Int} {ds es : List (Int × Int)} {r : List Int} (h : r.length < n.toNat) : full n ds es r = (extR n ds es r).flatMap fun h => full n ds es (r ++ [h]) := by
  unfold full
  obtain ⟨k, hk⟩ : ∃ k, n.toNat - r.length = k + 1 := ⟨n.toNat - r.length - 1, by omega⟩
  rw [hk]
  show (extR n ds es r).flatMap _ = _
  refine congrArg (fun f => (extR n ds es r).flatMap f) (funext fun x => ?_)
  rw [List.length_append, show n.toNat - (r.length + [x].length) = k by simp; omega]
theorem wts_push {N : Nat} {r : List Int} (xs : List Int) (hr : r.length < N) (hx : xs.length ≤ N) : wts N (xs.map fun h => r ++ [h]) < wt N (N - r.length) := by
  obtain ⟨k, hk⟩ : ∃ k, N - r.length = k + 1 := ⟨N - r.length - 1, by omega⟩
  have e : wts N (xs.map fun h => r ++ [h]) = xs.length * wt N k := by
    unfold wts
    rw [List.map_map]
    have : ((fun r => wt N (N - r.length)) ∘ fun h => r ++ [h]) = fun _ : Int => wt N k := by
      funext h
      show wt N (N - (r ++ [h]).length) = _
      rw [List.length_append, show N - (r.length + [h].length) = k by simp; omega]
    rw [this, List.map_const', List.sum_replicate_nat]
  rw [e, hk]
  show _ < 1 + N * wt N k
  have := Nat.mul_le_mul_right (wt N k) hx
  omega
def fE (O : OV) (done st : List (List Int)) (o3 o4 : Option OV) : Env := [some O, some (.lst (done.map tupI)), some (.lst (st.map tupI)), o3, o4, none]
def fullS (n : Int) (ds es : List (Int × Int)) (st : List (List Int)) : List (List Int) := st.reverse.flatMap (full n ds es)
/-- the state of the search -/
structure FInv (n : Int) (ds es : List (Int × Int)) (most : Nat) (done st : List (List Int)) : Prop where
  len : ∀ r ∈ st, r.length ≤ n.toNat
  pos : ∀ j r, st[j]? = some r → j ≤ n.toNat * r.length
  mst : done.length ≤ most
  all : (done ++ fullS n ds es st).take most = (full n ds es []).take most
theorem FInv.small {n : Int} {ds es : List (Int × Int)} {most : Nat} {done st : List (List Int)} (h : FInv n ds es most done st) : st.length ≤ n.toNat * n.toNat + 1 := by
  cases hs : st.length with
  | zero => omega
  | succ k =>
    have hx : st[k]? = some st[k] := List.getElem?_eq_getElem (by omega)
    have h1 := h.pos k _ hx
    have h2 := h.len _ (List.mem_of_getElem? hx)
    have := Nat.mul_le_mul_left n.toNat h2
    omega
theorem fullS_snoc {n : Int} {ds es : List (Int × Int)} {p : List (List Int)} {r : List Int} : fullS n ds es (p ++ [r]) = full n ds es r ++ fullS n ds es p := by
  unfold fullS
  rw [List.reverse_append, List.reverse_singleton, List.singleton_append, List.flatMap_cons]
theorem fullS_push {n : Int} {ds es : List (Int × Int)} {p : List (List Int)} {r : List Int} (hr : r.length < n.toNat) : fullS n ds es (p ++ ((extR n ds es r).reverse.map fun h => r ++ [h])) = full n ds es r ++ fullS n ds es p := by
  unfold fullS
  rw [List.reverse_append, List.flatMap_append, full_more hr, ← List.map_reverse, List.reverse_reverse, List.flatMap_map]
theorem FInv.found {n : Int} {ds es : List (Int × Int)} {most : Nat} {done p : List (List Int)} {r : List Int} (h : FInv n ds es most done (p ++ [r])) (hr : r.length = n.toNat) (hm : done.length < most) : FInv n ds es most (done ++ [r]) p := by
  refine ⟨fun q hq => h.len q (List.mem_append_left _ hq), fun j q hq => h.pos j q ?_, by rw [List.length_append]; exact hm, ?_⟩
  · rw [List.getElem?_append_left (List.getElem?_eq_some_iff.mp hq).1]
    exact hq
  · rw [← h.all, fullS_snoc, full_done hr, List.append_assoc]
theorem FInv.push {n : Int} {ds es : List (Int × Int)} {most : Nat} {done p : List (List Int)} {r : List Int} (h : FInv n ds es most done (p ++ [r])) (hr : r.length ≠ n.toNat) : FInv n ds es most done (p ++ ((extR n ds es r).reverse.map fun h => r ++ [h])) := by
  have hrl := h.len r (List.mem_append_right _ List.mem_cons_self)
  have hp := h.pos p.length r (by rw [List.getElem?_append_right (Nat.le_refl _), Nat.sub_self]; rfl)
  refine ⟨fun q hq => ?_, fun j q hq => ?_, h.mst, ?_⟩
  · rcases List.mem_append.mp hq with hq | hq
    · exact h.len q (List.mem_append_left _ hq)
    · obtain ⟨x, _, rfl⟩ := List.mem_map.mp hq
      rw [List.length_append]
      show r.length + 1 ≤ _
      omega
  · by_cases hj : j < p.length
    · rw [List.getElem?_append_left hj] at hq
      exact h.pos j q (by rw [List.getElem?_append_left hj]; exact hq)
    · rw [List.getElem?_append_right (by omega)] at hq
      have hlt := (List.getElem?_eq_some_iff.mp hq).1
      obtain ⟨x, _, e⟩ := List.mem_map.mp (List.mem_of_getElem? hq)
      rw [List.length_map, List.length_reverse] at hlt
      have := extR_len n ds es r
      rw [← e, List.length_append]
      show j ≤ n.toNat * (r.length + 1)
      rw [Nat.mul_add, Nat.mul_one]
      omega
  · rw [← h.all, fullS_push (by omega), fullS_snoc]
theorem wts_snoc {N : Nat} {p : List (List Int)} {r : List Int} : wts N (p ++ [r]) = wts N p + wt N (N - r.length) := by
  unfold wts
  rw [List.map_append, List.sum_append]
  simp
theorem wts_append {N : Nat} {p q : List (List Int)} : wts N (p ++ q) = wts N p + wts N q := by
  unfold wts
  rw [List.map_append, List.sum_append]
theorem wt_pos {N k : Nat} : 0 < wt N k := by cases k <;> simp [wt] <;> omega
theorem found_run {n : Int} {ds es : List (Int × Int)} {most : Nat} (h0 : 1 ≤ n) (h1 : n ≤ 10) (hm : most ≤ 1000) :
    f_Maps_found [some (mapsO n ds es (most : Int))] = some (.ok (.lst (((full n ds es []).take most).map tupI)) [some (mapsO n ds es (most : Int))]) := by
  have hn : n.toNat ≤ 10 := by omega
  have hnn : n.toNat * n.toNat ≤ 100 := Nat.mul_le_mul hn hn
  generalize hO : mapsO n ds es (most : Int) = O
  refine Tr.end1 (np := 1) (N := 6) (ow := [0]) (mb := b_Maps_found) ?_
  unfold b_Maps_found
  simp [fits]
  refine Tr.while_ (n := wts n.toNat [[]]) (fun m e => ∃ done st o3 o4, e = fE O done st o3 o4 ∧ FInv n ds es most done st ∧ m = wts n.toNat st) ?_ ?_
  · refine ⟨[], [[]], none, none, rfl, ⟨fun r hr => ?_, fun j r hr => ?_, Nat.zero_le _, ?_⟩, rfl⟩
    · rw [List.mem_singleton.mp hr]; exact Nat.zero_le _
    · have := (List.getElem?_eq_some_iff.mp hr).1
      simp at this
      omega
    · simp [fullS]
  · rintro m e ⟨done, st, o3, o4, rfl, inv, rfl⟩
    have fin : (st = [] ∨ done.length = most) → done = (full n ds es []).take most := fun h => by
      rw [← inv.all]
      rcases h with rfl | h
      · simp [fullS]
        rw [List.take_of_length_le inv.mst]
      · rw [List.take_append_of_le_length (by omega), List.take_of_length_le (by omega)]
    by_cases hs : st = []
    · subst hs
      simp [fE, isLst_lst]
      exact ⟨by rw [fin (.inl rfl), List.map_take], rfl⟩
    · obtain ⟨p, r, rfl⟩ : ∃ p r, st = p ++ [r] := ⟨st.dropLast, st.getLast hs, (List.dropLast_concat_getLast hs).symm⟩
      by_cases hd : done.length = most
      · simp [fE, Tr_fld, ← hO, maps_most, hd]
        exact ⟨by rw [fin (.inr hd), List.map_take], rfl⟩
      · have hlt : done.length < most := Nat.lt_of_le_of_ne inv.mst hd
        have hrl := inv.len r (List.mem_append_right _ List.mem_cons_self)
        have hsm := inv.small
        by_cases hr : r.length = n.toNat
        · have hrn : (r.length : Int) = n := by omega
          simp [fE, Tr_fld, ← hO, maps_most, maps_halls, hlt, isLst_lst, gPop_snoc, gLen_tup, hrn, Nat.not_le.mpr hlt, gApp_ok (xs := done.map tupI) (by rw [List.length_map]; omega)]
          refine ⟨_, ?_, done ++ [r], p, ⟨by simp, rfl⟩, inv.found hr hlt, rfl⟩
          rw [wts_snoc]
          have := wt_pos (N := n.toNat) (k := n.toNat - r.length)
          omega
        · have hrn : (r.length : Int) ≠ n := by omega
          simp [fE, Tr_fld, ← hO, maps_most, maps_halls, hlt, isLst_lst, gPop_snoc, gLen_tup, hrn, Nat.not_le.mpr hlt]
          refine Tr.comp (xs := (rangeI n).map .int) (keepI fun h => !decide (h ∈ r) && fitB ds es r h) ?_ rfl ?_ ?_ ?_
          · refine Tr_range1 (n := n) (by omega) (by omega) ?_
            simp [Tr_fld, maps_halls, rngD_rangeI (by omega : 0 ≤ n)]
          · rw [List.length_map, rangeI_len]
            omega
          · intro x hx
            obtain ⟨h, hh, rfl⟩ := List.mem_map.mp hx
            simp [wipeE, gNotIn_tup, keepI]
            by_cases hm : h ∈ r
            · exact .inl ⟨hm, fun q => absurd hm q⟩
            · refine .inr ⟨hm, ?_⟩
              refine Tr.meth2 rfl rfl (x := tupI r) (y := .int h) (by simp) fits_run ?_
              by_cases hf : fitB ds es r h = true <;> simp [hf, hm]
          · rw [keepI_map]
            show ∃ x, (OV.lst ((extR n ds es r).map .int)).dat = some x ∧ _
            simp [isLst_lst]
            refine Tr.comp (xs := ((extR n ds es r).map PyData.int).reverse) (fun x => match x with
              | .int h => some (tupI (r ++ [h]))
              | _ => none) (by simp) rfl ?_ ?_ ?_
            · rw [List.length_reverse, List.length_map]
              have := extR_len n ds es r
              omega
            · intro x hx
              rw [List.mem_reverse] at hx
              obtain ⟨h, hh, rfl⟩ := List.mem_map.mp hx
              simp [wipeE, fits, gAdd_tup1 r h (by omega)]
            · rw [← List.map_reverse, pushI_map]
              have := extR_len n ds es r
              have hps := inv.push hr
              have hwt := wts_push (N := n.toNat) (r := r) (extR n ds es r).reverse (by omega) (by rw [List.length_reverse]; exact this)
              have hY : ((extR n ds es r).reverse.map fun h => r ++ [h]).length ≤ 10 := by rw [List.length_map, List.length_reverse]; omega
              generalize ((extR n ds es r).reverse.map fun h => r ++ [h]) = Y at hps hwt hY ⊢
              rw [List.length_append] at hsm
              simp [gExt_ok (xs := p.map tupI) (ys := Y.map tupI) (by simp; omega)]
              refine ⟨_, ?_, done, p ++ Y, by simp, hps, rfl⟩
              rw [wts_snoc, wts_append]
              omega
end TL
set_option Elab.async false
set_option linter.all false
set_option maxRecDepth 100000
namespace TL
open PySem PySem.Spec PyProof.Rows L2
section
variable {e : Env}
theorem Tr.make {c : Str} {ma : M (List PyData)} {mf : M OV} {Q : OV → Env → Prop} {ys : List PyData} {r : OV} {rest : Env} (ha : Tr ma e fun xs e1 => xs = ys ∧ e1 = e) (hf : mf (some (.ext (.ins c [])) :: ys.map fun x => some (.d x)) = some (.ok (.d .none) (some r :: rest))) (q : Q r e) : Tr (mMake c ma mf) e Q := by
  obtain ⟨xs, e1, h1, rfl, rfl⟩ := ha
  refine ⟨r, e1, ?_, q⟩
  show Out.andThen (ma e1) (fun xs => fun env => match mf (some (.ext (.ins c [])) :: xs.map fun x => some (.d x)) with
    | some (.ok (.d .none) (some r :: _)) => some (.ok r env)
    | some (.exc x _) => some (.exc x env)
    | _ => none) = _
  rw [h1, aT_ok, hf]
theorem Tr.methT {mm : M OV} {c m : Str} {mf : M OV} {Q : OV → Env → Prop} {O r : OV} {e2 : Env} (hm : Tr mm e fun ov e1 => ov = O ∧ e1 = e) (hi : isIns c m O = true) (hf : mf [some O] = some (.ok r e2)) (q : Q r e) : Tr (mMethT mm c m mf) e Q := by
  obtain ⟨ov, e1, h1, rfl, rfl⟩ := hm
  refine ⟨r, e1, ?_, q⟩
  show Out.andThen (mm e1) (fun ov => fun env => if isIns c m ov then (match mf [some ov] with
    | some (.ok r _) => some (.ok r env)
    | some (.exc x _) => some (.exc x env)
    | none => none) else none) = _
  rw [h1, aT_ok, if_pos hi, hf]
end
/-- the first map -/
def likeD (n m : Int) (ds es : List (Int × Int)) : PyData := if n = m ∧ ds.length = es.length then (match full n ds es [] with
  | [] => .none
  | r :: _ => tupI r) else .none
theorem like_of_run {n m : Int} {ds es : List (Int × Int)} (h0 : 1 ≤ n) (h1 : n ≤ 10) (n1 : ds.Nodup) (n2 : es.Nodup) (l1 : ds.length ≤ 1000) (l2 : es.length ≤ 1000) : Fd f_like_of [houseD n ds, houseD m es] (.d (likeD n m ds es)) := by
  refine Fd.by_ ?_
  unfold b_like_of
  have i0 : ∀ (k : Int) (xs : List (Int × Int)), gIx (houseD k xs) (.int 0) = some (.d (.int k)) := fun _ _ => gIx_t0 _ _
  have i1 : ∀ (k : Int) (xs : List (Int × Int)), gIx (houseD k xs) (.int 1) = some (.d (.tuple (xs.map pairD))) := fun _ _ => gIx_t1 _ _ _
  by_cases hn : n = m
  · subst hn
    by_cases hl : ds.length = es.length
    · have hm : Tr (mMethT (mMake "Maps" (mCons (dV 0) (mCons (dV 1) (mCons (dC (.int 1)) (pure [])))) f_Maps_init) "Maps" "found" f_Maps_found) [some (.d (houseD n ds)), some (.d (houseD n es)), none] fun v e1 => v = .lst (((full n ds es []).take 1).map tupI) ∧ e1 = [some (.d (houseD n ds)), some (.d (houseD n es)), none] := by
        refine Tr.methT (O := mapsO n ds es (1 : Nat)) ?_ rfl (found_run h0 h1 (by omega)) ⟨rfl, rfl⟩
        refine Tr.make (ys := [houseD n ds, houseD n es, .int 1]) (by simp) (maps_init_run n1 n2 l1 l2) ⟨rfl, rfl⟩
      simp [dEnv, i0, i1, hl]
      refine hm.mono ?_
      rintro v e1 ⟨rfl, rfl⟩
      cases hf : full n ds es [] with
      | nil => simp [likeD, hf, hl]
      | cons r rs =>
        have : gIx (.list [tupI r]) (.int 0) = some (.d (tupI r)) := rfl
        simp [likeD, hf, hl, this]
    · have hl' : ¬ ((ds.length : Int) = es.length) := by omega
      simp [dEnv, i0, i1, hl, likeD]
      exact .inr hl'
  · simp [dEnv, i0, i1, hn, likeD]
/-! ### the law's own maps -/
def pushR (n : Int) (ds es : List (Int × Int)) (r : List Int) : List (List Int) := (extR n ds es r).map fun h => r ++ [h]
def rowsK (n : Int) (ds es : List (Int × Int)) : Nat → List (List Int)
  | 0 => [[]]
  | k + 1 => (rowsK n ds es k).flatMap (pushR n ds es)
theorem rowsK_len {n : Int} {ds es : List (Int × Int)} : ∀ {k : Nat} {r : List Int}, r ∈ rowsK n ds es k → r.length = k
  | 0, r, h => by rw [List.mem_singleton.mp h]; rfl
  | k + 1, r, h => by
    obtain ⟨q, hq, hr⟩ := List.mem_flatMap.mp h
    obtain ⟨x, _, rfl⟩ := List.mem_map.mp hr
    rw [List.length_append, rowsK_len hq]
    rfl
theorem flatMap_len {α β : Type} {f : α → List β} {c : Nat} : ∀ {xs : List α}, (∀ x ∈ xs, (f x).length ≤ c) → (xs.flatMap f).length ≤ xs.length * c
  | [], _ => by simp
  | x :: xs, h => by
    rw [List.flatMap_cons, List.length_append, List.length_cons, Nat.add_mul, Nat.one_mul]
    have h1 := h x List.mem_cons_self
    have h2 := flatMap_len (xs := xs) fun y hy => h y (List.mem_cons_of_mem _ hy)
    omega
theorem rowsK_size {n : Int} {ds es : List (Int × Int)} : ∀ k : Nat, (rowsK n ds es k).length ≤ n.toNat ^ k
  | 0 => Nat.le_refl 1
  | k + 1 => by
    refine Nat.le_trans (flatMap_len (c := n.toNat) fun r hr => ?_) ?_
    · unfold pushR
      rw [List.length_map]
      exact extR_len n ds es r
    · rw [Nat.pow_succ]
      exact Nat.mul_le_mul_right _ (rowsK_size k)
theorem rowsK_full {n : Int} {ds es : List (Int × Int)} : ∀ {k : Nat}, k ≤ n.toNat → (rowsK n ds es k).flatMap (full n ds es) = full n ds es []
  | 0, _ => by show [[]].flatMap _ = _; simp
  | k + 1, h => by
    rw [← rowsK_full (k := k) (by omega)]
    show ((rowsK n ds es k).flatMap (pushR n ds es)).flatMap _ = _
    rw [List.flatMap_assoc]
    have key : ∀ xs : List (List Int), (∀ r ∈ xs, r.length = k) → xs.flatMap (fun r => (pushR n ds es r).flatMap (full n ds es)) = xs.flatMap (full n ds es) := by
      intro xs
      induction xs with
      | nil => intro _; rfl
      | cons r xs ih =>
        intro hx
        have hr := hx r List.mem_cons_self
        rw [List.flatMap_cons, List.flatMap_cons, ih fun q hq => hx q (List.mem_cons_of_mem _ hq), full_more (r := r) (by omega)]
        unfold pushR
        rw [List.flatMap_map]
    exact key _ fun r hr => rowsK_len hr
theorem rowsK_all {n : Int} {ds es : List (Int × Int)} : rowsK n ds es n.toNat = full n ds es [] := by
  rw [← rowsK_full (Nat.le_refl _)]
  have key : ∀ xs : List (List Int), (∀ r ∈ xs, r.length = n.toNat) → xs.flatMap (full n ds es) = xs := by
    intro xs
    induction xs with
    | nil => intro _; rfl
    | cons r xs ih =>
      intro hx
      rw [List.flatMap_cons, ih fun q hq => hx q (List.mem_cons_of_mem _ hq), full_done (hx r List.mem_cons_self)]
      rfl
  exact (key _ fun r hr => rowsK_len hr).symm
def due (n m : Int) (ds es : List (Int × Int)) : List (List Int) := if n = m ∧ ds.length = es.length then full n ds es [] else []
theorem gIn_door (a b : Int) (ds : List (Int × Int)) : gIn (.tuple [.int a, .int b]) (.tuple (ds.map pairD)) = some (.d (.bool (decide ((a, b) ∈ ds)))) := by
  show (if okD (pairD (a, b)) && okD (.tuple (ds.map pairD)) then some (OV.d (.bool ((ds.map pairD).any fun z => PyData.eqv z (pairD (a, b))))) else none) = _
  rw [(okN_pair (d := 0) (a, b)).ok (by decide), (okN_tuple (d := 1) (xs := ds.map pairD) fun x hx => by
    obtain ⟨p, _, rfl⟩ := List.mem_map.mp hx
    exact okN_pair p).ok (by decide)]
  have e : ∀ p q : Int × Int, PyData.eqv (pairD p) (pairD q) = decide (p = q) := fun p q => by
    show (PyData.eqv (.int p.1) (.int q.1) && (PyData.eqv (.int p.2) (.int q.2) && true)) = _
    rw [eqv_int, eqv_int, Bool.and_true, Bool.eq_iff_iff]
    simp [Prod.ext_iff]
  have : ((ds.map pairD).any fun z => PyData.eqv z (pairD (a, b))) = decide ((a, b) ∈ ds) := by
    rw [List.any_map, Bool.eq_iff_iff, List.any_eq_true, decide_eq_true_iff]
    constructor
    · rintro ⟨p, hp, h⟩
      have h : PyData.eqv (pairD p) (pairD (a, b)) = true := h
      rw [e, decide_eq_true_iff] at h
      exact h ▸ hp
    · exact fun h => ⟨_, h, by show PyData.eqv (pairD (a, b)) (pairD (a, b)) = true; rw [e]; simp⟩
  rw [this]
  rfl
theorem gIx_tupI {r : List Int} {k : Nat} {z : Int} (h : r[k]? = some z) : gIx (tupI r) (.int (k : Nat)) = some (.d (.int z)) := by
  show (atI (r.map PyData.int) (k : Nat)).map OV.d = _
  rw [atI_nat (x := .int z) (by rw [List.getElem?_map, h]; rfl)]
  rfl
theorem gEq_nilI (xs : List Int) : gEq (.list (xs.map .int)) (.list []) = some (.d (.bool xs.isEmpty)) := by
  rw [gEq_ok (d := 1) (okN_list fun x hx => by
    obtain ⟨i, _, rfl⟩ := List.mem_map.mp hx
    exact okN_int i) (okN_list fun x hx => by cases hx) (by omega), PyData.eqv]
  cases xs <;> rfl
end TL
set_option Elab.async false
set_option linter.all false
set_option maxRecDepth 100000
namespace TL
open PySem PySem.Spec PyProof.Rows L2
theorem rngD_nat (k : Nat) : rngD 0 k = (rangeI k).map .int := by
  have := rngD_rangeI (n := (k : Int)) (by omega)
  rwa [Int.toNat_natCast] at this
def c1 (ds es : List (Int × Int)) (r : List Int) (h a : Int) : Bool := !(decide ((a, (r.length : Int)) ∈ ds) == decide ((r.getD a.toNat 0, h) ∈ es))
def c2 (ds es : List (Int × Int)) (r : List Int) (h a : Int) : Bool := !(decide (((r.length : Int), a) ∈ ds) == decide ((h, r.getD a.toNat 0) ∈ es))
theorem bad_fit (ds es : List (Int × Int)) (r : List Int) (h : Int) : ((rangeI r.length).filter (c1 ds es r h) ++ (rangeI r.length).filter (c2 ds es r h)).isEmpty = fitB ds es r h := by
  have key : ∀ p q : Nat → Bool, ∀ xs : List Nat, (((xs.map fun (k : Nat) => (k : Int)).filter fun a => !p a.toNat) ++ ((xs.map fun (k : Nat) => (k : Int)).filter fun a => !q a.toNat)).isEmpty = xs.all fun a => p a && q a := by
    intro p q xs
    rw [Bool.eq_iff_iff, List.isEmpty_iff, List.append_eq_nil_iff, List.filter_eq_nil_iff, List.filter_eq_nil_iff, List.all_eq_true]
    constructor
    · rintro ⟨h1, h2⟩ a ha
      have h3 := h1 (a : Int) (List.mem_map.mpr ⟨a, ha, rfl⟩)
      have h4 := h2 (a : Int) (List.mem_map.mpr ⟨a, ha, rfl⟩)
      simp only [Int.toNat_natCast] at h3 h4
      simp at h3 h4
      simp [h3, h4]
    · intro hh
      constructor
      · intro z hz
        obtain ⟨a, ha, rfl⟩ := List.mem_map.mp hz
        have := hh a ha
        simp at this ⊢
        exact this.1
      · intro z hz
        obtain ⟨a, ha, rfl⟩ := List.mem_map.mp hz
        have := hh a ha
        simp at this ⊢
        exact this.2
  unfold fitB rangeI
  rw [Int.toNat_natCast]
  have := key (fun a => decide (((a : Int), (r.length : Int)) ∈ ds) == decide ((r.getD a 0, h) ∈ es)) (fun a => decide (((r.length : Int), (a : Int)) ∈ ds) == decide ((h, r.getD a 0) ∈ es)) (List.range r.length)
  rw [show (List.range r.length).all (fit1 ds es r h) = (List.range r.length).all fun a => (decide (((a : Int), (r.length : Int)) ∈ ds) == decide ((r.getD a 0, h) ∈ es)) && (decide (((r.length : Int), (a : Int)) ∈ ds) == decide ((h, r.getD a 0) ∈ es)) from rfl, ← this]
  refine congrArg List.isEmpty (congr (congrArg _ (List.filter_congr fun z hz => ?_)) (List.filter_congr fun z hz => ?_))
  · obtain ⟨a, ha, rfl⟩ := List.mem_map.mp hz
    simp [c1]
  · obtain ⟨a, ha, rfl⟩ := List.mem_map.mp hz
    simp [c2]
def mE (H1 H2 : PyData) (ds es : List (Int × Int)) (rows : List (List Int)) (k : Nat) (longer : List (List Int)) (r : List Int) (h : Int) (o9 : Option OV) : Env :=
  [some (.d H1), some (.d H2), some (.d (.list (rows.map tupI))), some (.d (.int (k : Nat))), some (.d (.list (longer.map tupI))), some (.d (tupI r)), some (.d (.int h)), some (.d (.tuple (ds.map pairD))), some (.d (.tuple (es.map pairD))), o9, none]
section
variable {H1 H2 : PyData} {ds es : List (Int × Int)} {rows longer : List (List Int)} {r : List Int} {h : Int} {o9 : Option OV} {Q : OV → Env → Prop}
theorem bad1 (hl : r.length ≤ 1000) (q : Q (.lst (((rangeI r.length).filter (c1 ds es r h)).map .int)) (mE H1 H2 ds es rows r.length longer r h o9)) :
    Tr (mComp [10] (mRange1 (dV 3)) (gN 10) (asB (mBin gNe (frz (mBin gIn (frz (mTup (mCons (dV 10) (mCons (dV 3) (pure []))))) (dV 7))) (frz (mBin gIn (frz (mTup (mCons (frz (mBin gIx (dV 5) (dV 10))) (mCons (dV 6) (pure []))))) (dV 8))))) (dV 10)) (mE H1 H2 ds es rows r.length longer r h o9) Q := by
  refine Tr.comp (xs := (rangeI r.length).map .int) (keepI (c1 ds es r h)) ?_ rfl (by rw [List.length_map, rangeI_len]; omega) ?_ (by rw [keepI_map]; exact q)
  · refine Tr_range1 (n := r.length) (by omega) (by omega) ?_
    simp [mE, rngD_nat]
  · intro x hx
    obtain ⟨a, ha, rfl⟩ := List.mem_map.mp hx
    obtain ⟨a1, a2⟩ := mem_rangeI.mp ha
    have hr : r[a.toNat]? = some (r.getD a.toNat 0) := by
      rw [List.getD_eq_getElem?_getD, List.getElem?_eq_getElem (by omega)]
      rfl
    have hix : gIx (tupI r) (.int a) = some (.d (.int (r.getD a.toNat 0))) := by
      have := gIx_tupI hr
      rwa [show ((a.toNat : Nat) : Int) = a by omega] at this
    simp only [wipeE, mE]
    simp [fits, gIn_door, hix, keepI, c1, -List.getD_eq_getElem?_getD]
    exact Classical.em _
theorem bad2 (hl : r.length ≤ 1000) (q : Q (.lst (((rangeI r.length).filter (c2 ds es r h)).map .int)) (mE H1 H2 ds es rows r.length longer r h o9)) :
    Tr (mComp [10] (mRange1 (dV 3)) (gN 10) (asB (mBin gNe (frz (mBin gIn (frz (mTup (mCons (dV 3) (mCons (dV 10) (pure []))))) (dV 7))) (frz (mBin gIn (frz (mTup (mCons (dV 6) (mCons (frz (mBin gIx (dV 5) (dV 10))) (pure []))))) (dV 8))))) (dV 10)) (mE H1 H2 ds es rows r.length longer r h o9) Q := by
  refine Tr.comp (xs := (rangeI r.length).map .int) (keepI (c2 ds es r h)) ?_ rfl (by rw [List.length_map, rangeI_len]; omega) ?_ (by rw [keepI_map]; exact q)
  · refine Tr_range1 (n := r.length) (by omega) (by omega) ?_
    simp [mE, rngD_nat]
  · intro x hx
    obtain ⟨a, ha, rfl⟩ := List.mem_map.mp hx
    obtain ⟨a1, a2⟩ := mem_rangeI.mp ha
    have hr : r[a.toNat]? = some (r.getD a.toNat 0) := by
      rw [List.getD_eq_getElem?_getD, List.getElem?_eq_getElem (by omega)]
      rfl
    have hix : gIx (tupI r) (.int a) = some (.d (.int (r.getD a.toNat 0))) := by
      have := gIx_tupI hr
      rwa [show ((a.toNat : Nat) : Int) = a by omega] at this
    simp only [wipeE, mE]
    simp [fits, gIn_door, hix, keepI, c2, -List.getD_eq_getElem?_getD]
    exact Classical.em _
end
/-- the halls met so far that go on from a row -/
def pushT (n : Int) (ds es : List (Int × Int)) (r : List Int) (i : Nat) : List (List Int) := (((rangeI n).take i).filter fun h => !decide (h ∈ r) && fitB ds es r h).map fun h => r ++ [h]
theorem pushT_all (n : Int) (ds es : List (Int × Int)) (r : List Int) : pushT n ds es r (rangeI n).length = pushR n ds es r := by
  unfold pushT pushR extR
  rw [List.take_length]
theorem pushT_succ {n : Int} {ds es : List (Int × Int)} {r : List Int} {i : Nat} {h : Int} (hh : (rangeI n)[i]? = some h) : pushT n ds es r (i + 1) = pushT n ds es r i ++ (if !decide (h ∈ r) && fitB ds es r h then [r ++ [h]] else []) := by
  unfold pushT
  rw [List.take_add_one, hh, List.filter_append, List.map_append]
  congr 1
  show List.map _ (List.filter _ [h]) = _
  rw [List.filter_cons]
  by_cases c : (!decide (h ∈ r) && fitB ds es r h) = true
  · rw [if_pos c, if_pos c]
    rfl
  · rw [if_neg c, if_neg c]
    rfl
theorem pushT_len {n : Int} {ds es : List (Int × Int)} {r : List Int} {i : Nat} (hi : i ≤ 10) : (pushT n ds es r i).length ≤ 10 := by
  unfold pushT
  rw [List.length_map]
  refine Nat.le_trans (List.length_filter_le _ _) ?_
  rw [List.length_take]
  omega
def lBody : M Fl := mIf (asB (mBin gNotIn (dV 6) (dV 5))) (mThen (mAsg (gT 2 (gsCons (gN 7) (gsCons (gN 8) (gsNil)))) (frz (mTup (mCons (frz (mBin gIx (dV 0) (dC (.int 1)))) (mCons (frz (mBin gIx (dV 1) (dC (.int 1)))) (pure []))))))
  (mThen (mSet 9 (dat (frz (mComp [10] (mRange1 (dV 3)) (gN 10) (asB (mBin gNe (frz (mBin gIn (frz (mTup (mCons (dV 10) (mCons (dV 3) (pure []))))) (dV 7))) (frz (mBin gIn (frz (mTup (mCons (frz (mBin gIx (dV 5) (dV 10))) (mCons (dV 6) (pure []))))) (dV 8))))) (dV 10)))))
  (mThen (mSet 9 (dat (frz (mBin gAdd (dV 9) (frz (mComp [10] (mRange1 (dV 3)) (gN 10) (asB (mBin gNe (frz (mBin gIn (frz (mTup (mCons (dV 3) (mCons (dV 10) (pure []))))) (dV 7))) (frz (mBin gIn (frz (mTup (mCons (dV 6) (mCons (frz (mBin gIx (dV 5) (dV 10))) (pure []))))) (dV 8))))) (dV 10)))))))
  (mSet 4 (dat (frz (mBin gAdd (dV 4) (frz (mBin gMulX (frz (mLst (mCons (frz (mBin gAdd (dV 5) (frz (mTup (mCons (dV 6) (pure [])))))) (pure [])))) (frz (mOne gInt (mBin gEq (dV 9) (frz (mLst (pure []))))))))))))))) (pure .nx)
theorem law_maps_eq : b__law_maps = mThen (mIf (mOr (asB (mBin gNe (frz (mBin gIx (dV 0) (dC (.int 0)))) (frz (mBin gIx (dV 1) (dC (.int 0)))))) (asB (mBin gNe (frz (mOne gLen (mBin gIx (dV 0) (dC (.int 1))))) (frz (mOne gLen (mBin gIx (dV 1) (dC (.int 1)))))))) (mRet (mLst (pure []))) (pure .nx))
  (mThen (mSet 2 (dat (frz (mLst (mCons (frz (mTup (pure []))) (pure []))))))
  (mThen (mFor (mRange1 (frz (mBin gIx (dV 0) (dC (.int 0))))) (gN 3) (mThen (mSet 4 (dat (frz (mLst (pure [])))))
  (mThen (mFor (mItems (dV 2)) (gN 5) (mFor (mRange1 (frz (mBin gIx (dV 0) (dC (.int 0))))) (gN 6) lBody))
  (mSet 2 (dat (dV 4))))))
  (mRet (mVar 2)))) := rfl
/-- an env of the law's maps -/
def mO (H1 H2 : PyData) (rows : List (List Int)) (k : Nat) (longer : List (List Int)) (o5 o6 o7 o8 o9 : Option OV) : Env :=
  [some (.d H1), some (.d H2), some (.d (.list (rows.map tupI))), some (.d (.int (k : Nat))), some (.d (.list (longer.map tupI))), o5, o6, o7, o8, o9, none]
theorem gAdd_ll {xs ys : List PyData} (h : xs.length + ys.length ≤ 16000000) : gAdd (.list xs) (.list ys) = some (.lst (xs ++ ys)) := by
  show (if xs.length + ys.length ≤ sizeLine then some (OV.lst (xs ++ ys)) else none) = _
  rw [if_pos (by rw [sizeLine_eq]; omega)]
theorem lBody_run {n m : Int} {ds es : List (Int × Int)} {rows longer : List (List Int)} {r : List Int} {h : Int} {o7 o8 o9 : Option OV} (hl : r.length ≤ 100) (hz : longer.length ≤ 10000000) :
    Tr lBody (mO (houseD n ds) (houseD m es) rows r.length longer (some (.d (tupI r))) (some (.d (.int h))) o7 o8 o9) fun f e => f = .nx ∧ ∃ o7 o8 o9, e = mO (houseD n ds) (houseD m es) rows r.length (longer ++ (if !decide (h ∈ r) && fitB ds es r h then [r ++ [h]] else [])) (some (.d (tupI r))) (some (.d (.int h))) o7 o8 o9 := by
  have i1 : ∀ (k : Int) (xs : List (Int × Int)), gIx (houseD k xs) (.int 1) = some (.d (.tuple (xs.map pairD))) := fun _ _ => gIx_t1 _ _ _
  unfold lBody mO
  by_cases hm : h ∈ r
  · simp [gNotIn_tup, hm]
  · simp [gNotIn_tup, hm, i1, fits]
    refine bad1 (H1 := houseD n ds) (H2 := houseD m es) (rows := rows) (longer := longer) (o9 := o9) (by omega) ?_
    simp [mE, -List.map_map]
    refine bad2 (H1 := houseD n ds) (H2 := houseD m es) (rows := rows) (longer := longer) (o9 := some (.d (.list (((rangeI r.length).filter (c1 ds es r h)).map .int)))) (by omega) ?_
    have hb := bad_fit ds es r h
    have hadd : gAdd (.list (((rangeI r.length).filter (c1 ds es r h)).map .int)) (.list (((rangeI r.length).filter (c2 ds es r h)).map .int)) = some (.lst (((rangeI r.length).filter (c1 ds es r h) ++ (rangeI r.length).filter (c2 ds es r h)).map .int)) := by
      rw [gAdd_ll, List.map_append]
      rw [List.length_map, List.length_map]
      have x1 := List.length_filter_le (c1 ds es r h) (rangeI r.length)
      have x2 := List.length_filter_le (c2 ds es r h) (rangeI r.length)
      rw [rangeI_len] at x1 x2
      omega
    generalize (rangeI r.length).filter (c1 ds es r h) = B1 at hb hadd ⊢
    generalize (rangeI r.length).filter (c2 ds es r h) = B2 at hb hadd ⊢
    cases hf : fitB ds es r h with
    | true =>
      rw [hf] at hb
      have hg := gAdd_ll (xs := longer.map tupI) (ys := [tupI (r ++ [h])]) (by simp; omega)
      simp only [mE]
      simp [hadd, gEq_nilI, fits, gAdd_tup1 r h (by omega), gMul_l1, hg, -List.map_append, hb]
    | false =>
      rw [hf] at hb
      have hg := gAdd_ll (xs := longer.map tupI) (ys := []) (by simp; omega)
      simp only [mE]
      simp [hadd, gEq_nilI, fits, gAdd_tup1 r h (by omega), gMul_l0, hg, -List.map_append, hb]
def rowsT (n : Int) (ds es : List (Int × Int)) (rows : List (List Int)) (j : Nat) : List (List Int) := (rows.take j).flatMap (pushR n ds es)
theorem law_maps_run {n m : Int} {ds es : List (Int × Int)} (h0 : 1 ≤ n) (h1 : n ≤ 6) : ∃ ov, Fd f__law_maps [houseD n ds, houseD m es] ov ∧ ov.dat = some (.list ((due n m ds es).map tupI)) := by
  have i0 : ∀ (k : Int) (xs : List (Int × Int)), gIx (houseD k xs) (.int 0) = some (.d (.int k)) := fun _ _ => gIx_t0 _ _
  have i1 : ∀ (k : Int) (xs : List (Int × Int)), gIx (houseD k xs) (.int 1) = some (.d (.tuple (xs.map pairD))) := fun _ _ => gIx_t1 _ _ _
  by_cases hc : n = m ∧ ds.length = es.length
  · obtain ⟨rfl, hl⟩ := hc
    refine ⟨.d (.list ((full n ds es []).map tupI)), Fd.by_ ?_, by unfold due; rw [if_pos ⟨rfl, hl⟩]; rfl⟩
    have hpw : ∀ k, k ≤ n.toNat → (rowsK n ds es k).length ≤ 46656 := fun k hk => by
      refine Nat.le_trans (rowsK_size k) ?_
      refine Nat.le_trans (Nat.pow_le_pow_left (by omega : n.toNat ≤ 6) k) ?_
      exact Nat.pow_le_pow_right (n := 6) (by omega) (by omega : k ≤ 6)
    show Tr b__law_maps _ _
    rw [law_maps_eq]
    simp [dEnv, i0, i1, hl, fits]
    refine Tr.for_ (xs := (rangeI n).map .int) (fun k e => ∃ o3 o4 o5 o6 o7 o8 o9, e = [some (.d (houseD n ds)), some (.d (houseD n es)), some (.d (.list ((rowsK n ds es k).map tupI))), o3, o4, o5, o6, o7, o8, o9, none]) ?_ ?_ ?_
    · refine Tr_range1 (n := n) (by omega) (by omega) ?_
      simp [i0, rngD_rangeI (by omega : 0 ≤ n), rowsK, tupI]
    · rintro k x e hx ⟨o3, o4, o5, o6, o7, o8, o9, rfl⟩
      rw [List.getElem?_map] at hx
      obtain ⟨z, hz, rfl⟩ := Option.map_eq_some_iff.mp hx
      have hkl : k < n.toNat := by
        have := (List.getElem?_eq_some_iff.mp hz).1
        rwa [rangeI_len] at this
      obtain rfl : z = (k : Int) := by
        unfold rangeI at hz
        rw [List.getElem?_map, List.getElem?_range hkl] at hz
        exact (Option.some.inj hz).symm
      simp [fits, sz0]
      refine Tr.for_ (xs := (rowsK n ds es k).map tupI) (fun j e => ∃ o5 o6 o7 o8 o9, e = mO (houseD n ds) (houseD n es) (rowsK n ds es k) k (rowsT n ds es (rowsK n ds es k) j) o5 o6 o7 o8 o9) ?_ ?_ ?_
      · simp [mO, rowsT]
      · rintro j x e hx ⟨o5, o6, o7, o8, o9, rfl⟩
        rw [List.getElem?_map] at hx
        obtain ⟨r, hr, rfl⟩ := Option.map_eq_some_iff.mp hx
        have hrl := rowsK_len (List.mem_of_getElem? hr)
        have hrk := hpw k (by omega)
        have hT : (rowsT n ds es (rowsK n ds es k) j).length ≤ 46656 * 6 := by
          unfold rowsT
          refine Nat.le_trans (flatMap_len (c := 6) fun q hq => ?_) ?_
          · unfold pushR
            rw [List.length_map]
            exact Nat.le_trans (extR_len n ds es q) (by omega)
          · refine Nat.mul_le_mul_right 6 ?_
            rw [List.length_take]
            omega
        rw [Tr_gN]
        refine Tr.for_ (xs := (rangeI n).map .int) (fun i e => ∃ o6 o7 o8 o9, e = mO (houseD n ds) (houseD n es) (rowsK n ds es k) k (rowsT n ds es (rowsK n ds es k) j ++ pushT n ds es r i) (some (.d (tupI r))) o6 o7 o8 o9) ?_ ?_ ?_
        · refine Tr_range1 (n := n) (by omega) (by omega) ?_
          simp [mO, i0, rngD_rangeI (by omega : 0 ≤ n), pushT]
        · rintro i x e hx ⟨o6, o7, o8, o9, rfl⟩
          rw [List.getElem?_map] at hx
          obtain ⟨h, hh, rfl⟩ := Option.map_eq_some_iff.mp hx
          have hi : i < n.toNat := by
            have := (List.getElem?_eq_some_iff.mp hh).1
            rwa [rangeI_len] at this
          have hp := pushT_len (n := n) (ds := ds) (es := es) (r := r) (i := i) (by omega)
          rw [Tr_gN]
          have hb := lBody_run (n := n) (m := n) (ds := ds) (es := es) (rows := rowsK n ds es k) (longer := rowsT n ds es (rowsK n ds es k) j ++ pushT n ds es r i) (r := r) (h := h) (o7 := o7) (o8 := o8) (o9 := o9) (by omega) (by rw [List.length_append]; omega)
          rw [hrl] at hb
          refine hb.mono ?_
          rintro f e ⟨rfl, o7, o8, o9, rfl⟩
          refine ⟨some (.d (.int h)), o7, o8, o9, ?_⟩
          rw [pushT_succ hh, List.append_assoc]
        · rintro e ⟨o6, o7, o8, o9, rfl⟩
          refine ⟨some (.d (tupI r)), o6, o7, o8, o9, ?_⟩
          rw [List.length_map, pushT_all]
          unfold rowsT
          rw [List.take_add_one, hr, List.flatMap_append]
          show mO _ _ _ _ _ _ _ _ _ _ = mO _ _ _ _ (_ ++ List.flatMap _ [r]) _ _ _ _ _
          rw [List.flatMap_singleton]
      · rintro e ⟨o5, o6, o7, o8, o9, rfl⟩
        rw [List.length_map]
        have : rowsT n ds es (rowsK n ds es k) (rowsK n ds es k).length = rowsK n ds es (k + 1) := by
          unfold rowsT
          rw [List.take_length]
          rfl
        rw [this]
        simp [mO]
    · rintro e ⟨o3, o4, o5, o6, o7, o8, o9, rfl⟩
      rw [List.length_map, rangeI_len, rowsK_all]
      simp
  · refine ⟨.lst [], Fd.by_ ?_, by unfold due; rw [if_neg hc]; rfl⟩
    show Tr b__law_maps _ _
    rw [law_maps_eq]
    by_cases hn : n = m
    · have hl' : ¬ ((ds.length : Int) = es.length) := fun q => hc ⟨hn, by omega⟩
      simp [dEnv, i0, i1, hn, fits]
      exact .inr hl'
    · simp [dEnv, i0, i1, hn, fits]
end TL
set_option Elab.async false
set_option linter.all false
set_option maxRecDepth 100000
namespace TL
open PySem PySem.Spec PyProof.Rows L2
section
variable {e : Env}
theorem Tr_c1 {m : M PyData} {mf : M OV} (k : Keeps mf) {Q : OV → Env → Prop} : Tr (mCall (.d m :: []) mf) e Q ↔ Tr m e fun x e1 => Tr (callK mf [x]) e1 Q := by
  show (∃ a e', mCall _ _ e = _ ∧ _) ↔ _
  simp only [mCall1_at k]
  exact Tr_bind
theorem Tr_c2 {m m2 : M PyData} {mf : M OV} (k : Keeps mf) {Q : OV → Env → Prop} : Tr (mCall (.d m :: .d m2 :: []) mf) e Q ↔ Tr m e fun x e1 => Tr m2 e1 fun y e2 => Tr (callK mf [x, y]) e2 Q := by
  show (∃ a e', mCall _ _ e = _ ∧ _) ↔ _
  simp only [mCall2_at k]
  refine Tr_bind.trans ?_
  simp only [Tr_bind]
theorem Tr_c3 {m m2 m3 : M PyData} {mf : M OV} (k : Keeps mf) {Q : OV → Env → Prop} : Tr (mCall (.d m :: .d m2 :: .d m3 :: []) mf) e Q ↔ Tr m e fun x e1 => Tr m2 e1 fun y e2 => Tr m3 e2 fun z e3 => Tr (callK mf [x, y, z]) e3 Q := by
  show (∃ a e', mCall _ _ e = _ ∧ _) ↔ _
  simp only [mCall3_at k]
  refine Tr_bind.trans ?_
  simp only [Tr_bind]
@[simp] theorem Tr_lenSet {m : M PyData} {Q : OV → Env → Prop} : Tr (mLenSet m) e Q ↔ Tr m e fun x e1 => ∃ r, gLenSet x = some r ∧ Q r e1 := by
  show Tr (m >>= fun x => M.opt (gLenSet x)) e Q ↔ _
  simp only [Tr_bind, Tr_opt]
end
theorem keeps_is_number : Keeps f_is_number := fnM_len
theorem keeps_need_house : Keeps f_need_house := fnM_len
theorem keeps_need_two : Keeps f_need_two := fnM_len
theorem keeps_like_of : Keeps f_like_of := fnM_len
theorem is_number_bool (b : Bool) (lo hi : Int) : Fd f_is_number [.bool b, .int lo, .int hi] (.d (.bool false)) := by
  refine Fd.by_ ?_
  unfold b_is_number
  simp [dEnv, (tyIs_bool b).2.2.2.1, (tyIs_bool b).2.2.2.2]
theorem tyIs_none_int : tyIs .none "int" = some false := by show kitB "NoneType" "int" = _; decide +kernel
theorem is_number_none (lo hi : Int) : Fd f_is_number [.none, .int lo, .int hi] (.d (.bool false)) := by
  refine Fd.by_ ?_
  unfold b_is_number
  simp [dEnv, tyIs_none_int]
theorem need_two_run {n m : Int} {ds es : List (Int × Int)} (g : Good n ds) (g2 : Good m es) : Fd f_need_two [houseD n ds, houseD m es] (.d .none) := by
  refine Fd.by_ ?_
  unfold b_need_two
  simp [dEnv, Tr_c1 keeps_need_house, (need_house_run g).tr, (need_house_run g2).tr]
theorem like_run {n m : Int} {ds es : List (Int × Int)} (g : Good n ds) (g2 : Good m es) : Fd f_like [houseD n ds, houseD m es] (.d (likeD n m ds es)) := by
  refine Fd.by_ ?_
  unfold b_like
  simp [dEnv, Tr_c2 keeps_need_two, (need_two_run g g2).tr, Tr_c2 keeps_like_of, (like_of_run g.lo g.hi (plt_nodup g.srt) (plt_nodup g2.srt) g.len g2.len).tr]
theorem are_alike_run {n m : Int} {ds es : List (Int × Int)} (g : Good n ds) (g2 : Good m es) : Fd f_are_alike [houseD n ds, houseD m es] (.d (.bool (!isNone (likeD n m ds es)))) := by
  refine Fd.by_ ?_
  unfold b_are_alike
  simp [dEnv, Tr_c2 keeps_need_two, (need_two_run g g2).tr, Tr_c2 keeps_like_of, (like_of_run g.lo g.hi (plt_nodup g.srt) (plt_nodup g2.srt) g.len g2.len).tr]
theorem gEq_doors (xs ys : List (Int × Int)) : gEq (.tuple (xs.map pairD)) (.tuple (ys.map pairD)) = some (.d (.bool (decide (xs = ys)))) := by
  have ok : ∀ zs : List (Int × Int), OkN 2 (.tuple (zs.map pairD)) := fun zs => okN_tuple (d := 1) fun x hx => by
    obtain ⟨p, _, rfl⟩ := List.mem_map.mp hx
    exact okN_pair p
  rw [gEq_ok (ok xs) (ok ys) (by omega), PyData.eqv]
  have : ∀ xs ys : List (Int × Int), PyData.eqvAll (xs.map pairD) (ys.map pairD) = decide (xs = ys) := by
    intro xs
    induction xs with
    | nil => intro ys; cases ys <;> rfl
    | cons p xs ih =>
      intro ys
      cases ys with
      | nil => rfl
      | cons q ys =>
        show (PyData.eqv (pairD p) (pairD q) && PyData.eqvAll (xs.map pairD) (ys.map pairD)) = _
        have e : PyData.eqv (pairD p) (pairD q) = decide (p = q) := by
          show (PyData.eqv (.int p.1) (.int q.1) && (PyData.eqv (.int p.2) (.int q.2) && true)) = _
          rw [eqv_int, eqv_int, Bool.and_true, Bool.eq_iff_iff]
          simp [Prod.ext_iff]
        rw [ih ys, e, Bool.eq_iff_iff]
        simp
  rw [this]
theorem setI_len {ns : List Int} (h : ns.Nodup) : (setI ns).length = ns.length := by
  have nd : (setI ns).Nodup := by
    rw [List.nodup_iff_pairwise_ne]
    exact (setI_sorted ns).imp fun {a b} hab => by omega
  exact Nat.le_antisymm (nodup_le nd fun x hx => mem_setI.mp hx) (nodup_le h fun x hx => mem_setI.mpr hx)
theorem intsOf_map : ∀ ns : List Int, intsOf (ns.map .int) = some ns
  | [] => rfl
  | n :: ns => by
    show (intsOf (ns.map .int)).map (n :: ·) = _
    rw [intsOf_map ns]
    rfl
theorem gLenSet_tup {p : List Int} (hl : p.length < 64) (nd : p.Nodup) : gLenSet (tupI p) = some (.d (.int (p.length : Nat))) := by
  show (if (p.map PyData.int).length < 64 then (intsOf (p.map .int)).map (fun ns => OV.d (.int (setI ns).length)) else none) = _
  rw [List.length_map, if_pos hl, intsOf_map, Option.map_some, setI_len nd]
section
variable {n m : Int} {ds es : List (Int × Int)}
theorem shows_none (g : Good n ds) (g2 : Good m es) : Fd f_shows_like [houseD n ds, houseD m es, .none] (.d (.bool (isNone (likeD n m ds es)))) := by
  refine Fd.by_ ?_
  unfold b_shows_like
  simp [dEnv, Tr_c2 keeps_need_two, (need_two_run g g2).tr, Tr_c2 keeps_like_of, (like_of_run g.lo g.hi (plt_nodup g.srt) (plt_nodup g2.srt) g.len g2.len).tr, isNone]
theorem hI0 (k : Int) (xs : List (Int × Int)) : gIx (houseD k xs) (.int 0) = some (.d (.int k)) := gIx_t0 _ _
theorem hI1 (k : Int) (xs : List (Int × Int)) : gIx (houseD k xs) (.int 1) = some (.d (.tuple (xs.map pairD))) := gIx_t1 _ _ _
/-- not even a tuple of that many -/
theorem shows_odd (g : Good n ds) (g2 : Good m es) {x : PyData} (hx : isNone x = false) (h : n ≠ m ∨ tyIs x "tuple" = some false ∨ ∃ xs, x = .tuple xs ∧ (xs.length : Int) ≠ n) : Fd f_shows_like [houseD n ds, houseD m es, x] (.d (.bool false)) := by
  refine Fd.by_ ?_
  unfold b_shows_like
  by_cases hn : n = m
  · subst hn
    rcases h with h | h | ⟨xs, rfl, h⟩
    · exact absurd rfl h
    · simp [dEnv, Tr_c2 keeps_need_two, (need_two_run g g2).tr, hx, hI0, h]
    · simp [dEnv, Tr_c2 keeps_need_two, (need_two_run g g2).tr, hx, hI0, h]
  · simp [dEnv, Tr_c2 keeps_need_two, (need_two_run g g2).tr, hx, hI0, hn]
/-- an element that is no hall -/
theorem shows_bad (g : Good n ds) (g2 : Good n es) {xs : List PyData} (hl : (xs.length : Int) = n) (q : PyData → Bool) (hq : ∀ y ∈ xs, Fd f_is_number [y, .int 0, .int (n - 1)] (.d (.bool (q y)))) (hf : xs.all q = false) : Fd f_shows_like [houseD n ds, houseD n es, .tuple xs] (.d (.bool false)) := by
  refine Fd.by_ ?_
  unfold b_shows_like
  simp [dEnv, Tr_c2 keeps_need_two, (need_two_run g g2).tr, hI0, isNone, hl]
  refine Tr.all (xs := xs) q (by simp) rfl ?_ ?_
  · intro y hy
    simp [wipeE, Tr_c3 keeps_is_number, hI0, (hq y hy).tr]
  · rw [hf]
    simp
/-- an order of halls -/
theorem shows_perm (g : Good n ds) (g2 : Good n es) {p : List Int} (hp : Perm1 n p) : Fd f_shows_like [houseD n ds, houseD n es, tupI p] (.d (.bool (decide (movedD p ds = es)))) := by
  refine Fd.by_ ?_
  unfold b_shows_like
  have hl := hp.len
  have hlo := g.lo
  have hhi := g.hi
  have hnn : isNone (tupI p) = false := rfl
  have htt : tyIs (tupI p) "tuple" = some true := tyIs_tuple_tuple _
  have hix : ∀ x, inN n x → gIx (tupI p) (.int x) = some (.d (.int (at1 p x))) := fun x hx => by
    have := gIx_tupI (at1_get hp hx)
    rwa [show ((x.toNat : Nat) : Int) = x by unfold inN at hx; omega] at this
  simp [dEnv, Tr_c2 keeps_need_two, (need_two_run g g2).tr, hI0, hnn, htt, gLen_tup, hl]
  refine Tr.all (xs := p.map .int) (fun _ => true) (by simp [tupI]) rfl ?_ ?_
  · intro y hy
    obtain ⟨z, hz, rfl⟩ := List.mem_map.mp hy
    obtain ⟨z1, z2⟩ := hp.mem z hz
    have F := is_number_int z 0 (n - 1)
    rw [show (decide (0 ≤ z) && decide (z ≤ n - 1)) = true by simp; omega] at F
    simp [wipeE, Tr_c3 keeps_is_number, hI0, F.tr]
  · rw [show ((p.map PyData.int).all fun _ => true) = true by simp]
    simp [gLenSet_tup (by omega) hp.nd, gLen_tup, hl]
    refine Tr.comp (xs := ds.map pairD) (fun x => some (pairD (mv p (unD x)))) (by simp [hI1]) rfl (by rw [List.length_map]; exact g.len) ?_ ?_
    · intro x hx
      obtain ⟨d, hd, rfl⟩ := List.mem_map.mp hx
      obtain ⟨d1, d2, _⟩ := g.ok d hd
      show Tr (gT 2 _ (.tuple [.int d.1, .int d.2])) _ _
      simp [wipeE, hix _ d1, hix _ d2, fits, unD, mv, pairD]
    · have : (ds.map pairD).filterMap (fun x => some (pairD (mv p (unD x)))) = (ds.map (mv p)).map pairD := by
        rw [List.filterMap_map, List.map_map]
        show ds.filterMap (fun d => some (pairD (mv p (unD (pairD d))))) = _
        rw [← List.filterMap_eq_map]
        rfl
      rw [this]
      have hg := gSorted_pairs (ds.map (mv p))
      unfold movedD
      generalize ds.map (mv p) = L at hg ⊢
      simp [hg, hI1, gEq_doors]
end
end TL
set_option Elab.async false
set_option linter.all false
set_option maxRecDepth 100000
namespace TL
open PySem PySem.Spec PyProof.Rows L2
/-- as far as it goes, p keeps doors both ways -/
structure Keep (n : Int) (ds es : List (Int × Int)) (p : List Int) : Prop where
  nd : p.Nodup
  mem : ∀ x ∈ p, inN n x
  keep : ∀ a b : Nat, a < p.length → b < p.length → a ≠ b → (((a : Int), (b : Int)) ∈ ds ↔ (p.getD a 0, p.getD b 0) ∈ es)
theorem getD_l {q : List Int} {h : Int} {a : Nat} (ha : a < q.length) : (q ++ [h]).getD a 0 = q.getD a 0 := by
  rw [List.getD_eq_getElem?_getD, List.getD_eq_getElem?_getD, List.getElem?_append_left ha]
theorem getD_r {q : List Int} {h : Int} : (q ++ [h]).getD q.length 0 = h := by
  rw [List.getD_eq_getElem?_getD, List.getElem?_append_right (Nat.le_refl _), Nat.sub_self]
  rfl
theorem fitB_iff {ds es : List (Int × Int)} {q : List Int} {h : Int} : fitB ds es q h = true ↔ ∀ a < q.length, (((a : Int), (q.length : Int)) ∈ ds ↔ (q.getD a 0, h) ∈ es) ∧ (((q.length : Int), (a : Int)) ∈ ds ↔ (h, q.getD a 0) ∈ es) := by
  unfold fitB fit1
  rw [List.all_eq_true]
  constructor
  · intro hh a ha
    have := hh a (List.mem_range.mpr ha)
    rw [Bool.and_eq_true, beq_iff_eq, beq_iff_eq, decide_eq_decide, decide_eq_decide] at this
    exact this
  · intro hh a ha
    rw [Bool.and_eq_true, beq_iff_eq, beq_iff_eq, decide_eq_decide, decide_eq_decide]
    exact hh a (List.mem_range.mp ha)
theorem keep_snoc {n : Int} {ds es : List (Int × Int)} {q : List Int} {h : Int} : Keep n ds es (q ++ [h]) ↔ Keep n ds es q ∧ h ∈ extR n ds es q := by
  unfold extR
  rw [List.mem_filter, mem_rangeI, Bool.and_eq_true, fitB_iff]
  constructor
  · rintro ⟨nd, mem, keep⟩
    rw [List.nodup_append] at nd
    refine ⟨⟨nd.1, fun x hx => mem x (List.mem_append_left _ hx), fun a b ha hb hab => ?_⟩, mem h (List.mem_append_right _ List.mem_cons_self), ?_, fun a ha => ⟨?_, ?_⟩⟩
    · have := keep a b (by rw [List.length_append]; omega) (by rw [List.length_append]; omega) hab
      rwa [getD_l ha, getD_l hb] at this
    · have : h ∉ q := fun hm => nd.2.2 h hm h List.mem_cons_self rfl
      simp [this]
    · have := keep a q.length (by rw [List.length_append]; omega) (by rw [List.length_append]; simp) (by omega)
      rwa [getD_l ha, getD_r] at this
    · have := keep q.length a (by rw [List.length_append]; simp) (by rw [List.length_append]; omega) (by omega)
      rwa [getD_l ha, getD_r] at this
  · rintro ⟨⟨nd, mem, keep⟩, hh, hm, fit⟩
    have hm : h ∉ q := by simpa using hm
    refine ⟨?_, fun x hx => ?_, fun a b ha hb hab => ?_⟩
    · rw [List.nodup_append]
      exact ⟨nd, by simp, fun x hx y hy e => by rw [List.mem_singleton.mp hy] at e; exact hm (e ▸ hx)⟩
    · rcases List.mem_append.mp hx with hx | hx
      · exact mem x hx
      · rw [List.mem_singleton.mp hx]; exact hh
    · rw [List.length_append] at ha hb
      have ha : a < q.length + 1 := ha
      have hb : b < q.length + 1 := hb
      by_cases h1 : a < q.length
      · by_cases h2 : b < q.length
        · rw [getD_l h1, getD_l h2]
          exact keep a b h1 h2 hab
        · obtain rfl : b = q.length := by omega
          rw [getD_l h1, getD_r]
          exact (fit a h1).1
      · obtain rfl : a = q.length := by omega
        have h2 : b < q.length := by omega
        rw [getD_l h2, getD_r]
        exact (fit b h2).2
theorem mem_rowsK {n : Int} {ds es : List (Int × Int)} : ∀ {k : Nat} {p : List Int}, p ∈ rowsK n ds es k ↔ p.length = k ∧ Keep n ds es p
  | 0, p => by
    show p ∈ [[]] ↔ _
    rw [List.mem_singleton]
    constructor
    · rintro rfl
      exact ⟨rfl, List.nodup_nil, fun x hx => (by cases hx), fun a b ha => (by cases ha)⟩
    · exact fun h => List.length_eq_zero_iff.mp h.1
  | k + 1, p => by
    show p ∈ (rowsK n ds es k).flatMap (pushR n ds es) ↔ _
    rw [List.mem_flatMap]
    constructor
    · rintro ⟨q, hq, hp⟩
      obtain ⟨h, hh, rfl⟩ := List.mem_map.mp hp
      obtain ⟨h1, h2⟩ := mem_rowsK.mp hq
      exact ⟨by rw [List.length_append, h1]; rfl, keep_snoc.mpr ⟨h2, hh⟩⟩
    · rintro ⟨h1, h2⟩
      have hne : p ≠ [] := fun e => by rw [e] at h1; cases h1
      have e := List.dropLast_concat_getLast hne
      rw [← e] at h2
      obtain ⟨h3, h4⟩ := keep_snoc.mp h2
      refine ⟨p.dropLast, mem_rowsK.mpr ⟨by rw [List.length_dropLast, h1]; rfl, h3⟩, List.mem_map.mpr ⟨p.getLast hne, h4, e⟩⟩
theorem mem_full {n : Int} {ds es : List (Int × Int)} {p : List Int} : p ∈ full n ds es [] ↔ p.length = n.toNat ∧ Keep n ds es p := by
  rw [← rowsK_all, mem_rowsK]
theorem full_perm {n : Int} {ds es : List (Int × Int)} {p : List Int} (h0 : 0 ≤ n) (h : p ∈ full n ds es []) : Perm1 n p := by
  obtain ⟨h1, h2⟩ := mem_full.mp h
  exact ⟨by omega, h2.nd, h2.mem⟩
theorem sub_len {α : Type} [DecidableEq α] {l m : List α} (h1 : l.Nodup) (h2 : ∀ x ∈ l, x ∈ m) (h3 : m.length ≤ l.length) : ∀ x ∈ m, x ∈ l := fun x hx => by
  apply Classical.byContradiction
  intro hn
  have := nodup_le (l := x :: l) (m := m) (List.nodup_cons.mpr ⟨hn, h1⟩) fun y hy => by
    rcases List.mem_cons.mp hy with rfl | hy
    · exact hx
    · exact h2 y hy
  rw [List.length_cons] at this
  omega
theorem plt_unique {l m : List (Int × Int)} (h1 : l.Pairwise plt) (h2 : m.Pairwise plt) (h : ∀ x, x ∈ l ↔ x ∈ m) : l = m := by
  have w : ∀ {l : List (Int × Int)}, l.Pairwise plt → l.Pairwise fun p q => pairLe p q = true := fun h => h.imp fun {a b} q => by
    unfold plt at q
    unfold pairLe
    rw [decide_eq_true_iff]
    omega
  have pm : l.Perm m := (List.perm_ext_iff_of_nodup (plt_nodup h1) (plt_nodup h2)).mpr h
  exact pm.eq_of_pairwise (fun a b _ _ h3 h4 => pairLe_anti a b h3 h4) (w h1) (w h2)
theorem keep_moved {n : Int} {ds es : List (Int × Int)} (g : Good n ds) (g2 : Good n es) {p : List Int} (hp : Perm1 n p) : movedD p ds = es ↔ p ∈ due n n ds es := by
  have hlo := g.lo
  have hlen := hp.len
  have at1D : ∀ a : Nat, at1 p (a : Int) = p.getD a 0 := fun a => rfl
  unfold due
  constructor
  · intro h
    have hl : ds.length = es.length := by
      rw [← h]
      unfold movedD
      rw [sortP_len, List.length_map]
    rw [if_pos ⟨rfl, hl⟩, mem_full]
    refine ⟨by omega, hp.nd, hp.mem, fun a b ha hb hab => ?_⟩
    have ia : inN n (a : Int) := ⟨by omega, by omega⟩
    have ib : inN n (b : Int) := ⟨by omega, by omega⟩
    rw [← at1D, ← at1D, ← h]
    unfold movedD
    rw [mem_sortP, List.mem_map]
    constructor
    · exact fun hm => ⟨_, hm, rfl⟩
    · rintro ⟨d, hd, e⟩
      obtain ⟨d1, d2, _⟩ := g.ok d hd
      have e1 := at1_inj hp d1 ia (congrArg Prod.fst e)
      have e2 := at1_inj hp d2 ib (congrArg Prod.snd e)
      rw [← e1, ← e2]
      exact hd
  · intro h
    by_cases hl : ds.length = es.length
    · rw [if_pos ⟨rfl, hl⟩, mem_full] at h
      obtain ⟨_, nd, mem, keep⟩ := h
      have sub : ∀ x ∈ movedD p ds, x ∈ es := fun x hx => by
        obtain ⟨d, hd, rfl⟩ := List.mem_map.mp (mem_sortP.mp hx)
        obtain ⟨⟨a1, a2⟩, ⟨b1, b2⟩, hne⟩ := g.ok d hd
        have := keep d.1.toNat d.2.toNat (by omega) (by omega) (by omega)
        rw [Int.toNat_of_nonneg a1, Int.toNat_of_nonneg b1] at this
        exact this.mp hd
      have gm := moved_good hp g
      have lm : (movedD p ds).length = ds.length := by
        unfold movedD
        rw [sortP_len, List.length_map]
      exact plt_unique gm.srt g2.srt fun x => ⟨sub x, sub_len (plt_nodup gm.srt) sub (by omega) x⟩
    · rw [if_neg (fun q => hl q.2)] at h
      cases h
theorem due_ne {n m : Int} (h : n ≠ m) (ds es : List (Int × Int)) : due n m ds es = [] := by
  unfold due
  rw [if_neg (fun q => h q.1)]
theorem likeD_due {n m : Int} {ds es : List (Int × Int)} : likeD n m ds es = match due n m ds es with
    | [] => .none
    | r :: _ => tupI r := by
  unfold likeD due
  split <;> rfl
/-- a house is like itself -/
theorem due_self {n : Int} {ds : List (Int × Int)} (g : Good n ds) : due n n ds ds ≠ [] := by
  have hlo := g.lo
  have hp : Perm1 n (rangeI n) := ⟨by rw [rangeI_len]; omega, rangeI_nodup n, fun x hx => mem_rangeI.mp hx⟩
  have e : ∀ x, inN n x → at1 (rangeI n) x = x := fun x ⟨h1, h2⟩ => by
    unfold at1 rangeI
    rw [List.getD_eq_getElem?_getD, List.getElem?_map, List.getElem?_range (by omega)]
    simp
    omega
  have : movedD (rangeI n) ds = ds := by
    unfold movedD
    have : ds.map (mv (rangeI n)) = ds := by
      rw [← List.map_id ds]
      rw [List.map_map]
      refine List.map_congr_left fun d hd => ?_
      obtain ⟨d1, d2, _⟩ := g.ok d hd
      show (at1 _ d.1, at1 _ d.2) = d
      rw [e _ d1, e _ d2]
    rw [this]
    exact plt_unique (sortP_plt (plt_nodup g.srt)) g.srt fun x => mem_sortP
  have := (keep_moved g g hp).mp this
  exact fun h => by rw [h] at this; cases this
theorem due_perm {n m : Int} {ds es : List (Int × Int)} {p : List Int} (h0 : 0 ≤ n) (h : p ∈ due n m ds es) : n = m ∧ Perm1 n p := by
  unfold due at h
  split at h
  · rename_i c
    exact ⟨c.1, full_perm h0 h⟩
  · cases h
end TL
set_option Elab.async false
set_option linter.all false
set_option maxRecDepth 100000
namespace TL
open PySem PySem.Spec PyProof.Rows L2
section
variable {e : Env} {Q : OV → Env → Prop} {i : Nat} {m : M PyData} {v0 : OV}
/-- a call that is handed the row and one value more -/
theorem Tr.s1 {f : M OV} (h0 : e[i]? = some (some v0)) (hm : Tr m e fun x e1 => ∃ v, e1[i]? = some (some v) ∧ ∃ r v' o, f [some v, some (.d x)] = some (.ok r [some v', o]) ∧ Q r (e1.set i (some v'))) : Tr (mCall (.s i :: .d m :: []) f) e Q := by
  obtain ⟨x, e1, h1, v, h2, r, v', o, h3, h4⟩ := hm
  exact ⟨r, _, mCall_s1 h0 h1 h2 h3, h4⟩
theorem Tr.taken (h0 : e[i]? = some (some v0)) (hm : Tr m e fun x e1 => ∃ v many, e1[i]? = some (some v) ∧ RowOk v ∧ x = .int many ∧ 0 < many ∧ many < 1000000000 ∧ ∀ r v', RowOk v' → 0 ≤ r → r < many → Q (.d (.int r)) (e1.set i (some v'))) : Tr (mCall (.s i :: .d m :: []) f__law_taken) e Q := by
  refine Tr.s1 h0 (hm.mono fun x e1 ⟨v, many, h1, h2, h3, h4, h5, h6⟩ => ?_)
  subst h3
  obtain ⟨r, v', g1, g2, g3, g4⟩ := taken_run h2 h4 (by omega)
  exact ⟨v, h1, _, v', _, g1, h6 r v' g2 g3 g4⟩
theorem Tr.pick (h0 : e[i]? = some (some v0)) (hm : Tr m e fun x e1 => ∃ v xs, e1[i]? = some (some v) ∧ RowOk v ∧ x = .list xs ∧ 0 < xs.length ∧ xs.length ≤ 1000000 ∧ ∀ z v', RowOk v' → z ∈ xs → Q (.d z) (e1.set i (some v'))) : Tr (mCall (.s i :: .d m :: []) f__law_pick) e Q := by
  refine Tr.s1 h0 (hm.mono fun x e1 ⟨v, xs, h1, h2, h3, h4, h5, h6⟩ => ?_)
  subst h3
  obtain ⟨z, v', g1, g2, g3⟩ := pick_run h2 h4 h5
  exact ⟨v, h1, _, v', _, g1, h6 z v' g2 g3⟩
theorem Tr.turn (h0 : e[i]? = some (some v0)) (hm : Tr m e fun x e1 => ∃ v n, e1[i]? = some (some v) ∧ RowOk v ∧ x = .int n ∧ 0 ≤ n ∧ n ≤ 10 ∧ ∀ p v', RowOk v' → Perm1 n p → Q (.d (tupI p)) (e1.set i (some v'))) : Tr (mCall (.s i :: .d m :: []) f__law_turn) e Q := by
  refine Tr.s1 h0 (hm.mono fun x e1 ⟨v, n, h1, h2, h3, h4, h5, h6⟩ => ?_)
  subst h3
  obtain ⟨p, v', g1, g2, g3⟩ := turn_run h2 h4 h5
  exact ⟨v, h1, _, v', _, g1, h6 p v' g2 g3⟩
theorem Tr.house (h0 : e[i]? = some (some v0)) {most : Int} (h1 : 2 ≤ most) (h2 : most ≤ 10) (K : Fd f__law_known [.int most] (.lst (knownsD most))) (hm : Tr m e fun x e1 => ∃ v, e1[i]? = some (some v) ∧ RowOk v ∧ x = .int most ∧ ∀ n ds v', RowOk v' → n ≤ most → Good n ds → ds.length ≤ 20 → Q (.d (houseD n ds)) (e1.set i (some v'))) : Tr (mCall (.s i :: .d m :: []) f__law_house) e Q := by
  refine Tr.s1 h0 (hm.mono fun x e1 ⟨v, h3, h4, h5, h6⟩ => ?_)
  subst h5
  obtain ⟨n, ds, v', g1, g2, g3, g4, g5⟩ := law_house_run h4 h1 h2 K
  exact ⟨v, h3, _, v', _, g1, h6 n ds v' g2 g3 g4 g5⟩
end
theorem keeps_moved : Keeps f__law_moved := fnM_len
theorem keeps_maps : Keeps f__law_maps := fnM_len
theorem keeps_like : Keeps f_like := fnM_len
theorem keeps_are_alike : Keeps f_are_alike := fnM_len
theorem keeps_shows : Keeps f_shows_like := fnM_len
theorem keeps_alike : Keeps f__law_alike := r_len 8
theorem moved_runT {n : Int} {p : List Int} {ds : List (Int × Int)} (h : Perm1 n p) (g : Good n ds) : Fd f__law_moved [houseD n ds, tupI p] (.d (houseD n (movedD p ds))) := moved_run h (fun d hd => ⟨(g.ok d hd).1, (g.ok d hd).2.1⟩) g.len
theorem alike_bool (b : Bool) : Fd f__law_alike [.bool b, .bool b] (.d (.bool true)) := law_alike_run (d := 0) (.bool b) (by omega)
theorem eqv_tupI (p q : List Int) : PyData.eqv (tupI p) (tupI q) = decide (p = q) := by
  unfold tupI
  rw [PyData.eqv]
  have : ∀ xs ys : List Int, PyData.eqvAll (xs.map .int) (ys.map .int) = decide (xs = ys) := by
    intro xs
    induction xs with
    | nil => intro ys; cases ys <;> rfl
    | cons x xs ih =>
      intro ys
      cases ys with
      | nil => rfl
      | cons y ys =>
        show (PyData.eqv (.int x) (.int y) && PyData.eqvAll (xs.map .int) (ys.map .int)) = _
        rw [ih ys, eqv_int, Bool.eq_iff_iff]
        simp
  exact this p q
theorem okN_tupI (p : List Int) : OkN 1 (tupI p) := okN_tuple (d := 0) fun x hx => by
  obtain ⟨i, _, rfl⟩ := List.mem_map.mp hx
  exact okN_int i
theorem okN_tups (L : List (List Int)) : OkN 2 (.list (L.map tupI)) := okN_list (d := 1) fun x hx => by
  obtain ⟨i, _, rfl⟩ := List.mem_map.mp hx
  exact okN_tupI i
theorem any_tups (p : List Int) (L : List (List Int)) : ((L.map tupI).any fun z => PyData.eqv z (tupI p)) = decide (p ∈ L) := by
  rw [List.any_map, Bool.eq_iff_iff, List.any_eq_true, decide_eq_true_iff]
  constructor
  · rintro ⟨z, hz, h⟩
    have h : PyData.eqv (tupI z) (tupI p) = true := h
    rw [eqv_tupI, decide_eq_true_iff] at h
    exact h ▸ hz
  · exact fun h => ⟨p, h, by show PyData.eqv (tupI p) (tupI p) = true; rw [eqv_tupI]; simp⟩
theorem gIn_tups (p : List Int) (L : List (List Int)) : gIn (tupI p) (.list (L.map tupI)) = some (.d (.bool (decide (p ∈ L)))) := by
  show (if okD (tupI p) && okD (.list (L.map tupI)) then some (OV.d (.bool ((L.map tupI).any fun z => PyData.eqv z (tupI p)))) else none) = _
  rw [okD_tupI, (okN_tups L).ok (by decide), any_tups]
  rfl
theorem gNotIn_tups (p : List Int) (L : List (List Int)) : gNotIn (tupI p) (.list (L.map tupI)) = some (.d (.bool (!decide (p ∈ L)))) := by
  show (if okD (tupI p) && okD (.list (L.map tupI)) then some (OV.d (.bool (!(L.map tupI).any fun z => PyData.eqv z (tupI p)))) else none) = _
  rw [okD_tupI, (okN_tups L).ok (by decide), any_tups]
  rfl
theorem gEq_nilT (L : List (List Int)) : gEq (.list (L.map tupI)) (.list []) = some (.d (.bool L.isEmpty)) := by
  rw [gEq_ok (okN_tups L) (okN_list (d := 1) fun x hx => by cases hx) (by omega), PyData.eqv]
  cases L <;> rfl
theorem gNe_nilT (L : List (List Int)) : gNe (.list (L.map tupI)) (.list []) = some (.d (.bool (!L.isEmpty))) := by
  rw [gNe_ok (okN_tups L) (okN_list (d := 1) fun x hx => by cases hx) (by omega), PyData.eqv]
  cases L <;> rfl
/-- what shows_like tells of a told map -/
theorem shows_told {n m : Int} {ds es : List (Int × Int)} (g : Good n ds) (g2 : Good m es) : Fd f_shows_like [houseD n ds, houseD m es, likeD n m ds es] (.d (.bool true)) := by
  cases hd : due n m ds es with
  | nil =>
    have e : likeD n m ds es = .none := by rw [likeD_due, hd]
    have := shows_none g g2
    rw [e] at this ⊢
    exact this
  | cons r rs =>
    have e : likeD n m ds es = tupI r := by rw [likeD_due, hd]
    rw [e]
    have hr : r ∈ due n m ds es := by rw [hd]; exact List.mem_cons_self
    have hlo := g.lo
    obtain ⟨rfl, hp⟩ := due_perm (by omega) hr
    have := shows_perm g g2 hp
    rwa [show decide (movedD r ds = es) = true from decide_eq_true ((keep_moved g g2 hp).mpr hr)] at this
theorem shows_order {n m : Int} {ds es : List (Int × Int)} (g : Good n ds) (g2 : Good m es) {p : List Int} (hp : Perm1 n p) : Fd f_shows_like [houseD n ds, houseD m es, tupI p] (.d (.bool (decide (p ∈ due n m ds es)))) := by
  by_cases hn : n = m
  · subst hn
    have := shows_perm g g2 hp
    rwa [show decide (movedD p ds = es) = decide (p ∈ due n n ds es) from decide_eq_decide.mpr (keep_moved g g2 hp)] at this
  · have := shows_odd g g2 (x := tupI p) rfl (.inl hn)
    rwa [show decide (p ∈ due n m ds es) = false from decide_eq_false (by rw [due_ne hn]; exact List.not_mem_nil)]
theorem isNone_like {n m : Int} {ds es : List (Int × Int)} : isNone (likeD n m ds es) = (due n m ds es).isEmpty := by
  rw [likeD_due]
  cases due n m ds es <;> rfl
end TL
set_option Elab.async false
set_option linter.all false
set_option maxRecDepth 100000
namespace TL
open PySem PySem.Spec PyProof.Rows L2
theorem Tr.nx {a b : M Fl} {e : Env} {Q : Fl → Env → Prop} {R : Env → Prop} (h : Tr a e fun f e1 => f = .nx ∧ R e1) (k : ∀ e1, R e1 → Tr b e1 Q) : Tr (mThen a b) e Q := by
  rw [Tr_then]
  refine h.mono fun f e1 ⟨h1, h2⟩ => ?_
  subst h1
  exact k e1 h2
/-! ### what is no map -/
theorem cutD_init (xs : List PyData) (h : 1 ≤ xs.length) : cutD xs none (some (-1)) = xs.take (xs.length - 1) := by
  unfold cutD
  rw [HT.sIx_none, List.drop_zero, Nat.sub_zero]
  congr 1
  show (if (-1 : Int) < 0 then ((-1 : Int) + (xs.length : Int)).toNat else min (-1 : Int).toNat xs.length) = _
  rw [if_pos (by omega)]
  omega
def oddsA (n : Int) (p : List Int) : List PyData := [.tuple [], .list (p.map .int), tupI (p ++ [n]), .tuple (cutD (p.map .int) none (some (-1))), .tuple (cutD (p.map .int) none (some (-1)) ++ [.none])]
def oddsB (n : Int) (p : List Int) : List PyData := [.tuple ([.bool true] ++ cutD (p.map .int) (some 1) none), .int 5, .dict [], .tuple (List.replicate n.toNat (.int 0) ++ [.int 0])]
theorem tyIs_dict : tyIs (.dict []) "tuple" = some false := by show kitB "dict" "tuple" = _; decide +kernel
def numB (n : Int) : PyData → Bool
  | .int i => decide (0 ≤ i) && decide (i ≤ n - 1)
  | _ => false
theorem odd_false {n m : Int} {ds es : List (Int × Int)} (g : Good n ds) (g2 : Good m es) {p : List Int} (hp : Perm1 n p) : ∀ x ∈ oddsA n p ++ oddsB n p, Fd f_shows_like [houseD n ds, houseD m es, x] (.d (.bool false)) := by
  have hlo := g.lo
  have hlen := hp.len
  have h1 : 1 ≤ (p.map PyData.int).length := by rw [List.length_map]; omega
  intro x hx
  unfold oddsA oddsB at hx
  rw [cutD_init _ h1, cutD_tail] at hx
  simp only [List.cons_append, List.nil_append, List.mem_cons, List.not_mem_nil, or_false] at hx
  have num : ∀ q : PyData → Bool, q .none = false → q (.bool true) = false → (∀ i : Int, q (.int i) = (decide (0 ≤ i) && decide (i ≤ n - 1))) → ∀ y : PyData, (y = .none ∨ y = .bool true ∨ ∃ i, y = .int i) → Fd f_is_number [y, .int 0, .int (n - 1)] (.d (.bool (q y))) := by
    intro q q1 q2 q3 y hy
    rcases hy with rfl | rfl | ⟨i, rfl⟩
    · rw [q1]; exact is_number_none 0 (n - 1)
    · rw [q2]; exact is_number_bool true 0 (n - 1)
    · rw [q3]; exact is_number_int i 0 (n - 1)
  have bad : ∀ xs : List PyData, (xs.length : Int) = n → (∀ y ∈ xs, y = .none ∨ y = .bool true ∨ ∃ i, y = .int i) → (PyData.none ∈ xs ∨ PyData.bool true ∈ xs) → Fd f_shows_like [houseD n ds, houseD m es, .tuple xs] (.d (.bool false)) := by
    intro xs hl hy hb
    by_cases hn : n = m
    · subst hn
      refine shows_bad g g2 hl (numB n) (fun y h => num (numB n) rfl rfl (fun _ => rfl) y (hy y h)) ?_
      rw [Bool.eq_false_iff]
      intro ht
      rw [List.all_eq_true] at ht
      rcases hb with hb | hb
      · have := ht _ hb; cases this
      · have := ht _ hb; cases this
    · exact shows_odd g g2 rfl (.inl hn)
  rcases hx with rfl | rfl | rfl | rfl | rfl | rfl | rfl | rfl | rfl
  · exact shows_odd g g2 rfl (.inr (.inr ⟨_, rfl, by show ((0 : Nat) : Int) ≠ n; omega⟩))
  · exact shows_odd g g2 rfl (.inr (.inl (tyIs_list _).1))
  · exact shows_odd g g2 rfl (.inr (.inr ⟨_, rfl, by rw [List.length_map, List.length_append]; show ((p.length + 1 : Nat) : Int) ≠ n; omega⟩))
  · exact shows_odd g g2 rfl (.inr (.inr ⟨_, rfl, by rw [List.length_take, List.length_map] at *; omega⟩))
  · refine bad _ ?_ ?_ (.inl (List.mem_append_right _ List.mem_cons_self))
    · rw [List.length_append, List.length_take, List.length_map]
      show ((min (p.length - 1) p.length + 1 : Nat) : Int) = n
      omega
    · intro y hy
      rcases List.mem_append.mp hy with hy | hy
      · obtain ⟨i, _, rfl⟩ := List.mem_map.mp (List.mem_of_mem_take hy)
        exact .inr (.inr ⟨i, rfl⟩)
      · exact .inl (List.mem_singleton.mp hy)
  · refine bad _ ?_ ?_ (.inr List.mem_cons_self)
    · rw [List.length_cons, List.length_tail, List.length_map]
      omega
    · intro y hy
      rcases List.mem_cons.mp hy with rfl | hy
      · exact .inr (.inl rfl)
      · obtain ⟨i, _, rfl⟩ := List.mem_map.mp (List.mem_of_mem_tail hy)
        exact .inr (.inr ⟨i, rfl⟩)
  · exact shows_odd g g2 rfl (.inr (.inl (tyIs_int 5).1))
  · exact shows_odd g g2 rfl (.inr (.inl tyIs_dict))
  · exact shows_odd g g2 rfl (.inr (.inr ⟨_, rfl, by rw [List.length_append, List.length_replicate]; show ((n.toNat + 1 : Nat) : Int) ≠ n; omega⟩))
theorem mul_zero {n : Int} (h1 : 1 ≤ n) (h2 : n ≤ 10) : gMulX (.tuple [.int 0]) (.int n) = some (.d (.tuple (List.replicate n.toNat (.int 0)))) := by
  have : ∀ k : Nat, (List.replicate k [PyData.int 0]).flatten = List.replicate k (.int 0) := fun k => by
    induction k with
    | zero => rfl
    | succ k ih => rw [List.replicate_succ, List.replicate_succ, List.flatten_cons, ih]; rfl
  show (if [PyData.int 0] ≠ [] ∧ 2 ≤ n ∧ n ≤ 1000 ∧ [PyData.int 0].length ≤ 1000 then some (OV.d (.tuple (List.replicate n.toNat [PyData.int 0]).flatten)) else if [PyData.int 0] ≠ [] ∧ n = 1 then some (OV.d (.tuple [.int 0])) else none) = _
  by_cases hn : 2 ≤ n
  · rw [if_pos ⟨by simp, hn, by omega, by simp⟩, this]
  · obtain rfl : n = 1 := by omega
    rw [if_neg (fun q => hn q.2.1), if_pos ⟨by simp, rfl⟩]
    rfl
end TL
set_option Elab.async false
set_option linter.all false
set_option maxRecDepth 100000
set_option maxHeartbeats 1000000
namespace TL
open PySem PySem.Spec PyProof.Rows L2
def LE (sc : PyData) (v : OV) (o2 o3 o4 o5 o6 o7 o8 : Option OV) : Env := [some (.d sc), some v, o2, o3, o4, o5, o6, o7, o8, none]
def dT (L : List (List Int)) : Option OV := some (.d (.list (L.map tupI)))
section
variable {sc : PyData} {v : OV} {n m : Int} {ds es : List (Int × Int)} {o2 o3 o4 o5 o6 o7 o8 : Option OV}
theorem like_step2 (hv : RowOk v) : Tr (mSet 2 (dat (frz (mCall (.s 1 :: .d (dC (.int 6)) :: []) f__law_house)))) (LE sc v none none none none none none none) fun f e => f = .nx ∧ ∃ n ds v', RowOk v' ∧ n ≤ 6 ∧ Good n ds ∧ e = LE sc v' (some (.d (houseD n ds))) none none none none none none := by
  simp only [Tr_set, Tr_dat, Tr_frz]
  refine Tr.house (v0 := v) rfl (by omega : (2 : Int) ≤ 6) (by omega) known_run6 ?_
  rw [Tr_dC]
  refine ⟨v, rfl, hv, rfl, fun n ds v' h1 h2 h3 h4 => ⟨_, rfl, trivial, n, ds, v', h1, h2, h3, rfl⟩⟩
theorem like_step3 (hv : RowOk v) (hn : n ≤ 6) (g : Good n ds) : Tr (mSet 3 (dat (frz (mCall (.s 1 :: .d (frz (mLst (mCons (frz (mCall (.d (dV 2) :: .d (frz (mCall (.s 1 :: .d (frz (mBin gIx (dV 2) (dC (.int 0)))) :: []) f__law_turn)) :: []) f__law_moved)) (mCons (frz (mCall (.s 1 :: .d (dC (.int 6)) :: []) f__law_house)) (mCons (frz (mCall (.s 1 :: .d (dC (.int 6)) :: []) f__law_house)) (pure [])))))) :: []) f__law_pick)))) (LE sc v (some (.d (houseD n ds))) none none none none none none)
    fun f e => f = .nx ∧ ∃ m es v', RowOk v' ∧ m ≤ 6 ∧ Good m es ∧ e = LE sc v' (some (.d (houseD n ds))) (some (.d (houseD m es))) none none none none none := by
  have hlo := g.lo
  simp only [Tr_set, Tr_dat, Tr_frz]
  refine Tr.pick (v0 := v) rfl ?_
  simp only [Tr_frz, Tr_lst, Tr_cons, Tr_c2 keeps_moved, Tr_dV]
  refine ⟨_, rfl, ?_⟩
  refine Tr.turn (v0 := v) rfl ?_
  simp only [Tr_frz, Tr_bin, Tr_dV, Tr_dC]
  refine ⟨_, rfl, _, hI0 n ds, _, rfl, v, n, rfl, hv, rfl, by omega, by omega, fun p v1 r1 hp => ⟨_, rfl, ?_⟩⟩
  rw [(moved_runT hp g).tr]
  refine ⟨_, rfl, ?_⟩
  refine Tr.house (v0 := v1) rfl (by omega : (2 : Int) ≤ 6) (by omega) known_run6 ?_
  rw [Tr_dC]
  refine ⟨v1, rfl, r1, rfl, fun n2 ds2 v2 r2 a2 g2 _ => ⟨_, rfl, ?_⟩⟩
  refine Tr.house (v0 := v2) rfl (by omega : (2 : Int) ≤ 6) (by omega) known_run6 ?_
  rw [Tr_dC]
  refine ⟨v2, rfl, r2, rfl, fun n3 ds3 v3 r3 a3 g3 _ => ⟨_, rfl, ?_⟩⟩
  rw [Tr_pure]
  refine ⟨fits (by simp), _, rfl, v3, _, rfl, r3, rfl, by simp, by simp, fun z v4 r4 hz => ⟨_, rfl, trivial, ?_⟩⟩
  simp only [List.mem_cons, List.not_mem_nil, or_false] at hz
  rcases hz with rfl | rfl | rfl
  · exact ⟨n, _, v4, r4, hn, moved_good hp g, rfl⟩
  · exact ⟨n2, _, v4, r4, a2, g2, rfl⟩
  · exact ⟨n3, _, v4, r4, a3, g3, rfl⟩
abbrev dH (n : Int) (ds : List (Int × Int)) : Option OV := some (.d (houseD n ds))
theorem like_step4 (hn : n ≤ 6) (g : Good n ds) : Tr (mSet 4 (dat (frz (mCall (.d (dV 2) :: .d (dV 3) :: []) f__law_maps)))) (LE sc v (dH n ds) (dH m es) none none none none none) fun f e => f = .nx ∧ e = LE sc v (dH n ds) (dH m es) (dT (due n m ds es)) none none none none := by
  obtain ⟨ov, F, hd⟩ := law_maps_run (n := n) (m := m) (ds := ds) (es := es) g.lo hn
  simp only [Tr_set, Tr_dat, Tr_frz, Tr_c2 keeps_maps, Tr_dV]
  refine ⟨_, rfl, _, rfl, ?_⟩
  rw [F.tr]
  exact ⟨_, hd, trivial, rfl⟩
theorem like_step5 (g : Good n ds) (g2 : Good m es) : Tr (mSet 5 (dat (frz (mCall (.d (dV 2) :: .d (dV 3) :: []) f_like)))) (LE sc v (dH n ds) (dH m es) o4 none none none none) fun f e => f = .nx ∧ e = LE sc v (dH n ds) (dH m es) o4 (some (.d (likeD n m ds es))) none none none := by
  simp only [Tr_set, Tr_dat, Tr_frz, Tr_c2 keeps_like, Tr_dV]
  refine ⟨_, rfl, _, rfl, ?_⟩
  rw [(like_run g g2).tr]
  exact ⟨_, rfl, trivial, rfl⟩
theorem like_step6 (g : Good n ds) (g2 : Good m es) : Tr (mIf (mOr (mNot (mTru (mCall (.d (frz (mCall (.d (dV 2) :: .d (dV 3) :: []) f_are_alike)) :: .d (frz (mBin gNe (dV 4) (frz (mLst (pure []))))) :: []) f__law_alike))) (asB (mBin gNe (frz (mBin gIs (dV 5) (dC .none))) (frz (mBin gEq (dV 4) (frz (mLst (pure [])))))))) (mRet (dat (dC (.bool false)))) (pure .nx)) (LE sc v (dH n ds) (dH m es) (dT (due n m ds es)) (some (.d (likeD n m ds es))) none none none) fun f e => f = .nx ∧ e = LE sc v (dH n ds) (dH m es) (dT (due n m ds es)) (some (.d (likeD n m ds es))) none none none := by
  unfold LE dT dH
  have F := are_alike_run g g2
  rw [isNone_like] at F
  simp [Tr_c2 keeps_alike, Tr_c2 keeps_are_alike, F.tr, gNe_nilT, gEq_nilT, fits, (alike_bool _).tr, isNone_like]
theorem like_step7 (g : Good n ds) (g2 : Good m es) : Tr (mIf (mOr (mAnd (asB (mBin gIsNot (dV 5) (dC .none))) (asB (mBin gNotIn (dV 5) (dV 4)))) (asB (mBin gNotX (frz (mCall (.d (dV 2) :: .d (dV 3) :: .d (dV 5) :: []) f_shows_like)) (dC (.bool true))))) (mRet (dat (dC (.bool false)))) (pure .nx)) (LE sc v (dH n ds) (dH m es) (dT (due n m ds es)) (some (.d (likeD n m ds es))) none none none) fun f e => f = .nx ∧ e = LE sc v (dH n ds) (dH m es) (dT (due n m ds es)) (some (.d (likeD n m ds es))) none none none := by
  have F := shows_told g g2
  unfold LE dT dH
  have hx : gNotX (.bool true) (.bool true) = some (.d (.bool false)) := rfl
  cases hd : due n m ds es with
  | nil =>
    have e : likeD n m ds es = .none := by rw [likeD_due, hd]
    rw [e] at F ⊢
    simp [Tr_c3 keeps_shows, F.tr, hx, isNone]
  | cons r rs =>
    have e : likeD n m ds es = tupI r := by rw [likeD_due, hd]
    have hn : isNone (tupI r) = false := rfl
    have hi := gNotIn_tups r (r :: rs)
    rw [e] at F ⊢
    simp only [List.map_cons] at hi ⊢
    simp [Tr_c3 keeps_shows, F.tr, hx, hn, hi]
theorem like_step8 (g : Good n ds) (g2 : Good m es) : Tr (mIf (mNot (mTru (mCall (.d (frz (mCall (.d (dV 2) :: .d (dV 3) :: .d (dC .none) :: []) f_shows_like)) :: .d (frz (mBin gEq (dV 4) (frz (mLst (pure []))))) :: []) f__law_alike))) (mRet (dat (dC (.bool false)))) (pure .nx)) (LE sc v (dH n ds) (dH m es) (dT (due n m ds es)) o5 none none none) fun f e => f = .nx ∧ e = LE sc v (dH n ds) (dH m es) (dT (due n m ds es)) o5 none none none := by
  have F := shows_none g g2
  rw [isNone_like] at F
  unfold LE dT dH
  simp [Tr_c2 keeps_alike, Tr_c3 keeps_shows, F.tr, gEq_nilT, fits, (alike_bool _).tr]
end
end TL
set_option Elab.async false
set_option linter.all false
set_option maxRecDepth 100000
set_option maxHeartbeats 1000000
namespace TL
open PySem PySem.Spec PyProof.Rows L2
def sliceG (l h : Option Int) : PyData → Option OV
  | .tuple xs => some (.d (.tuple (cutD xs l h)))
  | .list xs => some (.lst (cutD xs l h))
  | _ => none
@[simp] theorem sliceG_t (l h : Option Int) (xs : List PyData) : sliceG l h (.tuple xs) = some (.d (.tuple (cutD xs l h))) := rfl
@[simp] theorem sliceG_l (l h : Option Int) (xs : List PyData) : sliceG l h (.list xs) = some (.lst (cutD xs l h)) := rfl
@[simp] theorem Tr_slice {m : M PyData} {lo hi : Option (M PyData)} {e : Env} {Q : OV → Env → Prop} : Tr (mSlice m lo hi) e Q ↔ Tr m e fun x e1 => Tr (mPart lo) e1 fun l e2 => Tr (mPart hi) e2 fun h e3 => ∃ r, sliceG l h x = some r ∧ Q r e3 := by
  have : mSlice m lo hi = (m >>= fun x => mPart lo >>= fun l => mPart hi >>= fun h => M.opt (sliceG l h x)) := rfl
  rw [this]
  simp only [Tr_bind, Tr_opt]
@[simp] theorem Tr_part0 {e : Env} {Q : Option Int → Env → Prop} : Tr (mPart none) e Q ↔ Q none e := Tr_pure
theorem Tr.part {m : M PyData} {e : Env} {Q : Option Int → Env → Prop} (h : Tr m e fun x e1 => ∃ i, x = .int i ∧ Q (some i) e1) : Tr (mPart (some m)) e Q := by
  show Tr (m >>= fun x => match x with
    | .int i => pure (some i)
    | _ => fun _ => none) e Q
  rw [Tr_bind]
  refine h.mono fun x e1 ⟨i, h1, h2⟩ => ?_
  subst h1
  exact ⟨_, _, rfl, h2⟩
@[simp] theorem Tr_part1 {m : M PyData} {e : Env} {Q : Option Int → Env → Prop} : Tr (mPart (some m)) e Q ↔ Tr m e fun x e1 => ∃ i, x = .int i ∧ Q (some i) e1 := by
  refine ⟨fun h => ?_, Tr.part⟩
  have h : Tr (m >>= fun x => match x with
    | .int i => pure (some i)
    | _ => fun _ => none) e Q := h
  rw [Tr_bind] at h
  refine h.mono fun x e1 ⟨a, e2, h1, h2⟩ => ?_
  cases x with
  | int i => cases h1; exact ⟨i, rfl, h2⟩
  | _ => cases h1
@[simp] theorem Tr_neg {m : M PyData} {e : Env} {Q : OV → Env → Prop} : Tr (mNeg m) e Q ↔ Tr m e fun x e1 => ∃ y, gNeg x = some y ∧ Q (.d y) e1 := by
  show Tr (m >>= fun x => M.opt ((gNeg x).map .d)) e Q ↔ _
  simp only [Tr_bind, Tr_opt]
  refine ⟨fun h => h.mono fun x e1 ⟨a, h1, h2⟩ => ?_, fun h => h.mono fun x e1 ⟨y, h1, h2⟩ => ⟨_, by rw [h1]; rfl, h2⟩⟩
  obtain ⟨y, h3, rfl⟩ := Option.map_eq_some_iff.mp h1
  exact ⟨y, h3, h2⟩
@[simp] theorem Tr_newD {e : Env} {Q : OV → Env → Prop} : Tr mNewD e Q ↔ Q (.dct []) e := Tr_eq rfl
section
variable {sc : PyData} {v : OV} {n m : Int} {ds es : List (Int × Int)} {o2 o3 o4 o5 o6 o7 o8 : Option OV}
theorem due_len (hlo : 0 ≤ n) (hn : n ≤ 6) : (due n m ds es).length ≤ 46656 := by
  unfold due
  split
  · rw [← rowsK_all]
    refine Nat.le_trans (rowsK_size _) ?_
    refine Nat.le_trans (Nat.pow_le_pow_left (by omega : n.toNat ≤ 6) _) ?_
    exact Nat.pow_le_pow_right (n := 6) (by omega) (by omega : n.toNat ≤ 6)
  · exact Nat.zero_le _
theorem like_step9 (hv : RowOk v) (hn : n ≤ 6) (g : Good n ds) (g2 : Good m es) : Tr (mFor (mRange1 (dC (.int 5))) (gN 6) (mThen (mSet 8 (dat (frz (mCall (.s 1 :: .d (frz (mBin gIx (dV 2) (dC (.int 0)))) :: []) f__law_turn))))
  (mThen (mSet 8 (dat (frz (mIf (mAnd (asB (mBin gNe (dV 4) (frz (mLst (pure []))))) (asB (mBin gEq (frz (mCall (.s 1 :: .d (dC (.int 3)) :: []) f__law_taken)) (dC (.int 0))))) (mCall (.s 1 :: .d (dV 4) :: []) f__law_pick) (mVar 8)))))
  (mIf (mNot (mTru (mCall (.d (frz (mCall (.d (dV 2) :: .d (dV 3) :: .d (dV 8) :: []) f_shows_like)) :: .d (frz (mBin gIn (dV 8) (dV 4))) :: []) f__law_alike))) (mRet (dat (dC (.bool false)))) (pure .nx))))) (LE sc v (dH n ds) (dH m es) (dT (due n m ds es)) o5 none none none) fun f e => f = .nx ∧ ∃ v p o6, RowOk v ∧ Perm1 n p ∧ e = LE sc v (dH n ds) (dH m es) (dT (due n m ds es)) o5 o6 none (some (.d (tupI p))) := by
  have hlo := g.lo
  refine Tr.for_ (xs := (rangeI 5).map .int) (fun k e => ∃ v o6 o8, RowOk v ∧ e = LE sc v (dH n ds) (dH m es) (dT (due n m ds es)) o5 o6 none o8 ∧ (0 < k → ∃ p, Perm1 n p ∧ o8 = some (.d (tupI p)))) ?_ ?_ ?_
  · refine Tr_range1 (n := 5) (by omega) (by omega) ?_
    rw [Tr_dC]
    exact ⟨rfl, rngD_rangeI (n := 5) (by omega), v, none, none, hv, rfl, fun h => absurd h (by omega)⟩
  · rintro k x e hx ⟨v, o6, o8, hv, rfl, _⟩
    have fin : ∀ {v p o6}, RowOk v → Perm1 n p → Tr (mIf (mNot (mTru (mCall (.d (frz (mCall (.d (dV 2) :: .d (dV 3) :: .d (dV 8) :: []) f_shows_like)) :: .d (frz (mBin gIn (dV 8) (dV 4))) :: []) f__law_alike))) (mRet (dat (dC (.bool false)))) (pure .nx)) (LE sc v (dH n ds) (dH m es) (dT (due n m ds es)) o5 o6 none (some (.d (tupI p)))) fun f e => f = .nx ∧ ∃ v o6 o8, RowOk v ∧ e = LE sc v (dH n ds) (dH m es) (dT (due n m ds es)) o5 o6 none o8 ∧ (0 < k + 1 → ∃ p, Perm1 n p ∧ o8 = some (.d (tupI p))) := fun {v p o6} hv hp => by
      have F := shows_order g g2 hp
      have hi := gIn_tups p (due n m ds es)
      refine Tr.mono (Q := fun f e => f = .nx ∧ e = LE sc v (dH n ds) (dH m es) (dT (due n m ds es)) o5 o6 none (some (.d (tupI p)))) ?_ ?_
      · unfold LE dT dH
        simp [Tr_c2 keeps_alike, Tr_c3 keeps_shows, F.tr, hi, (alike_bool _).tr]
      · rintro f e ⟨rfl, rfl⟩
        exact ⟨rfl, v, o6, _, hv, rfl, fun _ => ⟨p, hp, rfl⟩⟩
    have done : ∀ {e : Env}, Tr (mIf (mNot (mTru (mCall (.d (frz (mCall (.d (dV 2) :: .d (dV 3) :: .d (dV 8) :: []) f_shows_like)) :: .d (frz (mBin gIn (dV 8) (dV 4))) :: []) f__law_alike))) (mRet (dat (dC (.bool false)))) (pure .nx)) e (fun f e => f = .nx ∧ ∃ v o6 o8, RowOk v ∧ e = LE sc v (dH n ds) (dH m es) (dT (due n m ds es)) o5 o6 none o8 ∧ (0 < k + 1 → ∃ p, Perm1 n p ∧ o8 = some (.d (tupI p)))) → Tr (mIf (mNot (mTru (mCall (.d (frz (mCall (.d (dV 2) :: .d (dV 3) :: .d (dV 8) :: []) f_shows_like)) :: .d (frz (mBin gIn (dV 8) (dV 4))) :: []) f__law_alike))) (mRet (dat (dC (.bool false)))) (pure .nx)) e fun f e => match f with
      | .nx => ∃ v o6 o8, RowOk v ∧ e = LE sc v (dH n ds) (dH m es) (dT (due n m ds es)) o5 o6 none o8 ∧ (0 < k + 1 → ∃ p, Perm1 n p ∧ o8 = some (.d (tupI p)))
      | .ct => ∃ v o6 o8, RowOk v ∧ e = LE sc v (dH n ds) (dH m es) (dT (due n m ds es)) o5 o6 none o8 ∧ (0 < k + 1 → ∃ p, Perm1 n p ∧ o8 = some (.d (tupI p)))
      | .bk => (Fl.nx = Fl.nx ∧ ∃ v p o6, RowOk v ∧ Perm1 n p ∧ e = LE sc v (dH n ds) (dH m es) (dT (due n m ds es)) o5 o6 none (some (.d (tupI p))))
      | .rt r => (Fl.rt r = Fl.nx ∧ ∃ v p o6, RowOk v ∧ Perm1 n p ∧ e = LE sc v (dH n ds) (dH m es) (dT (due n m ds es)) o5 o6 none (some (.d (tupI p)))) := fun h => h.mono fun f e ⟨h1, h2⟩ => by subst h1; exact h2
    rw [Tr_gN]
    refine Tr.nx (R := fun e => ∃ v p, RowOk v ∧ Perm1 n p ∧ e = LE sc v (dH n ds) (dH m es) (dT (due n m ds es)) o5 (some (.d x)) none (some (.d (tupI p)))) ?_ ?_
    · simp only [Tr_set, Tr_dat, Tr_frz]
      refine Tr.turn (v0 := v) rfl ?_
      simp only [Tr_frz, Tr_bin, Tr_dV, Tr_dC]
      exact ⟨_, rfl, _, hI0 n ds, _, rfl, v, n, rfl, hv, rfl, by omega, by omega, fun p v1 r1 hp => ⟨_, rfl, trivial, v1, p, r1, hp, rfl⟩⟩
    · rintro e ⟨v, p, hv, hp, rfl⟩
      refine Tr.nx (R := fun e => ∃ v p, RowOk v ∧ Perm1 n p ∧ e = LE sc v (dH n ds) (dH m es) (dT (due n m ds es)) o5 (some (.d x)) none (some (.d (tupI p)))) ?_ ?_
      · simp only [Tr_set, Tr_dat, Tr_frz, Tr_if, Tr_and, Tr_asB, Tr_bin, Tr_dV, Tr_lst, Tr_pure]
        refine ⟨_, rfl, Nat.zero_le _, _, rfl, _, gNe_nilT _, _, rfl, ?_⟩
        cases hd : due n m ds es with
        | nil =>
          simp only [List.isEmpty_nil, Bool.not_true, Bool.false_eq_true, if_false, Tr_mVar]
          exact ⟨_, rfl, _, rfl, trivial, v, p, hv, hp, rfl⟩
        | cons r rs =>
          simp only [List.isEmpty_cons, Bool.not_false, if_true]
          refine Tr.taken (v0 := v) rfl ?_
          rw [Tr_dC]
          refine ⟨v, 3, rfl, hv, rfl, by omega, by omega, fun z v1 r1 _ _ => ⟨_, rfl, ?_⟩⟩
          rw [Tr_dC]
          refine ⟨_, gEq_int z 0, _, rfl, ?_⟩
          by_cases hz : z = 0
          · rw [if_pos (by simpa using hz)]
            refine Tr.pick (v0 := v1) rfl ?_
            rw [Tr_dV]
            have hl := due_len (m := m) (ds := ds) (es := es) (by omega : 0 ≤ n) hn
            refine ⟨.list ((due n m ds es).map tupI), by rw [hd]; rfl, v1, _, rfl, r1, rfl, by rw [hd]; simp, by rw [List.length_map]; omega, fun y v2 r2 hy => ?_⟩
            obtain ⟨q, hq, rfl⟩ := List.mem_map.mp hy
            exact ⟨_, rfl, trivial, v2, q, r2, (due_perm (by omega) hq).2, by rw [← hd]; rfl⟩
          · rw [if_neg (by simpa using hz), Tr_mVar]
            exact ⟨_, rfl, _, rfl, trivial, v1, p, r1, hp, rfl⟩
      · rintro e ⟨v, p, hv, hp, rfl⟩
        exact done (fin hv hp)
  · rintro e ⟨v, o6, o8, hv, rfl, h⟩
    obtain ⟨p, hp, rfl⟩ := h (by rw [List.length_map, rangeI_len]; decide)
    exact ⟨rfl, v, p, o6, hv, hp, rfl⟩
theorem like_step10 (g : Good n ds) {p : List Int} (hp : Perm1 n p) : Tr (mSet 7 (dat (frz (mLst (mCons (frz (mTup (pure []))) (mCons (frz (mOne gList (mVar 8))) (mCons (frz (mBin gAdd (dV 8) (frz (mTup (mCons (frz (mBin gIx (dV 2) (dC (.int 0)))) (pure [])))))) (mCons (frz (mSlice (dV 8) none (some (frz (mNeg (dC (.int 1))))))) (mCons (frz (mBin gAdd (frz (mSlice (dV 8) none (some (frz (mNeg (dC (.int 1))))))) (frz (mTup (mCons (dC .none) (pure [])))))) (pure [])))))))))) (LE sc v (dH n ds) o3 o4 o5 o6 none (some (.d (tupI p)))) fun f e => f = .nx ∧ e = LE sc v (dH n ds) o3 o4 o5 o6 (some (.d (.list (oddsA n p)))) (some (.d (tupI p))) := by
  have hlen := hp.len
  have hhi := g.hi
  have hneg : gNeg (.int 1) = some (.int (-1)) := rfl
  have hlist : gList (.d (tupI p)) = some (.lst (p.map .int)) := rfl
  have hsl : sliceG none (some (-1)) (tupI p) = some (.d (.tuple (cutD (p.map .int) none (some (-1))))) := rfl
  have hadd : gAdd (.tuple (cutD (p.map .int) none (some (-1)))) (.tuple [.none]) = some (.d (.tuple (cutD (p.map .int) none (some (-1)) ++ [.none]))) := by
    show (if (cutD (p.map .int) none (some (-1))).length + [PyData.none].length ≤ sizeLine then some (OV.d (.tuple (cutD (p.map .int) none (some (-1)) ++ [.none]))) else none) = _
    refine if_pos (fits ?_)
    have : (cutD (p.map PyData.int) none (some (-1))).length ≤ p.length := by
      unfold cutD
      rw [List.length_take, List.length_drop, List.length_map]
      omega
    show _ + 1 ≤ 1000
    omega
  unfold LE dH
  simp [fits, hlist, hI0, gAdd_tup1 p n (by omega), hneg, hsl, hadd]
  rfl
theorem like_step11 (g : Good n ds) {p : List Int} (hp : Perm1 n p) : Tr (mSet 7 (dat (frz (mBin gAdd (dV 7) (frz (mLst (mCons (frz (mBin gAdd (frz (mTup (mCons (dC (.bool true)) (pure [])))) (frz (mSlice (dV 8) (some (dC (.int 1))) none)))) (mCons (dC (.int 5)) (mCons (frz (mNewD)) (mCons (frz (mBin gAdd (frz (mBin gMulX (frz (mTup (mCons (dC (.int 0)) (pure [])))) (frz (mBin gIx (dV 2) (dC (.int 0)))))) (frz (mTup (mCons (dC (.int 0)) (pure [])))))) (pure []))))))))))) (LE sc v (dH n ds) o3 o4 o5 o6 (some (.d (.list (oddsA n p)))) (some (.d (tupI p)))) fun f e => f = .nx ∧ e = LE sc v (dH n ds) o3 o4 o5 o6 (some (.d (.list (oddsA n p ++ oddsB n p)))) (some (.d (tupI p))) := by
  have hlen := hp.len
  have hhi := g.hi
  have hlo := g.lo
  have hsl : sliceG (some 1) none (tupI p) = some (.d (.tuple (cutD (p.map .int) (some 1) none))) := rfl
  have hadd : gAdd (.tuple [.bool true]) (.tuple (cutD (p.map .int) (some 1) none)) = some (.d (.tuple ([.bool true] ++ cutD (p.map .int) (some 1) none))) := by
    show (if [PyData.bool true].length + (cutD (p.map .int) (some 1) none).length ≤ sizeLine then some (OV.d (.tuple ([.bool true] ++ cutD (p.map .int) (some 1) none))) else none) = _
    refine if_pos (fits ?_)
    rw [cutD_tail, List.length_tail, List.length_map]
    show 1 + _ ≤ 1000
    omega
  have hadd2 : gAdd (.tuple (List.replicate n.toNat (.int 0))) (.tuple [.int 0]) = some (.d (.tuple (List.replicate n.toNat (.int 0) ++ [.int 0]))) := by
    show (if (List.replicate n.toNat (PyData.int 0)).length + [PyData.int 0].length ≤ sizeLine then some (OV.d (.tuple (List.replicate n.toNat (.int 0) ++ [.int 0]))) else none) = _
    refine if_pos (fits ?_)
    rw [List.length_replicate]
    show _ + 1 ≤ 1000
    omega
  have hB := gAdd_ll (xs := oddsA n p) (ys := oddsB n p) (by show 5 + 4 ≤ 16000000; omega)
  unfold LE dH
  unfold oddsB at hB ⊢
  simp [fits, hsl, hadd, hadd2, hI0, mul_zero hlo hhi]
  exact ⟨.dict [], rfl, _, hB, rfl⟩
theorem like_step12 (g : Good n ds) : Tr (mIf (asB (mBin gNotX (frz (mCall (.d (dV 2) :: .d (dV 2) :: []) f_are_alike)) (dC (.bool true)))) (mRet (dat (dC (.bool false)))) (pure .nx)) (LE sc v (dH n ds) o3 o4 o5 o6 o7 o8) fun f e => f = .nx ∧ e = LE sc v (dH n ds) o3 o4 o5 o6 o7 o8 := by
  have F := are_alike_run g g
  rw [isNone_like] at F
  have : (due n n ds ds).isEmpty = false := by
    rw [Bool.eq_false_iff]
    intro h
    exact due_self g (List.isEmpty_iff.mp h)
  rw [this] at F
  have hx : gNotX (.bool true) (.bool true) = some (.d (.bool false)) := rfl
  unfold LE dH
  simp [Tr_c2 keeps_are_alike, F.tr, hx]
theorem like_step13 (g : Good n ds) (g2 : Good m es) {p : List Int} (hp : Perm1 n p) : Tr (mRet (mBin gEq (frz (mComp [9] (mItems (dV 7)) (gN 9) (asB (mBin gNotX (frz (mCall (.d (dV 2) :: .d (dV 3) :: .d (dV 9) :: []) f_shows_like)) (dC (.bool false)))) (dV 9))) (frz (mLst (pure []))))) (LE sc v (dH n ds) (dH m es) o4 o5 o6 (some (.d (.list (oddsA n p ++ oddsB n p)))) o8) fun f e => f = .rt (.d (.bool true)) := by
  have hx : gNotX (.bool false) (.bool false) = some (.d (.bool false)) := rfl
  simp only [Tr_ret, Tr_bin, Tr_frz]
  refine Tr.comp (xs := oddsA n p ++ oddsB n p) (fun _ => none) ?_ rfl (by show 9 ≤ 1000; omega) ?_ ?_
  · unfold LE
    simp
  · intro x hx2
    have F := odd_false g g2 hp x hx2
    unfold LE dH
    simp [wipeE, Tr_c3 keeps_shows, F.tr, hx]
  · have : ∀ xs : List PyData, xs.filterMap (fun _ => (none : Option PyData)) = [] := fun xs => by simp
    rw [this]
    have he : gEq (.list []) (.list []) = some (.d (.bool true)) := gEq_nilI []
    simp [he, fits, sz0]
end
theorem law_says : Says f_law := by
  intro ns _ _
  have h : Tr (fnM 1 10 [] b_law) [some (.d (.list (ns.map .int)))] fun a _ => a = .d (.bool true) := by
    refine Tr.fn ?_
    show Tr b_law [some (.d (.list (ns.map .int))), none, none, none, none, none, none, none, none, none] _
    unfold b_law
    refine Tr.nx (R := fun e => ∃ v, RowOk v ∧ e = LE (.list (ns.map .int)) v none none none none none none none) ?_ ?_
    · simp [fits]
      exact ⟨_, ⟨ns, 0, 5009, 0, rfl, by omega, by omega, by omega⟩, rfl⟩
    rintro e ⟨v, hv, rfl⟩
    refine Tr.nx (like_step2 hv) ?_
    rintro e ⟨n, ds, v, hv, hn, g, rfl⟩
    refine Tr.nx (like_step3 hv hn g) ?_
    rintro e ⟨m, es, v, hv, hm, g2, rfl⟩
    refine Tr.nx (like_step4 hn g) ?_
    rintro e rfl
    refine Tr.nx (like_step5 g g2) ?_
    rintro e rfl
    refine Tr.nx (like_step6 g g2) ?_
    rintro e rfl
    refine Tr.nx (like_step7 g g2) ?_
    rintro e rfl
    refine Tr.nx (like_step8 g g2) ?_
    rintro e rfl
    refine Tr.nx (like_step9 hv hn g g2) ?_
    rintro e ⟨v, p, o6, hv, hp, rfl⟩
    refine Tr.nx (like_step10 g hp) ?_
    rintro e rfl
    refine Tr.nx (like_step11 g hp) ?_
    rintro e rfl
    refine Tr.nx (like_step12 g) ?_
    rintro e rfl
    refine (like_step13 g g2 hp).mono ?_
    rintro f e rfl
    rfl
  obtain ⟨a, e, h1, rfl⟩ := h
  exact ⟨e, h1⟩
end TL
theorem PySem.Challenge.cw_letterhalls_k09_whole_likes_holds : PySem.Challenge.rw_letterhalls_k09_whole_likes.Holds :=
  PySem.Challenge.holds0 TL.law_says
