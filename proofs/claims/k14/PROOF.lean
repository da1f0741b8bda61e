import PyProof.Rows.All
import Wide.All
import OpenK.AllK
import Wide.FinOn
import HandS.ForMost
import HandS.Exc
import HandS.TryOnly
import HandS.Defaults
import HandS.Deep
import HandS.AnyAll
import HandS.TupAny
import HandS.TupMul
import HandS.Wide
import HandS.IsInst
import KE.DataEq
import KE.DataCmp
import HandS.Style
import HandS.WordsDict
import HandS.Codes
import HandS.Zip
import HandS.Comp
import HandS.GenList
import HandS.CallSlots
import HandS.WordsExc
import HandS.Sort
import KE.SortData
import PyProof.Rows.ListMulArg
import HandS.SetFor
import HandS.TupSets
import HandS.Strs
import HandS.Conv
import HandS.Ends
import HandS.EndTab
import HandS.HeadWalk
import HandS.HeadEnd
import HandS.HeadHook1
import HandS.HeadHook2
import HandS.HeadHook3
import HandS.HeadHook4
import HandS.Head0
import HandS.Head1
import HandS.Head2
import KE.KNestM
import PySem.Challenge.RW_letterhalls_k14_whole_basics
set_option Elab.async false
set_option linter.all false
set_option maxRecDepth 100000
set_option maxHeartbeats 1000000
namespace TL
open PySem PySem.Spec PyProof.Rows L2

/-! ### values, environments, the monad -/
/-- data that no one changes; a list, a dict, .. that one place alone holds -/
inductive OV where
  | d (x : PyData)
  | lst (xs : List PyData)
  | dct (kvs : List (Int × PyData))

abbrev Env := List (Option OV)
structure Exn where
  cls : Str
  args : List PyData
inductive Out (α : Type) where
  | ok (a : α) (e : Env)
  | exc (x : Exn) (e : Env)
abbrev M (α : Type) := Env → Option (Out α)
@[reducible] def M.ret {α : Type} (a : α) : M α := fun e => some (.ok a e)
def Out.andThen {α β : Type} (o : Option (Out α)) (f : α → M β) : Option (Out β) := match o with
  | none => none
  | some (.exc x e') => some (.exc x e')
  | some (.ok a e') => f a e'
def M.bind {α β : Type} (m : M α) (f : α → M β) : M β := fun e => Out.andThen (m e) f
def M.opt {α : Type} (o : Option α) : M α := fun e => match o with
  | none => none
  | some a => some (.ok a e)
instance : Monad M where
  pure := M.ret
  bind := M.bind
theorem Out.andThen_ok {α β : Type} (a : α) (e : Env) (f : α → M β) : Out.andThen (some (.ok a e)) f = f a e := rfl
theorem Out.andThen_exc {α β : Type} (x : Exn) (e : Env) (f : α → M β) : Out.andThen (some (.exc x e)) f = some (.exc x e) := rfl
theorem Out.andThen_none {α β : Type} (f : α → M β) : Out.andThen none f = none := rfl
theorem M.bind_at {α β : Type} (m : M α) (f : α → M β) (e : Env) : (m >>= f) e = Out.andThen (m e) f := rfl
theorem M.pure_at {α : Type} (a : α) (e : Env) : (pure a : M α) e = some (.ok a e) := rfl
def OV.dat : OV → Option PyData
  | .d x => some x
  | .lst xs => some (.list xs)
  | .dct _ => none
/-- as data, for good -/
def frz (m : M OV) : M PyData := m >>= fun v => M.opt v.dat

/-! ### how they lie in the heap -/
/-- no written part: what data lies in is tracked -/
abbrev K0 : PySem.W.Frag := []
theorem toK_L {K : PySem.W.Frag} {H : Hp} {a : Addr} {xs : List V} (h : SqL K0 H a xs) : SqL K H a xs := by
  rcases h with h | ⟨o, its, n, e, _⟩
  · exact .inl h
  · cases e
theorem toK_T {K : PySem.W.Frag} {H : Hp} {a : Addr} {xs : List V} (h : SqT K0 H a xs) : SqT K H a xs := by
  rcases h with h | ⟨o, its, n, e, _⟩
  · exact .inl h
  · cases e
mutual
theorem toK {K : PySem.W.Frag} {H : Hp} : ∀ {v : V} {x : PyData}, Dp K0 H v x → Dp K H v x
  | _, _, .non => .non
  | _, _, .bl b => .bl b
  | _, _, .int i => .int i
  | _, _, .str x => .str x
  | _, _, .lst h a => .lst (toK_L h) (toK_all a)
  | _, _, .tup h a => .tup (toK_T h) (toK_all a)
theorem toK_all {K : PySem.W.Frag} {H : Hp} : ∀ {vs : List V} {xs : List PyData}, DpAll K0 H vs xs → DpAll K H vs xs
  | _, _, .nil => .nil
  | _, _, .cons h t => .cons (toK h) (toK_all t)
end
structure Cc where
  F : Hp
  kp : Nat → Option V
  tabs : List Addr
  exc : Str → Option Addr
/-- what a part of the heap that is not changed is made of -/
def Fz : HO → Prop
  | .tbl _ => False
  | .own _ => False
  | _ => True
def Le (a b : Hp) : Prop := ∀ x o, a x = some o → b x = some o
theorem Le.refl (a : Hp) : Le a a := fun _ _ e => e
theorem Le.trans {a b c : Hp} (h : Le a b) (k : Le b c) : Le a c := fun x o e => k x o (h x o e)
theorem Le.sqL {K : PySem.W.Frag} {H H' : Hp} {a : Addr} {xs : List V} (l : Le H H') (h : SqL K H a xs) : SqL K H' a xs := by
  rcases h with (h | ⟨o, h⟩) | h
  · exact .inl (.inl (l _ _ h))
  · exact .inl (.inr ⟨o, l _ _ h⟩)
  · exact .inr h
theorem Le.sqT {K : PySem.W.Frag} {H H' : Hp} {a : Addr} {xs : List V} (l : Le H H') (h : SqT K H a xs) : SqT K H' a xs := by
  rcases h with (h | ⟨o, h⟩) | h
  · exact .inl (.inl (l _ _ h))
  · exact .inl (.inr ⟨o, l _ _ h⟩)
  · exact .inr h
mutual
theorem Le.dp {K : PySem.W.Frag} {H H' : Hp} (l : Le H H') : ∀ {v : V} {x : PyData}, Dp K H v x → Dp K H' v x
  | _, _, .non => .non
  | _, _, .bl b => .bl b
  | _, _, .int i => .int i
  | _, _, .str x => .str x
  | _, _, .lst h a => .lst (l.sqL h) (l.dpAll a)
  | _, _, .tup h a => .tup (l.sqT h) (l.dpAll a)
theorem Le.dpAll {K : PySem.W.Frag} {H H' : Hp} (l : Le H H') : ∀ {vs : List V} {xs : List PyData}, DpAll K H vs xs → DpAll K H' vs xs
  | _, _, .nil => .nil
  | _, _, .cons h t => .cons (l.dp h) (l.dpAll t)
end
theorem dpAll_length {K : PySem.W.Frag} {H : Hp} : ∀ {vs : List V} {xs : List PyData}, DpAll K H vs xs → vs.length = xs.length
  | _, _, .nil => rfl
  | _, _, .cons _ t => by rw [List.length_cons, List.length_cons, dpAll_length t]
theorem dpAll_get {K : PySem.W.Frag} {H : Hp} : ∀ {vs : List V} {xs : List PyData} {i : Nat} {x : PyData}, DpAll K H vs xs → xs[i]? = some x → ∃ v, vs[i]? = some v ∧ Dp K H v x
  | _, _, _, _, .nil, e => by simp at e
  | _, _, 0, x, .cons h _, e => by
    simp only [List.getElem?_cons_zero, Option.some.injEq] at e
    subst e
    exact ⟨_, rfl, h⟩
  | _, _, i + 1, x, .cons _ t, e => by
    obtain ⟨v, h1, h2⟩ := dpAll_get (i := i) (x := x) t (by simpa using e)
    exact ⟨v, by simpa using h1, h2⟩
theorem dpAll_get' {K : PySem.W.Frag} {H : Hp} : ∀ {vs : List V} {xs : List PyData} {i : Nat} {v : V}, DpAll K H vs xs → vs[i]? = some v → ∃ x, xs[i]? = some x ∧ Dp K H v x
  | _, _, _, _, .nil, e => by simp at e
  | _, _, 0, v, .cons h _, e => by
    simp only [List.getElem?_cons_zero, Option.some.injEq] at e
    subst e
    exact ⟨_, rfl, h⟩
  | _, _, i + 1, v, .cons _ t, e => by
    obtain ⟨x, h1, h2⟩ := dpAll_get' (i := i) (v := v) t (by simpa using e)
    exact ⟨x, by simpa using h1, h2⟩
theorem dpAll_append {K : PySem.W.Frag} {H : Hp} : ∀ {vs ws : List V} {xs ys : List PyData}, DpAll K H vs xs → DpAll K H ws ys → DpAll K H (vs ++ ws) (xs ++ ys)
  | _, _, _, _, .nil, k => k
  | _, _, _, _, .cons h t, k => .cons h (dpAll_append t k)
theorem dpAll_take {K : PySem.W.Frag} {H : Hp} : ∀ {vs : List V} {xs : List PyData} (n : Nat), DpAll K H vs xs → DpAll K H (vs.take n) (xs.take n)
  | _, _, 0, _ => .nil
  | _, _, _ + 1, .nil => .nil
  | _, _, n + 1, .cons h t => .cons h (dpAll_take n t)
theorem dpAll_drop {K : PySem.W.Frag} {H : Hp} : ∀ {vs : List V} {xs : List PyData} (n : Nat), DpAll K H vs xs → DpAll K H (vs.drop n) (xs.drop n)
  | _, _, 0, h => h
  | _, _, _ + 1, .nil => .nil
  | _, _, n + 1, .cons _ t => dpAll_drop n t
theorem dpAll_eraseIdx {K : PySem.W.Frag} {H : Hp} : ∀ {vs : List V} {xs : List PyData} (n : Nat), DpAll K H vs xs → DpAll K H (vs.eraseIdx n) (xs.eraseIdx n)
  | _, _, _, .nil => .nil
  | _, _, 0, .cons _ t => t
  | _, _, n + 1, .cons h t => .cons h (dpAll_eraseIdx n t)
theorem dpAll_set {K : PySem.W.Frag} {H : Hp} {v : V} {x : PyData} (d : Dp K H v x) : ∀ {vs : List V} {xs : List PyData} (n : Nat), DpAll K H vs xs → DpAll K H (vs.set n v) (xs.set n x)
  | _, _, _, .nil => .nil
  | _, _, 0, .cons _ t => .cons d t
  | _, _, n + 1, .cons h t => .cons h (dpAll_set d n t)
theorem dpAll_reverse {K : PySem.W.Frag} {H : Hp} : ∀ {vs : List V} {xs : List PyData}, DpAll K H vs xs → DpAll K H vs.reverse xs.reverse
  | _, _, .nil => .nil
  | _, _, .cons h t => by
    rw [List.reverse_cons, List.reverse_cons]
    exact dpAll_append (dpAll_reverse t) (.cons h .nil)

/-- a dict whose keys are whole numbers -/
inductive DctAll (K : PySem.W.Frag) (H : Hp) : List (Key × V) → List (Int × PyData) → Prop
  | nil : DctAll K H [] []
  | cons {k : Int} {v : V} {kvs : List (Key × V)} {x : PyData} {r : List (Int × PyData)} : Dp K H v x → DctAll K H kvs r → DctAll K H ((.inl k, v) :: kvs) ((k, x) :: r)
theorem Le.dctAll {K : PySem.W.Frag} {H H' : Hp} (l : Le H H') : ∀ {vs : List (Key × V)} {xs : List (Int × PyData)}, DctAll K H vs xs → DctAll K H' vs xs
  | _, _, .nil => .nil
  | _, _, .cons h t => .cons (l.dp h) (l.dctAll t)

/-- a value at v, whose own objects are fp -/
inductive Own (K : PySem.W.Frag) (P H : Hp) : OV → V → List Addr → Prop
  | d {x : PyData} {v : V} : Dp K P v x → Own K P H (.d x) v []
  | lst {a : Addr} {vs : List V} {xs : List PyData} : H a = some (.lst vs) → DpAll K P vs xs → Own K P H (.lst xs) (.ref a) [a]
  | dct {a : Addr} {vs : List (Key × V)} {xs : List (Int × PyData)} : H a = some (.dK vs) → DctAll K P vs xs → Own K P H (.dct xs) (.ref a) [a]
theorem Own.frame {K : PySem.W.Frag} {P P' H H' : Hp} {o : OV} {v : V} {f : List Addr} (h : Own K P H o v f) (l : Le P P') (k : ∀ a ∈ f, H' a = H a) : Own K P' H' o v f := by
  cases h with
  | d h => exact .d (l.dp h)
  | lst h t => exact .lst ((k _ List.mem_cons_self).trans h) (l.dpAll t)
  | dct h t => exact .dct ((k _ List.mem_cons_self).trans h) (l.dctAll t)
theorem Own.there {K : PySem.W.Frag} {P H : Hp} {o : OV} {v : V} {f : List Addr} (h : Own K P H o v f) : ∀ a ∈ f, ∃ u, H a = some u ∧ Fz u := by
  intro a ha
  cases h with
  | d h => cases ha
  | lst h t =>
    have e : a = _ := List.mem_singleton.mp ha
    rw [e]
    exact ⟨_, h, trivial⟩
  | dct h t =>
    have e : a = _ := List.mem_singleton.mp ha
    rw [e]
    exact ⟨_, h, trivial⟩

structure StOk (C : Cc) (P : Hp) (env : Env) (fp : Nat → List Addr) (σ : L2.St) (H : Hp) : Prop where
  phi : ∀ b o, P b = some o → H b = some o ∧ Fz o
  frm : ∀ b o, C.F b = some o → H b = some o ∧ Fz o ∧ P b = none
  own : ∀ i ov, env[i]? = some (some ov) → ∃ v, σ[i]? = some (some v) ∧ Own K0 P H ov v (fp i)
  dis : ∀ i j a, a ∈ fp i → a ∈ fp j → i = j
  fre : ∀ i a, a ∈ fp i → P a = none ∧ C.F a = none ∧ ∃ u, H a = some u ∧ Fz u
  keep : ∀ i v, C.kp i = some v → σ[i]? = some (some v)
  tabs : ∀ p ∈ C.tabs, GxR.TabG H p
  len : env.length = σ.length
/-- a value in the hand: apart from all else -/
structure Tmp (C : Cc) (P : Hp) (fp : Nat → List Addr) (ft : List Addr) : Prop where
  dis : ∀ i a, a ∈ fp i → a ∉ ft
  fre : ∀ a, a ∈ ft → P a = none ∧ C.F a = none
theorem Tmp.nil {C : Cc} {P : Hp} {fp : Nat → List Addr} : Tmp C P fp [] := ⟨fun _ _ _ h => by simp at h, fun _ h => by simp at h⟩

section
variable {C : Cc} {P P' : Hp} {env env' : Env} {fp fp' : Nat → List Addr} {σ : L2.St} {H H' : Hp} {ov : OV} {v : V} {ft : List Addr}
theorem StOk.le (s : StOk C P env fp σ H) : Le P H := fun b o e => (s.phi b o e).1
/-- the value in the hand is made data for good -/
theorem StOk.freeze (s : StOk C P env fp σ H) (o : Own K0 P H ov v ft) (t : Tmp C P fp ft) {x : PyData} (e : ov.dat = some x) :
    ∃ P', Le P P' ∧ StOk C P' env fp σ H ∧ Dp K0 P' v x := by
  cases o with
  | d h =>
    cases e
    exact ⟨P, Le.refl _, s, h⟩
  | @lst a vs xs h d =>
    cases e
    have hn : P a = none := (t.fre a List.mem_cons_self).1
    have l : Le P (upd P a (.lst vs)) := fun b u q => by
      rw [upd_ne (fun z => by rw [z, hn] at q; cases q)]
      exact q
    refine ⟨upd P a (.lst vs), l, ⟨fun b u q => ?_, fun b u q => ?_, fun i w q => ?_, s.dis, fun i b hb => ?_, s.keep, s.tabs, s.len⟩, .lst (SqL.of upd_same) (l.dpAll d)⟩
    · by_cases hb : b = a
      · rw [hb, upd_same] at q
        cases q
        rw [hb]
        exact ⟨h, trivial⟩
      · rw [upd_ne hb] at q
        exact s.phi b u q
    · obtain ⟨q1, q2, q3⟩ := s.frm b u q
      refine ⟨q1, q2, ?_⟩
      rw [upd_ne (fun z => ?_)]
      · exact q3
      · have := (t.fre a List.mem_cons_self).2
        rw [z, this] at q
        cases q
    · obtain ⟨u, q1, q2⟩ := s.own i w q
      exact ⟨u, q1, q2.frame l fun _ _ => rfl⟩
    · obtain ⟨q1, q2⟩ := s.fre i b hb
      refine ⟨?_, q2⟩
      rw [upd_ne (fun z => t.dis i b hb (by rw [z]; exact List.mem_cons_self))]
      exact q1
  | dct => cases e
/-- a new immutable object -/
theorem StOk.laid (s : StOk C P env fp σ H) {a : Addr} {u : HO} (hn : H a = none) (z : Fz u) : Le P (upd P a u) ∧ StOk C (upd P a u) env fp σ (upd H a u) := by
  have hp : P a = none := by
    cases q : P a with
    | none => rfl
    | some w => rw [(s.phi a w q).1] at hn; cases hn
  have hf : ∀ i, a ∉ fp i := fun i hi => by
    obtain ⟨_, _, w, q, _⟩ := s.fre i a hi
    rw [q] at hn; cases hn
  have l : Le P (upd P a u) := fun b w q => by
    rw [upd_ne (fun z => by rw [z, hp] at q; cases q)]
    exact q
  have ne : ∀ b w, H b = some w → b ≠ a := fun b w q z => by rw [z, hn] at q; cases q
  refine ⟨l, ⟨fun b w q => ?_, fun b w q => ?_, fun i w q => ?_, s.dis, fun i b hb => ?_, s.keep, fun p hpp => ?_, s.len⟩⟩
  · by_cases hb : b = a
    · rw [hb, upd_same] at q
      cases q
      rw [hb]
      exact ⟨upd_same, z⟩
    · rw [upd_ne hb] at q
      rw [upd_ne hb]
      exact s.phi b w q
  · obtain ⟨q1, q2, q3⟩ := s.frm b w q
    rw [upd_ne (ne b w q1), upd_ne (ne b w q1)]
    exact ⟨q1, q2, q3⟩
  · obtain ⟨y, q1, q2⟩ := s.own i w q
    exact ⟨y, q1, q2.frame l fun b hb => upd_ne (show b ≠ a from fun z => hf i (by rw [← z]; exact hb))⟩
  · obtain ⟨q1, q2, y, q3, q4⟩ := s.fre i b hb
    have nb : b ≠ a := fun z => hf i (by rw [← z]; exact hb)
    rw [upd_ne nb, upd_ne nb]
    exact ⟨q1, q2, y, q3, q4⟩
  · obtain ⟨ps, q1, q2⟩ := s.tabs p hpp
    exact ⟨ps, by rw [upd_ne (ne p _ q1)]; exact q1, q2⟩
/-- a new object of one's own -/
theorem StOk.newt (s : StOk C P env fp σ H) {a : Addr} {u : HO} (hn : H a = none) (z : Fz u) : StOk C P env fp σ (upd H a u) ∧ Tmp C P fp [a] := by
  have hp : P a = none := by
    cases q : P a with
    | none => rfl
    | some w => rw [(s.phi a w q).1] at hn; cases hn
  have hF : C.F a = none := by
    cases q : C.F a with
    | none => rfl
    | some w => rw [(s.frm a w q).1] at hn; cases hn
  have hf : ∀ i, a ∉ fp i := fun i hi => by
    obtain ⟨_, _, w, q, _⟩ := s.fre i a hi
    rw [q] at hn; cases hn
  have ne : ∀ b w, H b = some w → b ≠ a := fun b w q z => by rw [z, hn] at q; cases q
  refine ⟨⟨fun b w q => ?_, fun b w q => ?_, fun i w q => ?_, s.dis, fun i b hb => ?_, s.keep, fun p hpp => ?_, s.len⟩, fun i b hb hm => ?_, fun b hm => ?_⟩
  · obtain ⟨q1, q2⟩ := s.phi b w q
    rw [upd_ne (ne b w q1)]
    exact ⟨q1, q2⟩
  · obtain ⟨q1, q2, q3⟩ := s.frm b w q
    rw [upd_ne (ne b w q1)]
    exact ⟨q1, q2, q3⟩
  · obtain ⟨y, q1, q2⟩ := s.own i w q
    exact ⟨y, q1, q2.frame (Le.refl _) fun b hb => upd_ne (show b ≠ a from fun z => hf i (by rw [← z]; exact hb))⟩
  · obtain ⟨q1, q2, y, q3, q4⟩ := s.fre i b hb
    have nb : b ≠ a := fun z => hf i (by rw [← z]; exact hb)
    rw [upd_ne nb]
    exact ⟨q1, q2, y, q3, q4⟩
  · obtain ⟨ps, q1, q2⟩ := s.tabs p hpp
    exact ⟨ps, by rw [upd_ne (ne p _ q1)]; exact q1, q2⟩
  · exact hf i ((List.mem_singleton.mp hm) ▸ hb)
  · rw [List.mem_singleton.mp hm]
    exact ⟨hp, hF⟩
end
end TL
set_option Elab.async false
set_option linter.all false
set_option maxRecDepth 100000
set_option maxHeartbeats 1000000
namespace TL
open PySem PySem.Spec PyProof.Rows L2

theorem PE.imp {X : Cx} {e : Expr} {t t' : TE} (h : PE X e t) (i : ∀ σ H Q, t' σ H Q → t σ H Q) : PE X e t' := ⟨fun pins s σ H Q I q => h.run pins s σ H Q I (i σ H Q q)⟩
theorem PT.imp {X : Cx} {e : Expr} {t t' : TT} (h : PT X e t) (i : ∀ σ H Q, t' σ H Q → t σ H Q) : PT X e t' := ⟨fun pins s σ H Q I q => h.run pins s σ H Q I (i σ H Q q)⟩
theorem PW.imp {X : Cx} {e : Expr} {t t' : TT} (h : PW X e t) (i : ∀ σ H Q, t' σ H Q → t σ H Q) : PW X e t' := ⟨fun w pins s σ H Q I q => h.run w pins s σ H Q I (i σ H Q q)⟩
theorem PA.imp {X : Cx} {e : List Expr} {t t' : TA} (h : PA X e t) (i : ∀ σ H Q, t' σ H Q → t σ H Q) : PA X e t' := ⟨fun pos pins s σ H Q I q => h.run pos pins s σ H Q I (i σ H Q q)⟩
theorem PS.imp {X : Cx} {e : Stmt} {t t' : TS} (h : PS X e t) (i : ∀ D σ H, t' D σ H → t D σ H) : PS X e t' := ⟨fun pins s σ H D I q => h.run pins s σ H D I (i D σ H q)⟩
theorem PSs.imp {X : Cx} {e : List Stmt} {t t' : TS} (h : PSs X e t) (i : ∀ D σ H, t' D σ H → t D σ H) : PSs X e t' := ⟨fun pins s σ H D I q => h.run pins s σ H D I (i D σ H q)⟩

/-! ### what a monad's outcome is worth -/
/-- an exception lies in the heap: its class; its own dict with its fields -/
def ExcIs (C : Cc) (x : Exn) (cls : Value) (d : Option Addr) (H : Hp) : Prop := ∃ a, C.exc x.cls = some a ∧ cls = .ref a ∧ (x.args = [] ∨ ∃ dd fs, d = some dd ∧ H dd = some (.xd fs) ∧ fs.map (fun p => p.2) = x.args.map (fun z => match z with | .int i => V.int i | .str y => V.str y | .bool b => V.bl b | _ => V.non))
/-- R: how a result a and what stands for it, b, belong together -/
abbrev RelR (α β : Type) := Hp → (Nat → List Addr) → Hp → α → β → Prop
def postG {α β : Type} (C : Cc) (W : WX) (R : RelR α β) (P : Hp) (Q : β → Hp → Prop) (σ : L2.St) : Option (Out α) → Prop
  | none => False
  | some (.ok r env') => ∀ P' fp' H' v, Le P P' → StOk C P' env' fp' σ H' → R P' fp' H' r v → Q v H'
  | some (.exc x env') => ∀ P' fp' H' cls d, Le P P' → StOk C P' env' fp' σ H' → ExcIs C x cls d H' → W cls d σ H'
def liftG {α β : Type} (C : Cc) (W : WX) (R : RelR α β) (m : M α) : L2.St → Hp → (β → Hp → Prop) → Prop := fun σ H Q => ∃ P env fp, StOk C P env fp σ H ∧ postG C W R P Q σ (m env)
def rOV (C : Cc) : RelR OV V := fun P fp H r v => ∃ ft, Own K0 P H r v ft ∧ Tmp C P fp ft
def rD (C : Cc) : RelR PyData V := fun P _ _ r v => Dp K0 P v r
def rB : RelR Bool Bool := fun _ _ _ r v => v = r
def rDs (C : Cc) : RelR (List PyData) (List V) := fun P _ _ r v => DpAll K0 P v r
abbrev liftE (C : Cc) (W : WX) (m : M OV) : TE := liftG C W (rOV C) m
abbrev liftD (C : Cc) (W : WX) (m : M PyData) : TE := liftG C W (rD C) m
abbrev liftT (C : Cc) (W : WX) (m : M Bool) : TT := liftG C W rB m
abbrev liftA (C : Cc) (W : WX) (m : M (List PyData)) : TA := liftG C W (rDs C) m
section
variable {α β γ δ : Type} {C : Cc} {W : WX} {P P' : Hp} {σ : L2.St}
theorem postG.mono {R : RelR α β} {Q : β → Hp → Prop} (l : Le P P') : ∀ {o : Option (Out α)}, postG C W R P Q σ o → postG C W R P' Q σ o
  | none, h => h
  | some (.ok r e), h => fun P1 fp1 H1 v l1 s1 r1 => h P1 fp1 H1 v (l.trans l1) s1 r1
  | some (.exc x e), h => fun P1 fp1 H1 c d l1 s1 r1 => h P1 fp1 H1 c d (l.trans l1) s1 r1
/-- two in a row -/
theorem postG.seq {R : RelR α β} {R2 : RelR γ δ} {Q : δ → Hp → Prop} {N : β → Hp → Prop} {f : α → M γ} : ∀ {o : Option (Out α)}, postG C W R2 P Q σ (Out.andThen o f) →
    (∀ a env' P' fp' H' v, Le P P' → StOk C P' env' fp' σ H' → R P' fp' H' a v → postG C W R2 P' Q σ (f a env') → N v H') → postG C W R P N σ o
  | none, h, _ => h
  | some (.ok r e), h, k => fun P1 fp1 H1 v l1 s1 r1 => k r e P1 fp1 H1 v l1 s1 r1 (postG.mono l1 h)
  | some (.exc x e), h, _ => h
theorem liftG.seq {R : RelR α β} {R2 : RelR γ δ} {H : Hp} {Q : δ → Hp → Prop} {N : β → Hp → Prop} {m : M α} {f : α → M γ} (h : liftG C W R2 (m >>= f) σ H Q)
    (k : ∀ a env' P' fp' H' v, StOk C P' env' fp' σ H' → R P' fp' H' a v → postG C W R2 P' Q σ (f a env') → N v H') : liftG C W R m σ H N := by
  obtain ⟨P, env, fp, s, h⟩ := h
  exact ⟨P, env, fp, s, postG.seq h fun a env' P' fp' H' v _ s' r q => k a env' P' fp' H' v s' r q⟩
end
section
variable {X : Cx} {C : Cc} {W : WX} {e : Expr} {m : M OV}
theorem sE_frz (h : PE X e (liftE C W m)) : PE X e (liftD C W (frz m)) := PE.imp h fun σ H Q q => by
  refine liftG.seq q fun a env' P' fp' H' v s r q => ?_
  obtain ⟨ft, o, t⟩ := r
  cases ed : a.dat with
  | none =>
    have q' : postG C W (rD C) P' Q σ (M.opt a.dat env') := q
    rw [ed] at q'
    exact q'.elim
  | some x =>
    have q' : postG C W (rD C) P' Q σ (M.opt a.dat env') := q
    rw [ed] at q'
    obtain ⟨P2, l2, s2, d2⟩ := s.freeze o t ed
    exact q' P2 fp' H' v l2 s2 d2
/-- data as a value in the hand -/
theorem sE_dat {m : M PyData} (h : PE X e (liftD C W m)) : PE X e (liftE C W (m >>= fun x => pure (.d x))) := PE.imp h fun σ H Q q => by
  refine liftG.seq q fun a env' P' fp' H' v s r q => ?_
  exact q P' fp' H' v (Le.refl _) s ⟨[], .d r, Tmp.nil⟩
end

theorem Own.dp {K : PySem.W.Frag} {P H : Hp} {x : PyData} {v : V} {f : List Addr} (h : Own K P H (.d x) v f) : Dp K P v x := by
  cases h with
  | d h => exact h
theorem Own.of_lst {K : PySem.W.Frag} {P H : Hp} {xs : List PyData} {v : V} {f : List Addr} (h : Own K P H (.lst xs) v f) : ∃ a vs, v = .ref a ∧ f = [a] ∧ H a = some (.lst vs) ∧ DpAll K P vs xs := by
  cases h with
  | lst h d => exact ⟨_, _, rfl, rfl, h, d⟩
theorem Own.of_dct {K : PySem.W.Frag} {P H : Hp} {xs : List (Int × PyData)} {v : V} {f : List Addr} (h : Own K P H (.dct xs) v f) : ∃ a vs, v = .ref a ∧ f = [a] ∧ H a = some (.dK vs) ∧ DctAll K P vs xs := by
  cases h with
  | dct h d => exact ⟨_, _, rfl, rfl, h, d⟩
/-! ### names and constants -/
def mVar (i : Nat) : M OV := fun e => match e[i]? with
  | some (some (.d x)) => some (.ok (.d x) e)
  | _ => none
section
variable {X : Cx} {C : Cc} {W : WX} {pos : Pos}
theorem sE_var {i : Nat} {x : Str} (hN : X.N[i]? = some x) (hv : Vis X.env.scope x) (hd : (x == ("__debug__" : Str)) = false) (hcd : (x == ("__classdict__" : Str)) = false) : PE X (.Name x pos) (liftE C W (mVar i)) :=
  PE.imp (pe_var (i := i) hN hv hd hcd) fun σ H Q q => by
    obtain ⟨P, env, fp, s, h⟩ := q
    unfold mVar at h
    split at h
    · rename_i x e
      obtain ⟨v, e1, o⟩ := s.own i _ e
      exact ⟨v, e1, h P fp H v (Le.refl _) s ⟨[], .d o.dp, Tmp.nil⟩⟩
    · exact h.elim
/-- a value of its own is taken out of its slot -/
def mMove (i : Nat) : M OV := fun e => match e[i]? with
  | some (some v) => some (.ok v (e.set i none))
  | _ => none
theorem StOk.drop {P : Hp} {env : Env} {fp : Nat → List Addr} {σ : L2.St} {H : Hp} (s : StOk C P env fp σ H) (i : Nat) : StOk C P (env.set i none) (fun j => if j = i then [] else fp j) σ H := by
  refine ⟨s.phi, s.frm, fun j w q => ?_, fun j k a h1 h2 => ?_, fun j a h => ?_, s.keep, s.tabs, by rw [List.length_set]; exact s.len⟩
  · by_cases hj : j = i
    · subst hj
      by_cases hl : j < env.length
      · rw [List.getElem?_set_self hl] at q; cases q
      · rw [List.getElem?_eq_none (by rw [List.length_set]; omega)] at q; cases q
    · rw [List.getElem?_set_ne (Ne.symm hj)] at q
      obtain ⟨v, e, o⟩ := s.own j w q
      exact ⟨v, e, by rw [if_neg hj]; exact o⟩
  · by_cases hj : j = i
    · rw [if_pos hj] at h1; cases h1
    · by_cases hk : k = i
      · rw [if_pos hk] at h2; cases h2
      · rw [if_neg hj] at h1
        rw [if_neg hk] at h2
        exact s.dis j k a h1 h2
  · by_cases hj : j = i
    · rw [if_pos hj] at h; cases h
    · rw [if_neg hj] at h
      exact s.fre j a h
theorem sE_move {i : Nat} {x : Str} (hN : X.N[i]? = some x) (hv : Vis X.env.scope x) (hd : (x == ("__debug__" : Str)) = false) (hcd : (x == ("__classdict__" : Str)) = false) : PE X (.Name x pos) (liftE C W (mMove i)) :=
  PE.imp (pe_var (i := i) hN hv hd hcd) fun σ H Q q => by
    obtain ⟨P, env, fp, s, h⟩ := q
    unfold mMove at h
    split at h
    · rename_i w e
      obtain ⟨v, e1, o⟩ := s.own i _ e
      refine ⟨v, e1, h P _ H v (Le.refl _) (s.drop i) ⟨fp i, o, fun j a h1 h2 => ?_, fun a ha => ⟨(s.fre i a ha).1, (s.fre i a ha).2.1⟩⟩⟩
      by_cases hj : j = i
      · rw [if_pos hj] at h1; cases h1
      · rw [if_neg hj] at h1
        exact hj (s.dis j i a h1 h2)
    · exact h.elim
/-- a slot is made data for good -/
def mFrz (i : Nat) : M OV := fun e => match e[i]? with
  | some (some v) => (match v.dat with
    | some x => some (.ok (.d x) (e.set i (some (.d x))))
    | none => none)
  | _ => none
theorem StOk.put {P : Hp} {env : Env} {fp : Nat → List Addr} {σ : L2.St} {H : Hp} {ov : OV} {v : V} {ft : List Addr} (s : StOk C P env fp σ H) (i : Nat) (hs : σ[i]? = some (some v)) (o : Own K0 P H ov v ft) (t : Tmp C P fp ft) :
    StOk C P (env.set i (some ov)) (fun j => if j = i then ft else fp j) σ H := by
  refine ⟨s.phi, s.frm, fun j w q => ?_, fun j k a h1 h2 => ?_, fun j a h => ?_, s.keep, s.tabs, by rw [List.length_set]; exact s.len⟩
  · by_cases hj : j = i
    · subst hj
      by_cases hl : j < env.length
      · rw [List.getElem?_set_self hl] at q
        cases q
        exact ⟨v, hs, by rw [if_pos rfl]; exact o⟩
      · rw [List.getElem?_eq_none (by rw [List.length_set]; omega)] at q; cases q
    · rw [List.getElem?_set_ne (Ne.symm hj)] at q
      obtain ⟨v, e, o⟩ := s.own j w q
      exact ⟨v, e, by rw [if_neg hj]; exact o⟩
  · by_cases hj : j = i
    · rw [if_pos hj] at h1
      by_cases hk : k = i
      · rw [hj, hk]
      · rw [if_neg hk] at h2
        exact absurd h1 (t.dis k a h2)
    · rw [if_neg hj] at h1
      by_cases hk : k = i
      · rw [if_pos hk] at h2
        exact absurd h2 (t.dis j a h1)
      · rw [if_neg hk] at h2
        exact s.dis j k a h1 h2
  · by_cases hj : j = i
    · rw [if_pos hj] at h
      obtain ⟨h1, h2⟩ := t.fre a h
      exact ⟨h1, h2, o.there a h⟩
    · rw [if_neg hj] at h
      exact s.fre j a h
theorem sE_frzv {i : Nat} {x : Str} (hN : X.N[i]? = some x) (hv : Vis X.env.scope x) (hd : (x == ("__debug__" : Str)) = false) (hcd : (x == ("__classdict__" : Str)) = false) : PE X (.Name x pos) (liftE C W (mFrz i)) :=
  PE.imp (pe_var (i := i) hN hv hd hcd) fun σ H Q q => by
    obtain ⟨P, env, fp, s, h⟩ := q
    unfold mFrz at h
    split at h
    · rename_i w e
      obtain ⟨v, e1, o⟩ := s.own i _ e
      cases ed : w.dat with
      | none => rw [ed] at h; exact h.elim
      | some x =>
        rw [ed] at h
        have t : Tmp C P (fun j => if j = i then [] else fp j) (fp i) := ⟨fun j a h1 h2 => by
          by_cases hj : j = i
          · rw [if_pos hj] at h1; cases h1
          · rw [if_neg hj] at h1
            exact hj (s.dis j i a h1 h2), fun a ha => ⟨(s.fre i a ha).1, (s.fre i a ha).2.1⟩⟩
        obtain ⟨P2, l2, s2, d2⟩ := (s.drop i).freeze o t ed
        have s3 := s2.put i e1 (ov := .d x) (.d d2) Tmp.nil
        rw [List.set_set] at s3
        exact ⟨v, e1, h P2 _ H v l2 s3 ⟨[], .d d2, Tmp.nil⟩⟩
    · exact h.elim
def mC (x : PyData) : M OV := pure (.d x)
theorem sE_c {e : Expr} {v : V} {x : PyData} (h : PE X e (tC v)) (d : ∀ K H, Dp K H v x) : PE X e (liftE C W (mC x)) := PE.imp h fun σ H Q q => by
  obtain ⟨P, env, fp, s, h⟩ := q
  exact h P fp H v (Le.refl _) s ⟨[], .d (d _ _), Tmp.nil⟩
theorem sE_int {i : Int} {j : Nat} : PE X (.Constant (.int i) j pos) (liftE C W (mC (.int i))) := sE_c pe_int fun _ _ => .int i
theorem sE_bool {b : Bool} {j : Nat} : PE X (.Constant (.bool b) j pos) (liftE C W (mC (.bool b))) := sE_c pe_bl fun _ _ => .bl b
theorem sE_none {j : Nat} : PE X (.Constant .none j pos) (liftE C W (mC .none)) := sE_c pe_non fun _ _ => .non
theorem sE_str {x : Str} {j : Nat} : PE X (.Constant (.str x) j pos) (liftE C W (mC (.str x))) := sE_c pe_str fun _ _ => .str x
theorem sE_globI {x : Str} {i : Int} {t : Tok} (hg : Gl X x) (hm : X.mg x = some (.int i t)) (hd : (x == ("__debug__" : Str)) = false) : PE X (.Name x pos) (liftE C W (mC (.int i))) := sE_c (pe_glob (v := .int i) hg hm ⟨_, rfl⟩ hd) fun _ _ => .int i
theorem sE_globS {x y : Str} {t : Tok} (hg : Gl X x) (hm : X.mg x = some (.str y t)) (hd : (x == ("__debug__" : Str)) = false) : PE X (.Name x pos) (liftE C W (mC (.str y))) := sE_c (pe_glob (v := .str y) hg hm ⟨_, rfl⟩ hd) fun _ _ => .str y
end

/-! ### operators over data -/
/-- f on data is g -/
def OD (X : Cx) (C : Cc) (f : Value → Value → Sem Value) (g : PyData → PyData → Option OV) : Prop :=
  ∀ (P : Hp) (env : Env) (fp : Nat → List Addr) (σ : L2.St) (H : Hp) (x y : V) (dx dy : PyData) (r : OV) (Q : VK), StOk C P env fp σ H → Dp K0 P x dx → Dp K0 P y dy → g dx dy = some r →
    (∀ P' fp' H' v, Le P P' → StOk C P' env fp' σ H' → rOV C P' fp' H' r v → Q v H') → ∃ rr : R2, OpR X f rr ∧ rr x y H Q
def mBin (g : PyData → PyData → Option OV) (a b : M PyData) : M OV := a >>= fun x => b >>= fun y => M.opt (g x y)
section
variable {X : Cx} {C : Cc} {W : WX} {pos : Pos} {a b : Expr} {ma mb : M PyData} {g : PyData → PyData → Option OV}
/-- as one operator rule -/
def rOD (C : Cc) (g : PyData → PyData → Option OV) : R2 := fun x y H Q => ∃ P env fp σ dx dy r, StOk C P env fp σ H ∧ Dp K0 P x dx ∧ Dp K0 P y dy ∧ g dx dy = some r ∧ ∀ P' fp' H' v, Le P P' → StOk C P' env fp' σ H' → rOV C P' fp' H' r v → Q v H'
theorem OD.r {f : Value → Value → Sem Value} (h : OD X C f g) : OpR X f (rOD C g) := by
  intro pins s σ H x y v u Q I rx ry ⟨P, env, fp, σ', dx, dy, r, st, d1, d2, e, k⟩
  obtain ⟨rr, o, q⟩ := h P env fp σ' H x y dx dy r Q st d1 d2 e k
  exact o pins s σ H x y v u Q I rx ry q
theorem rOD.of {σ : L2.St} {H : Hp} {Q : VK} (h : liftE C W (mBin g ma mb) σ H Q) : tOp (rOD C g) (liftD C W ma) (liftD C W mb) σ H Q := by
  refine liftG.seq h fun x env1 P1 fp1 H1 v s1 r1 h1 => ?_
  refine ⟨P1, env1, fp1, s1, postG.seq h1 fun y env2 P2 fp2 H2 u l2 s2 r2 h2 => ?_⟩
  cases e : g x y with
  | none =>
    have h3 : postG C W (rOV C) P2 Q σ (M.opt (g x y) env2) := h2
    rw [e] at h3
    exact h3.elim
  | some r =>
    have h3 : postG C W (rOV C) P2 Q σ (M.opt (g x y) env2) := h2
    rw [e] at h3
    exact ⟨P2, env2, fp2, σ, x, y, r, s2, l2.dp r1, r2, e, h3⟩
theorem sE_bin {op : Operator} (h : OD X C (binaryOp op) g) (ha : PE X a (liftD C W ma)) (hb : PE X b (liftD C W mb)) : PE X (.BinOp a op b pos) (liftE C W (mBin g ma mb)) :=
  PE.imp (pe_op h.r ha hb) fun _ _ _ q => rOD.of q
theorem sE_cmp {op : CmpOp} (h : OD X C (compareOp op) g) (ha : PE X a (liftD C W ma)) (hb : PE X b (liftD C W mb)) (hm : behindInMarks op b = false) : PE X (.Compare a [op] [b] pos) (liftE C W (mBin g ma mb)) :=
  PE.imp (pe_cmpR h.r ha hb hm) fun _ _ _ q => rOD.of q
/-- a value that is a bool -/
def asB (m : M OV) : M Bool := m >>= fun v => match v with
  | .d (.bool b) => pure b
  | _ => fun _ => none
theorem asB.of {t : TE} {m : M OV} {σ : L2.St} {H : Hp} {Q : Bool → Hp → Prop} (h : liftT C W (asB m) σ H Q) (i : ∀ σ H Q, liftE C W m σ H Q → t σ H Q) : t σ H fun x H' => ∃ k, x = .bl k ∧ Q k H' := by
  refine i _ _ _ (liftG.seq h fun v env1 P1 fp1 H1 u s1 r1 h1 => ?_)
  obtain ⟨ft, o, t⟩ := r1
  cases o with
  | d d =>
    cases d with
    | bl b => exact ⟨b, rfl, h1 P1 fp1 H1 b (Le.refl _) s1 rfl⟩
    | _ => exact False.elim h1
  | _ => exact False.elim h1
theorem sT_cmp {op : CmpOp} (h : OD X C (compareOp op) g) (ha : PE X a (liftD C W ma)) (hb : PE X b (liftD C W mb)) (hm : behindInMarks op b = false) : PT X (.Compare a [op] [b] pos) (liftT C W (asB (mBin g ma mb))) :=
  PT.imp (pt_cmpR h.r ha hb hm) fun _ _ _ q => asB.of q fun _ _ _ q => rOD.of q
/-- f(..) of a bool, as a test -/
theorem sT_val {m : M OV} (h : PE X a (liftE C W m)) (he : ∀ whole, isTrue a X.env whole = (do let v ← whole; standAt a.pos; holding [v] (truthy v))) : PT X a (liftT C W (asB m)) :=
  PT.imp (pt_val h he) fun _ _ _ q => asB.of (t := liftE C W m) q fun _ _ _ q => q
end
/-- a value just made of data: no object -/
theorem rOV.d {C : Cc} {P : Hp} {fp : Nat → List Addr} {H : Hp} {v : V} {x : PyData} (h : Dp K0 P v x) : rOV C P fp H (.d x) v := ⟨[], .d h, Tmp.nil⟩
section
variable {C : Cc} {P : Hp} {env : Env} {fp : Nat → List Addr} {σ : L2.St} {H : Hp} {Q : VK}
/-- a new list in the hand -/
theorem rOV.newL (s : StOk C P env fp σ H) {vs : List V} {xs : List PyData} (d : DpAll K0 P vs xs) (k : ∀ P' fp' H' v, Le P P' → StOk C P' env fp' σ H' → rOV C P' fp' H' (.lst xs) v → Q v H') {p : Addr} (hp : H p = none) : Q (.ref p) (upd H p (.lst vs)) := by
  obtain ⟨s2, t⟩ := s.newt hp (u := .lst vs) trivial
  exact k P fp _ _ (Le.refl _) s2 ⟨[p], .lst upd_same d, t⟩
/-- a new tuple -/
theorem rOV.newT (s : StOk C P env fp σ H) {vs : List V} {xs : List PyData} (d : DpAll K0 P vs xs) (k : ∀ P' fp' H' v, Le P P' → StOk C P' env fp' σ H' → rOV C P' fp' H' (.d (.tuple xs)) v → Q v H') {p : Addr} (hp : H p = none) : Q (.ref p) (upd H p (.tup vs)) := by
  obtain ⟨l, s2⟩ := s.laid hp (u := .tup vs) trivial
  exact k _ fp _ _ l s2 (.d (.tup (SqT.of upd_same) (l.dpAll d)))
end
end TL
set_option Elab.async false
set_option linter.all false
set_option maxRecDepth 100000
set_option maxHeartbeats 1000000
namespace TL
open PySem PySem.Spec PyProof.Rows L2
theorem units_lt {X : Cx} {n : Nat} (hu : X.A.units + 200 < cLine) (h : n ≤ 200) : X.A.units + n < cLine := by omega
/-- plain data, not too deep -/
def okD (x : PyData) : Bool := x.plain && decide (x.depth ≤ 64)
theorem okD_plain {x : PyData} (h : okD x = true) : x.plain = true := (Bool.and_eq_true_iff.mp h).1
theorem okD_depth {x : PyData} (h : okD x = true) : x.depth ≤ 64 := of_decide_eq_true (Bool.and_eq_true_iff.mp h).2
section
variable {X : Cx} {C : Cc}
theorem OD.int {f : Value → Value → Sem Value} {g : PyData → PyData → Option OV} {c : Int → Int → Prop} {h : Int → Int → PyData} {hv : Int → Int → V} (hr : OpR X f (rI c hv)) (hd : ∀ K H i j, Dp K H (hv i j) (h i j))
    (hg : ∀ x y r, g x y = some r → ∃ i j, x = .int i ∧ y = .int j ∧ c i j ∧ r = .d (h i j)) : OD X C f g := by
  intro P env fp σ H x y dx dy r Q s d1 d2 e k
  obtain ⟨i, j, rfl, rfl, hc, rfl⟩ := hg dx dy r e
  cases d1
  cases d2
  exact ⟨_, hr, i, j, rfl, rfl, hc, k P fp H _ (Le.refl _) s (rOV.d (hd _ _ _ _))⟩
theorem rI0_rI {h : Int → Int → V} {f : Value → Value → Sem Value} (hr : OpR X f (rI0 h)) : OpR X f (rI (fun _ _ => True) h) := by
  intro pins s σ H x y v u Q I rx ry ⟨i, j, e1, e2, _, q⟩
  exact hr pins s σ H x y v u Q I rx ry ⟨i, j, e1, e2, q⟩
/-! ### + -/
def gAdd : PyData → PyData → Option OV
  | .int i, .int j => some (.d (.int (i + j)))
  | .str x, .str y => if x.length + y.length ≤ sizeLine then some (.d (.str (x ++ y))) else none
  | .tuple xs, .tuple ys => if xs.length + ys.length ≤ sizeLine then some (.d (.tuple (xs ++ ys))) else none
  | .list xs, .list ys => if xs.length + ys.length ≤ sizeLine then some (.lst (xs ++ ys)) else none
  | _, _ => none
/-- list + list, read in any way -/
def rCatL : R2 := fun x y H Q => ∃ l b xs zs, x = .ref l ∧ y = .ref b ∧ SqL K0 H l xs ∧ SqL K0 H b zs ∧ xs.length + zs.length ≤ sizeLine ∧ ∀ p, H p = none → Q (.ref p) (upd H p (.lst (xs ++ zs)))
theorem Inv.lstR {pins : List (Addr × Obj)} {σ : L2.St} {H : Hp} {s : Shared} {l : Addr} {xs : List V} (I : Inv X pins σ H s) (h : SqL K0 H l xs) : xs.length ≤ sizeLine ∧ ∃ (its : List Value) (n : Nat), Vals xs its ∧ xs.length = its.length ∧ s.heap.get? l = some { cls := .type "list", data := .seq its.toArray n } := by
  rcases h with h | ⟨o, its, n, e, _⟩
  · obtain ⟨z, its, n, r, e⟩ := h.ok I.hok
    exact ⟨z, its, n, r, r.length, e⟩
  · cases e
theorem op_catL : OpR X (binaryOp .Add) rCatL := by
  intro pins s σ H x y v u Q I rx ry h
  obtain ⟨l, b, xs, zs, rfl, rfl, hH, hB, hz, q⟩ := h
  cases rx
  cases ry
  obtain ⟨z, its, n, r, hl, e⟩ := Inv.lstR I hH
  obtain ⟨z2, its2, n2, r2, hl2, e2⟩ := Inv.lstR I hB
  refine PySem.P.add_list e e2 ?_ (by rw [List.size_toArray, List.size_toArray]; omega)
  have ea : its.toArray ++ its2.toArray = (its ++ its2).toArray := by simp
  rw [ea]
  exact ⟨.ref _, _, I.lnew (t' := s.toks) (r.append r2) (by rw [List.length_append]; omega), rfl, q _ I.fresh⟩
theorem od_add : OD X C (binaryOp .Add) gAdd := by
  intro P env fp σ H x y dx dy r Q s d1 d2 e k
  have hl := s.le
  cases dx <;> cases dy <;> try (simp [gAdd] at e; done)
  · cases e
    cases d1
    cases d2
    exact ⟨_, op_add, _, _, rfl, rfl, k P fp H _ (Le.refl _) s (rOV.d (.int _))⟩
  · rename_i x y
    cases d1
    cases d2
    by_cases hz : x.length + y.length ≤ sizeLine
    · rw [gAdd, if_pos hz] at e
      cases e
      exact ⟨_, op_add_str, _, _, rfl, rfl, hz, k P fp H _ (Le.refl _) s (rOV.d (.str _))⟩
    · rw [gAdd, if_neg hz] at e
      cases e
  · rename_i xs ys
    cases d1 with
    | lst h1 a1 =>
      cases d2 with
      | lst h2 a2 =>
        by_cases hz : xs.length + ys.length ≤ sizeLine
        · rw [gAdd, if_pos hz] at e
          cases e
          refine ⟨_, op_catL, _, _, _, _, rfl, rfl, hl.sqL h1, hl.sqL h2, by rw [dpAll_length a1, dpAll_length a2]; exact hz, fun p hp => ?_⟩
          exact rOV.newL s (dpAll_append a1 a2) k hp
        · rw [gAdd, if_neg hz] at e
          cases e
  · rename_i xs ys
    cases d1 with
    | tup h1 a1 =>
      cases d2 with
      | tup h2 a2 =>
        by_cases hz : xs.length + ys.length ≤ sizeLine
        · rw [gAdd, if_pos hz] at e
          cases e
          have n1 := dpAll_length a1
          have n2 := dpAll_length a2
          refine ⟨_, op_catA, _, _, _, _, rfl, rfl, toK_T (hl.sqT h1), toK_T (hl.sqT h2), by rw [n1, n2]; exact hz, fun e0 => ?_, fun _ e0 => ?_, fun _ _ p hp => ?_⟩
          · rw [e0] at n1
            have ex : xs = [] := List.eq_nil_of_length_eq_zero n1.symm
            rw [ex] at k
            exact k P fp H _ (Le.refl _) s (rOV.d (.tup h2 a2))
          · rw [e0] at n2
            have ex : ys = [] := List.eq_nil_of_length_eq_zero n2.symm
            rw [ex, List.append_nil] at k
            exact k P fp H _ (Le.refl _) s (rOV.d (.tup h1 a1))
          · exact rOV.newT s (dpAll_append a1 a2) k hp
        · rw [gAdd, if_neg hz] at e
          cases e
def gSub : PyData → PyData → Option OV
  | .int i, .int j => some (.d (.int (i - j)))
  | _, _ => none
theorem od_sub : OD X C (binaryOp .Sub) gSub := OD.int (h := fun i j => .int (i - j)) (rI0_rI op_sub) (fun _ _ _ _ => .int _) fun x y r e => by
  cases x <;> cases y <;> try (simp [gSub] at e; done)
  cases e
  exact ⟨_, _, rfl, rfl, trivial, rfl⟩
def gMod : PyData → PyData → Option OV
  | .int i, .int j => if 0 < j then some (.d (.int (i % j))) else none
  | _, _ => none
theorem od_mod : OD X C (binaryOp .Mod) gMod := OD.int (h := fun i j => .int (i % j)) op_mod (fun _ _ _ _ => .int _) fun x y r e => by
  cases x <;> cases y <;> try (simp [gMod] at e; done)
  rename_i i j
  by_cases h : 0 < j
  · rw [gMod, if_pos h] at e
    cases e
    exact ⟨_, _, rfl, rfl, h, rfl⟩
  · rw [gMod, if_neg h] at e
    cases e
def gFdiv : PyData → PyData → Option OV
  | .int i, .int j => if 0 < j ∧ j < 1073741824 then some (.d (.int (i / j))) else none
  | _, _ => none
theorem od_fdiv : OD X C (binaryOp .FloorDiv) gFdiv := OD.int (h := fun i j => .int (i / j)) op_fdiv (fun _ _ _ _ => .int _) fun x y r e => by
  cases x <;> cases y <;> try (simp [gFdiv] at e; done)
  rename_i i j
  by_cases h : 0 < j ∧ j < 1073741824
  · rw [gFdiv, if_pos h] at e
    cases e
    exact ⟨_, _, rfl, rfl, h, rfl⟩
  · rw [gFdiv, if_neg h] at e
    cases e
def gPow : PyData → PyData → Option OV
  | .int i, .int j => if 0 ≤ j ∧ j ≤ 1000000 ∧ i.natAbs < 2 ^ 64 then some (.d (.int (i ^ j.toNat))) else none
  | _, _ => none
theorem od_pow : OD X C (binaryOp .Pow) gPow := OD.int (h := fun i j => .int (i ^ j.toNat)) op_pow (fun _ _ _ _ => .int _) fun x y r e => by
  cases x <;> cases y <;> try (simp [gPow] at e; done)
  rename_i i j
  by_cases h : 0 ≤ j ∧ j ≤ 1000000 ∧ i.natAbs < 2 ^ 64
  · rw [gPow, if_pos h] at e
    cases e
    exact ⟨_, _, rfl, rfl, h, rfl⟩
  · rw [gPow, if_neg h] at e
    cases e
/-! ### * -/
def gMul : PyData → PyData → Option OV
  | .int i, .int j => if (-(2 ^ 64) < i ∧ i < 2 ^ 64) ∨ (-(2 ^ 64) < j ∧ j < 2 ^ 64) then some (.d (.int (i * j))) else none
  | .tuple xs, .int k => if xs ≠ [] ∧ 2 ≤ k ∧ k ≤ 1000 ∧ xs.length ≤ 1000 then some (.d (.tuple (List.replicate k.toNat xs).flatten)) else if k = 1 then some (.d (.tuple xs)) else none
  | .list xs, .int k => if -(2 ^ 63) ≤ k ∧ k < 2 ^ 63 ∧ xs.length * k.toNat ≤ sizeLine then some (.lst (List.replicate k.toNat xs).flatten) else none
  | _, _ => none
theorem dpAll_rep {K : PySem.W.Frag} {H : Hp} {vs : List V} {xs : List PyData} (h : DpAll K H vs xs) : ∀ n : Nat, DpAll K H (List.replicate n vs).flatten (List.replicate n xs).flatten
  | 0 => .nil
  | n + 1 => by
    rw [List.replicate_succ, List.replicate_succ, List.flatten_cons, List.flatten_cons]
    exact dpAll_append h (dpAll_rep h n)
/-! ### ==, != -/
def gEq (x y : PyData) : Option OV := if okD x && okD y then some (.d (.bool (PyData.eqv x y))) else none
def gNe (x y : PyData) : Option OV := if okD x && okD y then some (.d (.bool (!PyData.eqv x y))) else none
def rEqP (K : PySem.W.Frag) : R2 := fun x y H Q => ∃ d e, Dp K H x d ∧ Dp K H y e ∧ okD d = true ∧ okD e = true ∧ Q (.bl (PyData.eqv d e)) H
def rNeP (K : PySem.W.Frag) : R2 := fun x y H Q => ∃ d e, Dp K H x d ∧ Dp K H y e ∧ okD d = true ∧ okD e = true ∧ Q (.bl (!PyData.eqv d e)) H
theorem op_eqP (hu : X.A.units + 200 < cLine) : OpR X (compareOp .Eq) (rEqP X.K) := by
  intro pins s σ H x y v u Q I rx ry ⟨d, e, hd, he, sd, se, q⟩
  obtain ⟨as, r1⟩ := Dp.reads I d x v hd rx
  obtain ⟨bs, r2⟩ := Dp.reads I e y u he ry
  have h1 := okD_depth sd
  exact PySem.SeqAt.eq_plain r1 r2 (okD_plain sd) (okD_plain se) (by have := Nat.min_le_left d.depth e.depth; omega) ⟨.bl _, H, I, rfl, q⟩
theorem op_neP (hu : X.A.units + 200 < cLine) : OpR X (compareOp .NotEq) (rNeP X.K) := by
  intro pins s σ H x y v u Q I rx ry ⟨d, e, hd, he, sd, se, q⟩
  obtain ⟨as, r1⟩ := Dp.reads I d x v hd rx
  obtain ⟨bs, r2⟩ := Dp.reads I e y u he ry
  have h1 := okD_depth sd
  exact PySem.SeqAt.ne_plain r1 r2 (okD_plain sd) (okD_plain se) (by have := Nat.min_le_left d.depth e.depth; omega) ⟨.bl _, H, I, rfl, q⟩
theorem od_eq (hu : X.A.units + 200 < cLine) : OD X C (compareOp .Eq) gEq := by
  intro P env fp σ H x y dx dy r Q s d1 d2 e k
  unfold gEq at e
  split at e
  · rename_i h
    cases e
    obtain ⟨h1, h2⟩ := Bool.and_eq_true_iff.mp h
    exact ⟨_, op_eqP hu, dx, dy, toK (s.le.dp d1), toK (s.le.dp d2), h1, h2, k P fp H _ (Le.refl _) s (rOV.d (.bl _))⟩
  · cases e
theorem od_ne (hu : X.A.units + 200 < cLine) : OD X C (compareOp .NotEq) gNe := by
  intro P env fp σ H x y dx dy r Q s d1 d2 e k
  unfold gNe at e
  split at e
  · rename_i h
    cases e
    obtain ⟨h1, h2⟩ := Bool.and_eq_true_iff.mp h
    exact ⟨_, op_neP hu, dx, dy, toK (s.le.dp d1), toK (s.le.dp d2), h1, h2, k P fp H _ (Le.refl _) s (rOV.d (.bl _))⟩
  · cases e
/-! ### <, <=, >, >= -/
def isNone : PyData → Bool
  | .none => true
  | _ => false
def gLt (x y : PyData) : Option OV := if PySem.W.alike x y && (!isNone x && okD x) then some (.d (.bool (PySem.W.dataLt x y))) else none
def gGt (x y : PyData) : Option OV := if PySem.W.alike x y && (!isNone x && okD x) then some (.d (.bool (PySem.W.dataLt y x))) else none
def gLe (x y : PyData) : Option OV := if PySem.W.alike x y && (!isNone x && okD x) then some (.d (.bool (!PySem.W.dataLt y x))) else none
def gGe (x y : PyData) : Option OV := if PySem.W.alike x y && (!isNone x && okD x) then some (.d (.bool (!PySem.W.dataLt x y))) else none
def rOrd (K : PySem.W.Frag) (f : PyData → PyData → Bool) : R2 := fun x y H Q => ∃ d e, Dp K H x d ∧ Dp K H y e ∧ PySem.W.alike d e = true ∧ d ≠ .none ∧ d.depth ≤ 64 ∧ Q (.bl (f d e)) H
theorem op_ord {op : CmpOp} {f : PyData → PyData → Bool} (hu : X.A.units + 200 < cLine) (rule : ∀ {A : Around} {E : Value → Shared → Prop} {s : Shared} {a b : Value} {da db : PyData} {as bs : List Addr} {Q : Value → Shared → Prop}, Reads s.heap a da as → Reads s.heap b db bs → PySem.W.alike da db = true → da ≠ .none → A.units + min da.depth db.depth < cLine → Q (.bool (f da db)) s → wpAny (model X.prog X.w) A (compareOp op a b) Q E s) :
    OpR X (compareOp op) (rOrd X.K f) := by
  intro pins s σ H x y v u Q I rx ry ⟨d, e, hd, he, ha, hn, hz, q⟩
  obtain ⟨as, r1⟩ := Dp.reads I d x v hd rx
  obtain ⟨bs, r2⟩ := Dp.reads I e y u he ry
  exact rule r1 r2 ha hn (by have := Nat.min_le_left d.depth e.depth; omega) ⟨.bl _, H, I, rfl, q⟩
theorem od_ord {op : CmpOp} {f : PyData → PyData → Bool} {g : PyData → PyData → Option OV} (ho : OpR X (compareOp op) (rOrd X.K f)) (hg : g = fun x y => if PySem.W.alike x y && (!isNone x && okD x) then some (.d (.bool (f x y))) else none) : OD X C (compareOp op) g := by
  intro P env fp σ H x y dx dy r Q s d1 d2 e k
  rw [hg] at e
  simp only at e
  split at e
  · rename_i h
    cases e
    obtain ⟨h1, h2⟩ := Bool.and_eq_true_iff.mp h
    obtain ⟨h3, h4⟩ := Bool.and_eq_true_iff.mp h2
    exact ⟨_, ho, dx, dy, toK (s.le.dp d1), toK (s.le.dp d2), h1, (fun z => by rw [z] at h3; cases h3), okD_depth h4, k P fp H _ (Le.refl _) s (rOV.d (.bl _))⟩
  · cases e
theorem od_lt (hu : X.A.units + 200 < cLine) : OD X C (compareOp .Lt) gLt := od_ord (f := fun x y => PySem.W.dataLt x y) (op_ord hu fun r1 r2 h hn hz q => PySem.W.lt_data r1 r2 h hn hz q) rfl
theorem od_gt (hu : X.A.units + 200 < cLine) : OD X C (compareOp .Gt) gGt := od_ord (f := fun x y => PySem.W.dataLt y x) (op_ord hu fun r1 r2 h hn hz q => PySem.W.gt_data r1 r2 h hn hz q) rfl
theorem od_le (hu : X.A.units + 200 < cLine) : OD X C (compareOp .LtE) gLe := od_ord (f := fun x y => !PySem.W.dataLt y x) (op_ord hu fun r1 r2 h hn hz q => PySem.W.le_data r1 r2 h hn hz q) rfl
theorem od_ge (hu : X.A.units + 200 < cLine) : OD X C (compareOp .GtE) gGe := od_ord (f := fun x y => !PySem.W.dataLt x y) (op_ord hu fun r1 r2 h hn hz q => PySem.W.ge_data r1 r2 h hn hz q) rfl
/-! ### in, not in: a tuple, a list -/
def gIn (x y : PyData) : Option OV := match y with
  | .list ys => if okD x && okD (.list ys) then some (.d (.bool (ys.any fun z => PyData.eqv z x))) else none
  | .tuple ys => if okD x && okD (.tuple ys) then some (.d (.bool (ys.any fun z => PyData.eqv z x))) else none
  | _ => none
def gNotIn (x y : PyData) : Option OV := match y with
  | .list ys => if okD x && okD (.list ys) then some (.d (.bool (!ys.any fun z => PyData.eqv z x))) else none
  | .tuple ys => if okD x && okD (.tuple ys) then some (.d (.bool (!ys.any fun z => PyData.eqv z x))) else none
  | _ => none
def rInP (K : PySem.W.Frag) (neg : Bool) : R2 := fun x y H Q => ∃ d ys, Dp K H x d ∧ (Dp K H y (.list ys) ∨ Dp K H y (.tuple ys)) ∧ okD d = true ∧ PyData.plainAll ys = true ∧ PyData.depthAll ys ≤ 64 ∧ Q (.bl (if neg then !(ys.any fun z => PyData.eqv z d) else ys.any fun z => PyData.eqv z d)) H
theorem op_inP (hu : X.A.units + 200 < cLine) : OpR X (compareOp .In) (rInP X.K false) := by
  intro pins s σ H x y v u Q I rx ry ⟨d, ys, hd, he, sd, hp, hz, q⟩
  obtain ⟨as, r1⟩ := Dp.reads I d x v hd rx
  have h1 := okD_depth sd
  rcases he with he | he
  · obtain ⟨bs, r2⟩ := Dp.reads I _ y u he ry
    exact PySem.SeqAt.in_list_data r2 r1 hp (okD_plain sd) (by have := Nat.min_le_right (PyData.depthAll ys) d.depth; omega) ⟨.bl _, H, I, rfl, q⟩
  · obtain ⟨bs, r2⟩ := Dp.reads I _ y u he ry
    exact PySem.SeqAt.in_tuple_data r2 r1 hp (okD_plain sd) (by have := Nat.min_le_right (PyData.depthAll ys) d.depth; omega) ⟨.bl _, H, I, rfl, q⟩
theorem op_notInP (hu : X.A.units + 200 < cLine) : OpR X (compareOp .NotIn) (rInP X.K true) := by
  intro pins s σ H x y v u Q I rx ry ⟨d, ys, hd, he, sd, hp, hz, q⟩
  obtain ⟨as, r1⟩ := Dp.reads I d x v hd rx
  have h1 := okD_depth sd
  rcases he with he | he
  · obtain ⟨bs, r2⟩ := Dp.reads I _ y u he ry
    exact PySem.SeqAt.notIn_list_data r2 r1 hp (okD_plain sd) (by have := Nat.min_le_right (PyData.depthAll ys) d.depth; omega) ⟨.bl _, H, I, rfl, q⟩
  · obtain ⟨bs, r2⟩ := Dp.reads I _ y u he ry
    exact PySem.SeqAt.notIn_tuple_data r2 r1 hp (okD_plain sd) (by have := Nat.min_le_right (PyData.depthAll ys) d.depth; omega) ⟨.bl _, H, I, rfl, q⟩
theorem okD_seq {ys : List PyData} (h : okD (.list ys) = true) : PyData.plainAll ys = true ∧ PyData.depthAll ys ≤ 64 := by
  have h1 := okD_plain h
  have h2 := okD_depth h
  simp only [PyData.plain] at h1
  simp only [PyData.depth] at h2
  exact ⟨h1, by omega⟩
theorem okD_seqT {ys : List PyData} (h : okD (.tuple ys) = true) : PyData.plainAll ys = true ∧ PyData.depthAll ys ≤ 64 := by
  have h1 := okD_plain h
  have h2 := okD_depth h
  simp only [PyData.plain] at h1
  simp only [PyData.depth] at h2
  exact ⟨h1, by omega⟩
theorem od_in (hu : X.A.units + 200 < cLine) : OD X C (compareOp .In) gIn := by
  intro P env fp σ H x y dx dy r Q s d1 d2 e k
  unfold gIn at e
  split at e
  · split at e
    · rename_i h
      cases e
      obtain ⟨h1, h2⟩ := Bool.and_eq_true_iff.mp h
      obtain ⟨h3, h4⟩ := okD_seq h2
      exact ⟨_, op_inP hu, dx, _, toK (s.le.dp d1), .inl (toK (s.le.dp d2)), h1, h3, h4, k P fp H _ (Le.refl _) s (rOV.d (.bl _))⟩
    · cases e
  · split at e
    · rename_i h
      cases e
      obtain ⟨h1, h2⟩ := Bool.and_eq_true_iff.mp h
      obtain ⟨h3, h4⟩ := okD_seqT h2
      exact ⟨_, op_inP hu, dx, _, toK (s.le.dp d1), .inr (toK (s.le.dp d2)), h1, h3, h4, k P fp H _ (Le.refl _) s (rOV.d (.bl _))⟩
    · cases e
  · cases e
theorem od_notIn (hu : X.A.units + 200 < cLine) : OD X C (compareOp .NotIn) gNotIn := by
  intro P env fp σ H x y dx dy r Q s d1 d2 e k
  unfold gNotIn at e
  split at e
  · split at e
    · rename_i h
      cases e
      obtain ⟨h1, h2⟩ := Bool.and_eq_true_iff.mp h
      obtain ⟨h3, h4⟩ := okD_seq h2
      exact ⟨_, op_notInP hu, dx, _, toK (s.le.dp d1), .inl (toK (s.le.dp d2)), h1, h3, h4, k P fp H _ (Le.refl _) s (rOV.d (.bl _))⟩
    · cases e
  · split at e
    · rename_i h
      cases e
      obtain ⟨h1, h2⟩ := Bool.and_eq_true_iff.mp h
      obtain ⟨h3, h4⟩ := okD_seqT h2
      exact ⟨_, op_notInP hu, dx, _, toK (s.le.dp d1), .inr (toK (s.le.dp d2)), h1, h3, h4, k P fp H _ (Le.refl _) s (rOV.d (.bl _))⟩
    · cases e
  · cases e
/-! ### is, is not -/
def gIs (x y : PyData) : Option OV := match y with
  | .none => some (.d (.bool (isNone x)))
  | _ => none
def gIsNot (x y : PyData) : Option OV := match y with
  | .none => some (.d (.bool (!isNone x)))
  | _ => none
theorem dp_none {K : PySem.W.Frag} {H : Hp} {x : V} {d : PyData} (h : Dp K H x d) : decide (x = .non) = isNone d := by
  cases h <;> rfl
theorem od_is : OD X C (compareOp .Is) gIs := by
  intro P env fp σ H x y dx dy r Q s d1 d2 e k
  unfold gIs at e
  split at e
  · cases e
    cases d2
    refine ⟨_, op_isN, rfl, ?_⟩
    rw [dp_none d1]
    exact k P fp H _ (Le.refl _) s (rOV.d (.bl _))
  · cases e
theorem od_isNot : OD X C (compareOp .IsNot) gIsNot := by
  intro P env fp σ H x y dx dy r Q s d1 d2 e k
  unfold gIsNot at e
  split at e
  · cases e
    cases d2
    refine ⟨_, op_notN, rfl, ?_⟩
    rw [dp_none d1]
    exact k P fp H _ (Le.refl _) s (rOV.d (.bl _))
  · cases e
end
end TL
set_option Elab.async false
set_option linter.all false
set_option maxRecDepth 100000
set_option maxHeartbeats 1000000
namespace TL
open PySem PySem.Spec PyProof.Rows L2
/-! ### dicts by whole numbers -/
def look (kvs : List (Int × PyData)) (k : Int) : Option PyData := (kvs.find? fun p => decide (p.1 = k)).map (·.2)
def put (kvs : List (Int × PyData)) (k : Int) (x : PyData) : List (Int × PyData) := if (kvs.any fun p => decide (p.1 = k)) then kvs.map fun p => if p.1 = k then (p.1, x) else p else kvs ++ [(k, x)]
section
variable {K : PySem.W.Frag} {H : Hp}
theorem DctAll.look (k : Int) : ∀ {kvs : List (Key × V)} {r : List (Int × PyData)}, DctAll K H kvs r → (look r k = none ∧ valV kvs (Sum.inl k) = none) ∨ ∃ x v, look r k = some x ∧ valV kvs (Sum.inl k) = some v ∧ Dp K H v x
  | _, _, .nil => .inl ⟨rfl, rfl⟩
  | _, _, .cons (k := j) (v := v) (x := x) h t => by
    by_cases e : j = k
    · subst e
      refine .inr ⟨x, v, ?_, valV_pos rfl, h⟩
      simp [TL.look]
    · have e' : ¬ (Sum.inl j : Key) = Sum.inl k := fun z => e (Sum.inl.inj z)
      rcases DctAll.look k t with ⟨h1, h2⟩ | ⟨y, w, h1, h2, h3⟩
      · refine .inl ⟨?_, ?_⟩
        · simpa [TL.look, List.find?_cons, e] using h1
        · rw [valV_neg e']; exact h2
      · refine .inr ⟨y, w, ?_, ?_, h3⟩
        · simpa [TL.look, List.find?_cons, e] using h1
        · rw [valV_neg e']; exact h2
theorem DctAll.any (k : Int) : ∀ {kvs : List (Key × V)} {r : List (Int × PyData)}, DctAll K H kvs r → (kvs.any fun p => decide (p.1 = Sum.inl k)) = r.any fun p => decide (p.1 = k)
  | _, _, .nil => rfl
  | _, _, .cons (k := j) h t => by
    rw [List.any_cons, List.any_cons, DctAll.any k t]
    congr 1
    by_cases e : j = k
    · subst e; simp
    · have e' : ¬ (Sum.inl j : Key) = Sum.inl k := fun z => e (Sum.inl.inj z)
      simp [e]
theorem DctAll.repl (k : Int) {v : V} {x : PyData} (d : Dp K H v x) : ∀ {kvs : List (Key × V)} {r : List (Int × PyData)}, DctAll K H kvs r → DctAll K H (kvs.map fun p => if p.1 = Sum.inl k then (p.1, v) else p) (r.map fun p => if p.1 = k then (p.1, x) else p)
  | _, _, .nil => .nil
  | _, _, .cons (k := j) h t => by
    rw [List.map_cons, List.map_cons]
    by_cases e : j = k
    · subst e
      rw [if_pos rfl, if_pos rfl]
      exact .cons d (DctAll.repl j d t)
    · have e' : ¬ (Sum.inl j : Key) = Sum.inl k := fun z => e (Sum.inl.inj z)
      rw [if_neg e', if_neg e]
      exact .cons h (DctAll.repl k d t)
theorem DctAll.snoc {k : Int} {v : V} {x : PyData} (d : Dp K H v x) : ∀ {kvs : List (Key × V)} {r : List (Int × PyData)}, DctAll K H kvs r → DctAll K H (kvs ++ [(.inl k, v)]) (r ++ [(k, x)])
  | _, _, .nil => .cons d .nil
  | _, _, .cons h t => .cons h (DctAll.snoc d t)
theorem DctAll.put (k : Int) {v : V} {x : PyData} (d : Dp K H v x) {kvs : List (Key × V)} {r : List (Int × PyData)} (h : DctAll K H kvs r) : DctAll K H (putK kvs (.inl k) v) (put r k x) := by
  unfold putK TL.put
  rw [h.any k]
  split
  · exact h.repl k d
  · exact h.snoc d
theorem DctAll.length : ∀ {kvs : List (Key × V)} {r : List (Int × PyData)}, DctAll K H kvs r → kvs.length = r.length
  | _, _, .nil => rfl
  | _, _, .cons h t => by rw [List.length_cons, List.length_cons, t.length]
end
/-! ### a slot's own object is changed -/
section
variable {C : Cc} {P : Hp} {env : Env} {fp : Nat → List Addr} {σ : L2.St} {H : Hp}
theorem StOk.mut (s : StOk C P env fp σ H) {i : Nat} {ov ov' : OV} {a : Addr} {u : HO} (he : env[i]? = some (some ov)) (hs : σ[i]? = some (some (.ref a))) (hf : fp i = [a]) (z : Fz u) (new : ∀ H', H' a = some u → Own K0 P H' ov' (.ref a) [a]) :
    StOk C P (env.set i (some ov')) fp σ (upd H a u) := by
  have ha : a ∈ fp i := by rw [hf]; exact List.mem_cons_self
  obtain ⟨hp, hF, w, hw, hz⟩ := s.fre i a ha
  have ne : ∀ j b, b ∈ fp j → j ≠ i → b ≠ a := fun j b hb hj q => hj (s.dis j i b hb (by rw [q]; exact ha))
  refine ⟨fun b o q => ?_, fun b o q => ?_, fun j w' q => ?_, s.dis, fun j b hb => ?_, s.keep, fun p hpp => ?_, by rw [List.length_set]; exact s.len⟩
  · rw [upd_ne (fun q2 => by rw [q2, hp] at q; cases q)]
    exact s.phi b o q
  · rw [upd_ne (fun q2 => by rw [q2, hF] at q; cases q)]
    exact s.frm b o q
  · by_cases hj : j = i
    · subst hj
      have hl : j < env.length := by
        by_cases hl : j < env.length
        · exact hl
        · rw [List.getElem?_eq_none (by omega)] at he; cases he
      rw [List.getElem?_set_self hl] at q
      cases q
      exact ⟨_, hs, by rw [hf]; exact new _ upd_same⟩
    · rw [List.getElem?_set_ne (Ne.symm hj)] at q
      obtain ⟨v, e, o⟩ := s.own j w' q
      exact ⟨v, e, o.frame (Le.refl _) fun b hb => upd_ne (ne j b hb hj)⟩
  · obtain ⟨q1, q2, y, q3, q4⟩ := s.fre j b hb
    by_cases hj : j = i
    · subst hj
      rw [hf] at hb
      have e := List.mem_singleton.mp hb
      subst e
      exact ⟨q1, q2, u, upd_same, z⟩
    · rw [upd_ne (ne j b hb hj)]
      exact ⟨q1, q2, y, q3, q4⟩
  · obtain ⟨ps, q1, q2⟩ := s.tabs p hpp
    refine ⟨ps, ?_, q2⟩
    rw [upd_ne (fun q => ?_)]
    · exact q1
    · rw [q, hw] at q1
      cases q1
      exact hz
/-- a slot that holds a list of its own -/
theorem StOk.lstAt (s : StOk C P env fp σ H) {i : Nat} {xs : List PyData} (he : env[i]? = some (some (.lst xs))) : ∃ a vs, σ[i]? = some (some (.ref a)) ∧ fp i = [a] ∧ H a = some (.lst vs) ∧ DpAll K0 P vs xs := by
  obtain ⟨v, e, o⟩ := s.own i _ he
  obtain ⟨a, vs, rfl, hf, hH, d⟩ := o.of_lst
  exact ⟨a, vs, e, hf, hH, d⟩
theorem StOk.dctAt (s : StOk C P env fp σ H) {i : Nat} {xs : List (Int × PyData)} (he : env[i]? = some (some (.dct xs))) : ∃ a vs, σ[i]? = some (some (.ref a)) ∧ fp i = [a] ∧ H a = some (.dK vs) ∧ DctAll K0 P vs xs := by
  obtain ⟨v, e, o⟩ := s.own i _ he
  obtain ⟨a, vs, rfl, hf, hH, d⟩ := o.of_dct
  exact ⟨a, vs, e, hf, hH, d⟩
end
/-! ### len, truth, items -/
def ovLen : OV → Option Nat
  | .d (.str x) => if x.length ≤ sizeLine then some x.length else none
  | .d (.list xs) => some xs.length
  | .d (.tuple xs) => some xs.length
  | .lst xs => some xs.length
  | .dct kvs => some kvs.length
  | _ => none
/-- the value in a slot, read where it stands -/
def mPeek {α : Type} (i : Nat) (f : OV → Option α) : M α := fun e => match e[i]? with
  | some (some v) => (match f v with
    | some a => some (.ok a e)
    | none => none)
  | _ => none
section
variable {X : Cx} {C : Cc} {W : WX} {pos : Pos}
theorem len_of {P H : Hp} {ov : OV} {v : V} {ft : List Addr} {n : Nat} {Q : VK} (l : Le P H) (o : Own K0 P H ov v ft) (e : ovLen ov = some n) (q : Q (.int n) H) :
    ∃ r : List V → Hp → VK → Prop, CallR X (.builtin "len") r ∧ r [v] H Q := by
  cases o with
  | d d =>
    cases d with
    | str x =>
      have e' : (if x.length ≤ sizeLine then some x.length else none) = some n := e
      by_cases hz : x.length ≤ sizeLine
      · rw [if_pos hz] at e'
        cases e'
        exact ⟨_, call_len, _, _, rfl, ⟨hz, rfl⟩, q⟩
      · rw [if_neg hz] at e'
        cases e'
    | lst h a =>
      cases e
      exact ⟨_, call_len, _, _, rfl, .inl ⟨_, toK_L (l.sqL h), (dpAll_length a).symm⟩, q⟩
    | tup h a =>
      cases e
      exact ⟨_, call_len, _, _, rfl, .inr ⟨_, toK_T (l.sqT h), (dpAll_length a).symm⟩, q⟩
    | _ => cases e
  | lst h a =>
    cases e
    exact ⟨_, call_len, _, _, rfl, .inl ⟨_, SqL.of h, (dpAll_length a).symm⟩, q⟩
  | dct h a =>
    cases e
    exact ⟨_, call_lenD, _, _, rfl, h, by rw [a.length]; exact q⟩
theorem CallR.ex {f : Value} {r : List V → Hp → VK → Prop} (h : ∀ vs H Q, r vs H Q → ∃ r' : List V → Hp → VK → Prop, CallR X f r' ∧ r' vs H Q) : CallR X f r := by
  intro pins s σ H xs us Q I rx q
  obtain ⟨r', c, q'⟩ := h xs H Q q
  exact c pins s σ H xs us Q I rx q'
/-- not a starred expression -/
def NS (e : Expr) : Prop := ∀ es env, starEach (e :: es) env = (false, eval e env) :: starEach es env
theorem backTo_nil {p : Pos} {env : PySem.Env} : (backTo p (starEach [] env)).any (·.1) = false := rfl
/-- f(e), f a built-in, on a value -/
def rOne (C : Cc) (g : OV → Option OV) : List V → Hp → VK → Prop := fun vs H Q => ∃ v P env fp σ ov ft r, vs = [v] ∧ StOk C P env fp σ H ∧ Own K0 P H ov v ft ∧ Tmp C P fp ft ∧ g ov = some r ∧ ∀ P' fp' H' u, Le P P' → StOk C P' env fp' σ H' → rOV C P' fp' H' r u → Q u H'
def mOne (g : OV → Option OV) (m : M OV) : M OV := m >>= fun v => M.opt (g v)
theorem opt_some {C : Cc} {W : WX} {α β : Type} {R : RelR α β} {P : Hp} {Q : β → Hp → Prop} {σ : L2.St} {o : Option α} {env : Env} (h : postG C W R P Q σ (M.opt o env)) : ∃ a, o = some a ∧ postG C W R P Q σ (some (.ok a env)) := by
  cases o with
  | none => exact h.elim
  | some a => exact ⟨a, rfl, h⟩
theorem sE_callB {x : Str} {id : String} {p : Pos} {e : Expr} {m : M OV} {g : OV → Option OV} (hc : CallR X (.builtin id) (rOne C g)) (hg : Gl X x) (hm : X.mg x = none) (hv : bootBuiltins x = some (.builtin id)) (h : PE X e (liftE C W m)) (ns : NS e) (hn : x ≠ "__name__") (hdb : (x == ("__debug__" : Str)) = false) :
    PE X (.Call (.Name x p) [e] [] pos) (liftE C W (mOne g m)) :=
  PE.imp (pe_callB (r := rOne C g) hc hg hm hv (pa_cons h pa_nil (ns [] _)) hn hdb (ns [] _) backTo_nil) fun σ H Q q => by
    refine liftG.seq q fun v env' P' fp' H' u s r q => ?_
    obtain ⟨ft, o, t⟩ := r
    obtain ⟨a, e, q'⟩ := opt_some q
    exact ⟨u, P', env', fp', σ, v, ft, a, rfl, s, o, t, e, q'⟩
theorem sE_callTy {x : Str} {id : String} {p : Pos} {e : Expr} {m : M OV} {g : OV → Option OV} (hc : CallR X (.type id) (rOne C g)) (hg : Gl X x) (hm : X.mg x = none) (hv : bootBuiltins x = some (.type id)) (h : PE X e (liftE C W m)) (ns : NS e) (hn : x ≠ "__name__") (hdb : (x == ("__debug__" : Str)) = false) :
    PE X (.Call (.Name x p) [e] [] pos) (liftE C W (mOne g m)) :=
  PE.imp (pe_callTy (r := rOne C g) hc hg hm hv (pa_cons h pa_nil (ns [] _)) hn hdb (ns [] _) backTo_nil) fun σ H Q q => by
    refine liftG.seq q fun v env' P' fp' H' u s r q => ?_
    obtain ⟨ft, o, t⟩ := r
    obtain ⟨a, e, q'⟩ := opt_some q
    exact ⟨u, P', env', fp', σ, v, ft, a, rfl, s, o, t, e, q'⟩
def gLen (v : OV) : Option OV := (ovLen v).map fun n => .d (.int n)
theorem cr_len : CallR X (.builtin "len") (rOne C gLen) := CallR.ex fun vs H Q h => by
  obtain ⟨v, P, env, fp, σ, ov, ft, r, rfl, s, o, t, e, k⟩ := h
  unfold gLen at e
  cases en : ovLen ov with
  | none => rw [en] at e; cases e
  | some n =>
    rw [en] at e
    cases e
    exact len_of s.le o en (k P fp H _ (Le.refl _) s (rOV.d (.int _)))
/-! int(..), tuple(..), list(..) -/
def gInt : OV → Option OV
  | .d (.int i) => some (.d (.int i))
  | .d (.bool b) => some (.d (.int (if b then 1 else 0)))
  | _ => none
theorem cr_int : CallR X (.type "int") (rOne C gInt) := CallR.ex fun vs H Q h => by
  obtain ⟨v, P, env, fp, σ, ov, ft, r, rfl, s, o, t, e, k⟩ := h
  cases o with
  | d d =>
    cases d with
    | int i =>
      cases e
      exact ⟨_, call_int1, .inl ⟨i, rfl, k P fp H _ (Le.refl _) s (rOV.d (.int _))⟩⟩
    | bl b =>
      cases e
      exact ⟨_, call_int1, .inr ⟨b, rfl, k P fp H _ (Le.refl _) s (rOV.d (.int _))⟩⟩
    | _ => cases e
  | _ => cases e
def gTuple : OV → Option OV
  | .d (.list xs) => some (.d (.tuple xs))
  | .d (.tuple xs) => some (.d (.tuple xs))
  | .lst xs => some (.d (.tuple xs))
  | _ => none
theorem cr_tuple : CallR X (.type "tuple") (rOne C gTuple) := CallR.ex fun vs H Q h => by
  obtain ⟨v, P, env, fp, σ, ov, ft, r, rfl, s, o, t, e, k⟩ := h
  cases o with
  | d d =>
    cases d with
    | lst h a =>
      cases e
      exact ⟨_, call_tuple_of, _, _, rfl, .inl ⟨toK_L (s.le.sqL h), fun l hl => rOV.newT s a k hl⟩⟩
    | tup h a =>
      cases e
      exact ⟨_, call_tuple_of, _, _, rfl, .inr ⟨toK_T (s.le.sqT h), k P fp H _ (Le.refl _) s (rOV.d (.tup h a))⟩⟩
    | _ => cases e
  | lst h a =>
    cases e
    exact ⟨_, call_tuple_of, _, _, rfl, .inl ⟨SqL.of h, fun l hl => rOV.newT s a k hl⟩⟩
  | _ => cases e
def gList : OV → Option OV
  | .d (.list xs) => some (.lst xs)
  | .d (.tuple xs) => some (.lst xs)
  | .lst xs => some (.lst xs)
  | _ => none
theorem cr_list : CallR X (.type "list") (rOne C gList) := CallR.ex fun vs H Q h => by
  obtain ⟨v, P, env, fp, σ, ov, ft, r, rfl, s, o, t, e, k⟩ := h
  cases o with
  | d d =>
    cases d with
    | lst h a =>
      cases e
      exact ⟨_, call_list_of, _, _, rfl, .inl (toK_L (s.le.sqL h)), fun l hl => rOV.newL s a k hl⟩
    | tup h a =>
      cases e
      exact ⟨_, call_list_of, _, _, rfl, .inr (toK_T (s.le.sqT h)), fun l hl => rOV.newL s a k hl⟩
    | _ => cases e
  | lst h a =>
    cases e
    exact ⟨_, call_list_of, _, _, rfl, .inl (SqL.of h), fun l hl => rOV.newL s a k hl⟩
  | _ => cases e
/-! truth -/
def ovTru : OV → Option Bool
  | .d .none => some false
  | .d (.bool b) => some b
  | .d (.int i) => some (i != 0)
  | .d (.str x) => if x.length ≤ sizeLine then some ((x.length : Int) != 0) else none
  | .d (.list xs) => some (!xs.isEmpty)
  | .d (.tuple xs) => some (!xs.isEmpty)
  | .lst xs => some (!xs.isEmpty)
  | .dct kvs => some (!kvs.isEmpty)
  | _ => none
theorem isEmpty_dpAll {P : Hp} {vs : List V} {xs : List PyData} (a : DpAll K0 P vs xs) : vs.isEmpty = xs.isEmpty := by
  cases a <;> rfl
theorem tru_of {K : PySem.W.Frag} {P H : Hp} {ov : OV} {v : V} {ft : List Addr} {b : Bool} (l : Le P H) (o : Own K0 P H ov v ft) (e : ovTru ov = some b) : TruV K v H b := by
  cases o with
  | d d =>
    cases d with
    | str x =>
      have e' : (if x.length ≤ sizeLine then some ((x.length : Int) != 0) else none) = some b := e
      by_cases hz : x.length ≤ sizeLine
      · rw [if_pos hz] at e'
        cases e'
        exact ⟨hz, rfl⟩
      · rw [if_neg hz] at e'
        cases e'
    | lst h a =>
      cases e
      exact .inl ⟨_, toK_L (l.sqL h), by rw [isEmpty_dpAll a]⟩
    | tup h a =>
      cases e
      exact .inr (.inl ⟨_, toK_T (l.sqT h), by rw [isEmpty_dpAll a]⟩)
    | _ => cases e; rfl
  | lst h a =>
    cases e
    exact .inl ⟨_, SqL.of h, by rw [isEmpty_dpAll a]⟩
  | dct h a =>
    cases e
    exact .inr (.inr ⟨_, h, by cases a <;> rfl⟩)
/-- the test of an expression is its value's truth -/
def PlainT (X : Cx) (e : Expr) : Prop := ∀ whole, isTrue e X.env whole = (do let v ← whole; standAt e.pos; holding [v] (truthy v))
def mTru (m : M OV) : M Bool := m >>= fun v => M.opt (ovTru v)
theorem sT_tru {e : Expr} {m : M OV} (h : PE X e (liftE C W m)) (he : PlainT X e) : PT X e (liftT C W (mTru m)) := PT.imp (pt_truth h he) fun σ H Q q => by
  refine liftG.seq q fun v env' P' fp' H' u s r q => ?_
  obtain ⟨ft, o, t⟩ := r
  obtain ⟨b, e, q'⟩ := opt_some q
  exact ⟨b, tru_of s.le o e, q' P' fp' H' b (Le.refl _) s rfl⟩
/-- of a slot's own object, where it stands -/
theorem sT_truS {i : Nat} {x : Str} (hN : X.N[i]? = some x) (hv : Vis X.env.scope x) (hd : (x == ("__debug__" : Str)) = false) (hcd : (x == ("__classdict__" : Str)) = false) (he : PlainT X (.Name x pos)) : PT X (.Name x pos) (liftT C W (mPeek i ovTru)) :=
  PT.imp (pt_truth (pe_var (i := i) hN hv hd hcd) he) fun σ H Q q => by
    obtain ⟨P, env, fp, s, h⟩ := q
    unfold mPeek at h
    split at h
    · rename_i ov e
      obtain ⟨v, e1, o⟩ := s.own i _ e
      cases et : ovTru ov with
      | none => rw [et] at h; exact h.elim
      | some b =>
        rw [et] at h
        exact ⟨v, e1, b, tru_of s.le o et, h P fp H b (Le.refl _) s rfl⟩
    · exact h.elim
theorem sE_lenS {i : Nat} {x : Str} {p p2 : Pos} (hN : X.N[i]? = some x) (hv : Vis X.env.scope x) (hd : (x == ("__debug__" : Str)) = false) (hcd : (x == ("__classdict__" : Str)) = false) (hg : Gl X "len") (hm : X.mg "len" = none) :
    PE X (.Call (.Name "len" p) [.Name x p2] [] pos) (liftE C W (mPeek i gLen)) := by
  let r : List V → Hp → VK → Prop := fun vs H Q => ∃ v P ov ft n, vs = [v] ∧ Le P H ∧ Own K0 P H ov v ft ∧ ovLen ov = some n ∧ Q (.int (n : Nat)) H
  have cr : CallR X (.builtin "len") r := CallR.ex fun vs H Q ⟨v, P, ov, ft, n, e, l, o, en, q⟩ => by
    subst e
    exact len_of l o en q
  refine PE.imp (pe_callB (r := r) cr hg hm boot_len (pa_cons (pe_var (i := i) hN hv hd hcd) pa_nil rfl) (by decide) (by decide) rfl backTo_nil) fun σ H Q q => ?_
  obtain ⟨P, env, fp, s, h⟩ := q
  unfold mPeek at h
  split at h
  · rename_i ov e
    obtain ⟨v, e1, o⟩ := s.own i _ e
    unfold gLen at h
    cases en : ovLen ov with
    | none => rw [en] at h; exact h.elim
    | some n =>
      rw [en] at h
      exact ⟨v, e1, v, P, ov, fp i, n, rfl, s.le, o, en, h P fp H _ (Le.refl _) s (rOV.d (.int _))⟩
  · exact h.elim
end
end TL
set_option Elab.async false
set_option linter.all false
set_option maxRecDepth 100000
set_option maxHeartbeats 1000000
namespace TL
open PySem PySem.Spec PyProof.Rows L2
theorem PE.ex {X : Cx} {e : Expr} {t : TE} (h : ∀ σ H Q, t σ H Q → ∃ t', PE X e t' ∧ t' σ H Q) : PE X e t := ⟨fun pins s σ H Q I q => let ⟨_, p, q'⟩ := h σ H Q q; p.run pins s σ H Q I q'⟩
theorem PT.ex {X : Cx} {e : Expr} {t : TT} (h : ∀ σ H Q, t σ H Q → ∃ t', PT X e t' ∧ t' σ H Q) : PT X e t := ⟨fun pins s σ H Q I q => let ⟨_, p, q'⟩ := h σ H Q q; p.run pins s σ H Q I q'⟩
theorem PS.ex {X : Cx} {e : Stmt} {t : TS} (h : ∀ D σ H, t D σ H → ∃ t', PS X e t' ∧ t' D σ H) : PS X e t := ⟨fun pins s σ H D I q => let ⟨_, p, q'⟩ := h D σ H q; p.run pins s σ H D I q'⟩
theorem IxR.ex {X : Cx} {r : R2} (h : ∀ x y H Q, r x y H Q → ∃ r', IxR X r' ∧ r' x y H Q) : IxR X r := by
  intro value slice pins s σ H x y v u Q I rx ry q hs
  obtain ⟨r', p, q'⟩ := h x y H Q q
  exact p value slice pins s σ H x y v u Q I rx ry q' hs
/-! ### items -/
def gIx : PyData → PyData → Option OV
  | .list xs, .int i => (atI xs i).map .d
  | .tuple xs, .int i => (atI xs i).map .d
  | .str z, .int i => if z.length ≤ sizeLine then (atI z.cps.toList i).map fun c => .d (.str ⟨#[c]⟩) else none
  | _, _ => none
theorem atI_dp {P : Hp} {vs : List V} {xs : List PyData} {i : Int} {x : PyData} (a : DpAll K0 P vs xs) (e : atI xs i = some x) : ∃ v, atI vs i = some v ∧ Dp K0 P v x := by
  unfold atI at e ⊢
  rw [dpAll_length a]
  cases hj : ixN xs.length i with
  | none => rw [hj] at e; cases e
  | some j =>
    rw [hj] at e
    have e' : xs[j]? = some x := e
    obtain ⟨v, h1, h2⟩ := dpAll_get a e'
    exact ⟨v, h1, h2⟩
section
variable {X : Cx} {C : Cc} {W : WX} {pos : Pos}
theorem ix_data : IxR X (rOD C gIx) := IxR.ex fun x y H Q ⟨P, env, fp, σ, dx, dy, r, s, d1, d2, e, k⟩ => by
  cases d1 with
  | lst h a =>
    cases d2 with
    | int i =>
      have e' : (atI _ i).map OV.d = some r := e
      obtain ⟨z, e1, e2⟩ := Option.map_eq_some_iff.mp e'
      obtain ⟨v, h1, h2⟩ := atI_dp a e1
      subst e2
      exact ⟨_, ix_list, _, _, i, v, rfl, rfl, toK_L (s.le.sqL h), h1, k P fp H v (Le.refl _) s (rOV.d h2)⟩
    | _ => cases e
  | tup h a =>
    cases d2 with
    | int i =>
      have e' : (atI _ i).map OV.d = some r := e
      obtain ⟨z, e1, e2⟩ := Option.map_eq_some_iff.mp e'
      obtain ⟨v, h1, h2⟩ := atI_dp a e1
      subst e2
      exact ⟨_, ix_tup, _, _, i, v, rfl, rfl, toK_T (s.le.sqT h), h1, k P fp H v (Le.refl _) s (rOV.d h2)⟩
    | _ => cases e
  | str z =>
    cases d2 with
    | int i =>
      have e' : (if z.length ≤ sizeLine then (atI z.cps.toList i).map fun c => OV.d (.str ⟨#[c]⟩) else none) = some r := e
      by_cases hz : z.length ≤ sizeLine
      · rw [if_pos hz] at e'
        obtain ⟨c, e1, e2⟩ := Option.map_eq_some_iff.mp e'
        subst e2
        exact ⟨_, ix_str, _, i, c, rfl, rfl, hz, e1, k P fp H _ (Le.refl _) s (rOV.d (.str _))⟩
      · rw [if_neg hz] at e'
        cases e'
    | _ => cases e
  | _ => cases dy <;> cases e
theorem sE_ix {a b : Expr} {ma mb : M PyData} (ha : PE X a (liftD C W ma)) (hb : PE X b (liftD C W mb)) (hs : PlainIx b) : PE X (.Subscript a b pos) (liftE C W (mBin gIx ma mb)) :=
  PE.imp (pe_ix ix_data ha hb hs) fun _ _ _ q => rOD.of q
/-- the slot holds something -/
def mHas (i : Nat) (p : OV → Bool) : M Unit := fun e => match e[i]? with
  | some (some v) => if p v then some (.ok () e) else none
  | _ => none
def isAny (_ : OV) : Bool := true
def isLst : OV → Bool
  | .lst _ => true
  | _ => false
def isDct : OV → Bool
  | .dct _ => true
  | _ => false
def gIxL (y : PyData) : OV → Option OV
  | .lst xs => gIx (.list xs) y
  | _ => none
def gIxD (y : PyData) : OV → Option OV
  | .dct kvs => (match y with
    | .int k => (look kvs k).map .d
    | _ => none)
  | _ => none
def mIxL (i : Nat) (mk : M PyData) : M OV := mHas i isLst >>= fun _ => mk >>= fun y => mPeek i (gIxL y)
def mIxD (i : Nat) (mk : M PyData) : M OV := mHas i isDct >>= fun _ => mk >>= fun y => mPeek i (gIxD y)
theorem has_at {α : Type} {i : Nat} {p : OV → Bool} {f : Unit → M α} {env : Env} {o : Out α} (h : (mHas i p >>= f) env = some o) : ∃ v, env[i]? = some (some v) ∧ p v = true ∧ f () env = some o := by
  rw [M.bind_at] at h
  unfold mHas at h
  split at h
  · rename_i v e
    split at h
    · rename_i hp
      exact ⟨v, e, hp, h⟩
    · cases h
  · cases h
theorem postG_some {α β : Type} {R : RelR α β} {P : Hp} {Q : β → Hp → Prop} {σ : L2.St} {o : Option (Out α)} (h : postG C W R P Q σ o) : ∃ z, o = some z := by
  cases o with
  | none => exact h.elim
  | some z => exact ⟨z, rfl⟩
theorem peek_at {α β : Type} {R : RelR α β} {P : Hp} {Q : β → Hp → Prop} {σ : L2.St} {i : Nat} {f : OV → Option α} {env : Env} (h : postG C W R P Q σ (mPeek i f env)) : ∃ v a, env[i]? = some (some v) ∧ f v = some a ∧ postG C W R P Q σ (some (.ok a env)) := by
  unfold mPeek at h
  split at h
  · rename_i v e
    cases hf : f v with
    | none => rw [hf] at h; exact h.elim
    | some a => rw [hf] at h; exact ⟨v, a, e, hf, h⟩
  · exact h.elim
/-- what a name's slot holds: the same value through a part's run -/
theorem slot_inj {σ : L2.St} {i : Nat} {v w : V} (h : σ[i]? = some (some v)) (k : σ[i]? = some (some w)) : v = w := by
  rw [h] at k
  cases k
  rfl
structure NameOk (X : Cx) (i : Nat) (x : Str) : Prop where
  n : X.N[i]? = some x
  v : Vis X.env.scope x
  d : (x == ("__debug__" : Str)) = false
  c : (x == ("__classdict__" : Str)) = false
theorem NameOk.pe {i : Nat} {x : Str} (n : NameOk X i x) : PE X (.Name x pos) (tVar i) := pe_var n.n n.v n.d n.c
/-- a slot, then more -/
theorem slot_start {α β : Type} {R : RelR α β} {Q : β → Hp → Prop} {σ : L2.St} {H : Hp} {i : Nat} {p : OV → Bool} {f : Unit → M α} (q : liftG C W R (mHas i p >>= f) σ H Q) :
    ∃ v0 ov P env fp, σ[i]? = some (some v0) ∧ env[i]? = some (some ov) ∧ p ov = true ∧ Own K0 P H ov v0 (fp i) ∧ StOk C P env fp σ H ∧ postG C W R P Q σ (f () env) := by
  obtain ⟨P, env, fp, s, h⟩ := q
  obtain ⟨z, ez⟩ := postG_some h
  obtain ⟨ov, e0, hp, e1⟩ := has_at ez
  obtain ⟨v0, f0, o0⟩ := s.own i _ e0
  exact ⟨v0, ov, P, env, fp, f0, e0, hp, o0, s, by rw [e1, ← ez]; exact h⟩
theorem gIxD_some {y : PyData} {ov r : OV} (h : gIxD y ov = some r) : ∃ kvs k x, ov = .dct kvs ∧ y = .int k ∧ look kvs k = some x ∧ r = .d x := by
  cases ov with
  | dct kvs =>
    cases y with
    | int k =>
      obtain ⟨x, e1, e2⟩ := Option.map_eq_some_iff.mp (show (look kvs k).map OV.d = some r from h)
      exact ⟨kvs, k, x, rfl, rfl, e1, e2.symm⟩
    | _ => cases h
  | _ => cases h
theorem gIxL_some {y : PyData} {ov r : OV} (h : gIxL y ov = some r) : ∃ xs k x, ov = .lst xs ∧ y = .int k ∧ atI xs k = some x ∧ r = .d x := by
  cases ov with
  | lst xs =>
    cases y with
    | int k =>
      obtain ⟨x, e1, e2⟩ := Option.map_eq_some_iff.mp (show (atI xs k).map OV.d = some r from h)
      exact ⟨xs, k, x, rfl, rfl, e1, e2.symm⟩
    | _ => cases h
  | _ => cases h
theorem dp_int {K : PySem.W.Frag} {H : Hp} {v : V} {k : Int} (h : Dp K H v (.int k)) : v = .int k := by
  cases h
  rfl
/-- d[k] of a slot's own dict -/
theorem sE_ixD {i : Nat} {x : Str} {p : Pos} {b : Expr} {mk : M PyData} (hu : X.A.units + 200 < cLine) (n : NameOk X i x) (hb : PE X b (liftD C W mk)) (hs : NoSl b) : PE X (.Subscript (.Name x p) b pos) (liftE C W (mIxD i mk)) :=
  PE.imp (pe_dget (by omega) n.pe hb hs) fun σ H Q q => by
    obtain ⟨v0, ov, P, env, fp, f0, e0, hp, o0, s, h⟩ := slot_start q
    refine ⟨v0, f0, P, env, fp, s, ?_⟩
    rw [M.bind_at] at h
    refine postG.seq h fun y env' P' fp' H' u l s' r q => ?_
    obtain ⟨v1, a1, g1, g2, q'⟩ := peek_at q
    obtain ⟨kvs, k, z, rfl, rfl, hl, rfl⟩ := gIxD_some g2
    obtain ⟨a, vs, f1, _, hH, d⟩ := s'.dctAt g1
    have ew := slot_inj f0 f1
    subst ew
    obtain rfl := dp_int r
    rcases d.look k with ⟨h1, _⟩ | ⟨z', v, h1, h2, h3⟩
    · rw [h1] at hl; cases hl
    · rw [hl] at h1
      cases h1
      exact ⟨a, v, rfl, h2 ▸ DGet.k (k := Sum.inl k) hH, q' P' fp' H' v (Le.refl _) s' (rOV.d h3)⟩
/-- xs[i] of a slot's own list -/
theorem sE_ixL {i : Nat} {x : Str} {p : Pos} {b : Expr} {mk : M PyData} (n : NameOk X i x) (hb : PE X b (liftD C W mk)) (hs : PlainIx b) : PE X (.Subscript (.Name x p) b pos) (liftE C W (mIxL i mk)) :=
  PE.imp (pe_ix ix_list n.pe hb hs) fun σ H Q q => by
    obtain ⟨v0, ov, P, env, fp, f0, e0, hp, o0, s, h⟩ := slot_start q
    refine ⟨v0, f0, P, env, fp, s, ?_⟩
    rw [M.bind_at] at h
    refine postG.seq h fun y env' P' fp' H' u l s' r q => ?_
    obtain ⟨v1, a1, g1, g2, q'⟩ := peek_at q
    obtain ⟨xs, k, z, rfl, rfl, hl, rfl⟩ := gIxL_some g2
    obtain ⟨a, vs, f1, _, hH, d⟩ := s'.lstAt g1
    have ew := slot_inj f0 f1
    subst ew
    obtain rfl := dp_int r
    obtain ⟨v, h1, h2⟩ := atI_dp d hl
    exact ⟨a, vs, k, v, rfl, rfl, SqL.of hH, h1, q' P' fp' H' v (Le.refl _) s' (rOV.d h2)⟩
/-- k in d, k not in d -/
def gInD (neg : Bool) (y : PyData) : OV → Option OV
  | .dct kvs => (match y with
    | .int k => some (.d (.bool (if neg then !(look kvs k).isSome else (look kvs k).isSome)))
    | _ => none)
  | _ => none
def mInD (neg : Bool) (i : Nat) (mk : M PyData) : M OV := mHas i isDct >>= fun _ => mk >>= fun y => mPeek i (gInD neg y)
theorem gInD_some {neg : Bool} {y : PyData} {ov r : OV} (h : gInD neg y ov = some r) : ∃ kvs k, ov = .dct kvs ∧ y = .int k ∧ r = .d (.bool (if neg then !(look kvs k).isSome else (look kvs k).isSome)) := by
  cases ov with
  | dct kvs =>
    cases y with
    | int k =>
      cases h
      exact ⟨kvs, k, rfl, rfl, rfl⟩
    | _ => cases h
  | _ => cases h
theorem sE_inD_aux {neg : Bool} {i : Nat} {mk : M PyData} {σ : L2.St} {H : Hp} {Q : VK} (q : liftE C W (mInD neg i mk) σ H Q) :
    liftD C W mk σ H fun y H1 => ∃ v, σ[i]? = some (some v) ∧ ∃ a o, v = .ref a ∧ DGet H1 a y o ∧ Q (.bl (if neg then !o.isSome else o.isSome)) H1 := by
  obtain ⟨v0, ov, P, env, fp, f0, e0, hp, o0, s, h⟩ := slot_start q
  refine ⟨P, env, fp, s, ?_⟩
  rw [M.bind_at] at h
  refine postG.seq h fun y env' P' fp' H' u l s' r q => ?_
  obtain ⟨v1, a1, g1, g2, q'⟩ := peek_at q
  obtain ⟨kvs, k, rfl, rfl, rfl⟩ := gInD_some g2
  obtain ⟨a, vs, f1, _, hH, d⟩ := s'.dctAt g1
  have ew := slot_inj f0 f1
  subst ew
  obtain rfl := dp_int r
  refine ⟨_, f0, a, _, rfl, DGet.k (k := Sum.inl k) hH, ?_⟩
  have e : (valV vs (Sum.inl k)).isSome = (look kvs k).isSome := by
    rcases d.look k with ⟨h1, h2⟩ | ⟨z', v, h1, h2, h3⟩
    · rw [h1, h2]; rfl
    · rw [h1, h2]; rfl
  rw [e]
  exact q' P' fp' H' _ (Le.refl _) s' (rOV.d (.bl _))
theorem sE_inD {i : Nat} {x : Str} {p : Pos} {b : Expr} {mk : M PyData} (hu : X.A.units + 200 < cLine) (n : NameOk X i x) (hb : PE X b (liftD C W mk)) : PE X (.Compare b [.In] [.Name x p] pos) (liftE C W (mInD false i mk)) :=
  PE.imp (pe_cmp (pc_din (by omega) hb n.pe) rfl) fun σ H Q q => sE_inD_aux q
theorem sE_notInD {i : Nat} {x : Str} {p : Pos} {b : Expr} {mk : M PyData} (hu : X.A.units + 200 < cLine) (n : NameOk X i x) (hb : PE X b (liftD C W mk)) : PE X (.Compare b [.NotIn] [.Name x p] pos) (liftE C W (mInD true i mk)) :=
  PE.imp (pe_cmp (pc_dnotin (by omega) hb n.pe) rfl) fun σ H Q q => sE_inD_aux q
theorem sT_inD {i : Nat} {x : Str} {p : Pos} {b : Expr} {mk : M PyData} (hu : X.A.units + 200 < cLine) (n : NameOk X i x) (hb : PE X b (liftD C W mk)) : PT X (.Compare b [.In] [.Name x p] pos) (liftT C W (asB (mInD false i mk))) :=
  PT.imp (pt_cmp (pc_din (by omega) hb n.pe) rfl) fun σ H Q q => asB.of q fun _ _ _ q => sE_inD_aux q
theorem sT_notInD {i : Nat} {x : Str} {p : Pos} {b : Expr} {mk : M PyData} (hu : X.A.units + 200 < cLine) (n : NameOk X i x) (hb : PE X b (liftD C W mk)) : PT X (.Compare b [.NotIn] [.Name x p] pos) (liftT C W (asB (mInD true i mk))) :=
  PT.imp (pt_cmp (pc_dnotin (by omega) hb n.pe) rfl) fun σ H Q q => asB.of q fun _ _ _ q => sE_inD_aux q
/-! ### lists changed -/
/-- a slot's own object is changed, a value is given -/
def mMut {α : Type} (i : Nat) (f : OV → Option (OV × α)) : M α := fun e => match e[i]? with
  | some (some v) => (match f v with
    | some (v', a) => some (.ok a (e.set i (some v')))
    | none => none)
  | _ => none
theorem mut_at {α β : Type} {R : RelR α β} {P : Hp} {Q : β → Hp → Prop} {σ : L2.St} {i : Nat} {f : OV → Option (OV × α)} {env : Env} (h : postG C W R P Q σ (mMut i f env)) : ∃ v v' a, env[i]? = some (some v) ∧ f v = some (v', a) ∧ postG C W R P Q σ (some (.ok a (env.set i (some v')))) := by
  unfold mMut at h
  split at h
  · rename_i v e
    cases hf : f v with
    | none => rw [hf] at h; exact h.elim
    | some a => rw [hf] at h; exact ⟨v, a.1, a.2, e, hf, h⟩
  · exact h.elim
def gApp (x : PyData) : OV → Option (OV × OV)
  | .lst xs => if xs.length < sizeLine then some (.lst (xs ++ [x]), .d .none) else none
  | _ => none
def mAppend (i : Nat) (mk : M PyData) : M OV := mHas i isLst >>= fun _ => mk >>= fun y => mMut i (gApp y)
theorem isLst_some {ov : OV} (h : isLst ov = true) : ∃ xs, ov = .lst xs := by
  cases ov with
  | lst xs => exact ⟨xs, rfl⟩
  | _ => cases h
theorem tyL {K : PySem.W.Frag} {P H : Hp} {ov : OV} {v : V} {f : List Addr} (o : Own K0 P H ov v f) (h : isLst ov = true) : tyV K "list" v H := by
  obtain ⟨xs, rfl⟩ := isLst_some h
  obtain ⟨a, vs, rfl, _, hH, _⟩ := o.of_lst
  exact Or.inl ⟨rfl, _, Or.inl (Or.inl hH)⟩
structure MethOk (X : Cx) (x name : Str) (p apos cpos : Pos) : Prop where
  base : attributeBase (.Name x p) name X.env (eval (.Name x p) X.env) = eval (.Name x p) X.env
  line : (apos.endLine == cpos.line) = true
theorem few1 {cpos : Pos} {e : Expr} {env : PySem.Env} (ns : NS e) : ((backTo cpos (starEach (e :: []) env)).all (fun x => !x.1) && (backToKw cpos (keywordEach [] env)).all (fun x => x.1.isSome)
      && decide ((e :: ([] : List Expr)).length + ([] : List Keyword).length + (if ([] : List Keyword).isEmpty then 0 else 1) < 30)) = true := by
  rw [ns [] env]
  rfl
theorem sE_append {i : Nat} {x : Str} {p apos : Pos} {b : Expr} {mk : M PyData} (n : NameOk X i x) (m : MethOk X x "append" p apos pos) (ns : NS b) (hb' : PE X b (liftD C W mk)) :
    PE X (.Call (.Attribute (.Name x p) "append" apos) [b] [] pos) (liftE C W (mAppend i mk)) :=
  PE.imp (pe_bm PySem.F.plainAttrs_list PySem.F.slot_list_append PySem.F.type_list_append mt_append n.pe (pa_cons hb' pa_nil (ns [] _)) m.base (few1 ns) m.line (ns [] _) backTo_nil) fun σ H Q q => by
    obtain ⟨v0, ov, P, env, fp, f0, e0, hp, o0, s, h⟩ := slot_start q
    refine ⟨v0, f0, tyL o0 hp, P, env, fp, s, ?_⟩
    rw [M.bind_at] at h
    refine postG.seq h fun y env' P' fp' H' u l s' r q => ?_
    obtain ⟨w, w', a, g1, g2, q'⟩ := mut_at q
    cases w with
    | lst xs =>
      have g2' : (if xs.length < sizeLine then some (OV.lst (xs ++ [y]), OV.d .none) else none) = some (w', a) := g2
      by_cases hz : xs.length < sizeLine
      · rw [if_pos hz] at g2'
        cases g2'
        obtain ⟨ad, vs, f1, hf, hH, d⟩ := s'.lstAt g1
        have ew := slot_inj f0 f1
        subst ew
        refine ⟨ad, vs, u, rfl, rfl, hH, by rw [dpAll_length d]; exact hz, q' P' fp' _ _ (Le.refl _) (s'.mut g1 f1 hf trivial fun H2 e2 => .lst e2 (dpAll_append d (.cons r .nil))) (rOV.d .non)⟩
      · rw [if_neg hz] at g2'
        cases g2'
    | _ => cases g2
end
end TL
set_option Elab.async false
set_option linter.all false
set_option maxRecDepth 100000
set_option maxHeartbeats 1000000
namespace TL
open PySem PySem.Spec PyProof.Rows L2
section
variable {X : Cx} {C : Cc} {W : WX} {pos : Pos}
/-! ### pop, extend -/
def gPop : OV → Option (OV × OV)
  | .lst xs => (xs[xs.length - 1]?).map fun y => (.lst xs.dropLast, .d y)
  | _ => none
def mPop (i : Nat) : M OV := mHas i isLst >>= fun _ => mMut i gPop
theorem dpAll_dropLast {K : PySem.W.Frag} {P : Hp} {vs : List V} {xs : List PyData} (a : DpAll K P vs xs) : DpAll K P vs.dropLast xs.dropLast := by
  rw [List.dropLast_eq_take, List.dropLast_eq_take, dpAll_length a]
  exact dpAll_take _ a
theorem sE_pop {i : Nat} {x : Str} {p apos : Pos} (n : NameOk X i x) (m : MethOk X x "pop" p apos pos) : PE X (.Call (.Attribute (.Name x p) "pop" apos) [] [] pos) (liftE C W (mPop i)) :=
  PE.imp (pe_bm0 PySem.F.plainAttrs_list PySem.F.slot_list_pop PySem.F.type_list_pop mt_pop n.pe m.base m.line) fun σ H Q q => by
    obtain ⟨v0, ov, P, env, fp, f0, e0, hp, o0, s, h⟩ := slot_start q
    refine ⟨v0, f0, tyL o0 hp, ?_⟩
    obtain ⟨w, w', a, g1, g2, q'⟩ := mut_at h
    cases w with
    | lst xs =>
      obtain ⟨y, e1, e2⟩ := Option.map_eq_some_iff.mp (show (xs[xs.length - 1]?).map (fun y => (OV.lst xs.dropLast, OV.d y)) = some (w', a) from g2)
      cases e2
      obtain ⟨ad, vs, f1, hf, hH, d⟩ := s.lstAt g1
      have ew := slot_inj f0 f1
      subst ew
      obtain ⟨v, h1, h2⟩ := dpAll_get d e1
      exact ⟨ad, vs, v, rfl, rfl, hH, by rw [dpAll_length d]; exact h1, q' P fp _ _ (Le.refl _) (s.mut g1 f1 hf trivial fun H2 e2 => .lst e2 (dpAll_dropLast d)) (rOV.d h2)⟩
    | _ => cases g2
def gPopAt (y : PyData) : OV → Option (OV × OV)
  | .lst xs => (match y with
    | .int i => if xs.length ≤ sizeLine then (ixN xs.length i).bind fun k => (xs[k]?).map fun z => (.lst (xs.eraseIdx k), .d z) else none
    | _ => none)
  | _ => none
def mPopAt (i : Nat) (mk : M PyData) : M OV := mHas i isLst >>= fun _ => mk >>= fun y => mMut i (gPopAt y)
theorem gPopAt_some {y : PyData} {ov w' a : OV} (h : gPopAt y ov = some (w', a)) : ∃ xs i k z, ov = .lst xs ∧ y = .int i ∧ xs.length ≤ sizeLine ∧ ixN xs.length i = some k ∧ xs[k]? = some z ∧ w' = .lst (xs.eraseIdx k) ∧ a = .d z := by
  cases ov with
  | lst xs =>
    cases y with
    | int i =>
      have h' : (if xs.length ≤ sizeLine then (ixN xs.length i).bind fun k => (xs[k]?).map fun z => (OV.lst (xs.eraseIdx k), OV.d z) else none) = some (w', a) := h
      by_cases hz : xs.length ≤ sizeLine
      · rw [if_pos hz] at h'
        obtain ⟨k, e1, e2⟩ := Option.bind_eq_some_iff.mp h'
        obtain ⟨z, e3, e4⟩ := Option.map_eq_some_iff.mp e2
        cases e4
        exact ⟨xs, i, k, z, rfl, rfl, hz, e1, e3, rfl, rfl⟩
      · rw [if_neg hz] at h'
        cases h'
    | _ => cases h
  | _ => cases h
theorem sE_popAt {i : Nat} {x : Str} {p apos : Pos} {b : Expr} {mk : M PyData} (n : NameOk X i x) (m : MethOk X x "pop" p apos pos) (ns : NS b) (hb : PE X b (liftD C W mk)) : PE X (.Call (.Attribute (.Name x p) "pop" apos) [b] [] pos) (liftE C W (mPopAt i mk)) :=
  PE.imp (pe_bm PySem.F.plainAttrs_list PySem.F.slot_list_pop PySem.F.type_list_pop mt_popAt n.pe (pa_cons hb pa_nil (ns [] _)) m.base (few1 ns) m.line (ns [] _) backTo_nil) fun σ H Q q => by
    obtain ⟨v0, ov, P, env, fp, f0, e0, hp, o0, s, h⟩ := slot_start q
    refine ⟨v0, f0, tyL o0 hp, P, env, fp, s, ?_⟩
    rw [M.bind_at] at h
    refine postG.seq h fun y env' P' fp' H' u l s' r q => ?_
    obtain ⟨w, w', a, g1, g2, q'⟩ := mut_at q
    obtain ⟨xs, j, k, z, rfl, rfl, hz, e1, e2, rfl, rfl⟩ := gPopAt_some g2
    obtain ⟨ad, vs, f1, hf, hH, d⟩ := s'.lstAt g1
    have ew := slot_inj f0 f1
    subst ew
    obtain rfl := dp_int r
    obtain ⟨v, h1, h2⟩ := dpAll_get d e2
    obtain ⟨h3, _, h5, h6⟩ := ixN_seq e1
    have hs := sizeLine_eq
    exact ⟨ad, vs, j, k, v, rfl, rfl, hH, by omega, by omega, by rw [dpAll_length d]; exact h3, h1, q' P' fp' _ _ (Le.refl _) (s'.mut g1 f1 hf trivial fun H2 e2 => .lst e2 (dpAll_eraseIdx k d)) (rOV.d h2)⟩
def gExt (y : PyData) : OV → Option (OV × OV)
  | .lst xs => (match y with
    | .list ys => if xs.length + ys.length ≤ sizeLine then some (.lst (xs ++ ys), .d .none) else none
    | _ => none)
  | _ => none
def mExtend (i : Nat) (mk : M PyData) : M OV := mHas i isLst >>= fun _ => mk >>= fun y => mMut i (gExt y)
def rExtend2 : V → List V → Hp → VK → Prop := fun x vs H Q => ∃ l b xs zs, x = .ref l ∧ vs = [.ref b] ∧ H l = some (.lst xs) ∧ SqL K0 H b zs ∧ xs.length + zs.length ≤ sizeLine ∧ Q .non (upd H l (.lst (xs ++ zs)))
/-! ### tests and connectives -/
def mNot (m : M Bool) : M Bool := m >>= fun b => pure (!b)
def mAnd (a b : M Bool) : M Bool := a >>= fun x => if x then b else pure false
def mOr (a b : M Bool) : M Bool := a >>= fun x => if x then pure true else b
theorem sT_not {a : Expr} {m : M Bool} (h : PT X a (liftT C W m)) : PT X (.UnaryOp .Not a pos) (liftT C W (mNot m)) := PT.imp (pt_not h) fun σ H Q q => by
  refine liftG.seq q fun v env' P' fp' H' u s r q => ?_
  have e : u = v := r
  subst e
  exact q P' fp' H' _ (Le.refl _) s rfl
theorem sW_one {op : BoolOp} {a : Expr} {m : M Bool} (h : PT X a (liftT C W m)) : PW X (.BoolOp op [a] pos) (liftT C W m) := by
  cases op with
  | And => exact pw_and1 h
  | Or => exact pw_or1 h
theorem sW_and {a b : Expr} {rest : List Expr} {ma mb : M Bool} (ha : PT X a (liftT C W ma)) (hb : PW X (.BoolOp .And (b :: rest) pos) (liftT C W mb)) : PW X (.BoolOp .And (a :: b :: rest) pos) (liftT C W (mAnd ma mb)) := PW.imp (pw_and ha hb) fun σ H Q q => by
  refine liftG.seq q fun v env' P' fp' H' u s r q => ?_
  have e : u = v := r
  subst e
  cases u with
  | true => exact ⟨P', env', fp', s, q⟩
  | false => exact q P' fp' H' _ (Le.refl _) s rfl
theorem sW_or {a b : Expr} {rest : List Expr} {ma mb : M Bool} (ha : PT X a (liftT C W ma)) (hb : PW X (.BoolOp .Or (b :: rest) pos) (liftT C W mb)) : PW X (.BoolOp .Or (a :: b :: rest) pos) (liftT C W (mOr ma mb)) := PW.imp (pw_or ha hb) fun σ H Q q => by
  refine liftG.seq q fun v env' P' fp' H' u s r q => ?_
  have e : u = v := r
  subst e
  cases u with
  | true => exact q P' fp' H' _ (Le.refl _) s rfl
  | false => exact ⟨P', env', fp', s, q⟩
/-- and, or, not as values: of bools -/
def mAndV (a b : M OV) : M OV := asB a >>= fun x => if x then b else pure (.d (.bool false))
def mOrV (a b : M OV) : M OV := asB a >>= fun x => if x then pure (.d (.bool true)) else b
def mNotV (a : M OV) : M OV := asB a >>= fun x => pure (.d (.bool (!x)))
theorem asB_seq {γ δ : Type} {R2 : RelR γ δ} {m : M OV} {f : Bool → M γ} {σ : L2.St} {H : Hp} {Q : δ → Hp → Prop} (q : liftG C W R2 (asB m >>= f) σ H Q) {N : V → Hp → Prop}
    (k : ∀ b env' P' fp' H', StOk C P' env' fp' σ H' → postG C W R2 P' Q σ (f b env') → N (.bl b) H') : liftE C W m σ H N := by
  obtain ⟨P, env, fp, s, h⟩ := q
  refine ⟨P, env, fp, s, ?_⟩
  have h' : postG C W R2 P Q σ (Out.andThen (m env) fun v => (match v with | .d (.bool b) => (pure b : M Bool) | _ => fun _ => none) >>= f) := by
    have e : (asB m >>= f) env = Out.andThen (m env) fun v => (match v with | .d (.bool b) => (pure b : M Bool) | _ => fun _ => none) >>= f := by
      rw [M.bind_at]
      unfold asB
      rw [M.bind_at]
      cases m env with
      | none => rfl
      | some o => cases o <;> rfl
    rw [← e]
    exact h
  refine postG.seq h' fun v env' P' fp' H' u l s' r q => ?_
  obtain ⟨ft, o, t⟩ := r
  cases o with
  | d d =>
    cases d with
    | bl b => exact k b env' P' fp' H' s' q
    | _ => exact False.elim q
  | _ => exact False.elim q
theorem sE_one {op : BoolOp} {a : Expr} {m : M OV} (h : PE X a (liftE C W m)) : PE X (.BoolOp op [a] pos) (liftE C W m) := pe_one h
theorem sE_and {a b : Expr} {rest : List Expr} {ma mb : M OV} (ha : PE X a (liftE C W ma)) (hb : PE X (.BoolOp .And (b :: rest) pos) (liftE C W mb)) : PE X (.BoolOp .And (a :: b :: rest) pos) (liftE C W (mAndV ma mb)) := PE.imp (pe_and ha hb) fun σ H Q q =>
  asB_seq q fun b env' P' fp' H' s q => ⟨b, rfl, by
    cases b with
    | true => exact ⟨P', env', fp', s, q⟩
    | false => exact q P' fp' H' _ (Le.refl _) s (rOV.d (.bl _))⟩
theorem sE_or {a b : Expr} {rest : List Expr} {ma mb : M OV} (ha : PE X a (liftE C W ma)) (hb : PE X (.BoolOp .Or (b :: rest) pos) (liftE C W mb)) : PE X (.BoolOp .Or (a :: b :: rest) pos) (liftE C W (mOrV ma mb)) := PE.imp (pe_or ha hb) fun σ H Q q =>
  asB_seq q fun b env' P' fp' H' s q => ⟨b, rfl, by
    cases b with
    | true => exact q P' fp' H' _ (Le.refl _) s (rOV.d (.bl _))
    | false => exact ⟨P', env', fp', s, q⟩⟩
theorem sE_not {a : Expr} {ma : M OV} (ha : PE X a (liftE C W ma)) : PE X (.UnaryOp .Not a pos) (liftE C W (mNotV ma)) := PE.imp (pe_not ha) fun σ H Q q =>
  asB_seq q fun b env' P' fp' H' s q => ⟨b, rfl, q P' fp' H' _ (Le.refl _) s (rOV.d (.bl _))⟩
/-- a if t else b -/
def mIf {α : Type} (t : M Bool) (a b : M α) : M α := t >>= fun x => if x then a else b
theorem sE_if {c a b : Expr} {t : M Bool} {ma mb : M OV} (hc : PT X c (liftT C W t)) (ha : PE X a (liftE C W ma)) (hb : PE X b (liftE C W mb)) : PE X (.IfExp c a b pos) (liftE C W (mIf t ma mb)) := PE.imp (pe_ifExp hc ha hb) fun σ H Q q => by
  refine liftG.seq q fun v env' P' fp' H' u s r q => ?_
  have e : u = v := r
  subst e
  cases u with
  | true => exact ⟨P', env', fp', s, q⟩
  | false => exact ⟨P', env', fp', s, q⟩
/-- a <= b <= c -/
def mChain (g g' : PyData → PyData → Option OV) (a b c : M PyData) : M OV := a >>= fun x => b >>= fun y => M.opt (g x y) >>= fun r => match r with
  | .d (.bool true) => c >>= fun z => M.opt (g' y z)
  | .d (.bool false) => pure (.d (.bool false))
  | _ => fun _ => none
theorem chain_of {g g' : PyData → PyData → Option OV} {ma mb mc : M PyData} {σ : L2.St} {H : Hp} {Q : VK} (q : liftE C W (mChain g g' ma mb mc) σ H Q) : tChain (rOD C g) (rOD C g') (liftD C W ma) (liftD C W mb) (liftD C W mc) σ H Q := by
  refine liftG.seq q fun x env1 P1 fp1 H1 v s1 r1 h1 => ?_
  refine ⟨P1, env1, fp1, s1, postG.seq h1 fun y env2 P2 fp2 H2 u l2 s2 r2 h2 => ?_⟩
  rw [M.bind_at] at h2
  cases e : g x y with
  | none => rw [e] at h2; exact h2.elim
  | some r =>
    rw [e] at h2
    refine ⟨P2, env2, fp2, σ, x, y, r, s2, l2.dp r1, r2, e, fun P3 fp3 H3 w l3 s3 r3 => ?_⟩
    obtain ⟨ft, o, t⟩ := r3
    cases o with
    | d d =>
      cases d with
      | bl b =>
        refine ⟨b, rfl, ?_⟩
        cases b with
        | true =>
          refine ⟨P3, env2, fp3, s3, postG.seq (postG.mono l3 h2) fun z env4 P4 fp4 H4 w l4 s4 r4 h4 => ?_⟩
          obtain ⟨r', e', q'⟩ := opt_some h4
          exact ⟨P4, env4, fp4, σ, y, z, r', s4, (l3.trans l4).dp r2, r4, e', q'⟩
        | false => exact h2 P3 fp3 H3 _ l3 s3 (rOV.d (.bl _))
      | _ => exact False.elim h2
    | _ => exact False.elim h2
theorem sE_chain {op op' : CmpOp} {g g' : PyData → PyData → Option OV} {a b c : Expr} {ma mb mc : M PyData} (h : OD X C (compareOp op) g) (h' : OD X C (compareOp op') g') (ha : PE X a (liftD C W ma)) (hb : PE X b (liftD C W mb)) (hc : PE X c (liftD C W mc)) (hm : lastMarks [op, op'] [b, c] = false) :
    PE X (.Compare a [op, op'] [b, c] pos) (liftE C W (mChain g g' ma mb mc)) := PE.imp (pe_chain h.r h'.r ha hb hc hm) fun σ H Q q => chain_of q
theorem sT_chain {op op' : CmpOp} {g g' : PyData → PyData → Option OV} {a b c : Expr} {ma mb mc : M PyData} (h : OD X C (compareOp op) g) (h' : OD X C (compareOp op') g') (ha : PE X a (liftD C W ma)) (hb : PE X b (liftD C W mb)) (hc : PE X c (liftD C W mc)) (hm : lastMarks [op, op'] [b, c] = false) :
    PT X (.Compare a [op, op'] [b, c] pos) (liftT C W (asB (mChain g g' ma mb mc))) := PT.imp (pt_chain h.r h'.r ha hb hc hm) fun σ H Q q => asB.of q fun _ _ _ q => chain_of q
/-! ### displays -/
def mCons (a : M PyData) (r : M (List PyData)) : M (List PyData) := a >>= fun x => r >>= fun xs => pure (x :: xs)
theorem sA_nil : PA X [] (liftA C W (pure [])) := PA.imp pa_nil fun σ H Q q => by
  obtain ⟨P, env, fp, s, h⟩ := q
  exact h P fp H [] (Le.refl _) s .nil
theorem sA_cons {a : Expr} {r : List Expr} {ma : M PyData} {mr : M (List PyData)} (ha : PE X a (liftD C W ma)) (hr : PA X r (liftA C W mr)) (ns : NS a) : PA X (a :: r) (liftA C W (mCons ma mr)) := PA.imp (pa_cons ha hr (ns r _)) fun σ H Q q => by
  refine liftG.seq q fun x env1 P1 fp1 H1 v s1 r1 h1 => ?_
  refine ⟨P1, env1, fp1, s1, postG.seq h1 fun y env2 P2 fp2 H2 u l2 s2 r2 h2 => ?_⟩
  exact h2 P2 fp2 H2 _ (Le.refl _) s2 (.cons (l2.dp r1) r2)
def mTup (m : M (List PyData)) : M OV := m >>= fun xs => if xs.length ≤ sizeLine then pure (.d (.tuple xs)) else fun _ => none
def mLst (m : M (List PyData)) : M OV := m >>= fun xs => if xs.length ≤ sizeLine then pure (.lst xs) else fun _ => none
theorem sE_tup {es : List Expr} {k : Nat} {m : M (List PyData)} (h : PA X es (liftA C W m)) : PE X (.Tuple es k pos) (liftE C W (mTup m)) := PE.imp (pe_tup h) fun σ H Q q => by
  refine liftG.seq q fun x env1 P1 fp1 H1 v s1 r1 h1 => ?_
  by_cases hz : x.length ≤ sizeLine
  · have h2 : postG C W (rOV C) P1 Q σ (some (.ok (.d (.tuple x)) env1)) := by
      have h3 : postG C W (rOV C) P1 Q σ ((if x.length ≤ sizeLine then (pure (.d (.tuple x)) : M OV) else fun _ => none) env1) := h1
      rw [if_pos hz] at h3
      exact h3
    exact ⟨by rw [dpAll_length r1]; exact hz, fun p hp => rOV.newT s1 r1 h2 hp⟩
  · have h3 : postG C W (rOV C) P1 Q σ ((if x.length ≤ sizeLine then (pure (.d (.tuple x)) : M OV) else fun _ => none) env1) := h1
    rw [if_neg hz] at h3
    exact h3.elim
theorem sE_lst {es : List Expr} {m : M (List PyData)} (h : PA X es (liftA C W m)) : PE X (.List es pos) (liftE C W (mLst m)) := PE.imp (pe_lst h) fun σ H Q q => by
  refine liftG.seq q fun x env1 P1 fp1 H1 v s1 r1 h1 => ?_
  by_cases hz : x.length ≤ sizeLine
  · have h2 : postG C W (rOV C) P1 Q σ (some (.ok (.lst x) env1)) := by
      have h3 : postG C W (rOV C) P1 Q σ ((if x.length ≤ sizeLine then (pure (.lst x) : M OV) else fun _ => none) env1) := h1
      rw [if_pos hz] at h3
      exact h3
    exact ⟨by rw [dpAll_length r1]; exact hz, fun p hp => rOV.newL s1 r1 h2 hp⟩
  · have h3 : postG C W (rOV C) P1 Q σ ((if x.length ≤ sizeLine then (pure (.lst x) : M OV) else fun _ => none) env1) := h1
    rw [if_neg hz] at h3
    exact h3.elim
def mNewD : M OV := pure (.dct [])
theorem sE_newD : PE X (.Dict [] [] pos) (liftE C W mNewD) := PE.imp pe_dnewK fun σ H Q q => by
  obtain ⟨P, env, fp, s, h⟩ := q
  intro p hp
  obtain ⟨s2, t⟩ := s.newt hp (u := .dK []) trivial
  exact h P fp _ _ (Le.refl _) s2 ⟨[p], .dct upd_same .nil, t⟩
/-! ### while something else is held -/
def join (a b : Hp) : Hp := fun x => match a x with
  | some o => some o
  | none => b x
theorem join_l {a b : Hp} {x : Addr} {o : HO} (h : a x = some o) : join a b x = some o := by
  unfold join
  rw [h]
theorem join_r {a b : Hp} {x : Addr} (h : a x = none) : join a b x = b x := by
  unfold join
  rw [h]
theorem join_none {a b : Hp} {x : Addr} (h : join a b x = none) : a x = none ∧ b x = none := by
  unfold join at h
  cases e : a x with
  | none => rw [e] at h; exact ⟨rfl, h⟩
  | some o => rw [e] at h; cases h
abbrev Cc.withF (C : Cc) (F : Hp) : Cc := { C with F := F }
/-- G stands beside -/
structure Beside (C : Cc) (P : Hp) (fp : Nat → List Addr) (H G : Hp) : Prop where
  at_ : ∀ b o, G b = some o → H b = some o ∧ Fz o ∧ P b = none ∧ C.F b = none
  fp : ∀ i b, b ∈ fp i → G b = none
theorem StOk.hold {P : Hp} {env : Env} {fp : Nat → List Addr} {σ : L2.St} {H G : Hp} (s : StOk C P env fp σ H) (g : Beside C P fp H G) : StOk (C.withF (join C.F G)) P env fp σ H := by
  refine ⟨s.phi, fun b o q => ?_, s.own, s.dis, fun i b hb => ?_, s.keep, s.tabs, s.len⟩
  · have q' : join C.F G b = some o := q
    cases e : C.F b with
    | none =>
      rw [join_r e] at q'
      obtain ⟨h1, h2, h3, _⟩ := g.at_ b o q'
      exact ⟨h1, h2, h3⟩
    | some w =>
      rw [join_l e] at q'
      cases q'
      exact s.frm b _ e
  · obtain ⟨h1, h2, h3⟩ := s.fre i b hb
    exact ⟨h1, (join_r h2).trans (g.fp i b hb), h3⟩
theorem StOk.unhold {P : Hp} {env : Env} {fp : Nat → List Addr} {σ : L2.St} {H G : Hp} (s : StOk (C.withF (join C.F G)) P env fp σ H) : StOk C P env fp σ H := by
  refine ⟨s.phi, fun b o q => s.frm b o (join_l q), s.own, s.dis, fun i b hb => ?_, s.keep, s.tabs, s.len⟩
  obtain ⟨h1, h2, h3⟩ := s.fre i b hb
  exact ⟨h1, (join_none h2).1, h3⟩
theorem StOk.besides {P P0 : Hp} {env : Env} {fp fp0 : Nat → List Addr} {σ : L2.St} {H H0 G : Hp} (s : StOk (C.withF (join C.F G)) P env fp σ H) (g : Beside C P0 fp0 H0 G) : Beside C P fp H G := by
  refine ⟨fun b o q => ?_, fun i b hb => ?_⟩
  · obtain ⟨_, _, _, h4⟩ := g.at_ b o q
    obtain ⟨h1, h2, h3⟩ := s.frm b o ((join_r h4).trans q)
    exact ⟨h1, h2, h3, h4⟩
  · exact (join_none (s.fre i b hb).2.1).2
theorem postG.seqF {α β γ δ : Type} {R : RelR α β} {R2 : RelR γ δ} {P G : Hp} {σ : L2.St} {Q : δ → Hp → Prop} {N : β → Hp → Prop} {f : α → M γ} : ∀ {o : Option (Out α)}, postG C W R2 P Q σ (Out.andThen o f) →
    (∀ a env' P' fp' H' v, Le P P' → StOk (C.withF (join C.F G)) P' env' fp' σ H' → R P' fp' H' a v → postG C W R2 P' Q σ (f a env') → N v H') → postG (C.withF (join C.F G)) W R P N σ o
  | none, h, _ => h
  | some (.ok r e), h, k => fun P1 fp1 H1 v l1 s1 r1 => k r e P1 fp1 H1 v l1 s1 r1 (postG.mono l1 h)
  | some (.exc x e), h, _ => fun P1 fp1 H1 c d l1 s1 r1 => h P1 fp1 H1 c d l1 s1.unhold r1
/-- {k: v} -/
def mDict1 (mk mv : M PyData) : M OV := mk >>= fun k => mv >>= fun v => match k with
  | .int i => pure (.dct [(i, v)])
  | _ => fun _ => none
/-- an expression, whatever stands beside -/
def PEF (X : Cx) (C : Cc) (W : WX) (e : Expr) (m : M PyData) : Prop := ∀ F, PE X e (liftD (C.withF F) W m)
theorem PEF.pe {e : Expr} {m : M PyData} (h : PEF X C W e m) : PE X e (fun σ H Q => ∃ F, liftD (C.withF F) W m σ H Q) := PE.ex fun σ H Q ⟨F, q⟩ => ⟨_, h F, q⟩
theorem sE_dict1 {k v : Expr} {mk mv : M PyData} (hk : PEF X C W k mk) (hv : PEF X C W v mv) : PE X (.Dict [some k] [v] pos) (liftE C W (mDict1 mk mv)) := PE.imp (pe_disp (pps_cons hk.pe hv.pe pps_nil) rfl rfl (by simp) (by simp)) fun σ H Q q => by
  intro p hp
  obtain ⟨P, env, fp, s, h⟩ := q
  obtain ⟨s0, t0⟩ := s.newt hp (u := .dK []) trivial
  let G : Hp := fun b => if b = p then some (.dK []) else none
  have gp : G p = some (.dK []) := if_pos rfl
  have gn : ∀ b, b ≠ p → G b = none := fun b hb => if_neg hb
  have g0 : Beside C P fp (upd H p (.dK [])) G := by
    refine ⟨fun b o q => ?_, fun i b hb => gn b fun z => t0.dis i b hb (by rw [z]; exact List.mem_cons_self)⟩
    by_cases hb : b = p
    · subst hb
      have e : some (HO.dK []) = some o := gp.symm.trans q
      cases e
      obtain ⟨h1, h2⟩ := t0.fre b List.mem_cons_self
      exact ⟨upd_same, trivial, h1, h2⟩
    · rw [gn b hb] at q
      cases q
  refine ⟨join C.F G, P, env, fp, s0.hold g0, postG.seqF h fun x env1 P1 fp1 H1 v l1 s1 r1 h1 => ?_⟩
  refine ⟨join C.F G, P1, env1, fp1, s1, postG.seqF h1 fun y env2 P2 fp2 H2 u l2 s2 r2 h2 => ?_⟩
  have g2 := s2.besides g0
  refine ⟨(g2.at_ p _ gp).1, ?_⟩
  have fin : ∀ i : Int, x = .int i → postG C W (rOV C) P2 Q σ (some (.ok (.dct [(i, y)]) env2)) → ∃ kvs : List (Key × V), [(v, u)] = kvs.map (fun kv => (kV kv.1, kv.2)) ∧ kvs.length ≤ 15 ∧ Q (.ref p) (upd H2 p (.dK (mergeK [] kvs))) := fun i ei h3 => by
    subst ei
    obtain rfl := dp_int r1
    refine ⟨[(.inl i, u)], rfl, by simp, ?_⟩
    have s3 := s2.unhold
    have hpn : P2 p = none := (g2.at_ p _ gp).2.2.1
    have hFn : C.F p = none := (g2.at_ p _ gp).2.2.2
    have hH := (g2.at_ p _ gp).1
    have ne : ∀ j b, b ∈ fp2 j → b ≠ p := fun j b hb z => by
      have := g2.fp j b hb
      rw [z, gp] at this
      cases this
    have sN : StOk C P2 env2 fp2 σ (upd H2 p (.dK (mergeK [] [(.inl i, u)]))) := by
      refine ⟨fun b o q => ?_, fun b o q => ?_, fun j w q => ?_, s3.dis, fun j b hb => ?_, s3.keep, fun t ht => ?_, s3.len⟩
      · rw [upd_ne (fun z => by rw [z, hpn] at q; cases q)]
        exact s3.phi b o q
      · rw [upd_ne (fun z => by rw [z, hFn] at q; cases q)]
        exact s3.frm b o q
      · obtain ⟨w1, q1, q2⟩ := s3.own j w q
        exact ⟨w1, q1, q2.frame (Le.refl _) fun b hb => upd_ne (ne j b hb)⟩
      · rw [upd_ne (ne j b hb)]
        exact s3.fre j b hb
      · obtain ⟨ps, q1, q2⟩ := s3.tabs t ht
        exact ⟨ps, by rw [upd_ne (fun z => by rw [z, hH] at q1; cases q1)]; exact q1, q2⟩
    refine h3 P2 fp2 _ _ (Le.refl _) sN ⟨[p], .dct upd_same (.cons r2 .nil), ⟨fun j b hb hm => ne j b hb (List.mem_singleton.mp hm), fun b hm => ?_⟩⟩
    rw [List.mem_singleton.mp hm]
    exact ⟨hpn, hFn⟩
  cases x with
  | int i => exact fin i rfl h2
  | _ => exact False.elim h2
end
end TL
set_option Elab.async false
set_option linter.all false
set_option maxRecDepth 100000
set_option maxHeartbeats 1000000
namespace TL
open PySem PySem.Spec PyProof.Rows L2
inductive Fl where
  | nx | bk | ct
  | rt (r : OV)
section
variable {X : Cx} {C : Cc} {W : WX} {pos : Pos}
def postS (C : Cc) (W : WX) (P : Hp) (D : Ends) : Option (Out Fl) → Prop
  | none => False
  | some (.ok .nx env') => ∀ P' fp' σ' H', Le P P' → StOk C P' env' fp' σ' H' → D.nx σ' H'
  | some (.ok .bk env') => ∀ P' fp' σ' H', Le P P' → StOk C P' env' fp' σ' H' → D.bk σ' H'
  | some (.ok .ct env') => ∀ P' fp' σ' H', Le P P' → StOk C P' env' fp' σ' H' → D.ct σ' H'
  | some (.ok (.rt r) env') => ∀ P' fp' σ' H' v, Le P P' → StOk C P' env' fp' σ' H' → rOV C P' fp' H' r v → D.rt v H'
  | some (.exc x env') => ∀ P' fp' σ' H' cls d, Le P P' → StOk C P' env' fp' σ' H' → ExcIs C x cls d H' → W cls d σ' H'
def liftS (C : Cc) (W : WX) (m : M Fl) : TS := fun D σ H => ∃ P env fp, StOk C P env fp σ H ∧ postS C W P D (m env)
theorem postS.mono {P P' : Hp} {D : Ends} (l : Le P P') : ∀ {o : Option (Out Fl)}, postS C W P D o → postS C W P' D o
  | none, h => h
  | some (.ok .nx e), h => fun P1 fp1 σ1 H1 l1 s1 => h P1 fp1 σ1 H1 (l.trans l1) s1
  | some (.ok .bk e), h => fun P1 fp1 σ1 H1 l1 s1 => h P1 fp1 σ1 H1 (l.trans l1) s1
  | some (.ok .ct e), h => fun P1 fp1 σ1 H1 l1 s1 => h P1 fp1 σ1 H1 (l.trans l1) s1
  | some (.ok (.rt r) e), h => fun P1 fp1 σ1 H1 v l1 s1 r1 => h P1 fp1 σ1 H1 v (l.trans l1) s1 r1
  | some (.exc x e), h => fun P1 fp1 σ1 H1 c d l1 s1 r1 => h P1 fp1 σ1 H1 c d (l.trans l1) s1 r1
/-- an expression, then statements -/
theorem postS.seq {α β : Type} {R : RelR α β} {P : Hp} {σ : L2.St} {D : Ends} {N : β → Hp → Prop} {f : α → M Fl} : ∀ {o : Option (Out α)}, postS C W P D (Out.andThen o f) →
    (∀ a env' P' fp' H' v, Le P P' → StOk C P' env' fp' σ H' → R P' fp' H' a v → postS C W P' D (f a env') → N v H') → postG C W R P N σ o
  | none, h, _ => h
  | some (.ok r e), h, k => fun P1 fp1 H1 v l1 s1 r1 => k r e P1 fp1 H1 v l1 s1 r1 (postS.mono l1 h)
  | some (.exc x e), h, _ => fun P1 fp1 H1 c d l1 s1 r1 => h P1 fp1 σ H1 c d l1 s1 r1
theorem liftS.seq {α β : Type} {R : RelR α β} {σ : L2.St} {H : Hp} {D : Ends} {N : β → Hp → Prop} {m : M α} {f : α → M Fl} (h : liftS C W (m >>= f) D σ H)
    (k : ∀ a env' P' fp' H' v, StOk C P' env' fp' σ H' → R P' fp' H' a v → postS C W P' D (f a env') → N v H') : liftG C W R m σ H N := by
  obtain ⟨P, env, fp, s, h⟩ := h
  exact ⟨P, env, fp, s, postS.seq h fun a env' P' fp' H' v _ s' r q => k a env' P' fp' H' v s' r q⟩
/-- a statement, then more -/
def mThen (a b : M Fl) : M Fl := a >>= fun f => match f with
  | .nx => b
  | f => pure f
theorem postS.then {P : Hp} {D : Ends} {b : M Fl} : ∀ {o : Option (Out Fl)}, postS C W P D (Out.andThen o fun f => match f with | .nx => b | f => pure f) →
    postS C W P { D with nx := liftS C W b D } o
  | none, h => h
  | some (.ok .nx e), h => fun P1 fp1 σ1 H1 l1 s1 => ⟨P1, e, fp1, s1, postS.mono l1 h⟩
  | some (.ok .bk e), h => h
  | some (.ok .ct e), h => h
  | some (.ok (.rt r) e), h => h
  | some (.exc x e), h => h
theorem sSs_nil : PSs X [] (liftS C W (pure .nx)) := PSs.imp pss_nil fun D σ H q => by
  obtain ⟨P, env, fp, s, h⟩ := q
  exact h P fp σ H (Le.refl _) s
theorem sSs_cons {st : Stmt} {r : List Stmt} {a b : M Fl} (h1 : PS X st (liftS C W a)) (h2 : PSs X r (liftS C W b)) : PSs X (st :: r) (liftS C W (mThen a b)) := PSs.imp (pss_cons h1 h2) fun D σ H q => by
  obtain ⟨P, env, fp, s, h⟩ := q
  exact ⟨P, env, fp, s, postS.then h⟩
theorem sSs_one {st : Stmt} {a : M Fl} (h1 : PS X st (liftS C W a)) : PSs X [st] (liftS C W a) := pss_one h1
theorem sS_pass : PS X (.Pass pos) (liftS C W (pure .nx)) := PS.imp ps_pass fun D σ H q => by
  obtain ⟨P, env, fp, s, h⟩ := q
  exact h P fp σ H (Le.refl _) s
/-- e; -/
def mDrop (m : M OV) : M Fl := m >>= fun _ => pure .nx
theorem sS_expr {e : Expr} {m : M OV} (h : PE X e (liftE C W m)) (hs : swapsWith e none pos.line X.env = pure false) : PS X (.Expr e pos) (liftS C W (mDrop m)) := PS.imp (ps_expr h hs) fun D σ H q =>
  liftS.seq q fun a env' P' fp' H' v s r q => q P' fp' σ H' (Le.refl _) s
def mRet (m : M OV) : M Fl := m >>= fun v => pure (.rt v)
theorem sS_ret {e : Expr} {m : M OV} (h : PE X e (liftE C W m)) : PS X (.Return (some e) pos) (liftS C W (mRet m)) := PS.imp (ps_ret h) fun D σ H q =>
  liftS.seq q fun a env' P' fp' H' v s r q => q P' fp' σ H' v (Le.refl _) s r
theorem sS_retN : PS X (.Return none pos) (liftS C W (pure (.rt (.d .none)))) := PS.imp ps_retN fun D σ H q => by
  obtain ⟨P, env, fp, s, h⟩ := q
  exact h P fp σ H .non (Le.refl _) s (rOV.d .non)
theorem sS_if {c : Expr} {a b : List Stmt} {t : M Bool} {ma mb : M Fl} (hc : PT X c (liftT C W t)) (ha : PSs X a (liftS C W ma)) (hb : PSs X b (liftS C W mb)) : PS X (.If c a b pos) (liftS C W (mIf t ma mb)) := PS.imp (ps_if hc ha hb) fun D σ H q =>
  liftS.seq q fun v env' P' fp' H' u s r q => by
    have e : u = v := r
    subst e
    cases u with
    | true => exact ⟨P', env', fp', s, q⟩
    | false => exact ⟨P', env', fp', s, q⟩
/-! ### stores -/
theorem StOk.store {P : Hp} {env : Env} {fp : Nat → List Addr} {σ : L2.St} {H : Hp} {ov : OV} {v : V} {ft : List Addr} (s : StOk C P env fp σ H) {i : Nat} (hk : C.kp i = none) (o : Own K0 P H ov v ft) (t : Tmp C P fp ft) :
    ∃ fp', StOk C P (env.set i (some ov)) fp' (σ.set i (some v)) H := by
  have s1 := s.drop i
  by_cases hi : i < σ.length
  · have t1 : Tmp C P (fun j => if j = i then [] else fp j) ft := ⟨fun j a h1 h2 => by
      by_cases hj : j = i
      · rw [if_pos hj] at h1; cases h1
      · rw [if_neg hj] at h1
        exact t.dis j a h1 h2, t.fre⟩
    have s2 : StOk C P (env.set i none) (fun j => if j = i then [] else fp j) (σ.set i (some v)) H := by
      refine ⟨s1.phi, s1.frm, fun j w q => ?_, s1.dis, s1.fre, fun j w q => ?_, s1.tabs, by rw [List.length_set, List.length_set]; exact s.len⟩
      · by_cases hj : j = i
        · subst hj
          rw [List.getElem?_set_self (by rw [s.len]; exact hi)] at q
          cases q
        · obtain ⟨y, e, z⟩ := s1.own j w q
          exact ⟨y, by rw [List.getElem?_set_ne (Ne.symm hj)]; exact e, z⟩
      · have hj : j ≠ i := fun z => by rw [z, hk] at q; cases q
        rw [List.getElem?_set_ne (Ne.symm hj)]
        exact s.keep j w q
    have s3 := s2.put i (List.getElem?_set_self hi) o t1
    rw [List.set_set] at s3
    exact ⟨_, s3⟩
  · refine ⟨fp, ?_⟩
    rw [List.set_eq_of_length_le (by rw [s.len]; omega), List.set_eq_of_length_le (by omega)]
    exact s
def mSet (i : Nat) (m : M OV) : M Fl := m >>= fun v => fun e => some (.ok .nx (e.set i (some v)))
/-- x = e, kept as it is; as data: e is frz .. -/
theorem sS_set {i : Nat} {x : Str} {e : Expr} {m : M OV} {p : Pos} (hN : X.N.Nodup) (hi : X.N[i]? = some x) (hx : Loc X.env.scope x) (hf : X.fn x = true ∨ X.env.scope.names.lookup x = some .local) (hk : C.kp i = none) (h : PE X e (liftE C W m)) (hs : swapsWith e (some (.Name x p)) pos.line X.env = pure false) :
    PS X (.Assign [.Name x p] e pos) (liftS C W (mSet i m)) := PS.imp (ps_set hN hi hx h hs hf) fun D σ H q =>
  liftS.seq q fun a env' P' fp' H' v s r q => by
    obtain ⟨ft, o, t⟩ := r
    obtain ⟨fp2, s2⟩ := s.store hk o t
    exact q P' fp2 _ H' (Le.refl _) s2
/-! ### targets -/
inductive Tg where
  | n (i : Nat)
  | t (ts : List Tg)
theorem wipe_set_out {σ : L2.St} {i : Nat} {x : Option V} : ∀ {vs : List Nat}, i ∉ vs → wipe (σ.set i x) vs = (wipe σ vs).set i x
  | [], _ => rfl
  | v :: vs, h => by
    have h1 : v ≠ i := fun e => h (by rw [e]; exact List.mem_cons_self)
    have h2 : i ∉ vs := fun m => h (List.mem_cons_of_mem _ m)
    show (wipe (σ.set i x) vs).set v none = ((wipe σ vs).set v none).set i x
    rw [wipe_set_out h2, List.set_comm _ _ (Ne.symm h1)]
theorem wipe_set {σ : L2.St} {i : Nat} {x : Option V} : ∀ {vs : List Nat}, i ∈ vs → wipe (σ.set i x) vs = wipe σ vs
  | v :: vs, h => by
    show (wipe (σ.set i x) vs).set v none = (wipe σ vs).set v none
    by_cases hm : i ∈ vs
    · rw [wipe_set hm]
    · have e : i = v := by
        rcases List.mem_cons.mp h with e | e
        · exact e
        · exact absurd e hm
      subst e
      rw [wipe_set_out hm, List.set_set]
/-- a target's store of data; vs: what it stores to -/
def liftPG (C : Cc) (vs : List Nat) (g : PyData → M Unit) : TG := fun v σ H Q => ∃ P env fp x env', StOk C P env fp σ H ∧ Dp K0 P v x ∧ g x env = some (.ok () env') ∧ ∀ P' fp' σ' H', Le P P' → StOk C P' env' fp' σ' H' → wipe σ' vs = wipe σ vs → Q σ' H'
def liftPGs (C : Cc) (vs : List Nat) (g : List PyData → M Unit) : TGs := fun us σ H Q => ∃ P env fp xs env', StOk C P env fp σ H ∧ DpAll K0 P us xs ∧ g xs env = some (.ok () env') ∧ ∀ P' fp' σ' H', Le P P' → StOk C P' env' fp' σ' H' → wipe σ' vs = wipe σ vs → Q σ' H'
theorem PG.imp {tg : Expr} {t t' : TG} (h : PG X tg t) (i : ∀ v σ H Q, t' v σ H Q → t v σ H Q) : PG X tg t' := ⟨fun pins s σ H v u Q I r q => h.run pins s σ H v u Q I r (i v σ H Q q)⟩
theorem PGs.imp {tg : List Expr} {t t' : TGs} (h : PGs X tg t) (i : ∀ v σ H Q, t' v σ H Q → t v σ H Q) : PGs X tg t' := ⟨fun pins s σ H v u Q I r q => h.run pins s σ H v u Q I r (i v σ H Q q)⟩
def gN (i : Nat) (x : PyData) : M Unit := fun e => some (.ok () (e.set i (some (.d x))))
structure LocOk (X : Cx) (C : Cc) (i : Nat) (x : Str) : Prop where
  nd : X.N.Nodup
  n : X.N[i]? = some x
  l : Loc X.env.scope x
  f : X.fn x = true ∨ X.env.scope.names.lookup x = some .local
  k : C.kp i = none
theorem sG_name {vs : List Nat} {i : Nat} {x : Str} (l : LocOk X C i x) (hi : i ∈ vs) : PG X (.Name x pos) (liftPG C vs (gN i)) := PG.imp (pg_name l.nd l.n l.l l.f) fun v σ H Q q => by
  obtain ⟨P, env, fp, x, env', s, d, e, k⟩ := q
  cases e
  obtain ⟨fp2, s2⟩ := s.store l.k (.d d) Tmp.nil
  exact k P fp2 _ H (Le.refl _) s2 (wipe_set hi)
def gsNil (xs : List PyData) : M Unit := match xs with
  | [] => pure ()
  | _ => fun _ => none
def gsCons (g : PyData → M Unit) (r : List PyData → M Unit) (xs : List PyData) : M Unit := match xs with
  | x :: xs => g x >>= fun _ => r xs
  | [] => fun _ => none
theorem sGs_nil {vs : List Nat} : PGs X [] (liftPGs C vs gsNil) := PGs.imp pgs_nil fun v σ H Q q => by
  obtain ⟨P, env, fp, xs, env', s, d, e, k⟩ := q
  cases d with
  | nil =>
    cases e
    exact ⟨rfl, k P fp σ H (Le.refl _) s rfl⟩
  | cons => cases e
theorem sGs_cons {vs : List Nat} {t : Expr} {ts : List Expr} {g : PyData → M Unit} {r : List PyData → M Unit} (h1 : PG X t (liftPG C vs g)) (h2 : PGs X ts (liftPGs C vs r)) (hs : (assignEach (t :: ts) X.env).map (·.2) = assign t X.env :: (assignEach ts X.env).map (·.2)) : PGs X (t :: ts) (liftPGs C vs (gsCons g r)) := PGs.imp (pgs_cons h1 h2 hs) fun v σ H Q q => by
  obtain ⟨P, env, fp, xs, env', s, d, e, k⟩ := q
  cases d with
  | nil => cases e
  | cons d ds =>
    rename_i v us x xs
    have e' : Out.andThen (g x env) (fun _ => r xs) = some (.ok () env') := e
    cases eg : g x env with
    | none => rw [eg] at e'; cases e'
    | some o =>
      rw [eg] at e'
      cases o with
      | exc y en => cases e'
      | ok a env1 =>
        refine ⟨v, us, rfl, P, env, fp, x, env1, s, d, eg, fun P1 fp1 σ1 H1 l1 s1 w1 => ?_⟩
        exact ⟨P1, env1, fp1, xs, env', s1, l1.dpAll ds, e', fun P2 fp2 σ2 H2 l2 s2 w2 => k P2 fp2 σ2 H2 (l1.trans l2) s2 (w2.trans w1)⟩
def gT (n : Nat) (g : List PyData → M Unit) (x : PyData) : M Unit := match x with
  | .tuple xs => if xs.length = n then g xs else fun _ => none
  | _ => fun _ => none
theorem sG_tup {vs : List Nat} {ts : List Expr} {k : Nat} {n : Nat} {g : List PyData → M Unit} (hc : X.calm = true) (h : PGs X ts (liftPGs C vs g)) (hn : (assignEach ts X.env).length = n) (hst : (assignEach ts X.env).findIdx? (·.1) = none) : PG X (.Tuple ts k pos) (liftPG C vs (gT n g)) := PG.imp (pg_tup hc h hn hst) fun v σ H Q q => by
  obtain ⟨P, env, fp, x, env', s, d, e, k⟩ := q
  cases d with
  | tup hq a =>
    rename_i ad us xs
    have e' : (if xs.length = n then g xs else fun _ => none) env = some (.ok () env') := e
    by_cases hl : xs.length = n
    · rw [if_pos hl] at e'
      exact ⟨ad, us, rfl, toK_T (s.le.sqT hq), by rw [dpAll_length a]; exact hl, P, env, fp, xs, env', s, a, e', k⟩
    · rw [if_neg hl] at e'
      cases e'
  | _ => cases e
/-- target = data -/
def mAsg (g : PyData → M Unit) (m : M PyData) : M Fl := m >>= fun x => g x >>= fun _ => pure .nx
theorem sS_asg {vs : List Nat} {tg e : Expr} {g : PyData → M Unit} {m : M PyData} (hg : PG X tg (liftPG C vs g)) (he : PE X e (liftD C W m)) (h0 : ∀ x env o, g x env = some o → ∃ env', o = .ok () env') (hs : swapsWithSole [tg] e pos.line X.env = pure false) (hw : swappedStores [tg] e X.env = pure none)
    (h1 : (assignEach [tg] X.env).map (·.2) = [assign tg X.env]) : PS X (.Assign [tg] e pos) (liftS C W (mAsg g m)) := PS.imp (ps_asg he hg hs hw h1) fun D σ H q =>
  liftS.seq q fun x env' P' fp' H' v s r q => by
    rw [M.bind_at] at q
    cases eg : g x env' with
    | none => rw [eg] at q; exact q.elim
    | some o =>
      obtain ⟨env2, rfl⟩ := h0 x env' o eg
      rw [eg] at q
      exact ⟨P', env', fp', x, env2, s, r, eg, fun P2 fp2 σ2 H2 l2 s2 _ => q P2 fp2 σ2 H2 l2 s2⟩
/-! ### items stored -/
/-- x[k] = v of a slot's own dict: v, then k -/
def gPutD (y x : PyData) : OV → Option (OV × OV)
  | .dct kvs => (match y with
    | .int k => if kvs.length < sizeLine then some (.dct (put kvs k x), .d .none) else none
    | _ => none)
  | _ => none
def mPutD (i : Nat) (mk mv : M PyData) : M Fl := mv >>= fun x => mHas i isDct >>= fun _ => mk >>= fun y => mMut i (gPutD y x) >>= fun _ => pure .nx
def mMutS {α : Type} (i : Nat) (f : OV → Option (OV × α)) : M Fl := mMut i f >>= fun _ => pure .nx
theorem mutS_at {α : Type} {P : Hp} {D : Ends} {i : Nat} {f : OV → Option (OV × α)} {env : Env} (h : postS C W P D ((mMut i f >>= fun _ => (pure .nx : M Fl)) env)) : ∃ v v' a, env[i]? = some (some v) ∧ f v = some (v', a) ∧ postS C W P D (some (.ok .nx (env.set i (some v')))) := by
  rw [M.bind_at] at h
  unfold mMut at h
  split at h
  · rename_i v e
    cases hf : f v with
    | none => rw [hf] at h; exact h.elim
    | some a => rw [hf] at h; exact ⟨v, a.1, a.2, e, hf, h⟩
  · exact h.elim
theorem hasS {P : Hp} {D : Ends} {i : Nat} {p : OV → Bool} {f : Unit → M Fl} {env : Env} (h : postS C W P D ((mHas i p >>= f) env)) : ∃ v, env[i]? = some (some v) ∧ p v = true ∧ postS C W P D (f () env) := by
  rw [M.bind_at] at h
  unfold mHas at h
  split at h
  · rename_i v e
    split at h
    · rename_i hp
      exact ⟨v, e, hp, h⟩
    · exact h.elim
  · exact h.elim
theorem gPutD_some {y x : PyData} {ov w' a : OV} (h : gPutD y x ov = some (w', a)) : ∃ kvs k, ov = .dct kvs ∧ y = .int k ∧ kvs.length < sizeLine ∧ w' = .dct (put kvs k x) := by
  cases ov with
  | dct kvs =>
    cases y with
    | int k =>
      have h' : (if kvs.length < sizeLine then some (OV.dct (put kvs k x), OV.d .none) else none) = some (w', a) := h
      by_cases hz : kvs.length < sizeLine
      · rw [if_pos hz] at h'
        cases h'
        exact ⟨kvs, k, rfl, rfl, hz, rfl⟩
      · rw [if_neg hz] at h'
        cases h'
    | _ => cases h
  | _ => cases h
theorem sS_putD {i : Nat} {x : Str} {p p2 : Pos} {b e : Expr} {mk mv : M PyData} (hu : X.A.units + 200 < cLine) (n : NameOk X i x) (hb : PE X b (liftD C W mk)) (he : PE X e (liftD C W mv)) (hs : swapsWith e (some (.Subscript (.Name x p) b p2)) pos.line X.env = pure false) :
    PS X (.Assign [.Subscript (.Name x p) b p2] e pos) (liftS C W (mPutD i mk mv)) := PS.imp (ps_dput (by omega) n.pe hb he hs) fun D σ H q =>
  liftS.seq q fun z env1 P1 fp1 H1 v s1 r1 q1 => by
    obtain ⟨ov, e0, hp, q2⟩ := hasS q1
    obtain ⟨v0, f0, o0⟩ := s1.own i _ e0
    refine ⟨v0, f0, P1, env1, fp1, s1, ?_⟩
    rw [M.bind_at] at q2
    refine postS.seq q2 fun y env' P' fp' H' u l s' r q => ?_
    obtain ⟨w, w', a, g1, g2, q'⟩ := mutS_at q
    obtain ⟨kvs, k, rfl, rfl, hz, rfl⟩ := gPutD_some g2
    obtain ⟨ad, vs, f1, hf, hH, d⟩ := s'.dctAt g1
    have ew := slot_inj f0 f1
    subst ew
    obtain rfl := dp_int r
    exact ⟨ad, _, rfl, DPut.k (k := Sum.inl k) hH (by rw [d.length]; exact hz), q' P' fp' σ _ (Le.refl _) (s'.mut g1 f1 hf trivial fun H2 e2 => .dct e2 (d.put k (l.dp r1)))⟩
/-- x[i] = v of a slot's own list -/
def gSetL (y x : PyData) : OV → Option (OV × OV)
  | .lst xs => (match y with
    | .int k => (ixN xs.length k).map fun j => (.lst (xs.set j x), .d .none)
    | _ => none)
  | _ => none
def mSetL (i : Nat) (mk mv : M PyData) : M Fl := mv >>= fun x => mHas i isLst >>= fun _ => mk >>= fun y => mMut i (gSetL y x) >>= fun _ => pure .nx
theorem gSetL_some {y x : PyData} {ov w' a : OV} (h : gSetL y x ov = some (w', a)) : ∃ xs k j, ov = .lst xs ∧ y = .int k ∧ ixN xs.length k = some j ∧ w' = .lst (xs.set j x) := by
  cases ov with
  | lst xs =>
    cases y with
    | int k =>
      obtain ⟨j, e1, e2⟩ := Option.map_eq_some_iff.mp (show (ixN xs.length k).map (fun j => (OV.lst (xs.set j x), OV.d .none)) = some (w', a) from h)
      cases e2
      exact ⟨xs, k, j, rfl, rfl, e1, rfl⟩
    | _ => cases h
  | _ => cases h
/-- an item's store is the plain one -/
def SubT (X : Cx) (o i : Expr) (pos : Pos) : Prop := ∀ v, assign (.Subscript o i pos) X.env v = (do
      let ov ← holding [v] (eval o X.env)
      let iv ← holding [v, ov] (eval i X.env)
      standAt pos
      holding [v, ov, iv] (setItem ov iv v)
      release [v, ov, iv] [])
theorem sS_setL {i : Nat} {x : Str} {p p2 : Pos} {b e : Expr} {mk mv : M PyData} (n : NameOk X i x) (hb : PE X b (liftD C W mk)) (he : PE X e (liftD C W mv)) (ht : SubT X (.Name x p) b p2) (hs : swapsWithSole [.Subscript (.Name x p) b p2] e pos.line X.env = pure false) (hw : swappedStores [.Subscript (.Name x p) b p2] e X.env = pure none) :
    PS X (.Assign [.Subscript (.Name x p) b p2] e pos) (liftS C W (mSetL i mk mv)) := PS.imp (ps_asg he (pg_sub n.pe hb set_list ht) hs hw rfl) fun D σ H q =>
  liftS.seq q fun z env1 P1 fp1 H1 v s1 r1 q1 => by
    obtain ⟨ov, e0, hp, q2⟩ := hasS q1
    obtain ⟨v0, f0, o0⟩ := s1.own i _ e0
    refine ⟨v0, f0, P1, env1, fp1, s1, ?_⟩
    rw [M.bind_at] at q2
    refine postS.seq q2 fun y env' P' fp' H' u l s' r q => ?_
    obtain ⟨w, w', a, g1, g2, q'⟩ := mutS_at q
    obtain ⟨xs, k, j, rfl, rfl, hj, rfl⟩ := gSetL_some g2
    obtain ⟨ad, vs, f1, hf, hH, d⟩ := s'.lstAt g1
    have ew := slot_inj f0 f1
    subst ew
    obtain rfl := dp_int r
    exact ⟨ad, vs, k, j, rfl, rfl, hH, by rw [dpAll_length d]; exact hj, q' P' fp' σ _ (Le.refl _) (s'.mut g1 f1 hf trivial fun H2 e2 => .lst e2 (dpAll_set (l.dp r1) j d))⟩
end
end TL
set_option Elab.async false
set_option linter.all false
set_option maxRecDepth 100000
set_option maxHeartbeats 1000000
namespace TL
open PySem PySem.Spec PyProof.Rows L2
section
variable {X : Cx} {C : Cc} {W : WX} {pos : Pos}
/-! ### what is walked -/
/-- the items, drawn one by one -/
def Wk (C : Cc) (J : It) (P0 : Hp) (items : List PyData) : Prop := ∀ (i : Nat) (P : Hp) (env : Env) (fp : Nat → List Addr) (F : Hp) (σ : L2.St) (H : Hp), Le P0 P → StOk (C.withF F) P env fp σ H →
  (items.length ≤ i → J.stop i H) ∧ ∀ x, items[i]? = some x → J.go i H ∧ ∀ v H', J.yld i H v H' → ∃ P', Le P P' ∧ StOk (C.withF F) P' env fp σ H' ∧ Dp K0 P' v x
def postI (C : Cc) (W : WX) (P : Hp) (R : It → Hp → Prop) (σ : L2.St) : Option (Out (List PyData)) → Prop
  | none => False
  | some (.ok xs env') => ∀ P' fp' H' J, Le P P' → StOk C P' env' fp' σ H' → Wk C J P' xs → R J H'
  | some (.exc x env') => ∀ P' fp' H' cls d, Le P P' → StOk C P' env' fp' σ H' → ExcIs C x cls d H' → W cls d σ H'
def liftI (C : Cc) (W : WX) (m : M (List PyData)) : TI := fun σ H R => ∃ P env fp, StOk C P env fp σ H ∧ postI C W P R σ (m env)
theorem PI.imp {tg e : Expr} {t t' : TI} (h : PI X tg e t) (i : ∀ σ H R, t' σ H R → t σ H R) : PI X tg e t' := ⟨fun pins s σ H R I q => h.run pins s σ H R I (i σ H R q)⟩
theorem PI.ex {tg e : Expr} {t : TI} (h : ∀ σ H R, t σ H R → ∃ t', PI X tg e t' ∧ t' σ H R) : PI X tg e t := ⟨fun pins s σ H R I q => let ⟨_, p, q'⟩ := h σ H R q; p.run pins s σ H R I q'⟩
theorem postI.mono {P P' : Hp} {R : It → Hp → Prop} {σ : L2.St} (l : Le P P') : ∀ {o : Option (Out (List PyData))}, postI C W P R σ o → postI C W P' R σ o
  | none, h => h
  | some (.ok r e), h => fun P1 fp1 H1 J l1 s1 r1 => h P1 fp1 H1 J (l.trans l1) s1 r1
  | some (.exc x e), h => fun P1 fp1 H1 c d l1 s1 r1 => h P1 fp1 H1 c d (l.trans l1) s1 r1
theorem postI.seq {α β : Type} {R : RelR α β} {P : Hp} {σ : L2.St} {D : It → Hp → Prop} {N : β → Hp → Prop} {f : α → M (List PyData)} : ∀ {o : Option (Out α)}, postI C W P D σ (Out.andThen o f) →
    (∀ a env' P' fp' H' v, o = some (.ok a env') → Le P P' → StOk C P' env' fp' σ H' → R P' fp' H' a v → postI C W P' D σ (f a env') → N v H') → postG C W R P N σ o
  | none, h, _ => h
  | some (.ok r e), h, k => fun P1 fp1 H1 v l1 s1 r1 => k r e P1 fp1 H1 v rfl l1 s1 r1 (postI.mono l1 h)
  | some (.exc x e), h, _ => h
theorem wk_list {P : Hp} {a : Addr} {vs : List V} {xs : List PyData} {K : PySem.W.Frag} (h : SqL K0 P a vs) (d : DpAll K0 P vs xs) : Wk C (Itl K a) P xs := fun i P' env fp F σ H l s => by
  have hq : SqL K H a vs := toK_L ((l.trans s.le).sqL h)
  have hl := dpAll_length d
  refine ⟨fun hi => ⟨vs, hq, by omega⟩, fun x hx => ?_⟩
  obtain ⟨v, h1, h2⟩ := dpAll_get d hx
  refine ⟨⟨vs, v, hq, h1⟩, fun w H' y => ?_⟩
  obtain ⟨rfl, y⟩ := y
  have e := y vs hq
  rw [h1] at e
  cases e
  exact ⟨P', Le.refl _, s, l.dp h2⟩
theorem wk_tup {P : Hp} {a : Addr} {vs : List V} {xs : List PyData} {K : PySem.W.Frag} (h : SqT K0 P a vs) (d : DpAll K0 P vs xs) : Wk C (Itt K a) P xs := fun i P' env fp F σ H l s => by
  have hq : SqT K H a vs := toK_T ((l.trans s.le).sqT h)
  have hl := dpAll_length d
  refine ⟨fun hi => ⟨vs, hq, by omega⟩, fun x hx => ?_⟩
  obtain ⟨v, h1, h2⟩ := dpAll_get d hx
  refine ⟨⟨vs, v, hq, h1⟩, fun w H' y => ?_⟩
  obtain ⟨rfl, y⟩ := y
  have e := y vs hq
  rw [h1] at e
  cases e
  exact ⟨P', Le.refl _, s, l.dp h2⟩
/-- lo, lo + 1, .. -/
def rngD (lo : Int) (n : Nat) : List PyData := (List.range n).map fun i => .int (lo + (i : Nat))
theorem rngD_get {lo : Int} {n i : Nat} {x : PyData} (h : (rngD lo n)[i]? = some x) : i < n ∧ x = .int (lo + (i : Nat)) := by
  unfold rngD at h
  rw [List.getElem?_map] at h
  by_cases hi : i < n
  · rw [List.getElem?_range hi] at h
    cases h
    exact ⟨hi, rfl⟩
  · rw [List.getElem?_eq_none (by rw [List.length_range]; omega)] at h
    cases h
theorem rngD_length {lo : Int} {n : Nat} : (rngD lo n).length = n := by
  unfold rngD
  rw [List.length_map, List.length_range]
theorem wk_range {P : Hp} {lo : Int} {n : Nat} : Wk C (Itr lo n) P (rngD lo n) := fun i P' env fp F σ H l s => by
  refine ⟨fun hi => by rw [rngD_length] at hi; exact hi, fun x hx => ?_⟩
  obtain ⟨h1, rfl⟩ := rngD_get hx
  refine ⟨h1, fun w H' y => ?_⟩
  obtain ⟨rfl, rfl⟩ := y
  exact ⟨P', Le.refl _, s, .int _⟩
/-- a list or a tuple -/
def mItems (m : M PyData) : M (List PyData) := m >>= fun x => match x with
  | .list xs => pure xs
  | .tuple xs => pure xs
  | _ => fun _ => none
theorem sI_seq {tg e : Expr} {m : M PyData} (h : PE X e (liftD C W m)) : PI X tg e (liftI C W (mItems m)) := PI.ex fun σ H R q => by
  obtain ⟨P, env, fp, s, h'⟩ := q
  by_cases hl : ∃ xs env1, m env = some (.ok (.list xs) env1)
  · obtain ⟨xs, env1, em⟩ := hl
    refine ⟨_, pi_list h, P, env, fp, s, postI.seq h' fun x env' P' fp' H' v e l s' r q => ?_⟩
    rw [em] at e
    cases e
    cases r with
    | lst hq a =>
      exact ⟨_, rfl, ⟨_, toK_L (s'.le.sqL hq)⟩, q P' fp' H' _ (Le.refl _) s' (wk_list hq a)⟩
  · refine ⟨_, pi_tup h, P, env, fp, s, postI.seq h' fun x env' P' fp' H' v e l s' r q => ?_⟩
    cases r with
    | lst hq a => exact absurd ⟨_, _, e⟩ hl
    | tup hq a => exact ⟨_, rfl, ⟨_, toK_T (s'.le.sqT hq)⟩, q P' fp' H' _ (Le.refl _) s' (wk_tup hq a)⟩
    | _ => exact False.elim q
def mRange1 (m : M PyData) : M (List PyData) := m >>= fun x => match x with
  | .int j => if -(2 ^ 62) ≤ j ∧ j < 2 ^ 62 then pure (rngD 0 j.toNat) else fun _ => none
  | _ => fun _ => none
def mRange2 (a b : M PyData) : M (List PyData) := a >>= fun x => b >>= fun y => match x, y with
  | .int i, .int j => if -(2 ^ 62) ≤ i ∧ i < 2 ^ 62 ∧ -(2 ^ 62) ≤ j ∧ j < 2 ^ 62 then pure (rngD i (j - i).toNat) else fun _ => none
  | _, _ => fun _ => none
theorem sI_range1 {tg a : Expr} {p : Pos} {m : M PyData} (hg : Gl X "range") (hm : X.mg "range" = none) (h : PE X a (liftD C W m)) (ns : NS a) : PI X tg (.Call (.Name "range" p) [a] [] pos) (liftI C W (mRange1 m)) :=
  PI.imp (pi_range1 hg hm (pa_cons h pa_nil (ns [] _)) (ns [] _)) fun σ H R q => by
    obtain ⟨P, env, fp, s, h'⟩ := q
    refine ⟨P, env, fp, s, postI.seq h' fun x env' P' fp' H' v e l s' r q => ?_⟩
    cases r with
    | int j =>
      by_cases hz : -(2 ^ 62) ≤ j ∧ j < 2 ^ 62
      · have q' : postI C W P' R σ (some (.ok (rngD 0 j.toNat) env')) := by
          have q2 : postI C W P' R σ ((if -(2 ^ 62) ≤ j ∧ j < 2 ^ 62 then (pure (rngD 0 j.toNat) : M (List PyData)) else fun _ => none) env') := q
          rw [if_pos hz] at q2
          exact q2
        exact ⟨j, rfl, hz.1, hz.2, q' P' fp' H' _ (Le.refl _) s' wk_range⟩
      · have q2 : postI C W P' R σ ((if -(2 ^ 62) ≤ j ∧ j < 2 ^ 62 then (pure (rngD 0 j.toNat) : M (List PyData)) else fun _ => none) env') := q
        rw [if_neg hz] at q2
        exact q2.elim
    | _ => exact False.elim q
theorem sI_range2 {tg a b : Expr} {p : Pos} {ma mb : M PyData} (hg : Gl X "range") (hm : X.mg "range" = none) (ha : PE X a (liftD C W ma)) (hb : PE X b (liftD C W mb)) (na : NS a) (nb : NS b) : PI X tg (.Call (.Name "range" p) [a, b] [] pos) (liftI C W (mRange2 ma mb)) :=
  PI.imp (pi_range2 hg hm (pa_cons ha (pa_cons hb pa_nil (nb [] _)) (na [b] _)) ((na [b] _).trans (by rw [nb [] _]; rfl)) (nb [] _)) fun σ H R q => by
    obtain ⟨P, env, fp, s, h'⟩ := q
    refine ⟨P, env, fp, s, postI.seq h' fun x env' P' fp' H' v e l s' r q => ?_⟩
    refine ⟨P', env', fp', s', postI.seq q fun y env2 P2 fp2 H2 u e2 l2 s2 r2 q2 => ?_⟩
    cases r with
    | int i =>
      cases r2 with
      | int j =>
        by_cases hz : -(2 ^ 62) ≤ i ∧ i < 2 ^ 62 ∧ -(2 ^ 62) ≤ j ∧ j < 2 ^ 62
        · have q' : postI C W P2 R σ (some (.ok (rngD i (j - i).toNat) env2)) := by
            have q3 : postI C W P2 R σ ((if -(2 ^ 62) ≤ i ∧ i < 2 ^ 62 ∧ -(2 ^ 62) ≤ j ∧ j < 2 ^ 62 then (pure (rngD i (j - i).toNat) : M (List PyData)) else fun _ => none) env2) := q2
            rw [if_pos hz] at q3
            exact q3
          exact ⟨i, j, rfl, hz, q' P2 fp2 H2 _ (Le.refl _) s2 wk_range⟩
        · have q3 : postI C W P2 R σ ((if -(2 ^ 62) ≤ i ∧ i < 2 ^ 62 ∧ -(2 ^ 62) ≤ j ∧ j < 2 ^ 62 then (pure (rngD i (j - i).toNat) : M (List PyData)) else fun _ => none) env2) := q2
          rw [if_neg hz] at q3
          exact q3.elim
      | _ => exact False.elim q2
    | _ => exact False.elim q2
/-! ### for -/
def forM (g : PyData → M Unit) (b : M Fl) : List PyData → M Fl
  | [] => pure .nx
  | x :: xs => g x >>= fun _ => b >>= fun f => match f with
    | .nx => forM g b xs
    | .ct => forM g b xs
    | .bk => pure .nx
    | .rt r => pure (.rt r)
def mFor (mi : M (List PyData)) (g : PyData → M Unit) (b : M Fl) : M Fl := mi >>= forM g b
/-- a target's store gives nothing but stores -/
def GOk (g : PyData → M Unit) : Prop := ∀ x env o, g x env = some o → ∃ env', o = .ok () env'
theorem sS_for {vs : List Nat} {tg iter : Expr} {body : List Stmt} {mi : M (List PyData)} {g : PyData → M Unit} {b : M Fl} (hp : PassesOwn (model X.prog X.w) X.A X.env X.xe) (hc : X.calm = true) (hi : PI X tg iter (liftI C W mi)) (hg : PG X tg (liftPG C vs g)) (h0 : GOk g) (hb : PSs X body (liftS C W b))
    (hs : ∀ x, foldedSetIterable iter X.env x = pure x) : PS X (.For tg iter body [] pos) (liftS C W (mFor mi g b)) := PS.imp (ps_for hp hc hi hg hb hs) fun D σ H q => by
  obtain ⟨P, env, fp, s, h⟩ := q
  have h : postS C W P D (Out.andThen (mi env) (forM g b)) := h
  refine ⟨P, env, fp, s, ?_⟩
  cases em : mi env with
  | none => rw [em] at h; exact h.elim
  | some o =>
    rw [em] at h
    cases o with
    | exc y e1 => exact fun P1 fp1 H1 c d l1 s1 r1 => h P1 fp1 σ H1 c d l1 s1 r1
    | ok xs e1 =>
      intro P1 fp1 H1 J l1 s1 wk
      have h1 : postS C W P1 D (forM g b xs e1) := postS.mono l1 h
      refine ⟨fun i m σ H => m = xs.length - i ∧ i ≤ xs.length ∧ ∃ P env fp, Le P1 P ∧ StOk C P env fp σ H ∧ postS C W P D (forM g b (xs.drop i) env), ⟨xs.length, rfl, Nat.zero_le _, P1, e1, fp1, Le.refl _, s1, h1⟩, ?_⟩
      rintro i m σ2 H2 ⟨rfl, hi2, P2, env2, fp2, l2, s2, h2⟩
      obtain ⟨w1, w2⟩ := wk i P2 env2 fp2 C.F σ2 H2 l2 s2
      by_cases hlt : i < xs.length
      · refine .inr ?_
        obtain ⟨go, yl⟩ := w2 xs[i] (by simp [hlt])
        rw [List.drop_eq_getElem_cons hlt] at h2
        have h2 : postS C W P2 D (Out.andThen (g xs[i] env2) fun _ => b >>= fun f => match f with
          | .nx => forM g b (xs.drop (i + 1))
          | .ct => forM g b (xs.drop (i + 1))
          | .bk => pure .nx
          | .rt r => pure (.rt r)) := h2
        refine ⟨go, fun σ3 H3 => ∃ P env fp, Le P1 P ∧ StOk C P env fp σ3 H3 ∧ postS C W P D (forM g b (xs.drop (i + 1)) env), fun σ' H' w => ⟨xs.length - (i + 1), by omega, rfl, hlt, w⟩, fun v H' y => ?_⟩
        obtain ⟨P3, l3, s3, d3⟩ := yl v H' y
        cases eg : g xs[i] env2 with
        | none => rw [eg] at h2; exact h2.elim
        | some o =>
          obtain ⟨env3, rfl⟩ := h0 _ _ _ eg
          rw [eg] at h2
          refine ⟨P3, env2, fp2, xs[i], env3, s3, d3, eg, fun P4 fp4 σ4 H4 l4 s4 _ => ?_⟩
          have h4 := postS.mono (l3.trans l4) h2
          refine ⟨P4, env3, fp4, s4, ?_⟩
          have h4 : postS C W P4 D (Out.andThen (b env3) fun f => match f with
            | .nx => forM g b (xs.drop (i + 1))
            | .ct => forM g b (xs.drop (i + 1))
            | .bk => pure .nx
            | .rt r => pure (.rt r)) := h4
          have lP : Le P1 P4 := (l2.trans l3).trans l4
          cases eb : b env3 with
          | none => rw [eb] at h4; exact h4.elim
          | some o =>
            rw [eb] at h4
            cases o with
            | exc y e5 => exact h4
            | ok f e5 =>
              cases f with
              | nx => exact fun P5 fp5 σ5 H5 l5 s5 => ⟨P5, e5, fp5, lP.trans l5, s5, postS.mono l5 h4⟩
              | ct => exact fun P5 fp5 σ5 H5 l5 s5 => ⟨P5, e5, fp5, lP.trans l5, s5, postS.mono l5 h4⟩
              | bk => exact h4
              | rt r => exact h4
      · have e : i = xs.length := by omega
        subst e
        refine .inl ⟨w1 (Nat.le_refl _), ?_⟩
        rw [List.drop_length] at h2
        exact h2 P2 fp2 σ2 H2 (Le.refl _) s2
/-! ### while -/
def whileM (t : M Bool) (b : M Fl) : Nat → M Fl
  | 0 => fun _ => none
  | n + 1 => t >>= fun c => if c then b >>= fun f => match f with
    | .nx => whileM t b n
    | .ct => whileM t b n
    | .bk => pure .nx
    | .rt r => pure (.rt r)
    else pure .nx
/-- as long as it takes -/
noncomputable def mWhile (t : M Bool) (b : M Fl) : M Fl := fun env => open Classical in if h : ∃ n, (whileM t b n env).isSome = true then whileM t b (Classical.choose h) env else none
theorem sS_while {c : Expr} {body : List Stmt} {t : M Bool} {b : M Fl} (hp : PassesOwn (model X.prog X.w) X.A X.env X.xe) (hc : PT X c (liftT C W t)) (hb : PSs X body (liftS C W b)) : PS X (.While c body [] pos) (liftS C W (mWhile t b)) := PS.imp (ps_while hp hc hb) fun D σ H q => by
  obtain ⟨P, env, fp, s, h⟩ := q
  obtain ⟨n, h⟩ : ∃ n, postS C W P D (whileM t b n env) := by
    unfold mWhile at h
    split at h
    · exact ⟨_, h⟩
    · exact h.elim
  refine ⟨fun m σ H => ∃ P env fp, StOk C P env fp σ H ∧ postS C W P D (whileM t b m env), ⟨n, P, env, fp, s, h⟩, ?_⟩
  rintro m σ1 H1 ⟨P1, env1, fp1, s1, h1⟩
  cases m with
  | zero => exact h1.elim
  | succ m =>
    have h1 : liftS C W (t >>= fun c => if c then b >>= fun f => match f with
      | .nx => whileM t b m
      | .ct => whileM t b m
      | .bk => pure .nx
      | .rt r => pure (.rt r)
      else pure .nx) D σ1 H1 := ⟨P1, env1, fp1, s1, h1⟩
    refine liftS.seq h1 fun v env2 P2 fp2 H2 u s2 r2 q2 => ?_
    have e : u = v := r2
    subst e
    cases u with
    | false => exact q2 P2 fp2 σ1 H2 (Le.refl _) s2
    | true =>
      refine ⟨fun σ' H' => ∃ P env fp, StOk C P env fp σ' H' ∧ postS C W P D (whileM t b m env), fun σ' H' w => ⟨m, Nat.lt_succ_self _, w⟩, P2, env2, fp2, s2, ?_⟩
      have q3 : postS C W P2 D (Out.andThen (b env2) fun f => match f with
        | .nx => whileM t b m
        | .ct => whileM t b m
        | .bk => pure .nx
        | .rt r => pure (.rt r)) := q2
      cases eb : b env2 with
      | none => rw [eb] at q3; exact q3.elim
      | some o =>
        rw [eb] at q3
        cases o with
        | exc y e5 => exact q3
        | ok f e5 =>
          cases f with
          | nx => exact fun P5 fp5 σ5 H5 l5 s5 => ⟨P5, e5, fp5, s5, postS.mono l5 q3⟩
          | ct => exact fun P5 fp5 σ5 H5 l5 s5 => ⟨P5, e5, fp5, s5, postS.mono l5 q3⟩
          | bk => exact q3
          | rt r => exact q3
theorem whileM_more {t : M Bool} {b : M Fl} : ∀ {n m : Nat} {env : Env} {o : Out Fl}, whileM t b n env = some o → n ≤ m → whileM t b m env = some o
  | 0, _, _, _, h, _ => by cases h
  | n + 1, 0, _, _, _, h => by omega
  | n + 1, m + 1, env, o, h, hm => by
    have h : Out.andThen (t env) (fun c => if c then b >>= fun f => match f with
      | .nx => whileM t b n
      | .ct => whileM t b n
      | .bk => pure .nx
      | .rt r => pure (.rt r)
      else pure .nx) = some o := h
    show Out.andThen (t env) (fun c => if c then b >>= fun f => match f with
      | .nx => whileM t b m
      | .ct => whileM t b m
      | .bk => pure .nx
      | .rt r => pure (.rt r)
      else pure .nx) = some o
    cases et : t env with
    | none => rw [et] at h; cases h
    | some z =>
      rw [et] at h
      cases z with
      | exc y e => exact h
      | ok c e =>
        cases c with
        | false => exact h
        | true =>
          have h : Out.andThen (b e) (fun f => match f with
            | .nx => whileM t b n
            | .ct => whileM t b n
            | .bk => pure .nx
            | .rt r => pure (.rt r)) = some o := h
          show Out.andThen (b e) (fun f => match f with
            | .nx => whileM t b m
            | .ct => whileM t b m
            | .bk => pure .nx
            | .rt r => pure (.rt r)) = some o
          cases eb : b e with
          | none => rw [eb] at h; cases h
          | some z =>
            rw [eb] at h
            cases z with
            | exc y e => exact h
            | ok f e2 =>
              cases f with
              | nx => exact whileM_more (n := n) (m := m) h (by omega)
              | ct => exact whileM_more (n := n) (m := m) h (by omega)
              | bk => exact h
              | rt r => exact h
theorem mWhile_of {t : M Bool} {b : M Fl} {n : Nat} {env : Env} {o : Out Fl} (h : whileM t b n env = some o) : mWhile t b env = some o := by
  have hx : ∃ n, (whileM t b n env).isSome = true := ⟨n, by rw [h]; rfl⟩
  unfold mWhile
  rw [dif_pos hx]
  have h2 := Classical.choose_spec hx
  cases e : whileM t b (Classical.choose hx) env with
  | none => rw [e] at h2; cases h2
  | some o' =>
    rcases Nat.le_total n (Classical.choose hx) with l | l
    · rw [whileM_more h l] at e
      exact e.symm
    · rw [whileM_more e l] at h
      exact h
end
end TL
set_option Elab.async false
set_option linter.all false
set_option maxRecDepth 100000
set_option maxHeartbeats 1000000
namespace TL
open PySem PySem.Spec PyProof.Rows L2
/-! ### names of a comprehension of its own -/
def wipeE (env : Env) : List Nat → Env
  | [] => env
  | v :: vs => (wipeE env vs).set v none
def backE (env old : Env) : List Nat → Env
  | [] => env
  | v :: vs => (backE env old vs).set v (old[v]?.getD none)
/-- data, or nothing known -/
def flatAt (env : Env) (i : Nat) : Bool := match env[i]? with
  | some (some (.d _)) => true
  | some (some _) => false
  | _ => true
theorem wipeE_length (env : Env) : ∀ vs : List Nat, (wipeE env vs).length = env.length
  | [] => rfl
  | v :: vs => by unfold wipeE; rw [List.length_set, wipeE_length env vs]
theorem backE_length (env old : Env) : ∀ vs : List Nat, (backE env old vs).length = env.length
  | [] => rfl
  | v :: vs => by unfold backE; rw [List.length_set, backE_length env old vs]
theorem wipeE_some {env : Env} {i : Nat} {x : OV} : ∀ {vs : List Nat}, (wipeE env vs)[i]? = some (some x) → env[i]? = some (some x) ∧ i ∉ vs
  | [], h => ⟨h, by simp⟩
  | v :: vs, h => by
    unfold wipeE at h
    by_cases hi : v = i
    · subst hi
      by_cases hv : v < (wipeE env vs).length
      · rw [List.getElem?_set_self hv] at h; cases h
      · rw [List.getElem?_eq_none (by simpa using hv)] at h; cases h
    · rw [List.getElem?_set_ne hi] at h
      obtain ⟨h1, h2⟩ := wipeE_some h
      exact ⟨h1, by simp only [List.mem_cons, not_or]; exact ⟨fun e => hi e.symm, h2⟩⟩
theorem wipe_none {σ : L2.St} {i : Nat} : ∀ {vs : List Nat}, i ∉ vs → (wipe σ vs)[i]? = σ[i]? := fun h => wipe_out h
theorem backE_some {env old : Env} {i : Nat} {x : OV} (hl : old.length = env.length) : ∀ {vs : List Nat}, (backE env old vs)[i]? = some (some x) → (i ∈ vs ∧ old[i]? = some (some x)) ∨ (i ∉ vs ∧ env[i]? = some (some x))
  | [], h => .inr ⟨by simp, h⟩
  | v :: vs, h => by
    unfold backE at h
    by_cases hi : v = i
    · subst hi
      by_cases hv : v < (backE env old vs).length
      · rw [List.getElem?_set_self hv] at h
        refine .inl ⟨List.mem_cons_self, ?_⟩
        rw [backE_length] at hv
        have hv' : v < old.length := by omega
        rw [List.getElem?_eq_getElem hv'] at h ⊢
        exact h
      · rw [List.getElem?_eq_none (by simpa using hv)] at h; cases h
    · rw [List.getElem?_set_ne hi] at h
      rcases backE_some hl h with ⟨h1, h2⟩ | ⟨h1, h2⟩
      · exact .inl ⟨List.mem_cons_of_mem _ h1, h2⟩
      · exact .inr ⟨by simp only [List.mem_cons, not_or]; exact ⟨fun e => hi e.symm, h1⟩, h2⟩
theorem backE_set {env old : Env} {i : Nat} {x : Option OV} : ∀ {vs : List Nat}, (i ∈ vs → backE (env.set i x) old vs = backE env old vs) ∧ (i ∉ vs → backE (env.set i x) old vs = (backE env old vs).set i x)
  | [] => ⟨fun h => absurd h (by simp), fun _ => rfl⟩
  | v :: vs => by
    obtain ⟨h1, h2⟩ := @backE_set env old i x vs
    refine ⟨fun h => ?_, fun h => ?_⟩
    · show (backE (env.set i x) old vs).set v _ = (backE env old vs).set v _
      by_cases hm : i ∈ vs
      · rw [h1 hm]
      · have e : i = v := by
          rcases List.mem_cons.mp h with e | e
          · exact e
          · exact absurd e hm
        subst e
        rw [h2 hm, List.set_set]
    · have hv : v ≠ i := fun e => h (by rw [e]; exact List.mem_cons_self)
      have hm : i ∉ vs := fun m => h (List.mem_cons_of_mem _ m)
      show (backE (env.set i x) old vs).set v _ = ((backE env old vs).set v _).set i x
      rw [h2 hm, List.set_comm _ _ (Ne.symm hv)]
theorem backE_wipe {env old : Env} {vs : List Nat} : ∀ {ws : List Nat}, (∀ w ∈ ws, w ∈ vs) → backE (wipeE env ws) old vs = backE env old vs
  | [], _ => rfl
  | w :: ws, h => by
    show backE ((wipeE env ws).set w none) old vs = _
    rw [backE_set.1 (h w List.mem_cons_self)]
    exact backE_wipe fun z hz => h z (List.mem_cons_of_mem _ hz)
section
variable {X : Cx} {C : Cc} {W : WX} {pos : Pos} {P : Hp} {env : Env} {fp : Nat → List Addr} {σ : L2.St} {H : Hp}
theorem StOk.upd (s : StOk C P env fp σ H) {a : Addr} {u0 u : HO} (h0 : H a = some u0) (z0 : Fz u0) (hp : P a = none) (hF : C.F a = none) (hf : ∀ i, a ∉ fp i) : StOk C P env fp σ (L2.upd H a u) := by
  have ne : ∀ j b, b ∈ fp j → b ≠ a := fun j b hb z => hf j (by rw [← z]; exact hb)
  refine ⟨fun b o q => ?_, fun b o q => ?_, fun j w q => ?_, s.dis, fun j b hb => ?_, s.keep, fun t ht => ?_, s.len⟩
  · rw [upd_ne (fun z => by rw [z, hp] at q; cases q)]
    exact s.phi b o q
  · rw [upd_ne (fun z => by rw [z, hF] at q; cases q)]
    exact s.frm b o q
  · obtain ⟨w1, q1, q2⟩ := s.own j w q
    exact ⟨w1, q1, q2.frame (Le.refl _) fun b hb => upd_ne (ne j b hb)⟩
  · rw [upd_ne (ne j b hb)]
    exact s.fre j b hb
  · obtain ⟨ps, q1, q2⟩ := s.tabs t ht
    refine ⟨ps, ?_, q2⟩
    rw [upd_ne (fun z => ?_)]
    · exact q1
    · rw [z, h0] at q1
      cases q1
      exact z0
theorem StOk.wipes {P : Hp} {env : Env} {fp : Nat → List Addr} {σ : L2.St} {H : Hp} (s : StOk C P env fp σ H) {vs : List Nat} (hk : ∀ i ∈ vs, C.kp i = none) : StOk C P (wipeE env vs) fp (wipe σ vs) H := by
  refine ⟨s.phi, s.frm, fun i ov q => ?_, s.dis, s.fre, fun i v q => ?_, s.tabs, by rw [wipeE_length, wipe_length]; exact s.len⟩
  · obtain ⟨q1, q2⟩ := wipeE_some q
    obtain ⟨v, e, o⟩ := s.own i ov q1
    exact ⟨v, by rw [wipe_out q2]; exact e, o⟩
  · rw [wipe_out fun hm => by rw [hk i hm] at q; cases q]
    exact s.keep i v q
/-- the block's end: its names are let go, those of the same name around stand -/
theorem StOk.backs {P P0 : Hp} {env env0 : Env} {fp fp0 : Nat → List Addr} {σ : L2.St} {H H0 : Hp} (s : StOk C P env fp (wipe σ vs) H) (s0 : StOk C P0 env0 fp0 σ H0) (l : Le P0 P) (hfl : vs.all (flatAt env0) = true) :
    StOk C P (backE env env0 vs) (fun j => if j ∈ vs then [] else fp j) σ H := by
  have hl : env0.length = env.length := by rw [s0.len, s.len, wipe_length]
  refine ⟨s.phi, s.frm, fun i ov q => ?_, fun i j a h1 h2 => ?_, fun i a h => ?_, fun i v q => s0.keep i v q, s.tabs, by rw [backE_length, s.len, wipe_length]⟩
  · rcases backE_some hl q with ⟨q1, q2⟩ | ⟨q1, q2⟩
    · have hf := List.all_eq_true.mp hfl i q1
      unfold flatAt at hf
      rw [q2] at hf
      cases ov with
      | d x =>
        obtain ⟨v, e, o⟩ := s0.own i _ q2
        exact ⟨v, e, by rw [if_pos q1]; exact .d (l.dp o.dp)⟩
      | _ => cases hf
    · obtain ⟨v, e, o⟩ := s.own i ov q2
      rw [wipe_out q1] at e
      exact ⟨v, e, by rw [if_neg q1]; exact o⟩
  · by_cases hi : i ∈ vs
    · rw [if_pos hi] at h1; cases h1
    · by_cases hj : j ∈ vs
      · rw [if_pos hj] at h2; cases h2
      · rw [if_neg hi] at h1
        rw [if_neg hj] at h2
        exact s.dis i j a h1 h2
  · by_cases hi : i ∈ vs
    · rw [if_pos hi] at h; cases h
    · rw [if_neg hi] at h
      exact s.fre i a h
/-! ### [elt for tg in iter if t] -/
def W0 : WX := fun _ _ _ _ => False
def compM (vs : List Nat) (g : PyData → M Unit) (t : M Bool) (elt : M PyData) : List PyData → List PyData → M (List PyData)
  | [], acc => fun env => some (.ok acc env)
  | x :: xs, acc => fun env0 => (g x >>= fun _ => t >>= fun c => if c then elt >>= fun y => (if acc.length < sizeLine then fun env => compM vs g t elt xs (acc ++ [y]) env else fun _ => none) else fun env => compM vs g t elt xs acc env) (wipeE env0 vs)
def mComp (vs : List Nat) (mi : M (List PyData)) (g : PyData → M Unit) (t : M Bool) (elt : M PyData) : M OV := mi >>= fun xs => fun env1 =>
  if vs.all (flatAt env1) then (match compM vs g t elt xs [] env1 with
    | some (.ok acc env2) => some (.ok (.lst acc) (backE env2 env1 vs))
    | _ => none) else none
theorem PTs.imp {ifs : List Expr} {t t' : TT} (h : PTs X ifs t) (i : ∀ σ H Q, t' σ H Q → t σ H Q) : PTs X ifs t' := ⟨fun pins s σ H Q I q => h.run pins s σ H Q I (i σ H Q q)⟩
theorem sTs_nil : PTs X [] (liftT C W (pure true)) := PTs.imp pts_nil fun σ H Q q => by
  obtain ⟨P, env, fp, s, h⟩ := q
  exact h P fp H true (Le.refl _) s rfl
theorem sTs_one {c : Expr} {t : M Bool} (h : PT X c (liftT C W t)) : PTs X [c] (liftT C W t) := pts_one h
/-- a block's context -/
abbrev blkN (X : Cx) (s : Shared) (H : Hp) (scope : Scope) (c : Addr) (cl : List (Str × Addr)) (fp : List Addr) : Cx := X.blk s H scope (compEnvC scope cl c X.env) fp
/-- the readings within a block, whatever stands beside -/
structure BlkR (X : Cx) (C : Cc) (scope : Scope) (vs : List Nat) (tg : Expr) (ifs : List Expr) (elt : Expr) (g : PyData → M Unit) (t : M Bool) (m : M PyData) : Prop where
  tg : ∀ (s : Shared) (H : Hp) (c : Addr) (cl : List (Str × Addr)) (fp : List Addr) (F : Hp), PG (blkN X s H scope c cl fp) tg (liftPG (C.withF F) vs g)
  ifs : ∀ (s : Shared) (H : Hp) (c : Addr) (cl : List (Str × Addr)) (fp : List Addr) (F : Hp), PTs (blkN X s H scope c cl fp) ifs (liftT (C.withF F) W0 t)
  elt : ∀ (s : Shared) (H : Hp) (c : Addr) (cl : List (Str × Addr)) (fp : List Addr) (F : Hp), PE (blkN X s H scope c cl fp) elt (liftD (C.withF F) W0 m)
theorem PG.exF {α : Type} {tg : Expr} {t : α → TG} (h : ∀ F, PG X tg (t F)) : PG X tg (fun v σ H Q => ∃ F, t F v σ H Q) := ⟨fun pins s σ H v u Q I r ⟨F, q⟩ => (h F).run pins s σ H v u Q I r q⟩
theorem PTs.exF {α : Type} {ifs : List Expr} {t : α → TT} (h : ∀ F, PTs X ifs (t F)) : PTs X ifs (fun σ H Q => ∃ F, t F σ H Q) := ⟨fun pins s σ H Q I ⟨F, q⟩ => (h F).run pins s σ H Q I q⟩
theorem PE.exF {α : Type} {e : Expr} {t : α → TE} (h : ∀ F, PE X e (t F)) : PE X e (fun σ H Q => ∃ F, t F σ H Q) := ⟨fun pins s σ H Q I ⟨F, q⟩ => (h F).run pins s σ H Q I q⟩
/-- one address aside -/
def one (D : Addr) (o : HO) : Hp := fun b => if b = D then some o else none
theorem one_at {D : Addr} {o : HO} : one D o D = some o := if_pos rfl
theorem one_ne {D b : Addr} {o : HO} (h : b ≠ D) : one D o b = none := if_neg h
theorem Beside.mk1 {P : Hp} {fp : Nat → List Addr} {H : Hp} {D : Addr} {o : HO} (h : H D = some o) (z : Fz o) (hp : P D = none) (hF : C.F D = none) (hf : ∀ i, D ∉ fp i) : Beside C P fp H (one D o) := by
  refine ⟨fun b u q => ?_, fun i b hb => one_ne fun e => hf i (by rw [← e]; exact hb)⟩
  by_cases hb : b = D
  · subst hb
    rw [one_at] at q
    cases q
    exact ⟨h, z, hp, hF⟩
  · rw [one_ne hb] at q
    cases q
theorem Beside.of1 {P : Hp} {fp : Nat → List Addr} {H : Hp} {D : Addr} {o : HO} (b : Beside C P fp H (one D o)) : H D = some o ∧ P D = none ∧ C.F D = none ∧ ∀ i, D ∉ fp i :=
  ⟨(b.at_ D o one_at).1, (b.at_ D o one_at).2.2.1, (b.at_ D o one_at).2.2.2, fun i hi => by have := b.fp i D hi; rw [one_at] at this; cases this⟩
theorem wipe_wipe {σ : L2.St} {vs : List Nat} : wipe (wipe σ vs) vs = wipe σ vs := by
  have h : ∀ ws : List Nat, (∀ w ∈ ws, w ∈ vs) → wipe (wipe σ ws) vs = wipe σ vs := by
    intro ws
    induction ws with
    | nil => intro _; rfl
    | cons w ws ih =>
      intro hw
      show wipe ((wipe σ ws).set w none) vs = _
      rw [wipe_set (hw w List.mem_cons_self)]
      exact ih fun z hz => hw z (List.mem_cons_of_mem _ hz)
  exact h vs fun w hw => hw
theorem lcR {scope : Scope} {own : List (Str × Nat)} {tg iter elt : Expr} {ifs : List Expr} {mi : M (List PyData)} {g : PyData → M Unit} {t : M Bool} {m : M PyData} (h0 : GOk g) (hk : ∀ i ∈ own.map (·.2), C.kp i = none) {σ : L2.St} {H : Hp} {Q : VK} (q : liftE C W (mComp (own.map (·.2)) mi g t m) σ H Q) :
    tLc (liftI C W mi) (fun v σ H Q => ∃ F, liftPG (C.withF F) (own.map (·.2)) g v σ H Q) (fun σ H Q => ∃ F, liftT (C.withF F) W0 t σ H Q) (fun σ H Q => ∃ F, liftD (C.withF F) W0 m σ H Q) (own.map (·.2)) σ H Q := by
  generalize hvs : own.map (·.2) = vs at q hk ⊢
  obtain ⟨P, env, fp, s, h⟩ := q
  have h : postG C W (rOV C) P Q σ (Out.andThen (mi env) fun xs => fun env1 => if vs.all (flatAt env1) then (match compM vs g t m xs [] env1 with
    | some (.ok acc env2) => some (.ok (.lst acc) (backE env2 env1 vs))
    | _ => none) else none) := h
  refine ⟨P, env, fp, s, ?_⟩
  cases em : mi env with
  | none => rw [em] at h; exact h.elim
  | some o =>
    rw [em] at h
    cases o with
    | exc y e1 => exact h
    | ok xs e1 =>
      intro P1 fp1 H1 J l1 s1 wk D hD
      have h : postG C W (rOV C) P Q σ (if vs.all (flatAt e1) then (match compM vs g t m xs [] e1 with
        | some (.ok acc env2) => some (.ok (.lst acc) (backE env2 e1 vs))
        | _ => none) else none) := h
      by_cases hfl : vs.all (flatAt e1) = true
      · rw [if_pos hfl] at h
        cases er : compM vs g t m xs [] e1 with
        | none => rw [er] at h; exact h.elim
        | some o =>
          rw [er] at h
          cases o with
          | exc y e2 => exact h.elim
          | ok racc renv =>
            have h1 : postG C W (rOV C) P1 Q σ (some (.ok (.lst racc) (backE renv e1 vs))) := postG.mono l1 h
            obtain ⟨s2, t2⟩ := s1.newt hD (u := .lst []) trivial
            have s2w := s2.wipes hk
            have b2 : Beside C P1 fp1 (L2.upd H1 D (.lst [])) (one D (.lst [])) := Beside.mk1 upd_same trivial (t2.fre D List.mem_cons_self).1 (t2.fre D List.mem_cons_self).2 fun i hi => t2.dis i D hi List.mem_cons_self
            refine ⟨fun i n H => n = xs.length - i ∧ i ≤ xs.length ∧ ∃ P fp acc vacc en, Le P1 P ∧ StOk C P (wipeE en vs) fp (wipe σ vs) H ∧ Beside C P fp H (one D (.lst vacc)) ∧ DpAll K0 P vacc acc ∧ compM vs g t m (xs.drop i) acc en = some (.ok racc renv), ⟨xs.length, rfl, Nat.zero_le _, P1, fp1, [], [], e1, Le.refl _, s2w, b2, .nil, er⟩, ?_⟩
            rintro i n H2 ⟨rfl, hi, P2, fp2, acc, vacc, en, l2, st2, bs2, da, run⟩
            have hold := st2.hold bs2
            obtain ⟨w1, w2⟩ := wk i P2 (wipeE en vs) fp2 (join C.F (one D (.lst vacc))) (wipe σ vs) H2 l2 hold
            by_cases hlt : i < xs.length
            · refine .inr ?_
              obtain ⟨go, yl⟩ := w2 xs[i] (by simp [hlt])
              rw [List.drop_eq_getElem_cons hlt] at run
              have run : Out.andThen (g xs[i] (wipeE en vs)) (fun _ => t >>= fun c => if c then m >>= fun y => (if acc.length < sizeLine then fun env => compM vs g t m (xs.drop (i + 1)) (acc ++ [y]) env else fun _ => none) else fun env => compM vs g t m (xs.drop (i + 1)) acc env) = some (.ok racc renv) := run
              refine ⟨go, fun H3 => ∃ P fp acc vacc en, Le P1 P ∧ StOk C P (wipeE en vs) fp (wipe σ vs) H3 ∧ Beside C P fp H3 (one D (.lst vacc)) ∧ DpAll K0 P vacc acc ∧ compM vs g t m (xs.drop (i + 1)) acc en = some (.ok racc renv), fun H' w => ⟨xs.length - (i + 1), by omega, rfl, hlt, w⟩, fun v H' y => ?_⟩
              obtain ⟨P3, l3, s3, d3⟩ := yl v H' y
              cases eg : g xs[i] (wipeE en vs) with
              | none => rw [eg] at run; cases run
              | some o =>
                obtain ⟨env3, rfl⟩ := h0 _ _ _ eg
                rw [eg] at run
                have run : Out.andThen (t env3) (fun c => if c then m >>= fun y => (if acc.length < sizeLine then fun env => compM vs g t m (xs.drop (i + 1)) (acc ++ [y]) env else fun _ => none) else fun env => compM vs g t m (xs.drop (i + 1)) acc env) = some (.ok racc renv) := run
                refine ⟨join C.F (one D (.lst vacc)), P3, wipeE en vs, fp2, xs[i], env3, s3, d3, eg, fun P4 fp4 σ4 H4 l4 s4 w4 => ?_⟩
                have w4 : wipe σ4 vs = wipe (wipe σ vs) vs := w4
                have ww : wipe (wipe σ vs) vs = wipe σ vs := wipe_wipe
                refine ⟨w4.trans ww, join C.F (one D (.lst vacc)), P4, env3, fp4, s4, ?_⟩
                cases et : t env3 with
                | none => rw [et] at run; cases run
                | some o =>
                  rw [et] at run
                  cases o with
                  | exc y e => cases run
                  | ok c env5 =>
                    intro P5 fp5 H5 b l5 s5 r5
                    have rb : b = c := r5
                    subst rb
                    cases b with
                    | false =>
                      refine (?_ : (if false = true then _ else _))
                      rw [if_neg Bool.false_ne_true]
                      have s6 := s5.unhold.wipes hk
                      rw [w4, ww] at s6
                      have b6 := s5.besides bs2
                      exact ⟨P5, fp5, acc, vacc, env5, ((l2.trans l3).trans l4).trans l5, s6, b6, ((l3.trans l4).trans l5).dpAll da, run⟩
                    | true =>
                      rw [if_pos rfl]
                      have run : Out.andThen (m env5) (fun y => (if acc.length < sizeLine then fun env => compM vs g t m (xs.drop (i + 1)) (acc ++ [y]) env else fun _ => none)) = some (.ok racc renv) := run
                      refine ⟨join C.F (one D (.lst vacc)), P5, env5, fp5, s5, ?_⟩
                      cases ee : m env5 with
                      | none => rw [ee] at run; cases run
                      | some o =>
                        rw [ee] at run
                        cases o with
                        | exc y e => cases run
                        | ok y env6 =>
                          have run : (if acc.length < sizeLine then fun env => compM vs g t m (xs.drop (i + 1)) (acc ++ [y]) env else fun _ => none) env6 = some (.ok racc renv) := run
                          by_cases hz : acc.length < sizeLine
                          · rw [if_pos hz] at run
                            intro P6 fp6 H6 v6 l6 s6 r6
                            have s7 := s6.unhold.wipes hk
                            rw [w4, ww] at s7
                            have b6 := s6.besides bs2
                            obtain ⟨hD6, hP6, hF6, hf6⟩ := b6.of1
                            refine ⟨vacc, hD6, by rw [dpAll_length da]; exact hz, P6, fp6, acc ++ [y], vacc ++ [v6], env6, (((l2.trans l3).trans l4).trans l5).trans l6, s7.upd hD6 trivial hP6 hF6 hf6, Beside.mk1 upd_same trivial hP6 hF6 hf6, dpAll_append ((((l3.trans l4).trans l5).trans l6).dpAll da) (.cons r6 .nil), run⟩
                          · rw [if_neg hz] at run
                            cases run
            · have e : i = xs.length := by omega
              subst e
              refine .inl ⟨w1 (Nat.le_refl _), ?_⟩
              rw [List.drop_length] at run
              have run : (some (.ok acc en) : Option (Out (List PyData))) = some (.ok racc renv) := run
              cases run
              obtain ⟨hD2, hP2, hF2, hf2⟩ := bs2.of1
              have s3 := st2.backs s1 l2 hfl
              rw [backE_wipe fun w hw => hw] at s3
              refine h1 P2 _ H2 (.ref D) l2 s3 ⟨[D], .lst hD2 da, ⟨fun j b hb hm => ?_, fun b hm => ?_⟩⟩
              · have e := List.mem_singleton.mp hm
                subst e
                by_cases hj : j ∈ vs
                · rw [if_pos hj] at hb; cases hb
                · rw [if_neg hj] at hb
                  exact hf2 j hb
              · rw [List.mem_singleton.mp hm]
                exact ⟨hP2, hF2⟩
      · rw [if_neg hfl] at h
        exact h.elim
/-- [elt for tg in iter if ..] -/
theorem sE_lc {scope : Scope} {own : List (Str × Nat)} {tg iter elt : Expr} {ifs : List Expr} {mi : M (List PyData)} {g : PyData → M Unit} {t : M Bool} {m : M PyData} (hc : X.calm = true) (hN : X.N.Nodup) (hi : PI X tg iter (liftI C W mi)) (ok : BlkOk X.N X.env.scope scope own) (r : BlkR X C scope (own.map (·.2)) tg ifs elt g t m)
    (h0 : GOk g) (hk : ∀ i ∈ own.map (·.2), C.kp i = none) (hs : ∀ x, foldedSetIterable iter X.env x = pure x) : PE X (.ListComp elt [⟨tg, iter, ifs, 0⟩] scope pos) (liftE C W (mComp (own.map (·.2)) mi g t m)) :=
  PE.imp (pe_lc hc hN hi ok (fun s H c cl fp => PG.exF (r.tg s H c cl fp)) (fun s H c cl fp => PTs.exF (r.ifs s H c cl fp)) (fun s H c cl fp => PE.exF (r.elt s H c cl fp)) hs) fun σ H Q q => lcR (scope := scope) (elt := elt) (tg := tg) (iter := iter) (ifs := ifs) h0 hk q
/-- x = [..] on one line -/
theorem sS_setLc {i : Nat} {y : Str} {py spos : Pos} {scope : Scope} {own : List (Str × Nat)} {tg iter elt : Expr} {ifs : List Expr} {mi : M (List PyData)} {g : PyData → M Unit} {t : M Bool} {m : M PyData} (hc : X.calm = true) (hN : X.N.Nodup) (hy : X.N[i]? = some y) (hyl : X.env.scope.names.lookup y = some .local) (hky : C.kp i = none)
    (hsw : swapsWith (.ListComp elt [⟨tg, iter, ifs, 0⟩] scope pos) (some (.Name y py)) spos.line X.env = pure true) (hi : PI X tg iter (liftI C W mi)) (ok : BlkOk X.N X.env.scope scope own) (r : BlkR X C scope (own.map (·.2)) tg ifs elt g t m)
    (h0 : GOk g) (hk : ∀ i ∈ own.map (·.2), C.kp i = none) (hs : ∀ x, foldedSetIterable iter X.env x = pure x) : PS X (.Assign [.Name y py] (.ListComp elt [⟨tg, iter, ifs, 0⟩] scope pos) spos) (liftS C W (mSet i (mComp (own.map (·.2)) mi g t m))) :=
  PS.imp (ps_setLc hc hN hy hyl hsw hi ok (fun s H c cl fp => PG.exF (r.tg s H c cl fp)) (fun s H c cl fp => PTs.exF (r.ifs s H c cl fp)) (fun s H c cl fp => PE.exF (r.elt s H c cl fp)) hs) fun D σ H q => by
    refine lcR (scope := scope) (elt := elt) (tg := tg) (iter := iter) (ifs := ifs) h0 hk (Q := fun x H1 => gName i x σ H1 D.nx) ?_
    exact liftS.seq q fun a env' P' fp' H' v s r q => by
      obtain ⟨ft, o, t⟩ := r
      obtain ⟨fp2, s2⟩ := s.store hky o t
      exact q P' fp2 _ H' (Le.refl _) s2
end
end TL
set_option Elab.async false
set_option linter.all false
set_option maxRecDepth 100000
set_option maxHeartbeats 1000000
namespace TL
open PySem PySem.Spec PyProof.Rows L2 GenW GxR
/-! ### all(elt for tg in iter) -/
/-- the generator expression's scope: no cells of its own -/
structure GenSc (X : Cx) (scope : Scope) (own : List (Str × Nat)) : Prop where
  blk : BlkOk X.N X.env.scope scope own
  co : scope.isCoroutine = false
  cell : ∀ y ∈ scope.names, y.2 ≠ .cell
  dot : scope.names.lookup (".0" : Str) = some NameKind.local
/-- a generator's frame, made at s4 -/
abbrev genX (X : Cx) (s4 : Shared) (H : Hp) (cenv : PySem.Env) (fp : List Addr) : Cx :=
  { X with A := X.A.in1.in1.deeper cenv, s_0 := s4, H_0 := H, env := cenv, outer := X.stack, stack := cenv :: X.stack, ex := fp, fn := fun _ => false, pn := [], xe := fun _ _ => False }
abbrev genN (X : Cx) (s4 : Shared) (H : Hp) (scope : Scope) (code : Value) (fp : List Addr) : Cx :=
  genX X s4 H (genEnv scope (cloFrom X.env.cells scope.names []) s4.heap.objs.size code builtinsNs X.env) fp
theorem Room.gen {k : Nat} {X : Cx} (r : Room (k + 1) X.A) (env : PySem.Env) : Room k (X.A.in1.in1.deeper env) :=
  ⟨r.hd, by have := r.dp; show X.A.depth + 1 + 3 * k + 5 < _; omega, by have := r.un; show X.A.units + 1 + 1 + 3 + 16 * k + 200 < _; omega⟩
section
variable {X : Cx} {pins : List (Addr × Obj)} {σ : L2.St} {H : Hp} {s4 : Shared}
theorem gen_start {scope : Scope} {own : List (Str × Nat)} {fp : List Addr} {code it : Value} {h' : Heap} {g' : Array GenState} {tk : Nat} {gobj : Obj} (I : Inv X pins σ H s4) (G : GenSc X scope own) (hN : X.N.Nodup)
    (hfp : ∀ b ∈ fp, FpOk X pins H b ∧ b < s4.heap.objs.size) (hn : h'.Ns s4.heap.objs.size (fun y => if y = ".0" then some it else none)) (hs : Heap.SameBut s4.heap.objs.size (s4.heap.push { cls := .type "frame", data := .dict #[] }) h')
    (hg : AllBare g') (hgc : ∀ v, gobj.data ≠ .cell v) (hgf : gobj.isFreed = false) :
    Inv (genN X s4 H scope code fp) [(h'.objs.size, gobj)] (wipe σ (own.map (·.2))) H { s4 with gens := g', toks := tk, heap := h'.push gobj } := by
  have ok := G.blk
  have hfree : ∀ y ∈ scope.names, y.2 = .free → ∃ c, X.env.cells.lookup y.1 = some c := fun y hy e => by
    rcases ok.free y hy e with k | k
    · exact I.ok.has _ (.inl k)
    · exact I.ok.has _ (.inr k)
  have hsz : h'.objs.size = s4.heap.objs.size + 1 := by rw [hs.1, Heap.size_push]
  have kp : ∀ b o, s4.heap.get? b = some o → (h'.push gobj).get? b = some o := fun b o e => Heap.get?_push_of_some _ (hs.extBut b o (Nat.ne_of_lt (Heap.lt_size e)) (Heap.get?_push_of_some _ e))
  have cm : ∀ {y c}, (y, c) ∈ cloFrom X.env.cells scope.names [] → X.env.cells.lookup y = some c ∧ c < s4.heap.objs.size := fun {y c} hm => by
    rcases cloFrom_mem hm with hm | ⟨h1, rfl⟩
    · cases hm
    · obtain ⟨c, hc⟩ := hfree _ h1 rfl
      rw [hc]
      obtain ⟨w, z⟩ := I.cell _ _ hc
      exact ⟨rfl, z.lt⟩
  have look : ∀ {y}, scope.names.lookup y = some .free → ∃ c, (cloFrom X.env.cells scope.names []).lookup y = some c ∧ X.env.cells.lookup y = some c := fun {y} hl => by
    have hy : (y, NameKind.free) ∈ scope.names := PySem.mem_of_lookup hl
    obtain ⟨c', e'⟩ := mem_lookup (cloFrom_has (cells := X.env.cells) (acc := []) hy)
    exact ⟨c', e', (cm (PySem.mem_of_lookup e')).1⟩
  have okB : (genN X s4 H scope code fp).Ok := by
    refine ⟨I.ok.mod, ok.kind, I.ok.glob, rfl, Nat.le_refl _, fun y z c e1 e2 => ?_, fun y hy => ?_, fun y c z e => (by cases z), fun hc => I.ok.hd hc, ?_, .inr ⟨rfl, rfl⟩, fun b hb => ⟨?_, fun y c e z => ?_⟩, I.bs, Nat.le_trans I.ok.bsz I.sz,
      fun b o e hb => ?_, fun b hb z => ?_, I.stack, I.stkFree⟩
    · exact I.ok.inj y z c (cm (PySem.mem_of_lookup e1)).1 (cm (PySem.mem_of_lookup e2)).1
    · rcases hy with hy | hy
      · exact absurd rfl (G.cell _ (PySem.mem_of_lookup hy))
      · obtain ⟨c, h1, _⟩ := look hy
        exact ⟨c, h1⟩
    · show X.A.frames.map _ = _
      rw [I.ok.frames]
      rfl
    · exact Nat.ne_of_lt (hfp b hb).2
    · exact (hfp b hb).1.2.2.2.2.1 y c (cm (PySem.mem_of_lookup e)).1 z
    · rcases (hfp b hb).1.2.2.2.1 with z | z
      · exact I.ok.noex b o e z
      · exact absurd (Nat.lt_of_lt_of_le (Heap.lt_size e) (Nat.le_trans I.ok.bsz z)) (Nat.lt_irrefl _)
    · rcases List.mem_cons.mp (I.stkSub b z) with z | z
      · exact (hfp b hb).1.2.1 z
      · exact (hfp b hb).1.2.2.1 z
  refine ⟨okB, rfl, hg, Un.kept kp, ⟨_, hn.push _, fun i y av e1 e2 e3 => ?_⟩, fun y c e => ?_, I.hok.fresh (Nat.le_refl _), fun y c e => I.freeC y c (cm (PySem.mem_of_lookup e)).1, fun p hp => ?_, I.hok.kept kp, by rw [wipe_length]; exact I.len⟩
  · obtain ⟨e2, hne⟩ := wipe_some e2
    have no : ∀ k, scope.names.lookup y = some k → ¬ (k = .local ∨ k = .cell) := fun k e hh => by
      rcases ok.own _ (PySem.mem_of_lookup e) hh with e' | e'
      · obtain ⟨p, hp, hpy⟩ := List.mem_map.mp e'
        have e3 := ok.ix p hp
        have : p.1 = y := hpy
        rw [this] at e3
        exact hne (List.mem_map.mpr ⟨p, hp, nodup_ix hN e3 e1⟩)
      · exact e' (List.mem_of_getElem? e1)
    have hfr : scope.names.lookup y = some .free := by
      have e3 : Vis scope y := e3
      rcases e3 with e3 | e3 | e3
      · exact absurd (.inl rfl) (no _ e3)
      · exact absurd (.inr rfl) (no _ e3)
      · exact e3
    obtain ⟨m, hnm, hl⟩ := I.loc
    have hvis : Vis X.env.scope y := (ok.free _ (PySem.mem_of_lookup hfr) rfl).elim (fun k => .inr (.inl k)) (fun k => .inr (.inr k))
    obtain ⟨w, r, q⟩ := hl i y av e1 e2 hvis
    refine ⟨w, r, .inr ⟨.inr hfr, ?_⟩⟩
    obtain ⟨c, h1, h2⟩ := look hfr
    rcases q with ⟨k, _⟩ | ⟨_, c', e', z⟩
    · have k : X.env.scope.names.lookup y = some .local := k
      rcases ok.free _ (PySem.mem_of_lookup hfr) rfl with k' | k' <;> rw [show X.env.scope.names.lookup y = _ from k'] at k <;> cases k
    · rw [h2] at e'; cases e'
      exact ⟨c, h1, z.keeps kp⟩
  · obtain ⟨w, z⟩ := I.cell y c (cm (PySem.mem_of_lookup e)).1
    exact ⟨w, z.keeps kp⟩
  · have hp : p ∈ ([] : List (Addr × Obj)) ++ [(h'.objs.size, gobj)] := hp
    rw [List.nil_append] at hp
    rw [List.mem_singleton.mp hp]
    refine ⟨Heap.get?_push_size _ hgf, I.hok.fresh (by rw [hsz]; exact Nat.le_succ _), by show h'.objs.size ≠ s4.heap.objs.size; omega, fun z => ?_, hgc⟩
    obtain ⟨_, o, ho, _⟩ := I.stack.mem z
    have := Heap.lt_size ho
    have z2 : h'.objs.size < s4.heap.objs.size := this
    omega
end
theorem over_gen {A : Around} {elt tg iter : Expr} {scope : Scope} {pos : Pos} {it : Value} {cenv : PySem.Env} : A.over (.compLoop (.GeneratorExp elt [⟨tg, iter, [], 0⟩] scope pos) 0 it .none cenv) [] = A.deeper cenv := by
  first
    | rfl
    | (obtain ⟨hd, d, fr, gs, u⟩ := A; simp [Around.over, Around.deeper, marksOver, frameCount, unitsOf, envsOf, guardsOf, pushEnvs, pushGuards, Code.envs, Code.env?, Code.isFrame, Code.guards, Code.isGuard, Code.weight, Code.frames, Code.isCreation, Code.isCaller, Code.cUnits])
theorem over_genS {A : Around} {elt tg iter : Expr} {scope : Scope} {pos : Pos} {it : Value} {cenv : PySem.Env} : A.over (.compStart (.GeneratorExp elt [⟨tg, iter, [], 0⟩] scope pos) 0 it .none cenv) [] = A.deeper cenv := by
  first
    | rfl
    | (obtain ⟨hd, d, fr, gs, u⟩ := A; simp [Around.over, Around.deeper, marksOver, frameCount, unitsOf, envsOf, guardsOf, pushEnvs, pushGuards, Code.envs, Code.env?, Code.isFrame, Code.guards, Code.isGuard, Code.weight, Code.frames, Code.isCreation, Code.isCaller, Code.cUnits])
/-- it has run out -/
def FG (Y : Cx) (pl : List (Addr × Obj)) (σw : L2.St) (Q : VK) : Nat → Shared → Shared → Prop := fun _ _ s => ∃ H, Inv Y pl σw H s ∧ Q (.bl true) H
def RG (Y : Cx) (pl : List (Addr × Obj)) (σw : L2.St) (Q : VK) : GenEnd := fun n s₀ r s => ((r = .ok (.ret .none) ∨ r = .ok .next) ∧ FG Y pl σw Q n s₀ s) ∨ ∃ e, r = .error e ∧ False
/-- it hands out one bool -/
def YG (Y : Cx) (pl : List (Addr × Obj)) (Q : VK) : Protocol := fun _ _ v s kap => ∃ b σ H, v = .bool b ∧ Inv Y pl σ H s ∧
  if b = true then ∀ s'', s''.heap = s.heap → s''.os = s.os → AllBare s''.gens → kap (.send .none) s'' else Q (.bl false) H
theorem inv_same {Y : Cx} {pl : List (Addr × Obj)} {σ : L2.St} {H : Hp} {s s' : Shared} (I : Inv Y pl σ H s) (h : s'.heap = s.heap) (o : s'.os = s.os) (g : AllBare s'.gens) : Inv Y pl σ H s' :=
  ⟨I.ok, o.trans I.os, g, by rw [h]; exact I.base, by rw [h]; exact I.loc, by rw [h]; exact I.cell, I.free, I.freeC, by rw [h]; exact I.pin, by rw [h]; exact I.hok, I.len⟩
section
variable {X : Cx}
def tAllG (P : Addr) (wi : TI) (g : TG) (te : TE) (vs : List Nat) : TE := fun σ H Q => wi σ H fun J H1 => TabG H1 P ∧ ∀ H2, Tabbed P H1 H2 → ∃ W : Nat → Nat → Hp → Prop, (∃ m, W 0 m H2) ∧ ∀ i m H, W i m H →
  (J.stop i H ∧ Q (.bl true) H) ∨ (J.go i H ∧ ∃ Nx : Hp → Prop, (∀ H', Nx H' → ∃ m', m' < m ∧ W (i + 1) m' H') ∧ ∀ x H', J.yld i H x H' → g x (wipe σ vs) H' fun σ2 H2 => wipe σ2 vs = wipe σ vs ∧
    te σ2 H2 fun y H3 => ∃ b, y = .bl b ∧ if b = true then Nx H3 else Q (.bl false) H3)
theorem seg_all {elt tg iter : Expr} {scope : Scope} {gpos : Pos} {J : It} {fp : List Addr} {it : Addr} {tn : Nat → Heap → Prop} {W : Nat → Nat → Hp → Prop} {g : TG} {te : TE} {vs : List Nat} {σ : L2.St} {Q : VK} {s4 : Shared} {H4 : Hp} {cenv : PySem.Env} {pl : List (Addr × Obj)}
    (hc : X.calm = true) (hco : cenv.scope.isCoroutine = false) (T : Turn X.prog X.w X.K tg J fp it tn) (pg : PG (genX X s4 H4 cenv fp) tg g) (pe : PE (genX X s4 H4 cenv fp) elt te)
    (hpl : ∀ b ∈ fp, ∀ p ∈ pl, p.1 ≠ b)
    (turn : ∀ i m H, W i m H → (J.stop i H ∧ Q (.bl true) H) ∨ (J.go i H ∧ ∃ Nx : Hp → Prop, (∀ H', Nx H' → ∃ m', m' < m ∧ W (i + 1) m' H') ∧ ∀ x H', J.yld i H x H' → g x (wipe σ vs) H' fun σ2 H2 => wipe σ2 vs = wipe σ vs ∧
      te σ2 H2 fun y H3 => ∃ b, y = .bl b ∧ if b = true then Nx H3 else Q (.bl false) H3)) :
    ∀ (n i m : Nat) (s₀ s : Shared) (H : Hp), m < n → Inv (genX X s4 H4 cenv fp) pl (wipe σ vs) H s → tn i s.heap → (∀ b ∈ fp, H b = none) → W i m H →
      Seg (model X.prog X.w) X.A.in1.in1 (RG (genX X s4 H4 cenv fp) pl (wipe σ vs) Q) (YG (genX X s4 H4 cenv fp) pl Q) n s₀ (.compLoop (.GeneratorExp elt [⟨tg, iter, [], 0⟩] scope gpos) 0 (.ref it) .none cenv)
        ((model X.prog X.w).den (.compLoop (.GeneratorExp elt [⟨tg, iter, [], 0⟩] scope gpos) 0 (.ref it) .none cenv)) [] s := by
  have stat : ∀ {σ' : L2.St} {H' : Hp} {s' : Shared}, Inv (genX X s4 H4 cenv fp) pl σ' H' s' → (∀ b ∈ fp, H' b = none) → ∀ b ∈ fp, FpOk (genX X s4 H4 cenv fp) pl H' b := fun {σ' H' s'} I' hn b hb =>
    ⟨hn b hb, (I'.ok.exf b hb).1, I'.ok.exfs b hb, .inl hb, fun x c e => (I'.ok.exf b hb).2 x c e, fun p hp => hpl b hb p (by simpa using hp)⟩
  intro n
  induction n with
  | zero => intro i m s₀ s H hm; omega
  | succ n ih =>
    intro i m s₀ s H hm I st fr w
    show Seg _ _ _ _ _ s₀ _ ((compTurn (.GeneratorExp elt [⟨tg, iter, [], 0⟩] scope gpos) 0 (.ref it) .none cenv).onRaise (leaving cenv)) [] s
    rw [compTurn_gen, Sem.onRaise_eq_wrap]
    refine seg_bind_wrap (wpAny_standAt ?_)
    rcases turn i m H w with ⟨stop, qq⟩ | ⟨go, Nx, hNx, step⟩
    · refine seg_bind_wrap ?_
      rw [over_gen]
      refine wpAny_mono (T.done (genX X s4 H4 cenv fp) rfl rfl rfl hc i pl s _ H (fun _ _ => False) I (stat I fr) st stop) (fun r s6 hr => ?_) fun _ _ z => z.elim
      obtain ⟨rfl, I6⟩ := hr
      exact seg_end (.ok .next) (.inl ⟨.inr rfl, H, I6, qq⟩)
    · refine seg_bind_wrap ?_
      rw [over_gen]
      refine wpAny_mono (T.item (genX X s4 H4 cenv fp) rfl rfl rfl hc i pl s _ H (fun _ _ => False) I (stat I fr) st go) (fun r s6 hr => ?_) fun _ _ z => z.elim
      obtain ⟨u, rfl, h6⟩ := hr
      refine seg_bind_wrap ?_
      rw [over_gen]
      refine wpAny_mono h6 (fun _ s7 h7 => ?_) fun _ _ z => z.elim
      obtain ⟨x, H7, I7, r7, y7, st7, n7⟩ := h7
      have I7' := I7.pinned (stat I7 n7) (T.obj _ _ st7)
      refine seg_bind_wrap ?_
      rw [over_gen]
      refine wpAny_mono (pg.run _ s7 _ H7 x u _ I7' r7 (step x H7 y7)) (fun _ s8 h8 => ?_) fun _ _ z => z.elim
      obtain ⟨σ8, H8, I8, hw8, q8⟩ := h8
      simp only [List.forIn_nil]
      refine seg_bind_wrap (wpAny_pure ?_)
      simp only [if_true]
      have hy : ∀ v, yieldOut cenv v = yieldValue v := fun v => by simp only [yieldOut, hco, Bool.false_eq_true, if_false]
      simp only [hy]
      rw [Sem.bind_eq_wrap', Sem.bind_eq_wrap', Sem.wrap_wrap, Sem.wrap_wrap]
      refine seg_wrap ?_
      rw [over_gen]
      refine wpAny_mono (pe.run _ s8 σ8 H8 _ I8 q8) (fun z s10 h10 => ?_) fun _ _ z => z.elim
      obtain ⟨yv, H10, I10, r10, b, rfl, nx⟩ := h10
      have rz : z = .bool b := r10
      subst rz
      refine seg_at (seg_yield rfl rfl rfl ⟨b, σ8, H10, rfl, I10.unpinned, ?_⟩)
      cases b with
      | false => exact nx
      | true =>
        rw [if_pos rfl] at nx ⊢
        intro s'' e1 e2 e3
        obtain ⟨m', hm', w'⟩ := hNx H10 nx
        have pin' : ∀ b ∈ fp, ∀ o, s7.heap.get? b = some o → s10.heap.get? b = some o ∧ H10 b = none := fun b hb o e =>
          let z := I10.pin (b, o) (List.mem_append_right _ (List.mem_append_right _ (mem_pinsAt hb e)))
          ⟨z.1, z.2.1⟩
        have hl : (wipe σ vs).length = σ8.length := by rw [← hw8, wipe_length]
        have I11 : Inv (genX X s4 H4 cenv fp) pl (wipe σ vs) H10 s'' := inv_same (I10.unpinned.weak hl (fun j v e => by
          rw [← hw8] at e
          exact (wipe_some e).1)) e1 e2 e3
        refine seg_again rfl (ih (i + 1) m' s'' s'' H10 (by omega) I11 (T.keep _ _ _ st7 fun b hb o e => by rw [e1]; exact (pin' b hb o e).1) (fun b hb => ?_) w')
        obtain ⟨o, e, _⟩ := T.obj _ _ st7 b hb
        exact (pin' b hb o e).2
theorem segS_all {elt tg iter : Expr} {scope : Scope} {gpos : Pos} {J : It} {fp : List Addr} {it : Addr} {tn : Nat → Heap → Prop} {cenv : PySem.Env} {R : GenEnd} {Y : Protocol} {n : Nat} {s₀ s : Shared} {A : Around} (T : Turn X.prog X.w X.K tg J fp it tn) (st : tn 0 s.heap)
    (loop : Seg (model X.prog X.w) A R Y n s₀ (.compLoop (.GeneratorExp elt [⟨tg, iter, [], 0⟩] scope gpos) 0 (.ref it) .none cenv)
        ((model X.prog X.w).den (.compLoop (.GeneratorExp elt [⟨tg, iter, [], 0⟩] scope gpos) 0 (.ref it) .none cenv)) [] s) :
    Seg (model X.prog X.w) A R Y n s₀ (.compStart (.GeneratorExp elt [⟨tg, iter, [], 0⟩] scope gpos) 0 (.ref it) .none cenv)
        ((model X.prog X.w).den (.compStart (.GeneratorExp elt [⟨tg, iter, [], 0⟩] scope gpos) 0 (.ref it) .none cenv)) [] s := by
  show Seg _ A _ _ _ s₀ _ ((compStart (.GeneratorExp elt [⟨tg, iter, [], 0⟩] scope gpos) 0 (.ref it) .none cenv).onRaise (leaving cenv)) [] s
  unfold compStart
  rw [Sem.onRaise_eq_wrap]
  show Seg _ A _ _ _ s₀ _ ((ask >>= _).wrap _ _ _ _) [] s
  refine seg_bind_wrap (wpAny_askSetting ?_)
  split
  · exact seg_again rfl loop
  · first
      | exact seg_bind_wrap (wpAny_rule (seg_bind_wrap (wpAny_standAt (seg_bind_wrap (T.self _ 0 s _ _ st (seg_again rfl loop))))))
      | (refine seg_bind_wrap (wpAny_rule ?_); show Seg _ A _ _ _ s₀ _ ((standAt iter.pos >>= _).wrap _ _ _ _) [] s; exact seg_bind_wrap (wpAny_standAt (seg_bind_wrap (T.self _ 0 s _ _ st (seg_again rfl loop)))))
/-- the consumer -/
theorem codeAll_gen {Y : Cx} {pl : List (Addr × Obj)} {σw : L2.St} {Q : VK} {a : Addr} {gobj : Obj} {g : Nat} {R : Result → Shared → Prop} (hh : X.A.handled = none) (hd : X.A.depth < recursionLimit) (ha : (a, gobj) ∈ pl)
    (hgo : ∀ h : Heap, h.get? a = some gobj → h.IsGen a g) (hT : ∀ H s', Inv Y pl σw H s' → Q (.bl true) H → R (.ok (.ret (.bool true))) s') (hF : ∀ σ H s', Inv Y pl σ H s' → Q (.bl false) H → R (.ok (.ret (.bool false))) s') :
    ∀ (n : Nat) (σ : L2.St) (H : Hp) (s : Shared), Inv Y pl σ H s → (∃ gs, s.gens[g]? = some gs ∧ gs.Goes (model X.prog X.w) X.A.in1.in1 (RG Y pl σw Q) (YG Y pl Q) n (.send .none) (s.setGen g .running)) →
      codeAny (model X.prog X.w) X.A (.builtin "all.loop" ⟨[.ref a], []⟩) R s := by
  have isg : ∀ {σ : L2.St} {H : Hp} {s : Shared}, Inv Y pl σ H s → s.heap.IsGen a g := fun I => hgo _ (I.pin (a, gobj) (List.mem_append_right _ ha)).1
  intro n
  induction n with
  | zero =>
    intro σ H s I ⟨gs, hgs, go⟩
    refine codeAny_builtin F.entry_all_loop ?_
    rw [Around.under_plainId F.plain_all_loop _]
    show wpAny _ X.A.in1 (pyNext (.ref a) >>= _) _ _ s
    refine wpAny_bind (next_genG (A := X.A.in1) (F := FG Y pl σw Q) (Er := fun _ _ => False) hh I.nolimit hd (isg I) hgs go (fun v s₁ gs' hb hv => ?_) (fun s₁ hp h' hk => ?_) fun e s₁ he => he.elim)
    · obtain ⟨b, σ1, H1, rfl, I1, q⟩ := hv
      cases b with
      | true =>
        rw [if_pos rfl] at q
        exact False.elim (q s₁ rfl rfl I1.bare)
      | false =>
        refine wpAny_bind (wpAny_holding (wpAny_truthy_bool ?_))
        refine wpAny_bind (wpAny_letGo ?_)
        simp only [Bool.false_eq_true, if_false]
        exact wpAny_bind (wpAny_rule (wpAny_pure (hF σ1 H1 _ (inv_same I1 rfl rfl (allBare_setGen I1.bare hb)) q)))
    · obtain ⟨H1, I1, q⟩ := hp
      exact wpAny_bind (wpAny_rule (wpAny_pure (hT H1 _ (inv_same (I1.kept (t' := s₁.toks) hk) rfl rfl (allBare_setGen I1.bare rfl)) q)))
  | succ n ih =>
    intro σ H s I ⟨gs, hgs, go⟩
    have hgl : g < s.gens.size := (Array.getElem?_eq_some_iff.mp hgs).1
    refine codeAny_builtin F.entry_all_loop ?_
    rw [Around.under_plainId F.plain_all_loop _]
    show wpAny _ X.A.in1 (pyNext (.ref a) >>= _) _ _ s
    refine wpAny_bind (wpAny_gsz (n := g + 1) hgl (next_genG (A := X.A.in1) (F := FG Y pl σw Q) (Er := fun _ _ => False) hh I.nolimit hd (isg I) hgs go (fun v s₁ gs' hb hv => ?_) (fun s₁ hp h' hk => ?_) fun e s₁ he => he.elim))
    · intro hsz
      have hsz1 : g < s₁.gens.size := by
        have q : (s₁.setGen g gs').gens.size = s₁.gens.size := setGen_size _ _ _
        have hsz' : g + 1 ≤ (s₁.setGen g gs').gens.size := hsz
        omega
      obtain ⟨b, σ1, H1, rfl, I1, q⟩ := hv
      refine wpAny_bind (wpAny_holding (wpAny_truthy_bool ?_))
      refine wpAny_bind (wpAny_letGo ?_)
      have I2 := inv_same (s' := s₁.setGen g gs') I1 rfl rfl (allBare_setGen I1.bare hb)
      cases b with
      | true =>
        rw [if_pos rfl] at q
        simp only [if_true]
        refine wpAny_pure ⟨plainId_quiet F.plain_all_loop _, ih σ1 H1 _ I2 ⟨gs', setGen_at hsz1, ?_⟩⟩
        exact q _ rfl rfl (allBare_setGen I2.bare rfl)
      | false =>
        simp only [Bool.false_eq_true, if_false]
        exact wpAny_bind (wpAny_rule (wpAny_pure (hF σ1 H1 _ I2 q)))
    · intro _
      obtain ⟨H1, I1, q⟩ := hp
      exact wpAny_bind (wpAny_rule (wpAny_pure (hT H1 _ (inv_same (I1.kept (t' := s₁.toks) hk) rfl rfl (allBare_setGen I1.bare rfl)) q)))
theorem boot_all : bootBuiltins "all" = some (.builtin "all") := by kernel_rfl
theorem pe_allG {c P : Addr} {elt tg iter : Expr} {p pos gpos : Pos} {scope : Scope} {own : List (Str × Nat)} {wi : TI} {g : TG} {te : TE} {k : Nat} (hc : X.calm = true) (hN : X.N.Nodup) (hr : Room k X.A) (hg : Gl X "all") (hm : X.mg "all" = none)
    (TB : TabB X.base X.mg c P) (hcode : X.env.code = .ref c) (S : GenSc X scope own) (hi : PI X tg iter wi)
    (hpg : ∀ (s : Shared) (H : Hp) (code : Value) (fp : List Addr), PG (genN X s H scope code fp) tg g) (hpe : ∀ (s : Shared) (H : Hp) (code : Value) (fp : List Addr), PE (genN X s H scope code fp) elt te)
    (hs : ∀ v, genFold iter X.env v = pure v)
    (he : starEach [.GeneratorExp elt [⟨tg, iter, [], 0⟩] scope gpos] X.env = (false, eval (.GeneratorExp elt [⟨tg, iter, [], 0⟩] scope gpos) X.env) :: starEach [] X.env) :
    PE X (.Call (.Name "all" p) [.GeneratorExp elt [⟨tg, iter, [], 0⟩] scope gpos] [] pos) (tAllG P wi g te (own.map (·.2))) := by
  refine ⟨fun pins s σ H Q I h => ?_⟩
  have hfree : ∀ y ∈ scope.names, y.2 = .free → ∃ c, X.env.cells.lookup y.1 = some c := fun y hy e => by
    rcases S.blk.free y hy e with k | k
    · exact I.ok.has _ (.inl k)
    · exact I.ok.has _ (.inr k)
  refine wpAny_Call_Name_kw (ld_blt I hg hm boot_all ?_)
  refine PyProof.Rows.callWith_builtin1 ?_ he (by rfl)
  rw [he]
  show wpAny _ _ (spliced ((false, eval (.GeneratorExp elt [⟨tg, iter, [], 0⟩] scope gpos) X.env) :: backTo pos (starEach [] X.env))) _ _ s
  refine Calls.spliced_cons ?_
  refine wpAny_GeneratorExp_make S.co (closure_ok hfree) S.cell S.dot S.blk.kind (by have := hr.dp; omega) ?_ hs
  refine thn (hi.run pins s σ H _ I h) fun v s1 h1 => thn h1 fun itv s2 h2 => ?_
  obtain ⟨it, fp, tn, J, H1, rfl, I2, T, st2, f2, ⟨ps, hP, ht⟩, q⟩ := h2
  refine ⟨I2.nolimit, ?_⟩
  have hPs : s2.heap.get? P = some { cls := .none, data := .fields ps } := I2.hok P _ hP
  have hfpP : ∀ b ∈ fp, b ≠ P := fun b hb e => by rw [e] at hb; have := (f2 P hb).1; rw [hP] at this; cases this
  have szf : ∀ b ∈ fp, b < s2.heap.objs.size := fun b hb => by
    obtain ⟨o, e, _⟩ := T.obj _ _ st2 b hb
    exact Heap.lt_size e
  have cd : PySem.W.CodeHd s2.heap c P := TB.code.keeps fun b u e => I2.bk b u e
  have cont : ∀ (code : Value) (h3 : Heap) (tk : Nat) (ps' : Array Value), Heap.ExtBut P s2.heap h3 → s2.heap.objs.size ≤ h3.objs.size → h3.get? P = some { cls := .none, data := .fields ps' } → (∃ more, ps' = ps ++ more) → TriplesOk ps'.toList →
      wpAny (model X.prog X.w) X.A (builtinsFor X.env.globals X.env.builtins) (fun bi s₄ =>
        ∀ h', h'.Ns s₄.heap.objs.size (fun y => if y = ".0" then some (Value.ref it) else none) → Heap.SameBut s₄.heap.objs.size (s₄.heap.push { cls := .type "frame", data := .dict #[] }) h' →
          wpAny (model X.prog X.w) X.A (spliced (backTo pos (starEach [] X.env))) (fun us s6 => wpAny (model X.prog X.w) X.A (call (.builtin "all") (.ref h'.objs.size :: us)) (EP X pins σ Q) X.xe s6) X.xe { s₄ with
            gens := s₄.gens.push (.fresh (.compStart (.GeneratorExp elt [⟨tg, iter, [], 0⟩] scope gpos) 0 (.ref it) .none (genEnv scope (cloFrom X.env.cells scope.names []) s₄.heap.objs.size code bi X.env))),
            toks := s₄.toks + 1 + 1 + 1,
            heap := h'.push { cls := .type "generator", data := .fields #[.int s₄.gens.size 0, .str "<genexpr>" (s₄.toks + 1), .str (X.env.qual ++ "<genexpr>") (s₄.toks + 1 + 1)] } }) X.xe { s2 with heap := h3, toks := tk } := by
    intro code h3 tk ps' hx hsz hP3 hmore ht3
    obtain ⟨bm, ob, e1, e2, e3, e4, e5, e6, e7, e8⟩ := TB.bm
    have keep3 : ∀ b u, b ≠ P → s2.heap.get? b = some u → h3.get? b = some u := fun b u hb e => hx b u hb e
    obtain ⟨more, em⟩ := hmore
    have I3 : Inv X pins σ (upd H1 P (.tbl (ps ++ more))) { s2 with heap := h3, toks := tk } := inv_tab (g' := s2.gens) (d' := s2.drawn) (t' := tk) I2 hP keep3 (by rw [← em]; exact hP3) I2.bare
    refine wpAny_builtinsFor (m := X.mg) (by rw [I2.ok.glob]; exact (I2.mod.glob.keeps I2.bk).extBut hx TB.gP) e1 e2 (keep3 _ _ e4 (I2.bk _ _ e5)) e6 e7 e8 ?_
    intro h' hn' hs'
    refine Calls.spliced_nil ?_
    have hsz' : h'.objs.size = h3.objs.size + 1 := by rw [hs'.1, Heap.size_push]
    obtain ⟨W, ⟨m0, w0⟩, turn⟩ := q (upd H1 P (.tbl (ps ++ more))) ⟨⟨ps ++ more, upd_same, by rw [← em]; exact ht3⟩, fun b hb => upd_ne hb⟩
    have f3 : ∀ b ∈ fp, FpOk X pins (upd H1 P (.tbl (ps ++ more))) b ∧ b < h3.objs.size := fun b hb => by
      refine ⟨⟨?_, (f2 b hb).2⟩, Nat.lt_of_lt_of_le (szf b hb) hsz⟩
      rw [upd_ne (hfpP b hb)]
      exact (f2 b hb).1
    have I5 := gen_start (code := code) (it := .ref it) (g' := s2.gens.push (.fresh (.compStart (.GeneratorExp elt [⟨tg, iter, [], 0⟩] scope gpos) 0 (.ref it) .none (genEnv scope (cloFrom X.env.cells scope.names []) h3.objs.size code builtinsNs X.env)))) (tk := tk + 1 + 1 + 1)
      (gobj := { cls := .type "generator", data := .fields #[.int s2.gens.size 0, .str "<genexpr>" (tk + 1), .str (X.env.qual ++ "<genexpr>") (tk + 1 + 1)] })
      I3 S hN f3 hn' hs' (AllBare.push I2.bare rfl) (fun v z => by cases z) rfl
    have st5 : tn 0 (h'.push { cls := .type "generator", data := .fields #[.int s2.gens.size 0, .str "<genexpr>" (tk + 1), .str (X.env.qual ++ "<genexpr>") (tk + 1 + 1)] }) :=
      T.keep _ _ _ st2 fun b hb o e => Heap.get?_push_of_some _ (hs'.extBut b o (Nat.ne_of_lt (f3 b hb).2) (Heap.get?_push_of_some _ (keep3 b o (hfpP b hb) e)))
    refine call_function_tree F.kind_all F.plain_all F.entry_all (F.args_all1 _) ?_
    unfold Builtin.«all»
    refine wpAny_bind (m := oneArg "all" _) (wpAny_pure ?_)
    have isg : ∀ h : Heap, h.get? h'.objs.size = some { cls := .type "generator", data := .fields #[.int s2.gens.size 0, .str "<genexpr>" (tk + 1), .str (X.env.qual ++ "<genexpr>") (tk + 1 + 1)] } → h.IsGen h'.objs.size s2.gens.size :=
      fun h e => ⟨_, _, _, e, rfl, rfl, rfl⟩
    refine wpAny_bind (wpAny_pyIter_gen (isg _ (Heap.get?_push_size _ rfl)) ?_)
    refine wpAny_pure ⟨plainId_quiet F.plain_all_loop _, ?_⟩
    have fin : ∀ (σ' : L2.St) (b : Bool) (H' : Hp) (s' : Shared), Inv (genN X { s2 with heap := h3, toks := tk } (upd H1 P (.tbl (ps ++ more))) scope code fp) [(h'.objs.size, { cls := .type "generator", data := .fields #[.int s2.gens.size 0, .str "<genexpr>" (tk + 1), .str (X.env.qual ++ "<genexpr>") (tk + 1 + 1)] })] σ' H' s' → Q (.bl b) H' → EP X pins σ Q (.bool b) s' := fun σ' b H' s' I' q' =>
      ⟨.bl b, H', Inv.call' (ch := fp) I3 I'.os I'.base I'.hok I'.bare fun b hb => ⟨(f3 b hb).1.2.2.2.1, (f3 b hb).1.2.1, (f3 b hb).1.2.2.2.2.1, (f3 b hb).1.2.2.2.2.2⟩, rfl, q'⟩
    refine codeAll_gen (X := X) (n := m0 + 1) (Q := Q) (σw := wipe σ (own.map (·.2))) hr.hd (by have := hr.dp; omega) List.mem_cons_self isg (fun H' s' I' q' => fin _ true H' s' I' q') (fun σ' H' s' I' q' => fin σ' false H' s' I' q') _ _ _ I5 ⟨_, Array.getElem?_push_size .., rfl, ?_⟩
    refine segS_all T st5 ?_
    refine seg_all hc S.co T (hpg _ _ _ _) (hpe _ _ _ _) (fun b hb p hp => ?_) turn (m0 + 1) 0 m0 _ _ _ (Nat.lt_succ_self _) (inv_same I5 rfl rfl (allBare_setGen I5.bare rfl)) st5 (fun b hb => (f3 b hb).1.1) w0
    rw [List.mem_singleton.mp hp]
    have := (f3 b hb).2
    show h'.objs.size ≠ b
    exact Nat.ne_of_gt (by rw [hsz']; exact Nat.lt_succ_of_lt this)
  cases hf : codeAmong gpos ps.toList with
  | none =>
    refine wpAny_genexprCodeX hcode (cd.code hPs ht) (cd.tab hPs) hf fun c' h' tk hx hge hlt hco' _ htab' _ => ?_
    obtain ⟨o1, vs, f1, tf, fl, tg, inF, tx, tt, op, _, _, _, _, _, _, _, _, _, htr, _⟩ := hco'
    exact cont _ h' tk _ hx (Nat.le_trans hge (Nat.le_of_lt hlt)) htab'.2 ⟨_, rfl⟩ htr
  | some cv =>
    refine wpAny_genexprCode_hit hcode (cd.code hPs ht) hf ?_
    exact cont cv s2.heap s2.toks ps (Heap.ExtBut.refl _ _) (Nat.le_refl _) hPs ⟨#[], by simp⟩ ht
end
end TL
set_option Elab.async false
set_option linter.all false
set_option maxRecDepth 100000
set_option maxHeartbeats 1000000
namespace TL
open PySem PySem.Spec PyProof.Rows L2 GenW GxR
section
variable {X : Cx} {C : Cc} {W : WX} {pos : Pos}
theorem StOk.tabbed {P : Hp} {env : Env} {fp : Nat → List Addr} {σ : L2.St} {H H2 : Hp} {p : Addr} (s : StOk C P env fp σ H) (hT : TabG H p) (t : Tabbed p H H2) : StOk C P env fp σ H2 := by
  obtain ⟨t1, t2⟩ := t
  obtain ⟨ps, hp, _⟩ := hT
  have ne : ∀ b o, H b = some o → Fz o → b ≠ p := fun b o e z q => by
    rw [q, hp] at e
    cases e
    exact z
  refine ⟨fun b o q => ?_, fun b o q => ?_, fun i ov q => ?_, s.dis, fun i a q => ?_, s.keep, fun q hq => ?_, s.len⟩
  · obtain ⟨e, z⟩ := s.phi b o q
    exact ⟨(t2 b (ne b o e z)).trans e, z⟩
  · obtain ⟨e, z, n⟩ := s.frm b o q
    exact ⟨(t2 b (ne b o e z)).trans e, z, n⟩
  · obtain ⟨v, e, o⟩ := s.own i ov q
    refine ⟨v, e, o.frame (Le.refl _) fun a ha => ?_⟩
    obtain ⟨_, _, u, hu, hz⟩ := s.fre i a ha
    exact t2 a (ne a u hu hz)
  · obtain ⟨e1, e2, u, hu, hz⟩ := s.fre i a q
    exact ⟨e1, e2, u, (t2 a (ne a u hu hz)).trans hu, hz⟩
  · by_cases hqp : q = p
    · rw [hqp]; exact t1
    · obtain ⟨ps2, e, k⟩ := s.tabs q hq
      exact ⟨ps2, (t2 q hqp).trans e, k⟩
def allM (vs : List Nat) (g : PyData → M Unit) (elt : M OV) : List PyData → M Bool
  | [] => fun env => some (.ok true env)
  | x :: xs => fun env0 => (g x >>= fun _ => asB elt >>= fun b => if b then fun env => allM vs g elt xs env else fun env => some (.ok false env)) (wipeE env0 vs)
def mAll (vs : List Nat) (mi : M (List PyData)) (g : PyData → M Unit) (elt : M OV) : M OV := mi >>= fun xs => fun env1 =>
  if vs.all (flatAt env1) then (match allM vs g elt xs env1 with
    | some (.ok b env2) => some (.ok (.d (.bool b)) (backE env2 env1 vs))
    | _ => none) else none
/-- the readings within the generator's frame -/
structure GenR (X : Cx) (C : Cc) (scope : Scope) (vs : List Nat) (tg : Expr) (elt : Expr) (g : PyData → M Unit) (m : M OV) : Prop where
  tg : ∀ (s : Shared) (H : Hp) (code : Value) (fp : List Addr), PG (genN X s H scope code fp) tg (liftPG C vs g)
  elt : ∀ (s : Shared) (H : Hp) (code : Value) (fp : List Addr), PE (genN X s H scope code fp) elt (liftE C W0 m)
theorem allR {p : Addr} {mi : M (List PyData)} {g : PyData → M Unit} {m : M OV} {vs : List Nat} (h0 : GOk g) (hk : ∀ i ∈ vs, C.kp i = none) (hp : p ∈ C.tabs) {σ : L2.St} {H : Hp} {Q : VK} (q : liftE C W (mAll vs mi g m) σ H Q) :
    tAllG p (liftI C W mi) (liftPG C vs g) (liftE C W0 m) vs σ H Q := by
  obtain ⟨P, env, fp, s, h⟩ := q
  have h : postG C W (rOV C) P Q σ (Out.andThen (mi env) fun xs => fun env1 => if vs.all (flatAt env1) then (match allM vs g m xs env1 with
    | some (.ok b env2) => some (.ok (.d (.bool b)) (backE env2 env1 vs))
    | _ => none) else none) := h
  refine ⟨P, env, fp, s, ?_⟩
  cases em : mi env with
  | none => rw [em] at h; exact h.elim
  | some o =>
    rw [em] at h
    cases o with
    | exc y e1 => exact h
    | ok xs e1 =>
      intro P1 fp1 H1 J l1 s1 wk
      refine ⟨s1.tabs p hp, fun H1' tb => ?_⟩
      have s1 := s1.tabbed (s1.tabs p hp) tb
      have h : postG C W (rOV C) P Q σ (if vs.all (flatAt e1) then (match allM vs g m xs e1 with
        | some (.ok b env2) => some (.ok (.d (.bool b)) (backE env2 e1 vs))
        | _ => none) else none) := h
      by_cases hfl : vs.all (flatAt e1) = true
      · rw [if_pos hfl] at h
        cases er : allM vs g m xs e1 with
        | none => rw [er] at h; exact h.elim
        | some o =>
          rw [er] at h
          cases o with
          | exc y e2 => exact h.elim
          | ok rb renv =>
            have h1 : postG C W (rOV C) P1 Q σ (some (.ok (.d (.bool rb)) (backE renv e1 vs))) := postG.mono l1 h
            have fin : ∀ P2 fp2 H2, Le P1 P2 → StOk C P2 (wipeE renv vs) fp2 (wipe σ vs) H2 → Q (.bl rb) H2 := fun P2 fp2 H2 l2 s2 => by
              have s3 := s2.backs s1 l2 hfl
              rw [backE_wipe fun w hw => hw] at s3
              exact h1 P2 _ H2 _ l2 s3 (rOV.d (.bl rb))
            have ww : wipe (wipe σ vs) vs = wipe σ vs := wipe_wipe
            refine ⟨fun i n H => n = xs.length - i ∧ i ≤ xs.length ∧ ∃ P fp en, Le P1 P ∧ StOk C P (wipeE en vs) fp (wipe σ vs) H ∧ allM vs g m (xs.drop i) en = some (.ok rb renv),
              ⟨xs.length, rfl, Nat.zero_le _, P1, fp1, e1, Le.refl _, s1.wipes hk, er⟩, ?_⟩
            rintro i n H2 ⟨rfl, hi, P2, fp2, en, l2, st2, run⟩
            obtain ⟨w1, w2⟩ := wk i P2 (wipeE en vs) fp2 C.F (wipe σ vs) H2 l2 st2
            by_cases hlt : i < xs.length
            · refine .inr ?_
              obtain ⟨go, yl⟩ := w2 xs[i] (by simp [hlt])
              rw [List.drop_eq_getElem_cons hlt] at run
              have run : Out.andThen (g xs[i] (wipeE en vs)) (fun _ => asB m >>= fun b => if b then fun env => allM vs g m (xs.drop (i + 1)) env else fun env => some (.ok false env)) = some (.ok rb renv) := run
              refine ⟨go, fun H3 => ∃ P fp en, Le P1 P ∧ StOk C P (wipeE en vs) fp (wipe σ vs) H3 ∧ allM vs g m (xs.drop (i + 1)) en = some (.ok rb renv), fun H' w => ⟨xs.length - (i + 1), by omega, rfl, hlt, w⟩, fun v H' y => ?_⟩
              obtain ⟨P3, l3, s3, d3⟩ := yl v H' y
              cases eg : g xs[i] (wipeE en vs) with
              | none => rw [eg] at run; cases run
              | some o =>
                obtain ⟨env3, rfl⟩ := h0 _ _ _ eg
                rw [eg] at run
                have run : Out.andThen (asB m env3) (fun b => if b then fun env => allM vs g m (xs.drop (i + 1)) env else fun env => some (.ok false env)) = some (.ok rb renv) := run
                refine ⟨P3, wipeE en vs, fp2, xs[i], env3, s3, d3, eg, fun P4 fp4 σ4 H4 l4 s4 w4 => ?_⟩
                have w4 : wipe σ4 vs = wipe (wipe σ vs) vs := w4
                refine ⟨w4.trans ww, ?_⟩
                refine asB.of (C := C) (W := W0) (t := liftE C W0 m) (m := m) (Q := fun b H3 => if b = true then ∃ P fp en, Le P1 P ∧ StOk C P (wipeE en vs) fp (wipe σ vs) H3 ∧ allM vs g m (xs.drop (i + 1)) en = some (.ok rb renv) else Q (.bl false) H3) ?_ fun _ _ _ q => q
                refine ⟨P4, env3, fp4, s4, ?_⟩
                cases ee : asB m env3 with
                | none => rw [ee] at run; cases run
                | some o =>
                  rw [ee] at run
                  cases o with
                  | exc y e => cases run
                  | ok b env5 =>
                    intro P5 fp5 H5 b' l5 s5 r5
                    have rb' : b' = b := r5
                    subst rb'
                    have s6 := s5.wipes hk
                    rw [w4, ww] at s6
                    have lP : Le P1 P5 := ((l2.trans l3).trans l4).trans l5
                    cases b' with
                    | true =>
                      rw [if_pos rfl]
                      exact ⟨P5, fp5, env5, lP, s6, run⟩
                    | false =>
                      rw [if_neg Bool.false_ne_true]
                      have run : (some (.ok false env5) : Option (Out Bool)) = some (.ok rb renv) := run
                      cases run
                      exact fin P5 fp5 H5 lP s6
            · have e : i = xs.length := by omega
              subst e
              refine .inl ⟨w1 (Nat.le_refl _), ?_⟩
              rw [List.drop_length] at run
              have run : (some (.ok true en) : Option (Out Bool)) = some (.ok rb renv) := run
              cases run
              exact fin P2 fp2 H2 l2 st2
      · rw [if_neg hfl] at h
        exact h.elim
/-- all(elt for tg in iter) -/
theorem sE_all {c p : Addr} {elt tg iter : Expr} {q pos gpos : Pos} {scope : Scope} {own : List (Str × Nat)} {mi : M (List PyData)} {g : PyData → M Unit} {m : M OV} {k : Nat} (hc : X.calm = true) (hN : X.N.Nodup) (hr : Room k X.A) (hg : Gl X "all") (hm : X.mg "all" = none)
    (TB : TabB X.base X.mg c p) (hcode : X.env.code = .ref c) (hp : p ∈ C.tabs) (S : GenSc X scope own) (hi : PI X tg iter (liftI C W mi)) (r : GenR X C scope (own.map (·.2)) tg elt g m) (h0 : GOk g) (hk : ∀ i ∈ own.map (·.2), C.kp i = none)
    (hs : ∀ v, genFold iter X.env v = pure v)
    (he : starEach [.GeneratorExp elt [⟨tg, iter, [], 0⟩] scope gpos] X.env = (false, eval (.GeneratorExp elt [⟨tg, iter, [], 0⟩] scope gpos) X.env) :: starEach [] X.env) :
    PE X (.Call (.Name "all" q) [.GeneratorExp elt [⟨tg, iter, [], 0⟩] scope gpos] [] pos) (liftE C W (mAll (own.map (·.2)) mi g m)) :=
  PE.imp (pe_allG hc hN hr hg hm TB hcode S hi r.tg r.elt hs he) fun σ H Q q => allR h0 hk hp q
end
end TL
set_option Elab.async false
set_option linter.all false
set_option maxRecDepth 100000
set_option maxHeartbeats 1000000
namespace TL
open PySem PySem.Spec PyProof.Rows L2 GenW GxR
/-! ### arguments -/
/-- one argument: data, or the slot of an own object that the callee may change -/
inductive Ag where
  | d (m : M PyData)
  | s (i : Nat)
def agsM : List Ag → M (List PyData)
  | [] => pure []
  | .d m :: r => m >>= fun x => agsM r >>= fun xs => pure (x :: xs)
  | .s i :: r => mHas i isAny >>= fun _ => agsM r
inductive AgRel (σ : L2.St) (P : Hp) : List Ag → List PyData → List V → Prop
  | nil : AgRel σ P [] [] []
  | d {m : M PyData} {r : List Ag} {x : PyData} {xs : List PyData} {v : V} {vs : List V} : Dp K0 P v x → AgRel σ P r xs vs → AgRel σ P (.d m :: r) (x :: xs) (v :: vs)
  | s {i : Nat} {r : List Ag} {xs : List PyData} {v : V} {vs : List V} : σ[i]? = some (some v) → AgRel σ P r xs vs → AgRel σ P (.s i :: r) xs (v :: vs)
theorem AgRel.mono {σ : L2.St} {P P' : Hp} (l : Le P P') : ∀ {as : List Ag} {xs : List PyData} {vs : List V}, AgRel σ P as xs vs → AgRel σ P' as xs vs
  | _, _, _, .nil => .nil
  | _, _, _, .d h t => .d (l.dp h) (t.mono l)
  | _, _, _, .s h t => .s h (t.mono l)
/-- the callee's environment -/
def argE (env : Env) : List Ag → List PyData → Env
  | [], _ => []
  | .d _ :: r, x :: xs => some (.d x) :: argE env r xs
  | .d _ :: r, [] => none :: argE env r []
  | .s i :: r, xs => (env[i]?).join :: argE env r xs
/-- what it made of the caller's slots -/
def backA (env : Env) : List Ag → Env → Env
  | .s i :: r, o :: e => backA (env.set i o) r e
  | .d _ :: r, _ :: e => backA env r e
  | _, _ => env
/-- at which place slot i is handed over -/
def posOf (i : Nat) : List Ag → Option Nat
  | [] => none
  | .s j :: r => if j = i then some 0 else (posOf i r).map (· + 1)
  | .d _ :: r => (posOf i r).map (· + 1)
def agNd : List Ag → Prop
  | [] => True
  | .s j :: r => posOf j r = none ∧ agNd r
  | .d _ :: r => agNd r
def fpA (fp : Nat → List Addr) (as : List Ag) (k : Nat) : List Addr := match as[k]? with
  | some (.s i) => fp i
  | _ => []
theorem AgRel.len {σ : L2.St} {P : Hp} {env : Env} : ∀ {as : List Ag} {xs : List PyData} {vs : List V}, AgRel σ P as xs vs → (argE env as xs).length = vs.length ∧ as.length = vs.length
  | _, _, _, .nil => ⟨rfl, rfl⟩
  | _, _, _, .d h t => by
    obtain ⟨h1, h2⟩ := t.len (env := env)
    exact ⟨congrArg Nat.succ h1, congrArg Nat.succ h2⟩
  | _, _, _, .s h t => by
    obtain ⟨h1, h2⟩ := t.len (env := env)
    exact ⟨congrArg Nat.succ h1, congrArg Nat.succ h2⟩
/-- each argument -/
theorem AgRel.at {σ : L2.St} {P : Hp} {env : Env} : ∀ {as : List Ag} {xs : List PyData} {vs : List V} {k : Nat} {ov : OV}, AgRel σ P as xs vs → (argE env as xs)[k]? = some (some ov) →
    ∃ v, vs[k]? = some v ∧ ((∃ x m, ov = .d x ∧ as[k]? = some (.d m) ∧ Dp K0 P v x) ∨ ∃ i, as[k]? = some (.s i) ∧ env[i]? = some (some ov) ∧ σ[i]? = some (some v))
  | _, _, _, k, ov, .nil, e => by simp [argE] at e
  | _, _, _, 0, ov, .d (m := m) h t, e => by
    have e' : some (some (OV.d _)) = some (some ov) := e
    cases e'
    exact ⟨_, rfl, .inl ⟨_, m, rfl, rfl, h⟩⟩
  | _, _, _, k + 1, ov, .d h t, e => by
    obtain ⟨v, h1, h2⟩ := t.at (k := k) (ov := ov) (env := env) e
    exact ⟨v, h1, h2⟩
  | _, _, _, 0, ov, .s (i := i) h t, e => by
    have e' : some ((env[i]?).join) = some (some ov) := e
    refine ⟨_, rfl, .inr ⟨i, rfl, ?_, h⟩⟩
    cases q : env[i]? with
    | none => rw [q] at e'; cases e'
    | some o => rw [q] at e'; cases e'; rfl
  | _, _, _, k + 1, ov, .s h t, e => by
    obtain ⟨v, h1, h2⟩ := t.at (k := k) (ov := ov) (env := env) e
    exact ⟨v, h1, h2⟩
theorem posOf_at : ∀ {as : List Ag} {i k : Nat}, posOf i as = some k → as[k]? = some (.s i)
  | .s j :: r, i, k, h => by
    unfold posOf at h
    split at h
    · rename_i e
      cases h
      rw [e]
      rfl
    · obtain ⟨k', h1, rfl⟩ := Option.map_eq_some_iff.mp h
      have h2 := posOf_at (as := r) h1
      simpa using h2
  | .d m :: r, i, k, h => by
    unfold posOf at h
    obtain ⟨k', h1, rfl⟩ := Option.map_eq_some_iff.mp h
    have h2 := posOf_at (as := r) h1
    simpa using h2
theorem at_posOf : ∀ {as : List Ag} {i k : Nat}, agNd as → as[k]? = some (.s i) → posOf i as = some k
  | .s j :: r, i, 0, n, h => by
    simp only [List.getElem?_cons_zero, Option.some.injEq, Ag.s.injEq] at h
    unfold posOf
    rw [if_pos h]
  | .s j :: r, i, k + 1, n, h => by
    have h' : r[k]? = some (.s i) := by simpa using h
    have h1 := at_posOf n.2 h'
    unfold posOf
    have ne : ¬ j = i := fun e => by
      have := n.1
      rw [e, h1] at this
      cases this
    rw [if_neg ne, h1]
    rfl
  | .d m :: r, i, 0, n, h => by simp at h
  | .d m :: r, i, k + 1, n, h => by
    have h' : r[k]? = some (.s i) := by simpa using h
    show (posOf i r).map (· + 1) = _
    rw [at_posOf (as := r) n h']
    rfl
theorem backA_length : ∀ {as : List Ag} {env e : Env}, (backA env as e).length = env.length
  | [], _, _ => by unfold backA; rfl
  | .s i :: r, env, o :: e => by
    show (backA (env.set i o) r e).length = _
    rw [backA_length, List.length_set]
  | .s i :: r, env, [] => rfl
  | .d _ :: r, env, o :: e => backA_length (as := r)
  | .d _ :: r, env, [] => rfl
theorem backA_some : ∀ {as : List Ag} {env e : Env} {i : Nat} {ov : OV}, agNd as → (backA env as e)[i]? = some (some ov) → e.length = as.length →
    (posOf i as = none ∧ env[i]? = some (some ov)) ∨ ∃ k, posOf i as = some k ∧ e[k]? = some (some ov)
  | [], env, e, i, ov, n, h, l => by
    unfold backA at h
    exact .inl ⟨rfl, h⟩
  | .s j :: r, env, o :: e, i, ov, n, h, l => by
    have h : (backA (env.set j o) r e)[i]? = some (some ov) := h
    rcases backA_some n.2 h (by simpa using l) with ⟨h1, h2⟩ | ⟨k, h1, h2⟩
    · by_cases e1 : j = i
      · subst e1
        refine .inr ⟨0, by unfold posOf; rw [if_pos rfl], ?_⟩
        by_cases hl : j < env.length
        · rw [List.getElem?_set_self hl] at h2
          exact h2
        · rw [List.getElem?_eq_none (by rw [List.length_set]; omega)] at h2
          cases h2
      · rw [List.getElem?_set_ne e1] at h2
        refine .inl ⟨?_, h2⟩
        unfold posOf
        rw [if_neg e1, h1]
        rfl
    · refine .inr ⟨k + 1, ?_, h2⟩
      have ne : ¬ j = i := fun e1 => by
        have := n.1
        rw [e1, h1] at this
        cases this
      unfold posOf
      rw [if_neg ne, h1]
      rfl
  | .s j :: r, env, [], i, ov, n, h, l => by simp at l
  | .d m :: r, env, o :: e, i, ov, n, h, l => by
    have h : (backA env r e)[i]? = some (some ov) := h
    rcases backA_some (as := r) n h (by simpa using l) with ⟨h1, h2⟩ | ⟨k, h1, h2⟩
    · refine .inl ⟨?_, h2⟩
      unfold posOf
      rw [h1]
      rfl
    · refine .inr ⟨k + 1, ?_, h2⟩
      unfold posOf
      rw [h1]
      rfl
  | .d m :: r, env, [], i, ov, n, h, l => by simp at l
theorem AgRel.val {σ : L2.St} {P : Hp} : ∀ {as : List Ag} {xs : List PyData} {vs : List V} {k i : Nat}, AgRel σ P as xs vs → as[k]? = some (.s i) → ∃ v, vs[k]? = some v ∧ σ[i]? = some (some v)
  | _, _, _, k, i, .nil, e => by simp at e
  | _, _, _, 0, i, .d h t, e => by simp at e
  | _, _, _, k + 1, i, .d h t, e => t.val (k := k) (i := i) (by simpa using e)
  | _, _, _, 0, i, .s h t, e => by
    simp only [List.getElem?_cons_zero, Option.some.injEq, Ag.s.injEq] at e
    subst e
    exact ⟨_, rfl, h⟩
  | _, _, _, k + 1, i, .s h t, e => t.val (k := k) (i := i) (by simpa using e)

/-! ### the callee's frame -/
/-- the own objects of the slots that are not handed over -/
noncomputable def restH (fp : Nat → List Addr) (as : List Ag) (H : Hp) : Hp := fun b => open Classical in if ∃ j, posOf j as = none ∧ b ∈ fp j then H b else none
theorem restH_in {fp : Nat → List Addr} {as : List Ag} {H : Hp} {b : Addr} {j : Nat} (h : posOf j as = none) (hb : b ∈ fp j) : restH fp as H b = H b := by
  unfold restH
  rw [if_pos ⟨j, h, hb⟩]
theorem restH_some {fp : Nat → List Addr} {as : List Ag} {H : Hp} {b : Addr} {o : HO} (h : restH fp as H b = some o) : ∃ j, posOf j as = none ∧ b ∈ fp j ∧ H b = some o := by
  unfold restH at h
  split at h
  · rename_i q
    obtain ⟨j, h1, h2⟩ := q
    exact ⟨j, h1, h2, h⟩
  · cases h
noncomputable abbrev callC (C : Cc) (fp : Nat → List Addr) (as : List Ag) (H : Hp) (vs : List V) : Cc := { C with F := join C.F (restH fp as H), kp := fun i => vs[i]? }
section
variable {C : Cc} {P P' : Hp} {env : Env} {fp : Nat → List Addr} {σ : L2.St} {H H' : Hp} {as : List Ag} {xs : List PyData} {vs : List V}
theorem map_some_at {i : Nat} {v : V} : (vs.map some)[i]? = some (some v) ↔ vs[i]? = some v := by
  rw [List.getElem?_map]
  constructor
  · intro h
    obtain ⟨w, h1, h2⟩ := Option.map_eq_some_iff.mp h
    cases h2
    exact h1
  · intro h
    rw [h]
    rfl
theorem fpA_mem {k : Nat} {a : Addr} (h : a ∈ fpA fp as k) : ∃ i, as[k]? = some (.s i) ∧ a ∈ fp i := by
  unfold fpA at h
  split at h
  · rename_i i e
    exact ⟨i, e, h⟩
  · cases h
theorem StOk.callIn (s : StOk C P env fp σ H) (r : AgRel σ P as xs vs) (n : agNd as) : StOk (callC C fp as H vs) P (argE env as xs) (fpA fp as) (vs.map some) H := by
  refine ⟨s.phi, fun b o q => ?_, fun k ov q => ?_, fun k k' a h1 h2 => ?_, fun k a h => ?_, fun i v q => map_some_at.mpr q, s.tabs, by rw [List.length_map]; exact (r.len).1⟩
  · have q : join C.F (restH fp as H) b = some o := q
    cases e : C.F b with
    | some w =>
      rw [join_l e] at q
      cases q
      exact s.frm b _ e
    | none =>
      rw [join_r e] at q
      obtain ⟨j, h1, h2, h3⟩ := restH_some q
      obtain ⟨h4, h5, u, h6, h7⟩ := s.fre j b h2
      rw [h3] at h6
      cases h6
      exact ⟨h3, h7, h4⟩
  · obtain ⟨v, h1, h2⟩ := r.at q
    refine ⟨v, map_some_at.mpr h1, ?_⟩
    rcases h2 with ⟨x, m, rfl, e, d⟩ | ⟨i, e1, e2, e3⟩
    · have ef : fpA fp as k = [] := by unfold fpA; rw [e]
      rw [ef]
      exact .d d
    · have ef : fpA fp as k = fp i := by unfold fpA; rw [e1]
      rw [ef]
      obtain ⟨v', h3, o⟩ := s.own i ov e2
      have := slot_inj e3 h3
      subst this
      exact o
  · obtain ⟨i, e1, m1⟩ := fpA_mem h1
    obtain ⟨i', e2, m2⟩ := fpA_mem h2
    have := s.dis i i' a m1 m2
    subst this
    have q1 := at_posOf n e1
    have q2 := at_posOf n e2
    rw [q1] at q2
    exact Option.some.inj q2
  · obtain ⟨i, e1, m1⟩ := fpA_mem h
    obtain ⟨h4, h5, h6⟩ := s.fre i a m1
    refine ⟨h4, (join_r h5).trans ?_, h6⟩
    cases q : restH fp as H a with
    | none => rfl
    | some o =>
      obtain ⟨j, g1, g2, _⟩ := restH_some q
      have := s.dis i j a m1 g2
      subst this
      rw [at_posOf n e1] at g1
      cases g1
/-- the caller's own objects behind the call -/
def fpB (fp fp2 : Nat → List Addr) (as : List Ag) (i : Nat) : List Addr := match posOf i as with
  | some k => fp2 k
  | none => fp i
theorem StOk.callOut {e2 : Env} {fp2 : Nat → List Addr} (s : StOk C P env fp σ H) (r : AgRel σ P as xs vs) (n : agNd as) (l : Le P P') (s2 : StOk (callC C fp as H vs) P' e2 fp2 (vs.map some) H') :
    StOk C P' (backA env as e2) (fpB fp fp2 as) σ H' := by
  have hl : e2.length = as.length := by rw [s2.len, List.length_map]; exact (r.len (env := env)).2.symm
  have rest : ∀ j a, posOf j as = none → a ∈ fp j → H' a = H a ∧ P' a = none ∧ C.F a = none ∧ ∃ u, H a = some u ∧ Fz u := fun j a hj ha => by
    obtain ⟨h4, h5, u, h6, h7⟩ := s.fre j a ha
    have e : (join C.F (restH fp as H)) a = some u := by rw [join_r h5, restH_in hj ha]; exact h6
    obtain ⟨q1, q2, q3⟩ := s2.frm a u e
    exact ⟨q1.trans h6.symm, q3, h5, u, h6, h7⟩
  have free2 : ∀ k a, a ∈ fp2 k → ∀ j, posOf j as = none → a ∉ fp j := fun k a hk j hj ha => by
    obtain ⟨_, q, _⟩ := s2.fre k a hk
    obtain ⟨_, q2⟩ := join_none q
    rw [restH_in hj ha] at q2
    obtain ⟨_, _, _, u, h6, _⟩ := rest j a hj ha
    rw [h6] at q2
    cases q2
  refine ⟨s2.phi, fun b o q => s2.frm b o (join_l q), fun i ov q => ?_, fun i j a h1 h2 => ?_, fun i a h => ?_, s.keep, s2.tabs, by rw [backA_length]; exact s.len⟩
  · rcases backA_some n q hl with ⟨h1, h2⟩ | ⟨k, h1, h2⟩
    · obtain ⟨v, h3, o⟩ := s.own i ov h2
      refine ⟨v, h3, ?_⟩
      have ef : fpB fp fp2 as i = fp i := by unfold fpB; rw [h1]
      rw [ef]
      exact o.frame l fun a ha => (rest i a h1 ha).1
    · obtain ⟨v, h3, o⟩ := s2.own k ov h2
      obtain ⟨v', h4, h5⟩ := r.val (posOf_at h1)
      have e3 := map_some_at.mp h3
      have ev : v' = v := Option.some.inj (h4.symm.trans e3)
      subst ev
      refine ⟨v', h5, ?_⟩
      have ef : fpB fp fp2 as i = fp2 k := by unfold fpB; rw [h1]
      rw [ef]
      exact o
  · unfold fpB at h1 h2
    cases p1 : posOf i as with
    | none =>
      rw [p1] at h1
      cases p2 : posOf j as with
      | none =>
        rw [p2] at h2
        exact s.dis i j a h1 h2
      | some k =>
        rw [p2] at h2
        exact absurd h1 (free2 k a h2 i p1)
    | some k =>
      rw [p1] at h1
      cases p2 : posOf j as with
      | none =>
        rw [p2] at h2
        exact absurd h2 (free2 k a h1 j p2)
      | some k' =>
        rw [p2] at h2
        have e := s2.dis k k' a h1 h2
        subst e
        have q1 := posOf_at p1
        rw [posOf_at p2] at q1
        cases q1
        rfl
  · unfold fpB at h
    cases p1 : posOf i as with
    | none =>
      rw [p1] at h
      obtain ⟨h1, h2, h3, u, h4, h5⟩ := rest i a p1 h
      exact ⟨h2, h3, u, h1.trans h4, h5⟩
    | some k =>
      rw [p1] at h
      obtain ⟨h1, h2, h3⟩ := s2.fre k a h
      exact ⟨h1, (join_none h2).1, h3⟩
theorem rOV.callOut {e2 : Env} {fp2 : Nat → List Addr} {ov : OV} {v : V} (s : StOk C P env fp σ H) (s2 : StOk (callC C fp as H vs) P' e2 fp2 (vs.map some) H') (o : rOV (callC C fp as H vs) P' fp2 H' ov v) : rOV C P' (fpB fp fp2 as) H' ov v := by
  obtain ⟨ft, ow, t⟩ := o
  refine ⟨ft, ow, fun i a h hm => ?_, fun a hm => ⟨(t.fre a hm).1, (join_none (t.fre a hm).2).1⟩⟩
  unfold fpB at h
  cases p1 : posOf i as with
  | none =>
    rw [p1] at h
    obtain ⟨_, q⟩ := join_none (t.fre a hm).2
    rw [restH_in p1 h] at q
    obtain ⟨_, _, u, h6, _⟩ := s.fre i a h
    rw [h6] at q
    cases q
  | some k =>
    rw [p1] at h
    exact t.dis k a h hm
end

/-! ### promises -/
def fnSp (np : Nat) (T : List Addr) (ex : Str → Option Addr) (mf : M OV) : Sp := fun vs H Q E => vs.length = np ∧ ∃ (C : Cc) (P : Hp) (env : Env) (fp : Nat → List Addr), C.tabs = T ∧ C.exc = ex ∧ (∀ i, C.kp i = vs[i]?) ∧ StOk C P env fp (vs.map some) H ∧
  postG C (fun cls d _ H => E cls d H) (rOV C) P Q (vs.map some) (mf env)
/-- the def of the module's name x -/
structure FnS (P : Program) (w : World) (K : PySem.W.Frag) (mg : Str → Option Value) (base : Heap) (T : List Addr) (ex : Str → Option Addr) (k : Nat) (x : Str) (np : Nat) (mf : M OV) : Prop where
  ok : ∃ (f : Addr) (fd : FuncData) (ps : List Str), ps.length = np ∧ mg x = some (.ref f) ∧ PySem.W.keepIn K (.ref f) = true ∧ Binds K fd ps [] ∧ FnOk P w K mg base (L2.CX P w) k f fd ps (fnSp np T ex mf)
theorem FnS.mono {P : Program} {w : World} {K : PySem.W.Frag} {mg : Str → Option Value} {base : Heap} {T : List Addr} {ex : Str → Option Addr} {j k : Nat} {x : Str} {np : Nat} {mf : M OV} (F : FnS P w K mg base T ex j x np mf) (h : j ≤ k) : FnS P w K mg base T ex k x np mf := by
  obtain ⟨f, fd, ps, h1, h2, h3, h4, h5⟩ := F.ok
  exact ⟨f, fd, ps, h1, h2, h3, h4, h5.mono h⟩
def mCall (as : List Ag) (mf : M OV) : M OV := agsM as >>= fun xs => fun env => match mf (argE env as xs) with
  | none => none
  | some (.ok r e) => some (.ok r (backA env as e))
  | some (.exc x e) => some (.exc x (backA env as e))
section
variable {X : Cx} {C : Cc} {W : WX} {pos : Pos}
def liftAg (C : Cc) (W : WX) (as : List Ag) : TA := fun σ H Q => liftG C W (fun P _ _ xs vs => AgRel σ P as xs vs) (agsM as) σ H Q
theorem sAg_nil : PA X [] (liftAg C W []) := PA.imp pa_nil fun σ H Q q => by
  obtain ⟨P, env, fp, s, h⟩ := q
  exact h P fp H [] (Le.refl _) s .nil
theorem sAg_d {e : Expr} {es : List Expr} {m : M PyData} {as : List Ag} (h : PE X e (liftD C W m)) (r : PA X es (liftAg C W as)) (ns : NS e) : PA X (e :: es) (liftAg C W (.d m :: as)) := PA.imp (pa_cons h r (ns es _)) fun σ H Q q => by
  refine liftG.seq q fun x env1 P1 fp1 H1 v s1 r1 h1 => ?_
  refine ⟨P1, env1, fp1, s1, postG.seq h1 fun xs env2 P2 fp2 H2 vs l2 s2 r2 h2 => ?_⟩
  exact h2 P2 fp2 H2 _ (Le.refl _) s2 (.d (l2.dp r1) r2)
theorem sAg_s {x : Str} {i : Nat} {p : Pos} {es : List Expr} {as : List Ag} (n : NameOk X i x) (r : PA X es (liftAg C W as)) : PA X (.Name x p :: es) (liftAg C W (.s i :: as)) := PA.imp (pa_cons n.pe r rfl) fun σ H Q q => by
  obtain ⟨v0, ov, P, env, fp, f0, e0, hp, o0, s, h⟩ := slot_start q
  refine ⟨v0, f0, P, env, fp, s, ?_⟩
  cases em : agsM as env with
  | none => rw [em] at h; exact h.elim
  | some o =>
    rw [em] at h
    cases o with
    | exc y e1 => exact h
    | ok xs e1 => exact fun P' fp' H' vs l' s' r' => h P' fp' H' (v0 :: vs) l' s' (.s f0 r')
theorem sE_call {k np : Nat} {x : Str} {p : Pos} {e : Expr} {es : List Expr} {as : List Ag} {mf : M OV} (F : FnS X.prog X.w X.K X.mg X.base C.tabs C.exc k x np mf) (hr : Room k X.A) (hg : Gl X x) (tk : Takes X W) (hnd : agNd as) (hl : as.length = np) (ha : PA X (e :: es) (liftAg C W as))
    (ns : NS e) (hdb : (x == ("__debug__" : Str)) = false) (hpl : (backTo pos (starEach es X.env)).any (·.1) = false) : PE X (.Call (.Name x p) (e :: es) [] pos) (liftE C W (mCall as mf)) := by
  obtain ⟨f, fd, ps, h1, h2, h3, h4, h5⟩ := F.ok
  refine PE.imp (pe_callSD (E := fun σ cls d H' => W cls d σ H') h5 hr hg h2 h3 h4 .nil (fun σ pins H s e s' I c => tk e s' (XE.of_call I (fun cls d H' h => h) c)) ha hdb (ns es _) hpl) fun σ H Q q => ?_
  refine liftG.seq q fun xs env1 P1 fp1 H1 vs s1 r1 h1' => ?_
  have q1 : postG C W (rOV C) P1 Q σ (match mf (argE env1 as xs) with
    | none => none
    | some (.ok r e) => some (.ok r (backA env1 as e))
    | some (.exc x e) => some (.exc x (backA env1 as e))) := h1'
  rw [List.append_nil]
  refine ⟨by rw [← (r1.len (env := env1)).2]; exact hl, callC C fp1 as H1 vs, P1, argE env1 as xs, fpA fp1 as, rfl, rfl, fun i => rfl, s1.callIn r1 hnd, ?_⟩
  cases em : mf (argE env1 as xs) with
  | none => rw [em] at q1; exact q1.elim
  | some o =>
    rw [em] at q1
    cases o with
    | ok r e2 => exact fun P' fp' H' v l' s' r' => q1 P' _ H' v l' (s1.callOut r1 hnd l' s') (rOV.callOut s1 s' r')
    | exc y e2 => exact fun P' fp' H' cls d l' s' r' => q1 P' _ H' cls d l' (s1.callOut r1 hnd l' s') r'
end
end TL
set_option Elab.async false
set_option linter.all false
set_option maxRecDepth 100000
set_option maxHeartbeats 1000000
namespace TL
open PySem PySem.Spec PyProof.Rows L2 GenW GxR
/-! ### a def's body -/
/-- what is left of the arguments -/
def endO (ow : List Nat) (i : Nat) (o n : Option OV) : Option OV := if ow.contains i then n else match o with
  | some (.d x) => some (.d x)
  | _ => none
def endE (ow : List Nat) : Nat → Env → Env → Env
  | _, [], _ => []
  | i, o :: env, [] => endO ow i o none :: endE ow (i + 1) env []
  | i, o :: env, n :: e => endO ow i o n :: endE ow (i + 1) env e
def fnM (np N : Nat) (ow : List Nat) (mb : M Fl) : M OV := fun env => match mb (env ++ List.replicate (N - np) none) with
  | none => none
  | some (.ok .nx e) => some (.ok (.d .none) (endE ow 0 env e))
  | some (.ok (.rt r) e) => some (.ok r (endE ow 0 env e))
  | some (.ok _ _) => none
  | some (.exc x e) => some (.exc x (endE ow 0 env e))
theorem endE_length {ow : List Nat} : ∀ {env e : Env} {i : Nat}, (endE ow i env e).length = env.length
  | [], _, _ => by unfold endE; rfl
  | o :: env, [], i => by unfold endE; rw [List.length_cons, List.length_cons, endE_length]
  | o :: env, n :: e, i => by unfold endE; rw [List.length_cons, List.length_cons, endE_length]
theorem endE_some {ow : List Nat} : ∀ {env e : Env} {i k : Nat} {ov : OV}, (endE ow i env e)[k]? = some (some ov) →
    (ow.contains (i + k) = true ∧ e[k]? = some (some ov)) ∨ (ow.contains (i + k) = false ∧ ∃ x, ov = .d x ∧ env[k]? = some (some (.d x)))
  | [], e, i, k, ov, h => by simp [endE] at h
  | o :: env, [], i, 0, ov, h => by
    have h : some (endO ow i o none) = some (some ov) := h
    unfold endO at h
    cases hc : ow.contains i with
    | true => rw [hc, if_pos rfl] at h; cases h
    | false =>
      rw [hc, if_neg Bool.false_ne_true] at h
      refine .inr ⟨(by first | exact hc | rfl), ?_⟩
      cases o with
      | none => cases h
      | some o =>
        cases o with
        | d x => cases h; exact ⟨x, rfl, rfl⟩
        | _ => cases h
  | o :: env, n :: e, i, 0, ov, h => by
    have h : some (endO ow i o n) = some (some ov) := h
    unfold endO at h
    cases hc : ow.contains i with
    | true =>
      rw [hc, if_pos rfl] at h
      exact .inl ⟨(by first | exact hc | rfl), h⟩
    | false =>
      rw [hc, if_neg Bool.false_ne_true] at h
      refine .inr ⟨(by first | exact hc | rfl), ?_⟩
      cases o with
      | none => cases h
      | some o =>
        cases o with
        | d x => cases h; exact ⟨x, rfl, rfl⟩
        | _ => cases h
  | o :: env, [], i, k + 1, ov, h => by
    have h : (endE ow (i + 1) env [])[k]? = some (some ov) := h
    rcases endE_some h with ⟨h1, h2⟩ | ⟨h1, x, h2, h3⟩
    · simp at h2
    · exact .inr ⟨by rw [← h1]; congr 1; omega, x, h2, h3⟩
  | o :: env, n :: e, i, k + 1, ov, h => by
    have h : (endE ow (i + 1) env e)[k]? = some (some ov) := h
    rcases endE_some h with ⟨h1, h2⟩ | ⟨h1, x, h2, h3⟩
    · exact .inl ⟨by rw [← h1]; congr 1; omega, h2⟩
    · exact .inr ⟨by rw [← h1]; congr 1; omega, x, h2, h3⟩
/-- the body's context -/
abbrev bodyC (C : Cc) (ow : List Nat) : Cc := { C with kp := fun i => if ow.contains i then C.kp i else none }
section
variable {C : Cc} {P P' : Hp} {env e : Env} {fp fp' : Nat → List Addr} {σ σ' : L2.St} {H H' : Hp} {vs : List V} {N : List Str} {ow : List Nat}
theorem start_at {i : Nat} {v : V} (h : vs[i]? = some v) : (start N vs)[i]? = some (some v) := by
  unfold L2.start
  have hl : i < vs.length := by
    by_cases hl : i < vs.length
    · exact hl
    · rw [List.getElem?_eq_none (by omega)] at h; cases h
  rw [List.getElem?_append_left (by rw [List.length_map]; exact hl)]
  exact map_some_at.mpr h
theorem StOk.begin (s : StOk C P env fp (vs.map some) H) (hk : ∀ i, C.kp i = vs[i]?) (hN : vs.length ≤ N.length) : StOk (bodyC C ow) P (env ++ List.replicate (N.length - vs.length) none) fp (start N vs) H := by
  have hl : env.length = vs.length := by rw [s.len, List.length_map]
  refine ⟨s.phi, s.frm, fun i ov q => ?_, s.dis, s.fre, fun i v q => ?_, s.tabs, ?_⟩
  · by_cases hi : i < env.length
    · rw [List.getElem?_append_left hi] at q
      obtain ⟨v, h1, o⟩ := s.own i ov q
      exact ⟨v, start_at (map_some_at.mp h1), o⟩
    · rw [List.getElem?_append_right (by omega)] at q
      rw [List.getElem?_replicate] at q
      split at q <;> cases q
  · have q : (if ow.contains i then C.kp i else none) = some v := q
    split at q
    · exact start_at (by rw [← hk]; exact q)
    · cases q
  · unfold L2.start
    rw [List.length_append, List.length_append, List.length_replicate, List.length_replicate, List.length_map, hl]
theorem StOk.finish (s0 : StOk C P env fp (vs.map some) H) (hk : ∀ i, C.kp i = vs[i]?) (l : Le P P') (s : StOk (bodyC C ow) P' e fp' σ' H') :
    StOk C P' (endE ow 0 env e) (fun i => if ow.contains i then fp' i else []) (vs.map some) H' := by
  have hl : env.length = vs.length := by rw [s0.len, List.length_map]
  refine ⟨s.phi, s.frm, fun i ov q => ?_, fun i j a h1 h2 => ?_, fun i a h => ?_, fun i v q => map_some_at.mpr (by rw [← hk]; exact q), s.tabs, by rw [endE_length, List.length_map]; exact hl⟩
  · have hi : i < env.length := by
      by_cases hi : i < (endE ow 0 env e).length
      · rw [endE_length] at hi; exact hi
      · rw [List.getElem?_eq_none (by omega)] at q; cases q
    rcases endE_some q with ⟨h1, h2⟩ | ⟨h1, x, rfl, h3⟩
    · rw [Nat.zero_add] at h1
      rw [if_pos h1]
      obtain ⟨v, h4, o⟩ := s.own i ov h2
      have hv : vs[i]? = some vs[i] := List.getElem?_eq_getElem (by omega)
      have q2 : (bodyC C ow).kp i = some vs[i] := by
        show (if ow.contains i then C.kp i else none) = _
        rw [if_pos h1, hk]
        exact hv
      have h5 := s.keep i _ q2
      have := slot_inj h4 h5
      subst this
      exact ⟨_, map_some_at.mpr hv, o⟩
    · rw [Nat.zero_add] at h1
      rw [if_neg (by rw [h1]; exact Bool.false_ne_true)]
      obtain ⟨v, h4, o⟩ := s0.own i _ h3
      exact ⟨v, h4, .d (l.dp o.dp)⟩
  · split at h1
    · split at h2
      · exact s.dis i j a h1 h2
      · cases h2
    · cases h1
  · split at h
    · exact s.fre i a h
    · cases h
theorem rOV.finish {ov : OV} {v : V} (o : rOV (bodyC C ow) P' fp' H' ov v) : rOV C P' (fun i => if ow.contains i then fp' i else []) H' ov v := by
  obtain ⟨ft, ow', t⟩ := o
  refine ⟨ft, ow', fun i a h hm => ?_, t.fre⟩
  split at h
  · exact t.dis i a h hm
  · cases h
end
/-- a def whose code object is at c -/
structure FunC (K : PySem.W.Frag) (x qual : Str) (params : Arguments) (body : List Stmt) (scope : Scope) (f : Addr) (fd : FuncData) (cdv : Value) : Prop where
  ex : ∃ (oc : Value) (od : Option Addr) (kV doc pm : Value) (an : Option Addr) (ct : Value) (osl : Array (Option Value)),
    fd = PySem.W.fnOf x qual params body scope .none kV doc pm an cdv ct ∧ K.lookup f = some ⟨oc, od, .func fd, osl⟩ ∧ PySem.W.codeIn K cdv qual = true
  kp : PySem.W.keepIn K (.ref f) = true
theorem FunC.binds {K : PySem.W.Frag} {x qual : Str} {params : Arguments} {body : List Stmt} {scope : Scope} {f : Addr} {fd : FuncData} {cdv : Value} {ps : List Str} (F : FunC K x qual params body scope f fd cdv)
    (h : ∀ (kV doc pm : Value) (an : Option Addr) (cdv ct : Value) (us : List Value), us.length = ps.length → bindArgs (PySem.W.fnOf x qual params body scope .none kV doc pm an cdv ct) ⟨us, []⟩ = pure (ps.zip us)) : Binds K fd ps [] := by
  obtain ⟨oc, od, kV, doc, pm, an, ct, osl, rfl, lk, hcd⟩ := F.ex
  exact .all (h kV doc pm an cdv ct)
section
variable {P : Program} {w : World} {K : PySem.W.Frag} {mg : Str → Option Value} {base : Heap} {T : List Addr} {ex : Str → Option Addr}
/-- the body's own context -/
abbrev fnX (P : Program) (w : World) (K : PySem.W.Frag) (mg : Str → Option Value) (base : Heap) (N : List Str) (qual : Str) (scope : Scope) (f : Addr) (cdv : Value) (A : Around) (outer : List PySem.Env) (s : Shared) (H : Hp) (E : XK) : Cx :=
  cxOf (L2.CX P w) P w K mg base N qual scope f cdv A outer s H E
abbrev fnW (E : XK) : WX := fun cls d _ H => E cls d H
theorem fnX_takes {N : List Str} {qual : Str} {scope : Scope} {f : Addr} {cdv : Value} {A : Around} {outer : List PySem.Env} {s : Shared} {H : Hp} {E : XK} : Takes (fnX P w K mg base N qual scope f cdv A outer s H E) (fnW E) :=
  takes_of rfl rfl rfl rfl
theorem fnX_passes {N : List Str} {qual : Str} {scope : Scope} {f : Addr} {cdv : Value} {A : Around} {outer : List PySem.Env} {s : Shared} {H : Hp} {E : XK} : PassesOwn (model P w) (fnX P w K mg base N qual scope f cdv A outer s H E).A (fnX P w K mg base N qual scope f cdv A outer s H E).env (fnX P w K mg base N qual scope f cdv A outer s H E).xe :=
  passes_of rfl
/-- THE RULE: the def runs as its mirror -/
theorem FunC.fnS {x qual : Str} {params : Arguments} {body : List Stmt} {scope : Scope} {f : Addr} {fd : FuncData} {cdv : Value} {ps N : List Str} {ow : List Nat} {k np : Nat} {mb : M Fl} (F : FunC K x qual params body scope f fd cdv) (hx : mg x = some (.ref f)) (S : FnScope N ps scope) (hnp : ps.length = np) (hN : np ≤ N.length)
    (hb : ∀ (kV doc pm : Value) (an : Option Addr) (cdv ct : Value) (us : List Value), us.length = ps.length → bindArgs (PySem.W.fnOf x qual params body scope .none kV doc pm an cdv ct) ⟨us, []⟩ = pure (ps.zip us))
    (hbody : ∀ (A : Around) (outer : List PySem.Env) (s : Shared) (H : Hp) (E : XK) (C : Cc), Room k (A.deeper (envOfC qual scope s.heap.objs.size f cdv)) → C.tabs = T → C.exc = ex → (∀ i, ow.contains i = false → C.kp i = none) →
      PSs (fnX P w K mg base N qual scope f cdv A outer s H E) body (liftS C (fnW E) mb)) : FnS P w K mg base T ex (k + 1) x np (fnM np N.length ow mb) := by
  refine ⟨⟨f, fd, ps, hnp, hx, F.kp, F.binds hb, ?_⟩⟩
  obtain ⟨oc, od, kV, doc, pm, an, ct, osl, rfl, lk, hcd⟩ := F.ex
  refine fn_of lk hcd S (fun vs H Q E q => by rw [hnp]; exact q.1) fun A outer s H vs Q E hr hsp => ?_
  obtain ⟨hl, C, P0, env, fp, hT, hE, hk, s0, q⟩ := hsp
  refine ⟨_, hbody A outer s H E (bodyC C ow) hr hT hE (fun i hi => if_neg (by rw [hi]; exact Bool.false_ne_true)), ?_⟩
  have hvl : vs.length ≤ N.length := by rw [hl]; exact hN
  refine ⟨P0, _, fp, s0.begin hk hvl, ?_⟩
  rw [hl]
  unfold fnM at q
  cases em : mb (env ++ List.replicate (N.length - np) none) with
  | none => rw [em] at q; exact q.elim
  | some o =>
    rw [em] at q
    cases o with
    | exc y e => exact fun P' fp' σ' H' cls d l s' r => q P' _ H' cls d l (s0.finish hk l s') r
    | ok fl e =>
      cases fl with
      | nx => exact fun P' fp' σ' H' l s' => q P' _ H' .non l (s0.finish hk l s') (rOV.d .non)
      | rt r => exact fun P' fp' σ' H' v l s' r => q P' _ H' v l (s0.finish hk l s') (rOV.finish r)
      | bk => exact q.elim
      | ct => exact q.elim
end
end TL
set_option Elab.async false
set_option linter.all false
set_option maxRecDepth 100000
set_option maxHeartbeats 1000000
namespace TL
open PySem PySem.Spec PyProof.Rows L2 GenW GxR
section
variable {X : Cx} {C : Cc} {W : WX} {pos : Pos}
/-! ### short forms -/
theorem NameOk.var {i : Nat} {x : Str} (n : NameOk X i x) : PE X (.Name x pos) (liftE C W (mVar i)) := sE_var n.n n.v n.d n.c
theorem NameOk.move {i : Nat} {x : Str} (n : NameOk X i x) : PE X (.Name x pos) (liftE C W (mMove i)) := sE_move n.n n.v n.d n.c
theorem NameOk.frz {i : Nat} {x : Str} (n : NameOk X i x) : PE X (.Name x pos) (liftE C W (mFrz i)) := sE_frzv n.n n.v n.d n.c
theorem NameOk.len {i : Nat} {x : Str} {p p2 : Pos} (n : NameOk X i x) (hg : Gl X "len") (hm : X.mg "len" = none) : PE X (.Call (.Name "len" p) [.Name x p2] [] pos) (liftE C W (mPeek i gLen)) := sE_lenS n.n n.v n.d n.c hg hm
theorem NameOk.tru {i : Nat} {x : Str} (n : NameOk X i x) (he : PlainT X (.Name x pos)) : PT X (.Name x pos) (liftT C W (mPeek i ovTru)) := sT_truS n.n n.v n.d n.c he
/-- data in the hand -/
def dat (m : M PyData) : M OV := m >>= fun x => pure (.d x)
theorem sE_dt {e : Expr} {m : M PyData} (h : PE X e (liftD C W m)) : PE X e (liftE C W (dat m)) := sE_dat h
theorem LocOk.set {i : Nat} {x : Str} {e : Expr} {m : M OV} {p : Pos} (l : LocOk X C i x) (h : PE X e (liftE C W m)) (hs : swapsWith e (some (.Name x p)) pos.line X.env = pure false) : PS X (.Assign [.Name x p] e pos) (liftS C W (mSet i m)) :=
  sS_set l.nd l.n l.l l.f l.k h hs
/-! ### * -/
def gMulX : PyData → PyData → Option OV
  | .int i, .int j => if i.natAbs.log2 + j.natAbs.log2 < 1000000 then some (.d (.int (i * j))) else none
  | .list xs, .int k => if -(2 ^ 63) ≤ k ∧ k < 2 ^ 63 ∧ xs.length * k.toNat ≤ sizeLine then some (.lst (List.replicate k.toNat xs).flatten) else none
  | .list xs, .bool b => some (.lst (if b then xs else []))
  | .tuple xs, .int k => if xs ≠ [] ∧ 2 ≤ k ∧ k ≤ 1000 ∧ xs.length ≤ 1000 then some (.d (.tuple (List.replicate k.toNat xs).flatten)) else none
  | _, _ => none
theorem vals_rep {vs : List V} {us : List Value} (r : Vals vs us) : ∀ n : Nat, Vals (List.replicate n vs).flatten (List.replicate n us).flatten
  | 0 => .nil
  | n + 1 => by
    rw [List.replicate_succ, List.replicate_succ, List.flatten_cons, List.flatten_cons]
    exact r.append (vals_rep r n)
theorem len_rep {α : Type} (xs : List α) : ∀ n : Nat, (List.replicate n xs).flatten.length = xs.length * n
  | 0 => by simp
  | n + 1 => by
    rw [List.replicate_succ, List.flatten_cons, List.length_append, len_rep xs n, Nat.mul_succ]
    omega
def rMulLI : R2 := fun x y H Q => ∃ a xs k, x = V.ref a ∧ y = V.int k ∧ SqL X.K H a xs ∧ -(2 ^ 63) ≤ k ∧ k < 2 ^ 63 ∧ xs.length * k.toNat ≤ sizeLine ∧ ∀ p, H p = none → Q (.ref p) (upd H p (.lst (List.replicate k.toNat xs).flatten))
theorem op_mulLI : OpR X (binaryOp .Mult) (rMulLI (X := X)) := by
  intro pins s σ H x y v u Q I rx ry h
  obtain ⟨a, xs, k, rfl, rfl, hs, hlo, hhi, hz, q⟩ := h
  obtain rfl : v = Value.ref a := rx
  obtain ⟨t, rfl⟩ := ry
  obtain ⟨its, rv, ⟨⟨cls, dd, data, sl⟩, n, ho, hc, hdn, hd⟩, hlen⟩ := I.list hs
  have hc1 : cls = Value.type "list" := hc
  have hd1 : data = Data.seq its.toArray n := hd
  subst hc1 hd1
  have hl := rv.length
  have hz2 : its.toArray.size * k.toNat ≤ sizeLine := by rw [List.size_toArray, ← hl]; exact hz
  have hsl := sizeLine_eq
  refine wpAny_binaryOp_repeat_ref (T := "list") (U := "int") (by decide) ⟨_, ho, rfl⟩ (fun s' => typeIs_int s' k t) noFill_list_mul F.fills_int_mul F.slot_int_rmul repeat_list F.slot_int_index.lookup
    (PySem.call_meets F.slot_int_rmul (typeIs_int s k t) F.entry_int_rmul (F.args_int_rmul_2 _ _) (lm_int_rmul_list_any k t a its.toArray n dd sl)
      ⟨ho, rfl, ⟨_, ho, rfl⟩, PySem.call_meets F.slot_list_mul ⟨_, ho, rfl⟩ F.entry_list_mul (F.args_list_mul_2 _ _)
        (lm_list_mul_any a its.toArray n dd sl k t (by simp [Builtin.List.listFitsIndex]; omega) (by omega) (by simp only [Builtin.List.listTooLong, decide_eq_true_eq]; omega))
        ⟨ho, ?_⟩⟩)
  have e : List.foldl (fun x1 x2 => x1 ++ x2) #[] (List.replicate (if its.toArray.isEmpty = true then 0 else k.toNat) its.toArray) = (List.replicate k.toNat its).flatten.toArray := by
    rw [listMul_foldl_if]
  rw [e]
  exact ⟨.ref s.heap.objs.size, upd H s.heap.objs.size (.lst (List.replicate k.toNat xs).flatten), I.laid (t' := s.toks) (fun b o e => Heap.get?_push_of_some _ e) (Nat.le_refl _) ⟨by rw [len_rep]; exact hz, _, 0, vals_rep rv _, Heap.get?_push_size _ rfl⟩, rfl, q _ (I.hok.fresh (Nat.le_refl _))⟩
theorem od_mul : OD X C (binaryOp .Mult) gMulX := by
  intro P env fp σ H x y dx dy r Q s d1 d2 e k
  cases d1 with
  | int i =>
    cases d2 with
    | int j =>
      have e' : (if i.natAbs.log2 + j.natAbs.log2 < 1000000 then some (OV.d (.int (i * j))) else none) = some r := e
      by_cases hz : i.natAbs.log2 + j.natAbs.log2 < 1000000
      · rw [if_pos hz] at e'
        cases e'
        exact ⟨_, op_mulW, i, j, rfl, rfl, hz, k P fp H _ (Le.refl _) s (rOV.d (.int _))⟩
      · rw [if_neg hz] at e'
        cases e'
    | _ => cases e
  | lst h a =>
    rename_i l vs xs
    cases d2 with
    | int j =>
      have e' : (if -(2 ^ 63) ≤ j ∧ j < 2 ^ 63 ∧ xs.length * j.toNat ≤ sizeLine then some (OV.lst (List.replicate j.toNat xs).flatten) else none) = some r := e
      by_cases hz : -(2 ^ 63) ≤ j ∧ j < 2 ^ 63 ∧ xs.length * j.toNat ≤ sizeLine
      · rw [if_pos hz] at e'
        cases e'
        exact ⟨_, op_mulLI, l, vs, j, rfl, rfl, toK_L (s.le.sqL h), hz.1, hz.2.1, by rw [dpAll_length a]; exact hz.2.2, fun p hp => rOV.newL s (dpAll_rep a _) k hp⟩
      · rw [if_neg hz] at e'
        cases e'
    | bl b =>
      cases e
      refine ⟨_, op_mul_lb, l, vs, b, rfl, rfl, toK_L (s.le.sqL h), fun p hp => ?_⟩
      cases b with
      | true => exact rOV.newL s a k hp
      | false => exact rOV.newL s (.nil : DpAll K0 P [] []) k hp
    | _ => cases e
  | tup h a =>
    rename_i l vs xs
    cases d2 with
    | int j =>
      have e' : (if xs ≠ [] ∧ 2 ≤ j ∧ j ≤ 1000 ∧ xs.length ≤ 1000 then some (OV.d (.tuple (List.replicate j.toNat xs).flatten)) else none) = some r := e
      by_cases hz : xs ≠ [] ∧ 2 ≤ j ∧ j ≤ 1000 ∧ xs.length ≤ 1000
      · rw [if_pos hz] at e'
        cases e'
        have hl := dpAll_length a
        refine ⟨_, op_repT, l, j, vs, rfl, rfl, toK_T (s.le.sqT h), fun e0 => ?_, hz.2.1, hz.2.2.1, by rw [hl]; exact hz.2.2.2, fun p hp => rOV.newT s (dpAll_rep a _) k hp⟩
        rw [e0] at hl
        exact hz.1 (List.eq_nil_of_length_eq_zero hl.symm)
      · rw [if_neg hz] at e'
        cases e'
    | _ => cases e
  | _ => cases e
/-! ### is, is not: None, bools -/
def gIsX : PyData → PyData → Option OV
  | .bool a, .bool b => some (.d (.bool (decide (a = b))))
  | _, _ => none
def gNotX : PyData → PyData → Option OV
  | .bool a, .bool b => some (.d (.bool (!decide (a = b))))
  | _, _ => none
theorem od_isB : OD X C (compareOp .Is) gIsX := by
  intro P env fp σ H x y dx dy r Q s d1 d2 e k
  cases d1 with
  | bl a =>
    cases d2 with
    | bl b =>
      cases e
      exact ⟨_, op_isBl, a, b, rfl, rfl, k P fp H _ (Le.refl _) s (rOV.d (.bl _))⟩
    | _ => cases e
  | _ => cases e
theorem od_notB : OD X C (compareOp .IsNot) gNotX := by
  intro P env fp σ H x y dx dy r Q s d1 d2 e k
  cases d1 with
  | bl a =>
    cases d2 with
    | bl b =>
      cases e
      exact ⟨_, op_notBl, a, b, rfl, rfl, k P fp H _ (Le.refl _) s (rOV.d (.bl _))⟩
    | _ => cases e
  | _ => cases e
/-! ### isinstance -/
def tyName : PyData → String
  | .none => "NoneType"
  | .bool _ => "bool"
  | .int _ => "int"
  | .str _ => "str"
  | .list _ => "list"
  | .tuple _ => "tuple"
  | _ => ""
def tyIs (x : PyData) (T : String) : Option Bool := kitB (tyName x) T
theorem tyX_of {P H : Hp} {v : V} {x : PyData} (l : Le P H) (d : Dp K0 P v x) : TyX X.K H v (.type (tyName x)) := by
  cases d with
  | non => exact .base .non
  | bl b => exact .base (.bl b)
  | int i => exact .base (.int i)
  | str y => exact .base (.str y)
  | lst h a =>
    rcases l.sqL h with (h | ⟨o, h⟩) | ⟨o, its, n, e, _⟩
    · exact .base (.lst h)
    · exact .base (.frz h)
    · cases e
  | tup h a =>
    rcases l.sqT h with (h | ⟨o, h⟩) | ⟨o, its, n, e, _⟩
    · exact .base (.tup h)
    · exact .fTuple h
    · cases e
/-- isinstance(e, T), T a built-in type -/
def mIsI (T : String) (m : M PyData) : M OV := m >>= fun x => M.opt ((tyIs x T).map fun b => .d (.bool b))
theorem boot_isi : bootBuiltins "isinstance" = some (.builtin "isinstance") := by kernel_rfl
theorem sE_isi {T : Str} {id : String} {p q : Pos} {e : Expr} {m : M PyData} (hg : Gl X "isinstance") (hm : X.mg "isinstance" = none) (h : PE X e (liftD C W m)) (ns : NS e) (hgT : Gl X T) (hmT : X.mg T = none) (hbT : bootBuiltins T = some (.type id)) (hn : T ≠ "__name__")
    (hdb : (T == ("__debug__" : Str)) = false) : PE X (.Call (.Name "isinstance" p) [e, .Name T q] [] pos) (liftE C W (mIsI id m)) :=
  PE.imp (pe_callB (r := rIsi X.K) call_isi hg hm boot_isi (pa_cons h (pa_cons (pe_bltn (v := .ty id) hgT hmT hbT rfl hn hdb) pa_nil rfl) (ns [.Name T q] _)) (by decide) (by decide) (ns [.Name T q] _) rfl) fun σ H Q q => by
    refine liftG.seq q fun x env' P' fp' H' u s r q => ?_
    obtain ⟨o, e, q'⟩ := opt_some q
    obtain ⟨b, e1, rfl⟩ := Option.map_eq_some_iff.mp e
    exact ⟨u, .ty id, .type (tyName x), .type id, b, rfl, .ty id, tyX_of s.le r, kit_ty e1, q' P' fp' H' _ (Le.refl _) s (rOV.d (.bl b))⟩
/-- isinstance(e, (T1, T2)) -/
def mIsI2 (T1 T2 : String) (m : M PyData) : M OV := m >>= fun x => M.opt (match tyIs x T1, tyIs x T2 with
  | some a, some b => some (.d (.bool (a || b)))
  | _, _ => none)
theorem sE_isi2 {T1 T2 : Str} {id1 id2 : String} {p q q1 q2 : Pos} {e : Expr} {j : Nat} {m : M PyData} (hg : Gl X "isinstance") (hm : X.mg "isinstance" = none) (h : PE X e (liftD C W m)) (ns : NS e) (hgT : Gl X T1) (hmT : X.mg T1 = none) (hbT : bootBuiltins T1 = some (.type id1)) (hn : T1 ≠ "__name__")
    (hdb : (T1 == ("__debug__" : Str)) = false) (hgT2 : Gl X T2) (hmT2 : X.mg T2 = none) (hbT2 : bootBuiltins T2 = some (.type id2)) (hn2 : T2 ≠ "__name__") (hdb2 : (T2 == ("__debug__" : Str)) = false) :
    PE X (.Call (.Name "isinstance" p) [e, .Tuple [.Name T1 q1, .Name T2 q2] j q] [] pos) (liftE C W (mIsI2 id1 id2 m)) :=
  PE.imp (pe_callB (r := rIsiT X.K) call_isiT hg hm boot_isi (pa_cons h (pa_cons (pe_tup (pa_cons (pe_bltn (v := .ty id1) hgT hmT hbT rfl hn hdb) (pa_cons (pe_bltn (v := .ty id2) hgT2 hmT2 hbT2 rfl hn2 hdb2) pa_nil rfl) rfl)) pa_nil rfl) (ns [.Tuple [.Name T1 q1, .Name T2 q2] j q] _)) (by decide) (by decide) (ns [.Tuple [.Name T1 q1, .Name T2 q2] j q] _) rfl) fun σ H Q q => by
    refine liftG.seq q fun x env' P' fp' H' u s r q => ?_
    obtain ⟨o, e, q'⟩ := opt_some q
    refine ⟨by show 2 ≤ sizeLine; rw [sizeLine_eq]; omega, fun t ht => ?_⟩
    cases e1 : tyIs x id1 with
    | none => rw [e1] at e; cases e
    | some a =>
      cases e2 : tyIs x id2 with
      | none => rw [e1, e2] at e; cases e
      | some b =>
        rw [e1, e2] at e
        cases e
        obtain ⟨l, s2⟩ := s.laid ht (u := .tup [.ty id1, .ty id2]) trivial
        exact ⟨u, t, [.ty id1, .ty id2], .type (tyName x), [.type id1, .type id2], a || b, rfl, upd_same, .cons (.ty id1) (.cons (.ty id2) .nil), tyX_of s2.le (l.dp r),
          kitAny_cons (kit_ty e1) (fun ea => by
            subst ea
            exact kitAny_cons (kit_ty e2) (fun eb => by subst eb; exact kitAny_nil) (fun eb => by subst eb; rfl)) (fun ea => by subst ea; rfl), q' _ fp' _ _ l s2 (rOV.d (.bl _))⟩
/-! ### slices -/
def cutD (xs : List PyData) (lo hi : Option Int) : List PyData := (xs.drop (HT.sIx xs.length 0 lo)).take (HT.sIx xs.length xs.length hi - HT.sIx xs.length 0 lo)
theorem cutV_dp {P : Hp} {vs : List V} {xs : List PyData} (a : DpAll K0 P vs xs) (lo hi : Option Int) : DpAll K0 P (cutV vs lo hi) (cutD xs lo hi) := by
  unfold cutV cutD
  rw [dpAll_length a]
  exact dpAll_take _ (dpAll_drop _ a)
/-- a part of a slice -/
def mPart : Option (M PyData) → M (Option Int)
  | none => pure none
  | some m => m >>= fun x => match x with
    | .int i => pure (some i)
    | _ => fun _ => none
def mSlice (m : M PyData) (lo hi : Option (M PyData)) : M OV := m >>= fun x => mPart lo >>= fun l => mPart hi >>= fun h => M.opt (match x with
  | .tuple xs => some (.d (.tuple (cutD xs l h)))
  | .list xs => some (.lst (cutD xs l h))
  | _ => none)
/-- the part's reading -/
def rPart : RelR (Option Int) (Option Int) := fun _ _ _ a b => b = a
theorem PO.imp {e : Option Expr} {t t' : TO} (h : PO X e t) (i : ∀ σ H Q, t' σ H Q → t σ H Q) : PO X e t' := ⟨fun pins s σ H Q I q => h.run pins s σ H Q I (i σ H Q q)⟩
theorem sO_none : PO X none (liftG C W rPart (mPart none)) := PO.imp po_none fun σ H Q q => by
  obtain ⟨P, env, fp, s, h⟩ := q
  exact h P fp H none (Le.refl _) s rfl
theorem sO_some {e : Expr} {m : M PyData} (h : PE X e (liftD C W m)) : PO X (some e) (liftG C W rPart (mPart (some m))) := PO.imp (po_some h) fun σ H Q q => by
  refine liftG.seq q fun x env' P' fp' H' u s r q => ?_
  cases r with
  | int i => exact ⟨i, rfl, q P' fp' H' (some i) (Le.refl _) s rfl⟩
  | _ => exact False.elim q
theorem sE_slice {e : Expr} {lo hi : Option Expr} {p2 : Pos} {m : M PyData} {ml mh : Option (M PyData)} (h : PE X e (liftD C W m)) (hl : PO X lo (liftG C W rPart (mPart ml))) (hh : PO X hi (liftG C W rPart (mPart mh))) :
    PE X (.Subscript e (.Slice lo hi none p2) pos) (liftE C W (mSlice m ml mh)) := PE.imp (pe_slice (sl_tupA.or sl_list) h hl hh) fun σ H Q q => by
  refine liftG.seq q fun x env1 P1 fp1 H1 v s1 r1 h1 => ?_
  refine ⟨P1, env1, fp1, s1, postG.seq h1 fun l env2 P2 fp2 H2 l' l2 s2 e2 h2 => ?_⟩
  refine ⟨P2, env2, fp2, s2, postG.seq h2 fun u env3 P3 fp3 H3 u' l3 s3 e3 h3 => ?_⟩
  have e2 : l' = l := e2
  have e3 : u' = u := e3
  subst e2 e3
  obtain ⟨o, e, q'⟩ := opt_some h3
  have d := (l2.trans l3).dp r1
  cases d with
  | tup h a =>
    cases e
    refine .inl ⟨_, _, rfl, toK_T (s3.le.sqT h), fun hw => ?_, fun _ p hp => rOV.newT s3 (cutV_dp a _ _) q' hp⟩
    have hl := dpAll_length a
    rename_i vs xs
    have ec : cutD xs l' u' = xs := by
      unfold cutD
      rw [← hl, hw.1, hw.2, hl]
      simp
    rw [ec] at q'
    exact q' P3 fp3 H3 _ (Le.refl _) s3 (rOV.d (.tup h a))
  | lst h a =>
    cases e
    exact .inr ⟨_, _, rfl, toK_L (s3.le.sqL h), fun p hp => rOV.newL s3 (cutV_dp a _ _) q' hp⟩
  | _ => cases e
end
end TL
set_option Elab.async false
set_option linter.all false
set_option maxRecDepth 100000
set_option maxHeartbeats 4000000
namespace TL
open PySem PySem.Spec PyProof.Rows L2
/-! ### set(l), l a list of ints -/
abbrev newSet (w : World) : Obj := { cls := .type "set", dict := none, data := .set #[] 0 (.fresh 0 0 (!w.params.followText "set-order")) }
section
variable {P : Program} {w : World} {A : Around} {E : Value → Shared → Prop} {s : Shared}
theorem set_listI {l : Addr} {its : Array Value} (ns : List Int) {Q : Value → Shared → Prop} (hh : A.handled = none) (hl : s.heap.IsList l its) (hit : IntsAre its.toList ns) (hb : ns.length + 1 < scanBound)
    (h : ∀ (h' : Heap) (tk c : Nat), SetR w h' s.heap.objs.size (fun j => decide (j ∈ ns)) c → c ≤ ns.length → (∀ b o, s.heap.get? b = some o → h'.get? b = some o) → Q (.ref s.heap.objs.size) { s with heap := h', toks := tk }) :
    wpAny (model P w) A (call (.type "set") [.ref l]) Q E s := by
  have sz : its.size = ns.length := by
    have q := IntsAre.length hit
    rwa [Array.length_toList] at q
  obtain ⟨mc, mt, hmro⟩ := F.called_set.mro
  have u1 := F.called_set.made
  have u2 := F.called_set.sub
  have u3 := F.called_set.notType
  have u4 := F.called_set.canCreate
  have u5 := F.typeCall_set_1 (.ref l)
  refine wpAny_call (codeAny_of_tree ?_)
  show wpAny _ _ (callAny (.type "set") _) _ _ _
  refine wpAny_pure ⟨Code.quiet_builtin _ (by decide +kernel), codeAny_builtin F.entry_type_call ?_⟩
  rw [Around.under_plain (weight_type_call_type "set" [.ref l] []) rfl]
  repeat (any_goals (first | assumption | wp_step))
  refine codeAny_mono (code_set_led1 (.ref l) (E := E) (Q₁ := fun obj s₁ => obj = .ref s.heap.objs.size ∧ s₁ = { s with heap := s.heap.push (newSet w) }) ⟨rfl, rfl⟩) fun r s1 hr => ?_
  match r, hr with
  | .error e, hr => exact hr
  | .ok (.ret obj), hr =>
    obtain ⟨rfl, rfl⟩ := hr
    have gS : (s.heap.push (newSet w)).get? s.heap.objs.size = some (newSet w) := Heap.get?_push_size _ rfl
    have tS : Shared.TypeIs { s with heap := s.heap.push (newSet w) } (.ref s.heap.objs.size) "set" := ⟨_, gS, rfl⟩
    have v1 := F.called_set.init.lookup
    have v2 := F.called_set.init.bind (.ref s.heap.objs.size)
    repeat (any_goals (first | assumption | wp_step))
    refine codeAny_mono (codeAny_call_builtin (R := wants (fun r s2 => r = .none ∧ ∃ h' tk c, s2 = { s with heap := h', toks := tk } ∧ SetR w h' s.heap.objs.size (fun j => decide (j ∈ ns)) c ∧ c ≤ ns.length ∧
        (∀ b o, s.heap.get? b = some o → h'.get? b = some o)) E) F.called_set.init.plain F.entry_set_init (check_set_init_1 tS ?_)) fun r2 s2 hr2 => ?_
    · obtain ⟨⟨oc, od, odt, osl⟩, ho, hc, nl, hd⟩ := hl
      simp only at hc hd
      subst hc hd
      have lS : l < s.heap.objs.size := Heap.lt_size ho
      have ho1 : (s.heap.push (newSet w)).get? l = some { cls := .type "list", dict := od, data := .seq its nl, slots := osl } := Heap.get?_push_of_some _ ho
      have hl1 : (s.heap.push (newSet w)).IsList l its := ⟨_, ho1, rfl, nl, rfl⟩
      have w1 := F.sub_list_set
      have w2 := F.sub_list_frozenset
      have w3 : (Value.type "list" == Value.type "dict") = false := by decide
      unfold Builtin.«set.__init__» noKeywords Builtin.Frozenset.updateFrom
      generalize hPI : pyIter = PI
      wp_walk
      subst hPI
      refine wpAny_pyIter_list hl1 (wpAny_bind (wpAny_runValue ?_))
      have z1 : (s.heap.push (newSet w)).objs.size = s.heap.objs.size + 1 := Heap.size_push ..
      have ne1 : l ≠ (s.heap.push (newSet w)).objs.size := by rw [z1]; exact Nat.ne_of_lt (Nat.lt_succ_of_lt lS)
      have nin : s.heap.objs.size ∉ [(s.heap.push (newSet w)).objs.size, l] := by
        rw [z1]
        intro hm
        rcases List.mem_cons.mp hm with e | hm
        · omega
        · exact absurd (List.mem_singleton.mp hm) (Nat.ne_of_gt lS)
      have hval : ∀ (i : Nat) (v : Value), its[i]? = some v → ∃ k t, ns[i]? = some k ∧ v = .int k t := fun i v hv => by
        have hi : i < ns.length := by rw [← sz]; exact (Array.getElem?_eq_some_iff.mp hv).1
        obtain ⟨t, e⟩ := IntsAre.int_at hit i v (by rw [Array.getElem?_toList]; exact hv)
        exact ⟨ns[i], t, List.getElem?_eq_getElem hi, by rw [e, List.getD_eq_getElem?_getD, List.getElem?_eq_getElem hi]; rfl⟩
      refine set_update_ints ((Walks.list (show A.in1.in1.in1.handled = none by simp [hh]) _ l ne1 its).toS) s.heap.objs.size nin ns sz hb hval (its.size - 0) 0 _ (by omega) (Nat.zero_le _) ⟨⟨_, Heap.get?_push_size _ rfl, rfl, rfl⟩, hl1.push _⟩ ?s0 ?sR
      case s0 => exact ⟨0, Nat.le_refl 0, setR_new_at (Heap.get?_push_of_some _ gS)⟩
      case sR =>
        intro s' c' hm hc' hS'
        rw [sz] at hc'
        obtain ⟨h', g2, d2, tk', o2⟩ := s'
        obtain rfl : g2 = s.gens := hm.gens
        obtain rfl : d2 = s.drawn := hm.drawn
        obtain rfl : o2 = s.os := hm.os
        show wpAny _ _ _ _ _ _
        refine wpAny_pure ?_
        show wpAny _ _ (ret Value.none) _ _ _
        refine wpAny_pure ⟨rfl, h', tk', c', rfl, hS', hc', fun b o e => ?_⟩
        have hb0 : b < s.heap.objs.size := Heap.lt_size e
        refine hm.heap b o (fun hmem => ?_) (Heap.get?_push_of_some _ (Heap.get?_push_of_some _ e))
        rcases List.mem_cons.mp hmem with q | hmem
        · exact Nat.ne_of_lt hb0 q
        · have q := List.mem_singleton.mp hmem
          rw [z1] at q
          exact Nat.ne_of_lt (Nat.lt_succ_of_lt hb0) q
    · match r2, hr2 with
      | .error e, hr2 => exact hr2
      | .ok (.ret r), hr2 =>
        obtain ⟨rfl, h', tk, c', rfl, hS', hc', hk'⟩ := hr2
        repeat (any_goals (first | assumption | wp_step))
        exact h _ _ _ hS' hc' hk'
      | .ok .next, hr2 => exact hr2.elim
      | .ok .brk, hr2 => exact hr2.elim
      | .ok .cont, hr2 => exact hr2.elim
  | .ok .next, hr => exact hr.elim
  | .ok .brk, hr => exact hr.elim
  | .ok .cont, hr => exact hr.elim
end
end TL
set_option Elab.async false
set_option linter.all false
set_option maxRecDepth 100000
set_option maxHeartbeats 1000000
namespace TL
open PySem PySem.Spec PyProof.Rows L2
section
variable {X : Cx} {C : Cc} {W : WX} {pos : Pos}
/-! ### sorted -/
def alikeB (xs : List PyData) : Bool := xs.all fun x => xs.all fun y => PySem.W.alike x y
def isTup1 : PyData → Bool
  | .tuple (_ :: _) => true
  | _ => false
def isFlat : PyData → Bool
  | .none => false
  | .tuple _ => false
  | _ => true
def srtB (xs : List PyData) : Bool := alikeB xs && ((xs.all isTup1 || xs.all isFlat) && xs.all fun x => decide (x.depth ≤ 64))
def dSort (xs : List PyData) : List PyData := xs.mergeSort (PySem.W.dataLe false fun x => x)
def gSorted : OV → Option OV
  | .d (.list xs) => if srtB xs then some (.lst (dSort xs)) else none
  | .lst xs => if srtB xs then some (.lst (dSort xs)) else none
  | _ => none
theorem srtB_alike {xs : List PyData} (h : srtB xs = true) : PySem.W.AllAlike (xs.map fun x => x) := by
  rw [List.map_id']
  obtain ⟨h1, _⟩ := Bool.and_eq_true_iff.mp h
  exact fun d hd d' hd' => List.all_eq_true.mp (List.all_eq_true.mp h1 d hd) d' hd'
theorem srtB_sort {xs : List PyData} (h : srtB xs = true) : PySem.W.Sortable (xs.map fun x => x) := by
  rw [List.map_id']
  obtain ⟨_, h2⟩ := Bool.and_eq_true_iff.mp h
  obtain ⟨h3, _⟩ := Bool.and_eq_true_iff.mp h2
  rcases Bool.or_eq_true_iff.mp h3 with h4 | h4
  · refine .inl fun d hd => ?_
    have q := List.all_eq_true.mp h4 d hd
    cases d with
    | tuple ys =>
      cases ys with
      | nil => cases q
      | cons y ys => exact ⟨y, ys, rfl⟩
    | _ => cases q
  · refine .inr fun d hd => ?_
    have q := List.all_eq_true.mp h4 d hd
    constructor
    · intro z; rw [z] at q; cases q
    · intro ys z; rw [z] at q; cases q
theorem srtB_depth {xs : List PyData} (h : srtB xs = true) : ∀ x ∈ xs, x.depth ≤ 64 := fun x hx => by
  obtain ⟨_, h2⟩ := Bool.and_eq_true_iff.mp h
  obtain ⟨_, h3⟩ := Bool.and_eq_true_iff.mp h2
  exact of_decide_eq_true (List.all_eq_true.mp h3 x hx)
theorem each_vals {K : PySem.W.Frag} {P : Hp} : ∀ {vs : List V} {us : List Value} {xs : List PyData}, Vals vs us → DpAll K P vs xs → PySem.W.EachIs (fun u d => ∃ v, RelV v u ∧ Dp K P v d) us xs
  | _, _, _, .nil, .nil => .nil
  | _, _, _, .cons r t, .cons d t2 => .cons ⟨_, r, d⟩ (each_vals t t2)
theorem vals_each {K : PySem.W.Frag} {P : Hp} : ∀ {us : List Value} {xs : List PyData}, PySem.W.EachIs (fun u d => ∃ v, RelV v u ∧ Dp K P v d) us xs → ∃ vs, Vals vs us ∧ DpAll K P vs xs
  | _, _, .nil => ⟨[], .nil, .nil⟩
  | _, _, .cons h t => by
    obtain ⟨v, r, d⟩ := h
    obtain ⟨vs, h1, h2⟩ := vals_each t
    exact ⟨v :: vs, .cons r h1, .cons d h2⟩
theorem each_reads {pins : List (Addr × Obj)} {σ : L2.St} {H : Hp} {s : Shared} (I : Inv X pins σ H s) : ∀ {vs : List V} {us : List Value} {xs : List PyData}, Vals vs us → DpAll X.K H vs xs → PySem.W.EachIs (fun u d => ∃ as, Reads s.heap u d as) us xs
  | _, _, _, .nil, .nil => .nil
  | _, _, _, .cons r t, .cons d t2 => .cons (Dp.reads I _ _ _ d r) (each_reads I t t2)
/-- sorted(l) over the heap -/
def rSortD (K : PySem.W.Frag) : List V → Hp → VK → Prop := fun us H Q => ∃ a vs xs P, us = [V.ref a] ∧ Le P H ∧ SqL K H a vs ∧ DpAll K0 P vs xs ∧ srtB xs = true ∧ ∀ vs' p, DpAll K0 P vs' (dSort xs) → H p = none → Q (.ref p) (upd H p (.lst vs'))
theorem cr_sortD (hu : X.A.units + 200 < cLine) : CallR X (.builtin "sorted") (rSortD X.K) := by
  intro pins s σ H us us' Q I r h
  obtain ⟨a, vs, xs, P, rfl, l, hs, d, hb, q⟩ := h
  obtain ⟨its, rv, hl, hz⟩ := I.list hs
  rw [Vals.ref1 r]
  have hlen := dpAll_length d
  refine PySem.W.sorted_data (R := fun u d => ∃ v, RelV v u ∧ Dp K0 P v d) (enc := fun x => x) hl.isList (each_vals rv d) (each_reads I rv (toK_all (l.dpAll d))) (srtB_alike hb) (srtB_sort hb) (by rw [← hlen]; exact hz) (fun b hb' => by
    have := srtB_depth hb b hb'
    show X.A.units + 2 + b.depth < cLine
    omega) fun out h1 h2 => ?_
  obtain ⟨vs', rv', d'⟩ := vals_each h2
  obtain ⟨ep, he⟩ := sortedAll_at s.heap its out.toArray
  have hl' : vs'.length ≤ sizeLine := by
    have e1 := rv'.length
    rw [e1, h1, ← hlen]
    exact hz
  exact ⟨.ref _, upd H (s.heap.objs.size + 1) (.lst vs'), I.laid (t' := s.toks) (fun _ _ => sortedAll_old) (Nat.le_succ _) ⟨hl', out, ep, rv', he⟩, rfl, q vs' _ d' (I.hok.fresh (Nat.le_succ _))⟩
theorem cr_sorted (hu : X.A.units + 200 < cLine) : CallR X (.builtin "sorted") (rOne C gSorted) := CallR.ex fun vs H Q h => by
  obtain ⟨v, P, env, fp, σ, ov, ft, r, rfl, s, o, t, e, k⟩ := h
  have fin : ∀ (a : Addr) (vs : List V) (xs : List PyData), v = .ref a → SqL K0 H a vs → DpAll K0 P vs xs → (if srtB xs then some (OV.lst (dSort xs)) else none) = some r → ∃ r' : List V → Hp → VK → Prop, CallR X (.builtin "sorted") r' ∧ r' [v] H Q := fun a vs xs ev hs d e => by
    subst ev
    by_cases hb : srtB xs = true
    · rw [if_pos hb] at e
      cases e
      exact ⟨_, cr_sortD hu, a, vs, xs, P, rfl, s.le, toK_L hs, d, hb, fun vs' p d' hp => rOV.newL s d' k hp⟩
    · rw [if_neg hb] at e
      cases e
  cases o with
  | d d =>
    cases d with
    | lst h a => exact fin _ _ _ rfl (s.le.sqL h) a e
    | _ => cases e
  | lst h a => exact fin _ _ _ rfl (SqL.of h) a e
  | _ => cases e
theorem boot_sorted : bootBuiltins "sorted" = some (.builtin "sorted") := by kernel_rfl
theorem boot_list : bootBuiltins "list" = some (.type "list") := by kernel_rfl
theorem boot_tuple : bootBuiltins "tuple" = some (.type "tuple") := by kernel_rfl
theorem boot_set : bootBuiltins "set" = some (.type "set") := by kernel_rfl
/-! ### sorted(set(l)), l a list of ints or of pairs -/
def intsOf : List PyData → Option (List Int)
  | [] => some []
  | .int i :: r => (intsOf r).map (i :: ·)
  | _ => none
def pairsOf : List PyData → Option (List (Int × Int))
  | [] => some []
  | .tuple [.int i, .int j] :: r => (pairsOf r).map ((i, j) :: ·)
  | _ => none
def pairD (p : Int × Int) : PyData := .tuple [.int p.1, .int p.2]
def pairLe (p q : Int × Int) : Bool := decide (p.1 < q.1 ∨ (p.1 = q.1 ∧ p.2 ≤ q.2))
def setI (ns : List Int) : List Int := ns.eraseDups.mergeSort (fun a b => decide (a ≤ b))
def setP (ps : List (Int × Int)) : List (Int × Int) := ps.eraseDups.mergeSort pairLe
theorem intsOf_eq : ∀ {xs : List PyData} {ns : List Int}, intsOf xs = some ns → xs = ns.map .int
  | [], ns, h => by cases h; rfl
  | .int i :: r, ns, h => by
    obtain ⟨ms, h1, h2⟩ := Option.map_eq_some_iff.mp (show (intsOf r).map (i :: ·) = some ns from h)
    subst h2
    rw [intsOf_eq h1]
    rfl
  | .none :: _, _, h => by cases h
  | .bool _ :: _, _, h => by cases h
  | .str _ :: _, _, h => by cases h
  | .list _ :: _, _, h => by cases h
  | .tuple _ :: _, _, h => by cases h
theorem pairsOf_eq : ∀ {xs : List PyData} {ns : List (Int × Int)}, pairsOf xs = some ns → xs = ns.map pairD
  | [], ns, h => by cases h; rfl
  | x :: r, ns, h => by
    unfold pairsOf at h
    split at h
    · rename_i e; cases e
    · rename_i i j r' e
      cases e
      obtain ⟨ms, h1, h2⟩ := Option.map_eq_some_iff.mp h
      subst h2
      rw [pairsOf_eq h1]
      rfl
    · cases h
theorem pairwise_lt_unique : ∀ {l m : List Int}, l.Pairwise (· < ·) → m.Pairwise (· < ·) → (∀ k, k ∈ l ↔ k ∈ m) → l = m
  | [], [], _, _, _ => rfl
  | [], y :: m, _, _, h => by simpa using (h y).mpr List.mem_cons_self
  | x :: l, [], _, _, h => by simpa using (h x).mp List.mem_cons_self
  | x :: l, y :: m, h1, h2, h => by
    obtain ⟨a1, a2⟩ := List.pairwise_cons.mp h1
    obtain ⟨b1, b2⟩ := List.pairwise_cons.mp h2
    have e : x = y := by
      rcases List.mem_cons.mp ((h x).mp List.mem_cons_self) with e | e
      · exact e
      · rcases List.mem_cons.mp ((h y).mpr List.mem_cons_self) with e' | e'
        · exact e'.symm
        · have := a1 y e'
          have := b1 x e
          omega
    subst e
    rw [pairwise_lt_unique a2 b2 fun k => ?_]
    constructor
    · intro hk
      rcases List.mem_cons.mp ((h k).mp (List.mem_cons_of_mem _ hk)) with e | e
      · have := a1 k hk
        omega
      · exact e
    · intro hk
      rcases List.mem_cons.mp ((h k).mpr (List.mem_cons_of_mem _ hk)) with e | e
      · have := b1 k hk
        omega
      · exact e
theorem eraseDups_nodup {α : Type} [BEq α] [LawfulBEq α] : ∀ (n : Nat) (l : List α), l.length ≤ n → l.eraseDups.Nodup
  | _, [], _ => by simp
  | 0, x :: l, h => by simp at h
  | n + 1, x :: l, h => by
    rw [List.eraseDups_cons]
    refine List.nodup_cons.mpr ⟨fun hm => ?_, eraseDups_nodup n _ (Nat.le_trans (List.length_filter_le ..) (by simpa using h))⟩
    rw [List.mem_eraseDups] at hm
    have := (List.mem_filter.mp hm).2
    simp at this
theorem setI_sorted (ns : List Int) : (setI ns).Pairwise (· < ·) := by
  have h1 : (setI ns).Pairwise (fun a b => decide (a ≤ b) = true) := List.pairwise_mergeSort (le := fun a b => decide (a ≤ b)) (fun a b c h1 h2 => by simp at *; omega) (fun a b => by simp; omega) _
  have h2 : (setI ns).Nodup := (List.mergeSort_perm _ _).nodup_iff.mpr (eraseDups_nodup _ _ (Nat.le_refl _))
  refine (List.Pairwise.and h1 h2).imp fun {a b} ⟨h3, h4⟩ => ?_
  have h3 := of_decide_eq_true h3
  omega
theorem mem_setI {ns : List Int} {k : Int} : k ∈ setI ns ↔ k ∈ ns := by
  unfold setI
  rw [(List.mergeSort_perm _ _).mem_iff, List.mem_eraseDups]
def rSetI (w : World) (K : PySem.W.Frag) : List V → Hp → VK → Prop := fun xs H Q => ∃ (l : Addr) (ns : List Int), xs = [V.ref l] ∧ SqL K H l (ns.map V.int) ∧ ns.length + 1 < scanBound ∧ ∀ a c, H a = none → c ≤ ns.length → Q (.ref a) (upd H a (SetO w a (fun j => decide (j ∈ ns)) c))
theorem cr_setI (hc : X.calm = true) : CallR X (.type "set") (rSetI X.w X.K) := by
  intro pins s σ H us us' Q I r h
  obtain ⟨l, ns, rfl, hl, hb, q⟩ := h
  rw [Vals.ref1 r]
  obtain ⟨its, rv, pl, hz⟩ := I.list hl
  refine set_listI ns (I.ok.hd hc) pl.isList (by simpa using intsAre_of rv) hb fun h' tk c R hcl k => ?_
  exact ⟨.ref s.heap.objs.size, upd H s.heap.objs.size (SetO X.w s.heap.objs.size (fun j => decide (j ∈ ns)) c), I.laid (t' := tk) k (Nat.le_refl _) (setO_new R), rfl, q _ c (I.hok.fresh (Nat.le_refl _)) hcl⟩
def pairOk (p : Int × Int) : Bool := decide (0 ≤ p.1 ∧ p.1 < 64 ∧ 0 ≤ p.2 ∧ p.2 < 64)
def gSset : PyData → Option OV
  | .list xs => if xs.length < 64 then (match intsOf xs with
    | some ns => some (.lst ((setI ns).map .int))
    | none => (match pairsOf xs with
      | some ps => if ps.all pairOk then some (.lst ((setP ps).map pairD)) else none
      | none => none)) else none
  | _ => none
def mSset (m : M PyData) : M OV := m >>= fun x => M.opt (gSset x)
theorem dpAll_ints {K : PySem.W.Frag} {P : Hp} : ∀ {vs : List V} {ns : List Int}, DpAll K P vs (ns.map .int) → vs = ns.map V.int
  | _, [], .nil => rfl
  | _, n :: ns, .cons h t => by
    rw [dp_int h, dpAll_ints t]
    rfl
theorem ints_dpAll {K : PySem.W.Frag} {P : Hp} : ∀ (ns : List Int), DpAll K P (ns.map V.int) (ns.map .int)
  | [] => .nil
  | n :: ns => .cons (.int n) (ints_dpAll ns)
theorem dpAll_pairs {P : Hp} : ∀ {vs : List V} {ps : List (Int × Int)}, DpAll K0 P vs (ps.map pairD) → ∃ as : List Addr, as.length = ps.length ∧ vs = as.map V.ref ∧ ∀ (i : Nat) (a : Addr) (p : Int × Int), as[i]? = some a → ps[i]? = some p → SqT K0 P a [V.int p.1, V.int p.2]
  | _, [], .nil => ⟨[], rfl, rfl, fun i a p h => by simp at h⟩
  | _, p :: ps, .cons h t => by
    obtain ⟨as, h1, h2, h3⟩ := dpAll_pairs t
    cases h with
    | tup hq a =>
      cases a with
      | cons d1 r1 =>
        cases r1 with
        | cons d2 r2 =>
          cases r2
          obtain rfl := dp_int d1
          obtain rfl := dp_int d2
          refine ⟨_ :: as, congrArg Nat.succ h1, by rw [h2]; rfl, fun i b q e1 e2 => ?_⟩
          cases i with
          | zero =>
            simp only [List.getElem?_cons_zero, Option.some.injEq] at e1 e2
            subst e1 e2
            exact hq
          | succ i => exact h3 i b q (by simpa using e1) (by simpa using e2)
theorem pairs_dpAll {P : Hp} : ∀ {as : List Addr} {ps : List (Int × Int)}, as.length = ps.length → (∀ (i : Nat) (a : Addr) (p : Int × Int), as[i]? = some a → ps[i]? = some p → SqT K0 P a [V.int p.1, V.int p.2]) → DpAll K0 P (as.map V.ref) (ps.map pairD)
  | [], [], _, _ => .nil
  | [], _ :: _, h, _ => by simp at h
  | _ :: _, [], h, _ => by simp at h
  | a :: as, p :: ps, h, k => .cons (.tup (k 0 a p rfl rfl) (.cons (.int _) (.cons (.int _) .nil))) (pairs_dpAll (by simpa using h) fun i b q e1 e2 => k (i + 1) b q (by simpa using e1) (by simpa using e2))
theorem pairLe_total (p q : Int × Int) : (pairLe p q || pairLe q p) = true := by
  unfold pairLe
  simp only [Bool.or_eq_true, decide_eq_true_eq]
  omega
theorem pairLe_trans (p q r : Int × Int) (h1 : pairLe p q = true) (h2 : pairLe q r = true) : pairLe p r = true := by
  unfold pairLe at *
  simp only [decide_eq_true_eq] at *
  omega
theorem pairLe_anti (p q : Int × Int) (h1 : pairLe p q = true) (h2 : pairLe q p = true) : p = q := by
  unfold pairLe at *
  simp only [decide_eq_true_eq] at *
  exact Prod.ext (by omega) (by omega)
theorem setP_sorted (ps : List (Int × Int)) : (setP ps).Pairwise (fun p q => pairLe p q = true) := List.pairwise_mergeSort pairLe_trans pairLe_total _
theorem setP_nodup (ps : List (Int × Int)) : (setP ps).Nodup := (List.mergeSort_perm _ _).nodup_iff.mpr (eraseDups_nodup _ _ (Nat.le_refl _))
theorem mem_setP {ps : List (Int × Int)} {k : Int × Int} : k ∈ setP ps ↔ k ∈ ps := by
  unfold setP
  rw [(List.mergeSort_perm _ _).mem_iff, List.mem_eraseDups]
theorem sortedP_unique : ∀ {l m : List (Int × Int)}, l.Pairwise (fun p q => pairLe p q = true) → m.Pairwise (fun p q => pairLe p q = true) → l.Nodup → m.Nodup → (∀ k, k ∈ l ↔ k ∈ m) → l = m := fun {l m} h1 h2 n1 n2 h => by
  have hp : l.Perm m := (List.perm_ext_iff_of_nodup n1 n2).mpr h
  exact hp.eq_of_pairwise (fun a b _ _ h3 h4 => pairLe_anti a b h3 h4) h1 h2
/-- the pairs as the library's tuples of ints -/
def kOf (p : Int × Int) : List Int := [p.1, p.2]
theorem code_kOf (p : Int × Int) : TS.code 64 (kOf p) = p.1 * 64 + p.2 := code_pair p.1 p.2
theorem sset_pairs {ps : List (Int × Int)} {ks L L' : List (Addr × List Int)} (hk : ks.map (·.2) = ps.map kOf) (hok : ps.all pairOk = true) (h1 : ∀ p ∈ L, p ∈ ks) (h2 : ∀ p ∈ ks, p.2 ∈ L.map (·.2)) (pm : L'.Perm L) (nd : (L'.map (·.2)).Nodup)
    (pw : L'.Pairwise (fun q r => TS.code 64 q.2 ≤ TS.code 64 r.2)) : L'.map (·.2) = (setP ps).map kOf := by
  have inj : ∀ p q : Int × Int, kOf p = kOf q → p = q := fun p q e => by
    unfold kOf at e
    simp only [List.cons.injEq, and_true] at e
    exact Prod.ext e.1 e.2
  have hin : ∀ x ∈ L'.map (·.2), ∃ p ∈ ps, x = kOf p := fun x hx => by
    obtain ⟨q, hq, rfl⟩ := List.mem_map.mp hx
    have hq2 := h1 q (pm.mem_iff.mp hq)
    have : q.2 ∈ ps.map kOf := by rw [← hk]; exact List.mem_map.mpr ⟨q, hq2, rfl⟩
    obtain ⟨p, hp, e⟩ := List.mem_map.mp this
    exact ⟨p, hp, e.symm⟩
  have hall : ∀ p ∈ ps, kOf p ∈ L'.map (·.2) := fun p hp => by
    have : kOf p ∈ ks.map (·.2) := by rw [hk]; exact List.mem_map.mpr ⟨p, hp, rfl⟩
    obtain ⟨q, hq, e⟩ := List.mem_map.mp this
    have := h2 q hq
    rw [e] at this
    exact (pm.map (·.2)).mem_iff.mpr this
  let toP : List Int → Int × Int := fun l => (l.getD 0 0, l.getD 1 0)
  have tk : ∀ p, toP (kOf p) = p := fun p => rfl
  have e1 : L'.map (·.2) = ((L'.map (·.2)).map toP).map kOf := by
    rw [List.map_map]
    conv => lhs; rw [← List.map_id (L'.map (·.2))]
    refine List.map_congr_left fun x hx => ?_
    obtain ⟨p, _, rfl⟩ := hin x hx
    rfl
  rw [e1]
  congr 1
  have bd : ∀ x ∈ L'.map (·.2), ∃ p ∈ ps, x = kOf p ∧ 0 ≤ p.1 ∧ p.1 < 64 ∧ 0 ≤ p.2 ∧ p.2 < 64 := fun x hx => by
    obtain ⟨p, hp, e⟩ := hin x hx
    exact ⟨p, hp, e, of_decide_eq_true (List.all_eq_true.mp hok p hp)⟩
  have pw2 : (L'.map (·.2)).Pairwise (fun x y => TS.code 64 x ≤ TS.code 64 y) := List.pairwise_map.mpr pw
  refine sortedP_unique ?_ (setP_sorted ps) ?_ (setP_nodup ps) fun k => ?_
  · refine List.pairwise_map.mpr (pw2.imp_of_mem fun {x y} hx hy hc => ?_)
    obtain ⟨p, _, rfl, b1, b2, b3, b4⟩ := bd x hx
    obtain ⟨q, _, rfl, c1, c2, c3, c4⟩ := bd y hy
    rw [code_kOf, code_kOf] at hc
    rw [tk, tk]
    unfold pairLe
    rw [decide_eq_true_eq]
    omega
  · refine List.pairwise_map.mpr (List.Pairwise.imp_of_mem (fun {x y} hx hy hne e => hne ?_) nd)
    obtain ⟨p, _, rfl, _⟩ := bd x hx
    obtain ⟨q, _, rfl, _⟩ := bd y hy
    rw [tk, tk] at e
    rw [e]
  · rw [mem_setP]
    constructor
    · intro h
      obtain ⟨x, hx, e⟩ := List.mem_map.mp h
      obtain ⟨p, hp, rfl, _⟩ := bd x hx
      rw [tk] at e
      rw [← e]
      exact hp
    · intro h
      exact List.mem_map.mpr ⟨kOf k, hall k h, tk k⟩
theorem sE_sset {p p2 q : Pos} {e : Expr} {m : M PyData} (hc : X.calm = true) (hu : X.A.units + 200 < cLine) (hg : Gl X "sorted") (hm : X.mg "sorted" = none) (hg2 : Gl X "set") (hm2 : X.mg "set" = none) (h : PE X e (liftD C W m)) (ns : NS e) :
    PE X (.Call (.Name "sorted" p) [.Call (.Name "set" p2) [e] [] q] [] pos) (liftE C W (mSset m)) := by
  let r1 : List V → Hp → VK → Prop := fun vs H Q => rSetI X.w X.K vs H Q ∨ rSetOfT X.K X.prog X.w vs H Q
  let r2 : List V → Hp → VK → Prop := fun vs H Q => rSortedSet X.w vs H Q ∨ rSortedT X.K X.prog X.w vs H Q
  have c1 : CallR X (.type "set") r1 := CallR.ex fun vs H Q h => by
    rcases h with h | h
    · exact ⟨_, cr_setI hc, h⟩
    · exact ⟨_, cr_setOfT hc (by omega), h⟩
  have c2 : CallR X (.builtin "sorted") r2 := CallR.ex fun vs H Q h => by
    rcases h with h | h
    · exact ⟨_, cr_sortedSet hc, h⟩
    · exact ⟨_, cr_sortedT hc, h⟩
  refine PE.imp (pe_callB (r := r2) c2 hg hm boot_sorted (pa_cons (pe_callTy (r := r1) c1 hg2 hm2 boot_set (pa_cons h pa_nil (ns [] _)) (by decide) (by decide) (ns [] _) backTo_nil) pa_nil rfl) (by decide) (by decide) rfl backTo_nil) fun σ H Q q => ?_
  refine liftG.seq q fun x env' P' fp' H' v s r q => ?_
  obtain ⟨o, eo, q'⟩ := opt_some q
  cases r with
  | lst hq a =>
    rename_i l vs xs
    have eo : (if xs.length < 64 then (match intsOf xs with
      | some ns => some (OV.lst ((setI ns).map .int))
      | none => (match pairsOf xs with
        | some ps => if ps.all pairOk then some (.lst ((setP ps).map pairD)) else none
        | none => none)) else none) = some o := eo
    by_cases hlen : xs.length < 64
    · rw [if_pos hlen] at eo
      cases ei : intsOf xs with
      | some ns' =>
        rw [ei] at eo
        cases eo
        have ex := intsOf_eq ei
        subst ex
        have ev := dpAll_ints a
        subst ev
        rw [List.length_map] at hlen
        refine .inl ⟨l, ns', rfl, toK_L (s.le.sqL hq), Nat.lt_of_lt_of_le (Nat.add_lt_add_right hlen 1) (by unfold scanBound; omega), fun b c hb hcl => ?_⟩
        obtain ⟨l2, s2⟩ := s.laid hb (u := SetO X.w b (fun j => decide (j ∈ ns')) c) trivial
        refine .inl ⟨b, _, c, rfl, upd_same, Nat.lt_of_le_of_lt hcl hlen, fun ms p h1 h2 h3 hp => ?_⟩
        have em : ms = setI ns' := pairwise_lt_unique h1 (setI_sorted ns') fun k => by
          rw [h2, mem_setI]
          exact decide_eq_true_iff
        subst em
        exact rOV.newL s2 (ints_dpAll _) (fun P2 fp2 H2 v2 l3 s3 r3 => q' P2 fp2 H2 v2 (l2.trans l3) s3 r3) hp
      | none =>
        rw [ei] at eo
        cases ep : pairsOf xs with
        | none => rw [ep] at eo; cases eo
        | some ps =>
          rw [ep] at eo
          have eo : (if ps.all pairOk then some (OV.lst ((setP ps).map pairD)) else none) = some o := eo
          by_cases hok : ps.all pairOk = true
          · rw [if_pos hok] at eo
            cases eo
            have ex := pairsOf_eq ep
            subst ex
            rw [List.length_map] at hlen
            obtain ⟨as, hl1, hl2, hl3⟩ := dpAll_pairs a
            subst hl2
            have hks : (as.zip (ps.map kOf)).map (·.2) = ps.map kOf := List.map_snd_zip (by rw [List.length_map, hl1]; exact Nat.le_refl _)
            have hk1 : (as.zip (ps.map kOf)).map (fun p => V.ref p.1) = as.map V.ref := by
              have : (as.zip (ps.map kOf)).map (fun p => V.ref p.1) = ((as.zip (ps.map kOf)).map (·.1)).map V.ref := by rw [List.map_map]; rfl
              rw [this, List.map_fst_zip (by rw [List.length_map, hl1]; exact Nat.le_refl _)]
            have hsq : ∀ p ∈ as.zip (ps.map kOf), SqT K0 P' p.1 (p.2.map V.int) ∧ ∃ z ∈ ps, p.2 = kOf z := fun p hp => by
              obtain ⟨i, hi, e⟩ := List.mem_iff_getElem.mp hp
              have e' : (as.zip (ps.map kOf))[i]? = some p := by rw [List.getElem?_eq_getElem hi, e]
              rw [List.getElem?_zip_eq_some] at e'
              obtain ⟨e1, e2⟩ := e'
              rw [List.getElem?_map] at e2
              obtain ⟨z, e3, e4⟩ := Option.map_eq_some_iff.mp e2
              have := hl3 i p.1 z e1 e3
              refine ⟨?_, z, List.mem_of_getElem? e3, e4.symm⟩
              rw [← e4]
              exact this
            refine .inr ⟨l, as.zip (ps.map kOf), rfl, by rw [hk1]; exact toK_L (s.le.sqL hq), fun p hp => toK_T (s.le.sqT (hsq p hp).1), by rw [List.length_zip, List.length_map, hl1]; omega, fun b L hb h1 h2 => ?_⟩
            obtain ⟨l2, s2⟩ := s.laid hb (u := SetTO X.prog X.w b L) trivial
            refine .inr ⟨b, L, 2, 64, rfl, upd_same, fun p hp => toK_T (s2.le.sqT (l2.sqT (hsq p (h1 p hp)).1)), by omega, fun p hp => ?_, fun L' p pm nd h64 pw hp => ?_⟩
            · obtain ⟨_, z, hz, e⟩ := hsq p (h1 p hp)
              have hz2 : 0 ≤ z.1 ∧ z.1 < 64 ∧ 0 ≤ z.2 ∧ z.2 < 64 := of_decide_eq_true (List.all_eq_true.mp hok z hz)
              rw [e]
              refine ⟨rfl, fun m hm => ?_⟩
              rcases List.mem_cons.mp hm with e | hm
              · rw [e]; exact ⟨hz2.1, hz2.2.1⟩
              · rw [List.mem_singleton.mp hm]; exact ⟨hz2.2.2.1, hz2.2.2.2⟩
            · have key := sset_pairs hks hok h1 h2 pm nd pw
              have hl' : (L'.map (·.1)).length = (setP ps).length := by
                have := congrArg List.length key
                rw [List.length_map, List.length_map] at this
                rw [List.length_map]
                exact this
              have hr : L'.map (fun q => V.ref q.1) = (L'.map (·.1)).map V.ref := by rw [List.map_map]; rfl
              rw [hr]
              refine rOV.newL s2 (pairs_dpAll hl' fun i b' z e1 e2 => ?_) (fun P2 fp2 H2 v2 l3 s3 r3 => q' P2 fp2 H2 v2 (l2.trans l3) s3 r3) hp
              rw [List.getElem?_map] at e1
              obtain ⟨w, e3, e4⟩ := Option.map_eq_some_iff.mp e1
              have e5 : (L'.map (·.2))[i]? = some w.2 := by rw [List.getElem?_map, e3]; rfl
              rw [key, List.getElem?_map, e2] at e5
              have e6 : kOf z = w.2 := Option.some.inj e5
              have hw := (hsq w (h1 w (pm.mem_iff.mp (List.mem_of_getElem? e3)))).1
              rw [← e4]
              have : w.2.map V.int = [V.int z.1, V.int z.2] := by rw [← e6]; rfl
              rw [this] at hw
              exact l2.sqT hw
          · rw [if_neg hok] at eo
            cases eo
    · rw [if_neg hlen] at eo
      cases eo
  | _ => cases eo
end
end TL
set_option Elab.async false
set_option linter.all false
set_option maxRecDepth 100000
set_option maxHeartbeats 1000000
namespace TL
open PySem PySem.Spec PyProof.Rows L2
section
variable {X : Cx} {C : Cc} {W : WX} {pos : Pos}
/-! ### zip -/
def zipD (xs ys : List PyData) : List PyData := List.zipWith (fun x y => .tuple [x, y]) xs ys
theorem zipD_get {xs ys : List PyData} {i : Nat} {z : PyData} (h : (zipD xs ys)[i]? = some z) : ∃ x y, xs[i]? = some x ∧ ys[i]? = some y ∧ z = .tuple [x, y] := by
  unfold zipD at h
  rw [List.getElem?_zipWith] at h
  split at h
  · rename_i x y h1 h2
    cases h
    exact ⟨x, y, h1, h2, rfl⟩
  · cases h
theorem zipD_length {xs ys : List PyData} : (zipD xs ys).length = min xs.length ys.length := List.length_zipWith
theorem wk_zip {P : Hp} {xs ys : List PyData} {vs us : List V} (d : DpAll K0 P vs xs) (d2 : DpAll K0 P us ys) {J : It} (hs : ∀ i H, Le P H → vs.length ≤ i ∨ us.length ≤ i → J.stop i H) (hg : ∀ i H x y, Le P H → vs[i]? = some x → us[i]? = some y → J.go i H ∧
    ∀ v H', J.yld i H v H' → ∃ T, v = .ref T ∧ H T = none ∧ H' = upd H T (.tup [x, y])) : Wk C J P (zipD xs ys) := fun i P' env fp F σ H l s => by
  have l1 := dpAll_length d
  have l2 := dpAll_length d2
  refine ⟨fun hi => hs i H (l.trans s.le) (by rw [zipD_length] at hi; omega), fun z hz => ?_⟩
  obtain ⟨x, y, h1, h2, rfl⟩ := zipD_get hz
  obtain ⟨v, h3, h4⟩ := dpAll_get d h1
  obtain ⟨u, h5, h6⟩ := dpAll_get d2 h2
  obtain ⟨g1, g2⟩ := hg i H v u (l.trans s.le) h3 h5
  refine ⟨g1, fun w H' yl => ?_⟩
  obtain ⟨T, rfl, hT, rfl⟩ := g2 w H' yl
  obtain ⟨l3, s3⟩ := s.laid hT (u := .tup [v, u]) trivial
  exact ⟨_, l3, s3, .tup (SqT.of upd_same) (.cons ((l.trans l3).dp h4) (.cons ((l.trans l3).dp h6) .nil))⟩
/-- zip(a, b): two lists or two tuples -/
def mZip (a b : M PyData) : M (List PyData) := a >>= fun x => b >>= fun y => match x, y with
  | .list xs, .list ys => pure (zipD xs ys)
  | .tuple xs, .tuple ys => pure (zipD xs ys)
  | _, _ => fun _ => none
theorem sI_zip {elts : List Expr} {kk : Nat} {tpos p : Pos} {a b : Expr} {ma mb : M PyData} (hg : Gl X "zip") (hm : X.mg "zip" = none) (ha : PE X a (liftD C W ma)) (hb : PE X b (liftD C W mb)) (na : NS a) (nb : NS b) :
    PI X (.Tuple elts kk tpos) (.Call (.Name "zip" p) [a, b] [] pos) (liftI C W (mZip ma mb)) :=
  PI.imp (RZ.pi_zipA hg hm (pa_cons ha (pa_cons hb pa_nil (nb [] _)) (na [b] _)) (na [b] _) (by rw [nb [] _]; rfl)) fun σ H R q => by
    obtain ⟨P, env, fp, s, h'⟩ := q
    refine ⟨P, env, fp, s, postI.seq h' fun x env' P' fp' H' v e l s' r q => ?_⟩
    refine ⟨P', env', fp', s', postI.seq q fun y env2 P2 fp2 H2 u e2 l2 s2 r2 q2 => ?_⟩
    have r1 := l2.dp r
    cases r1 with
    | lst h1 a1 =>
      rename_i ad vs xs
      cases r2 with
      | lst h2 a2 =>
        rename_i bd us ys
        refine ⟨ad, bd, vs, us, rfl, .inl ⟨toK_L (s2.le.sqL h1), toK_L (s2.le.sqL h2), q2 P2 fp2 H2 _ (Le.refl _) s2 (wk_zip a1 a2 (fun i H hH hi => ⟨vs, us, toK_L (hH.sqL h1), toK_L (hH.sqL h2), hi⟩) fun i H x y hH hx hy => ⟨⟨vs, us, x, y, toK_L (hH.sqL h1), toK_L (hH.sqL h2), hx, hy⟩, fun w H' yl => ?_⟩)⟩⟩
        obtain ⟨T, x', y', rfl, hT, rfl, q1, q3⟩ := yl
        have ex := q1 vs (toK_L (hH.sqL h1))
        have ey := q3 us (toK_L (hH.sqL h2))
        rw [hx] at ex
        rw [hy] at ey
        cases ex
        cases ey
        exact ⟨T, rfl, hT, rfl⟩
      | _ => exact False.elim q2
    | tup h1 a1 =>
      rename_i ad vs xs
      cases r2 with
      | tup h2 a2 =>
        rename_i bd us ys
        refine ⟨ad, bd, vs, us, rfl, .inr ⟨toK_T (s2.le.sqT h1), toK_T (s2.le.sqT h2), q2 P2 fp2 H2 _ (Le.refl _) s2 (wk_zip a1 a2 (fun i H hH hi => ⟨vs, us, toK_T (hH.sqT h1), toK_T (hH.sqT h2), hi⟩) fun i H x y hH hx hy => ⟨⟨vs, us, x, y, toK_T (hH.sqT h1), toK_T (hH.sqT h2), hx, hy⟩, fun w H' yl => ?_⟩)⟩⟩
        obtain ⟨T, x', y', rfl, hT, rfl, q1, q3⟩ := yl
        have ex := q1 vs (toK_T (hH.sqT h1))
        have ey := q3 us (toK_T (hH.sqT h2))
        rw [hx] at ex
        rw [hy] at ey
        cases ex
        cases ey
        exact ⟨T, rfl, hT, rfl⟩
      | _ => exact False.elim q2
    | _ => exact False.elim q2
/-! ### x, y = a, b stored side by side -/
def mPar (i j : Nat) (a b : M OV) : M Fl := a >>= fun x => b >>= fun y => fun e => some (.ok .nx ((e.set i (some x)).set j (some y)))
/-- an owned value held while more is run -/
def holdH (H : Hp) (ft : List Addr) : Hp := fun b => if b ∈ ft then H b else none
theorem hold_mk {P : Hp} {fp : Nat → List Addr} {H : Hp} {ov : OV} {v : V} {ft : List Addr} (o : Own K0 P H ov v ft) (t : Tmp C P fp ft) : Beside C P fp H (holdH H ft) := by
  refine ⟨fun b u q => ?_, fun i b hb => ?_⟩
  · unfold holdH at q
    split at q
    · rename_i hm
      obtain ⟨w, hw, hz⟩ := o.there b hm
      rw [q] at hw
      cases hw
      exact ⟨q, hz, (t.fre b hm).1, (t.fre b hm).2⟩
    · cases q
  · unfold holdH
    rw [if_neg (t.dis i b hb)]
theorem hold_back {P P' : Hp} {fp : Nat → List Addr} {H H' : Hp} {ov : OV} {v : V} {ft : List Addr} (o : Own K0 P H ov v ft) (l : Le P P') (b : Beside C P' fp H' (holdH H ft)) : Own K0 P' H' ov v ft ∧ Tmp C P' fp ft := by
  have key : ∀ a ∈ ft, ∃ u, holdH H ft a = some u ∧ H a = some u := fun a ha => by
    obtain ⟨u, hu, _⟩ := o.there a ha
    exact ⟨u, by unfold holdH; rw [if_pos ha]; exact hu, hu⟩
  refine ⟨o.frame l fun a ha => ?_, ⟨fun i a h1 h2 => ?_, fun a ha => ?_⟩⟩
  · obtain ⟨u, h1, h2⟩ := key a ha
    exact (b.at_ a u h1).1.trans h2.symm
  · obtain ⟨u, h3, _⟩ := key a h2
    have := b.fp i a h1
    rw [h3] at this
    cases this
  · obtain ⟨u, h3, _⟩ := key a ha
    exact ⟨(b.at_ a u h3).2.2.1, (b.at_ a u h3).2.2.2⟩
/-- a value, then one more beside it -/
def PEH (X : Cx) (C : Cc) (W : WX) (e : Expr) (m : M OV) : Prop := ∀ F, PE X e (liftE (C.withF F) W m)
theorem PEH.pe {e : Expr} {m : M OV} (h : PEH X C W e m) : PE X e (fun σ H Q => ∃ F, liftE (C.withF F) W m σ H Q) := PE.ex fun σ H Q ⟨F, q⟩ => ⟨_, h F, q⟩
theorem postS.seqF {α β : Type} {R : RelR α β} {P G : Hp} {σ : L2.St} {D : Ends} {N : β → Hp → Prop} {f : α → M Fl} : ∀ {o : Option (Out α)}, postS C W P D (Out.andThen o f) →
    (∀ a env' P' fp' H' v, Le P P' → StOk (C.withF (join C.F G)) P' env' fp' σ H' → R P' fp' H' a v → postS C W P' D (f a env') → N v H') → postG (C.withF (join C.F G)) W R P N σ o
  | none, h, _ => h
  | some (.ok r e), h, k => fun P1 fp1 H1 v l1 s1 r1 => k r e P1 fp1 H1 v l1 s1 r1 (postS.mono l1 h)
  | some (.exc x e), h, _ => fun P1 fp1 H1 c d l1 s1 r1 => h P1 fp1 σ H1 c d l1 s1.unhold r1
theorem Own.lift {P H : Hp} {ov : OV} {v : V} {ft : List Addr} {C2 : Cc} {fp : Nat → List Addr} (o : rOV C2 P fp H ov v) : ∃ ft, Own K0 P H ov v ft ∧ Tmp C2 P fp ft := o
theorem StOk.store2 {P : Hp} {env : Env} {fp : Nat → List Addr} {σ : L2.St} {H : Hp} {o1 o2 : OV} {v1 v2 : V} {f1 f2 : List Addr} (s : StOk C P env fp σ H) {i j : Nat} (hi : C.kp i = none) (hj : C.kp j = none) (a1 : Own K0 P H o1 v1 f1) (t1 : Tmp C P fp f1) (a2 : Own K0 P H o2 v2 f2) (t2 : Tmp C P fp f2)
    (hd : ∀ a, a ∈ f1 → a ∉ f2) : ∃ fp', StOk C P ((env.set i (some o1)).set j (some o2)) fp' ((σ.set i (some v1)).set j (some v2)) H := by
  have t2' : ∃ fp', StOk C P (env.set i (some o1)) fp' (σ.set i (some v1)) H ∧ Tmp C P fp' f2 := by
    have s1 := s.drop i
    by_cases hl : i < σ.length
    · have u1 : Tmp C P (fun k => if k = i then [] else fp k) f1 := ⟨fun k a h1 h2 => by
        by_cases hk : k = i
        · rw [if_pos hk] at h1; cases h1
        · rw [if_neg hk] at h1
          exact t1.dis k a h1 h2, t1.fre⟩
      have s2 : StOk C P (env.set i none) (fun k => if k = i then [] else fp k) (σ.set i (some v1)) H := by
        refine ⟨s1.phi, s1.frm, fun k w q => ?_, s1.dis, s1.fre, fun k w q => ?_, s1.tabs, by rw [List.length_set, List.length_set]; exact s.len⟩
        · by_cases hk : k = i
          · subst hk
            rw [List.getElem?_set_self (by rw [s.len]; exact hl)] at q
            cases q
          · obtain ⟨y, e, z⟩ := s1.own k w q
            exact ⟨y, by rw [List.getElem?_set_ne (Ne.symm hk)]; exact e, z⟩
        · have hk : k ≠ i := fun z => by rw [z, hi] at q; cases q
          rw [List.getElem?_set_ne (Ne.symm hk)]
          exact s.keep k w q
      have s3 := s2.put i (List.getElem?_set_self hl) a1 u1
      rw [List.set_set] at s3
      refine ⟨_, s3, ⟨fun k a h1 h2 => ?_, t2.fre⟩⟩
      by_cases hk : k = i
      · rw [if_pos hk] at h1
        exact hd a h1 h2
      · rw [if_neg hk, if_neg hk] at h1
        exact t2.dis k a h1 h2
    · refine ⟨fp, ?_, t2⟩
      rw [List.set_eq_of_length_le (by rw [s.len]; omega), List.set_eq_of_length_le (by omega)]
      exact s
  obtain ⟨fp', s', t'⟩ := t2'
  exact s'.store hj a2 t'
theorem sS_par {i j : Nat} {x y : Str} {a b : Expr} {ma mb : M OV} {px py pt : Pos} {kt k2 : Nat} {pt2 : Pos} (hc : X.calm = true) (li : LocOk X C i x) (lj : LocOk X C j y) (hij : i ≠ j)
    (hx : X.env.scope.names.lookup x = some .local) (hy : X.env.scope.names.lookup y = some .local) (ha : PE X a (liftE C W ma)) (hb : PEH X C W b mb) (na : NS a) (nb : NS b)
    (hw : swappedStores [.Tuple [.Name x px, .Name y py] kt pt] (.Tuple [a, b] k2 pt2) X.env = pure (some [x, y]))
    (hs : swapsWithSole [.Tuple [.Name x px, .Name y py] kt pt] (.Tuple [a, b] k2 pt2) pos.line X.env = pure false) :
    PS X (.Assign [.Tuple [.Name x px, .Name y py] kt pt] (.Tuple [a, b] k2 pt2) pos) (liftS C W (mPar i j ma mb)) :=
  PS.imp (ps_par hc li.nd li.n lj.n hij hx hy (pa_cons ha (pa_cons hb.pe pa_nil (nb [] _)) (na [b] _)) hw hs) fun D σ H q => by
    refine liftS.seq q fun o1 env1 P1 fp1 H1 v1 s1 r1 h1 => ?_
    obtain ⟨f1, a1, t1⟩ := r1
    have bs := hold_mk a1 t1
    refine ⟨join C.F (holdH H1 f1), P1, env1, fp1, s1.hold bs, postS.seqF (R := rOV (C.withF (join C.F (holdH H1 f1)))) h1 fun o2 env2 P2 fp2 H2 v2 l2 s2 r2 h2 => ?_⟩
    refine ⟨v1, v2, rfl, ?_⟩
    obtain ⟨f2, a2, t2⟩ := r2
    obtain ⟨a1', t1'⟩ := hold_back a1 l2 (s2.besides bs)
    have t2' : Tmp C P2 fp2 f2 := ⟨t2.dis, fun a ha => ⟨(t2.fre a ha).1, (join_none (t2.fre a ha).2).1⟩⟩
    have hd : ∀ a, a ∈ f1 → a ∉ f2 := fun a h3 h4 => by
      obtain ⟨_, q⟩ := join_none (t2.fre a h4).2
      obtain ⟨u, hu, _⟩ := a1.there a h3
      unfold holdH at q
      rw [if_pos h3, hu] at q
      cases q
    obtain ⟨fp', s'⟩ := s2.unhold.store2 li.k lj.k a1' t1' a2 t2' hd
    exact h2 P2 fp' _ H2 (Le.refl _) s'
end
end TL
set_option Elab.async false
set_option linter.all false
set_option maxRecDepth 100000
set_option maxHeartbeats 1000000
namespace TL
open PySem PySem.Spec PyProof.Rows L2
section
variable {X : Cx} {C : Cc} {W : WX} {pos : Pos}
/-! ### data at once -/
def dV (i : Nat) : M PyData := fun e => match e[i]? with
  | some (some (.d x)) => some (.ok x e)
  | _ => none
theorem NameOk.dv {i : Nat} {x : Str} (n : NameOk X i x) : PE X (.Name x pos) (liftD C W (dV i)) := PE.imp (n.pe) fun σ H Q q => by
  obtain ⟨P, env, fp, s, h⟩ := q
  unfold dV at h
  split at h
  · rename_i x e
    obtain ⟨v, e1, o⟩ := s.own i _ e
    exact ⟨v, e1, h P fp H v (Le.refl _) s o.dp⟩
  · exact h.elim
def dC (x : PyData) : M PyData := pure x
theorem sD_c {e : Expr} {v : V} {x : PyData} (h : PE X e (tC v)) (d : ∀ K H, Dp K H v x) : PE X e (liftD C W (dC x)) := PE.imp h fun σ H Q q => by
  obtain ⟨P, env, fp, s, h⟩ := q
  exact h P fp H v (Le.refl _) s (d _ _)
theorem sD_int {i : Int} {j : Nat} : PE X (.Constant (.int i) j pos) (liftD C W (dC (.int i))) := sD_c pe_int fun _ _ => .int i
theorem sD_bool {b : Bool} {j : Nat} : PE X (.Constant (.bool b) j pos) (liftD C W (dC (.bool b))) := sD_c pe_bl fun _ _ => .bl b
theorem sD_none {j : Nat} : PE X (.Constant .none j pos) (liftD C W (dC .none)) := sD_c pe_non fun _ _ => .non
theorem sD_str {x : Str} {j : Nat} : PE X (.Constant (.str x) j pos) (liftD C W (dC (.str x))) := sD_c pe_str fun _ _ => .str x
theorem sD_globI {x : Str} {i : Int} {t : Tok} (hg : Gl X x) (hm : X.mg x = some (.int i t)) (hd : (x == ("__debug__" : Str)) = false) : PE X (.Name x pos) (liftD C W (dC (.int i))) := sD_c (pe_glob (v := .int i) hg hm ⟨_, rfl⟩ hd) fun _ _ => .int i
theorem sD_globS {x y : Str} {t : Tok} (hg : Gl X x) (hm : X.mg x = some (.str y t)) (hd : (x == ("__debug__" : Str)) = false) : PE X (.Name x pos) (liftD C W (dC (.str y))) := sD_c (pe_glob (v := .str y) hg hm ⟨_, rfl⟩ hd) fun _ _ => .str y
/-- x = [..] on one line, kept as data -/
theorem sS_setLcD {i : Nat} {y : Str} {py spos : Pos} {scope : Scope} {own : List (Str × Nat)} {tg iter elt : Expr} {ifs : List Expr} {mi : M (List PyData)} {g : PyData → M Unit} {t : M Bool} {m : M PyData} (hc : X.calm = true) (hN : X.N.Nodup) (hy : X.N[i]? = some y) (hyl : X.env.scope.names.lookup y = some .local) (hky : C.kp i = none)
    (hsw : swapsWith (.ListComp elt [⟨tg, iter, ifs, 0⟩] scope pos) (some (.Name y py)) spos.line X.env = pure true) (hi : PI X tg iter (liftI C W mi)) (ok : BlkOk X.N X.env.scope scope own) (r : BlkR X C scope (own.map (·.2)) tg ifs elt g t m)
    (h0 : GOk g) (hk : ∀ i ∈ own.map (·.2), C.kp i = none) (hs : ∀ x, foldedSetIterable iter X.env x = pure x) : PS X (.Assign [.Name y py] (.ListComp elt [⟨tg, iter, ifs, 0⟩] scope pos) spos) (liftS C W (mSet i (dat (frz (mComp (own.map (·.2)) mi g t m))))) :=
  PS.imp (ps_setLc hc hN hy hyl hsw hi ok (fun s H c cl fp => PG.exF (r.tg s H c cl fp)) (fun s H c cl fp => PTs.exF (r.ifs s H c cl fp)) (fun s H c cl fp => PE.exF (r.elt s H c cl fp)) hs) fun D σ H q => by
    refine lcR (scope := scope) (elt := elt) (tg := tg) (iter := iter) (ifs := ifs) h0 hk (Q := fun x H1 => gName i x σ H1 D.nx) ?_
    have q' : liftS C W ((mComp (own.map (·.2)) mi g t m) >>= fun v => (M.opt v.dat >>= fun x => fun e => some (.ok .nx (e.set i (some (.d x)))))) D σ H := by
      obtain ⟨P, env, fp, s, h⟩ := q
      refine ⟨P, env, fp, s, ?_⟩
      have e : (mSet i (dat (frz (mComp (own.map (·.2)) mi g t m)))) env = ((mComp (own.map (·.2)) mi g t m) >>= fun v => (M.opt v.dat >>= fun x => fun e => some (.ok .nx (e.set i (some (.d x)))))) env := by
        unfold mSet dat frz
        rw [M.bind_at, M.bind_at, M.bind_at, M.bind_at]
        cases mComp (own.map (·.2)) mi g t m env with
        | none => rfl
        | some o =>
          cases o with
          | exc y e => rfl
          | ok v e =>
            show Out.andThen (Out.andThen (M.opt v.dat e) _) _ = (M.opt v.dat >>= _) e
            rw [M.bind_at]
            cases v.dat <;> rfl
      rw [← e]
      exact h
    exact liftS.seq q' fun a env' P' fp' H' v s r q => by
      obtain ⟨ft, o, t⟩ := r
      rw [M.bind_at] at q
      cases ed : a.dat with
      | none => rw [ed] at q; exact q.elim
      | some x =>
        rw [ed] at q
        obtain ⟨P2, l2, s2, d2⟩ := s.freeze o t ed
        obtain ⟨fp2, s3⟩ := s2.store hky (.d d2) Tmp.nil
        exact q P2 fp2 _ H' l2 s3
end
/-- the built-in names that no module's name hides -/
structure Blt (mg : Str → Option Value) : Prop where
  len : mg "len" = none
  isinstance : mg "isinstance" = none
  int : mg "int" = none
  bool : mg "bool" = none
  str : mg "str" = none
  tuple : mg "tuple" = none
  list : mg "list" = none
  dict : mg "dict" = none
  set : mg "set" = none
  range : mg "range" = none
  zip : mg "zip" = none
  enumerate : mg "enumerate" = none
  sorted : mg "sorted" = none
  all : mg "all" = none
  min : mg "min" = none
  max : mg "max" = none
  sum : mg "sum" = none
theorem boot_int : bootBuiltins "int" = some (.type "int") := by kernel_rfl
theorem boot_bool : bootBuiltins "bool" = some (.type "bool") := by kernel_rfl
theorem boot_str : bootBuiltins "str" = some (.type "str") := by kernel_rfl
end TL
set_option Elab.async false
set_option linter.all false
set_option maxRecDepth 100000
set_option maxHeartbeats 1000000
namespace TL
open PySem PySem.Spec PyProof.Rows L2
theorem Room.u {k : Nat} {A : Around} (r : Room k A) : A.units + 200 < cLine := by have := r.un; omega
section
variable {X : Cx} {C : Cc} {W : WX} {pos : Pos}
theorem sS_break : PS X (.Break pos) (liftS C W (pure .bk)) := PS.imp ps_break fun D σ H q => by
  obtain ⟨P, env, fp, s, h⟩ := q
  exact h P fp σ H (Le.refl _) s
theorem sS_continue : PS X (.Continue pos) (liftS C W (pure .ct)) := PS.imp ps_continue fun D σ H q => by
  obtain ⟨P, env, fp, s, h⟩ := q
  exact h P fp σ H (Le.refl _) s
/-- never reached -/
def mNo {α : Type} : M α := fun _ => none
theorem sS_never {st : Stmt} : PS X st (liftS C W mNo) := PS.imp ps_never fun D σ H q => by
  obtain ⟨P, env, fp, s, h⟩ := q
  exact h.elim
theorem gok_n {i : Nat} : GOk (gN i) := fun x env o h => by
  cases h
  exact ⟨_, rfl⟩
def GsOk (g : List PyData → M Unit) : Prop := ∀ x env o, g x env = some o → ∃ env', o = .ok () env'
theorem gsok_nil : GsOk gsNil := fun x env o h => by
  cases x with
  | nil => cases h; exact ⟨_, rfl⟩
  | cons => cases h
theorem gsok_cons {g : PyData → M Unit} {r : List PyData → M Unit} (h1 : GOk g) (h2 : GsOk r) : GsOk (gsCons g r) := fun x env o h => by
  cases x with
  | nil => cases h
  | cons x xs =>
    have h : Out.andThen (g x env) (fun _ => r xs) = some o := h
    cases e : g x env with
    | none => rw [e] at h; cases h
    | some u =>
      obtain ⟨env', rfl⟩ := h1 x env u e
      rw [e] at h
      exact h2 xs env' o h
theorem gok_t {n : Nat} {g : List PyData → M Unit} (h : GsOk g) : GOk (gT n g) := fun x env o e => by
  cases x with
  | tuple xs =>
    have e : (if xs.length = n then g xs else fun _ => none) env = some o := e
    by_cases hl : xs.length = n
    · rw [if_pos hl] at e
      exact h xs env o e
    · rw [if_neg hl] at e
      cases e
  | _ => cases e
theorem genSc_by {scope : Scope} {own : List (Str × Nat)} (h : blkC X.N X.env.scope scope own = true) (h1 : scope.isCoroutine = false) (h2 : (scope.names.all fun y => decide (y.2 ≠ NameKind.cell)) = true) (h3 : scope.names.lookup (".0" : Str) = some NameKind.local) : GenSc X scope own :=
  ⟨blkOk_by h, h1, fun y hy => of_decide_eq_true (List.all_eq_true.mp h2 y hy), h3⟩
theorem agNd_nil : agNd [] := trivial
theorem takesB {X : Cx} : Takes X W0 := takes0
end
end TL
set_option Elab.async false
set_option linter.all false
set_option maxRecDepth 100000
set_option maxHeartbeats 1000000
namespace TL
open PySem PySem.Spec PyProof.Rows L2
section
variable {X : Cx} {C : Cc} {W : WX} {pos : Pos}
/-! ### list(range(..)), tuple(range(..)) -/
theorem rgV_dp {P : Hp} {a b : Int} : DpAll K0 P (rgV a b) (rngD a (b - a).toNat) := by
  unfold rgV rngD
  generalize List.range (b - a).toNat = l
  induction l with
  | nil => exact .nil
  | cons i l ih => exact .cons (.int _) ih
def rgOk (a b : Int) : Bool := decide (-(2 ^ 62) ≤ a ∧ a < 2 ^ 62 ∧ -(2 ^ 62) ≤ b ∧ b < 2 ^ 62 ∧ (b - a).toNat ≤ 2 ^ 24)
theorem rgOk_of {a b : Int} (h : rgOk a b = true) : RgOk a b := by
  unfold rgOk at h
  have h2 := of_decide_eq_true h
  exact h2
def mListR1 (m : M PyData) : M OV := m >>= fun x => match x with
  | .int n => M.opt (if rgOk 0 n then some (.lst (rngD 0 n.toNat)) else none)
  | _ => fun _ => none
def mTupR1 (m : M PyData) : M OV := m >>= fun x => match x with
  | .int n => M.opt (if rgOk 0 n then some (.d (.tuple (rngD 0 n.toNat))) else none)
  | _ => fun _ => none
theorem sE_listR1 {p p2 q : Pos} {e : Expr} {m : M PyData} (hc : X.calm = true) (hg : Gl X "list") (hm : X.mg "list" = none) (hg2 : Gl X "range") (hm2 : X.mg "range" = none) (h : PE X e (liftD C W m)) (ns : NS e) :
    PE X (.Call (.Name "list" p) [.Call (.Name "range" p2) [e] [] q] [] pos) (liftE C W (mListR1 m)) :=
  PE.imp (pe_listRg hc hg hm (prg_1 hg2 hm2 h (ns [] _)) rfl) fun σ H Q q => by
    refine liftG.seq q fun x env' P' fp' H' v s r q => ?_
    cases r with
    | int n =>
      obtain ⟨o, e, q'⟩ := opt_some (show postG C W (rOV C) P' Q σ (M.opt (if rgOk 0 n then some (OV.lst (rngD 0 n.toNat)) else none) env') from q)
      by_cases hz : rgOk 0 n = true
      · rw [if_pos hz] at e
        cases e
        have d : DpAll K0 P' (rgV 0 n) (rngD 0 n.toNat) := by have := rgV_dp (P := P') (a := 0) (b := n); rwa [Int.sub_zero] at this
        exact ⟨n, rfl, rgOk_of hz, fun p hp => rOV.newL s d q' hp⟩
      · rw [if_neg hz] at e
        cases e
    | _ => exact False.elim q
theorem sE_tupR1 {p p2 q : Pos} {e : Expr} {m : M PyData} (hc : X.calm = true) (hg : Gl X "tuple") (hm : X.mg "tuple" = none) (hg2 : Gl X "range") (hm2 : X.mg "range" = none) (h : PE X e (liftD C W m)) (ns : NS e) :
    PE X (.Call (.Name "tuple" p) [.Call (.Name "range" p2) [e] [] q] [] pos) (liftE C W (mTupR1 m)) :=
  PE.imp (pe_tupRg hc hg hm (prg_1 hg2 hm2 h (ns [] _)) rfl) fun σ H Q q => by
    refine liftG.seq q fun x env' P' fp' H' v s r q => ?_
    cases r with
    | int n =>
      obtain ⟨o, e, q'⟩ := opt_some (show postG C W (rOV C) P' Q σ (M.opt (if rgOk 0 n then some (OV.d (.tuple (rngD 0 n.toNat))) else none) env') from q)
      by_cases hz : rgOk 0 n = true
      · rw [if_pos hz] at e
        cases e
        have d : DpAll K0 P' (rgV 0 n) (rngD 0 n.toNat) := by have := rgV_dp (P := P') (a := 0) (b := n); rwa [Int.sub_zero] at this
        exact ⟨n, rfl, rgOk_of hz, fun p hp => rOV.newT s d q' hp⟩
      · rw [if_neg hz] at e
        cases e
    | _ => exact False.elim q
/-! ### a slot's own list compared where it stands -/
theorem Own.dpH {P H : Hp} {ov : OV} {v : V} {f : List Addr} (o : Own K0 P H ov v f) (l : Le P H) {x : PyData} (e : ov.dat = some x) : Dp K0 H v x := by
  cases o with
  | d d => cases e; exact l.dp d
  | lst h a => cases e; exact .lst (SqL.of h) (l.dpAll a)
  | dct => cases e
def gCmpS (g : PyData → PyData → Option OV) (y : PyData) (ov : OV) : Option OV := match ov.dat with
  | some x => g x y
  | none => none
def mCmpS (g : PyData → PyData → Option OV) (i : Nat) (mb : M PyData) : M OV := mHas i isAny >>= fun _ => mb >>= fun y => mPeek i (gCmpS g y)
theorem gCmpS_some {g : PyData → PyData → Option OV} {y : PyData} {ov r : OV} (h : gCmpS g y ov = some r) : ∃ x, ov.dat = some x ∧ g x y = some r := by
  unfold gCmpS at h
  cases e : ov.dat with
  | none => rw [e] at h; cases h
  | some x => rw [e] at h; exact ⟨x, rfl, h⟩
theorem cmpS_aux {neg : Bool} {i : Nat} {mb : M PyData} {σ : L2.St} {H : Hp} {Q : VK} {R : R2} (hR : ∀ x y dx dy H r, Dp K0 H x dx → Dp K0 H y dy → (if neg then gNe dx dy else gEq dx dy) = some r → ∀ Q : VK, (∀ b, r = .d (.bool b) → Q (.bl b) H) → R x y H Q)
    (q : liftE C W (mCmpS (if neg then gNe else gEq) i mb) σ H Q) : tOp R (tVar i) (liftD C W mb) σ H Q := by
  obtain ⟨v0, ov, P, env, fp, f0, e0, hp, o0, s, h⟩ := slot_start q
  refine ⟨v0, f0, P, env, fp, s, ?_⟩
  rw [M.bind_at] at h
  refine postG.seq h fun y env' P' fp' H' u l s' r q => ?_
  obtain ⟨v1, a1, g1, g2, q'⟩ := peek_at q
  obtain ⟨x, e1, e2⟩ := gCmpS_some g2
  obtain ⟨v, f1, o1⟩ := s'.own i _ g1
  have ew := slot_inj f0 f1
  subst ew
  refine hR v0 u x y H' a1 (o1.dpH s'.le e1) (s'.le.dp r) (by cases neg <;> exact e2) Q fun b hb => ?_
  subst hb
  exact q' P' fp' H' _ (Le.refl _) s' (rOV.d (.bl b))
theorem sE_eqS {i : Nat} {x : Str} {p : Pos} {b : Expr} {mb : M PyData} (hu : X.A.units + 200 < cLine) (n : NameOk X i x) (hb : PE X b (liftD C W mb)) (hm : behindInMarks .Eq b = false) : PE X (.Compare (.Name x p) [.Eq] [b] pos) (liftE C W (mCmpS gEq i mb)) :=
  PE.imp (pe_cmpR (op_eqP hu) n.pe hb hm) fun σ H Q q => cmpS_aux (neg := false) (fun x y dx dy H r d1 d2 e Q k => by
    unfold gEq at e
    rw [if_neg Bool.false_ne_true] at e
    split at e
    · rename_i h
      cases e
      obtain ⟨h1, h2⟩ := Bool.and_eq_true_iff.mp h
      exact ⟨dx, dy, toK d1, toK d2, h1, h2, k _ rfl⟩
    · cases e) q
theorem sE_neS {i : Nat} {x : Str} {p : Pos} {b : Expr} {mb : M PyData} (hu : X.A.units + 200 < cLine) (n : NameOk X i x) (hb : PE X b (liftD C W mb)) (hm : behindInMarks .NotEq b = false) : PE X (.Compare (.Name x p) [.NotEq] [b] pos) (liftE C W (mCmpS gNe i mb)) :=
  PE.imp (pe_cmpR (op_neP hu) n.pe hb hm) fun σ H Q q => cmpS_aux (neg := true) (fun x y dx dy H r d1 d2 e Q k => by
    unfold gNe at e
    rw [if_pos rfl] at e
    split at e
    · rename_i h
      cases e
      obtain ⟨h1, h2⟩ := Bool.and_eq_true_iff.mp h
      exact ⟨dx, dy, toK d1, toK d2, h1, h2, k _ rfl⟩
    · cases e) q
theorem sT_eqS {i : Nat} {x : Str} {p : Pos} {b : Expr} {mb : M PyData} (hu : X.A.units + 200 < cLine) (n : NameOk X i x) (hb : PE X b (liftD C W mb)) (hm : behindInMarks .Eq b = false) : PT X (.Compare (.Name x p) [.Eq] [b] pos) (liftT C W (asB (mCmpS gEq i mb))) :=
  PT.imp (pt_cmpR (op_eqP hu) n.pe hb hm) fun σ H Q q => asB.of q fun σ H Q q => cmpS_aux (neg := false) (fun x y dx dy H r d1 d2 e Q k => by
    unfold gEq at e
    rw [if_neg Bool.false_ne_true] at e
    split at e
    · rename_i h
      cases e
      obtain ⟨h1, h2⟩ := Bool.and_eq_true_iff.mp h
      exact ⟨dx, dy, toK d1, toK d2, h1, h2, k _ rfl⟩
    · cases e) q
theorem sT_neS {i : Nat} {x : Str} {p : Pos} {b : Expr} {mb : M PyData} (hu : X.A.units + 200 < cLine) (n : NameOk X i x) (hb : PE X b (liftD C W mb)) (hm : behindInMarks .NotEq b = false) : PT X (.Compare (.Name x p) [.NotEq] [b] pos) (liftT C W (asB (mCmpS gNe i mb))) :=
  PT.imp (pt_cmpR (op_neP hu) n.pe hb hm) fun σ H Q q => asB.of q fun σ H Q q => cmpS_aux (neg := true) (fun x y dx dy H r d1 d2 e Q k => by
    unfold gNe at e
    rw [if_pos rfl] at e
    split at e
    · rename_i h
      cases e
      obtain ⟨h1, h2⟩ := Bool.and_eq_true_iff.mp h
      exact ⟨dx, dy, toK d1, toK d2, h1, h2, k _ rfl⟩
    · cases e) q
/-! ### a def that is not run -/
theorem sSs_never {ss : List Stmt} : PSs X ss (liftS C W mNo) := PSs.imp pss_never fun D σ H q => by
  obtain ⟨P, env, fp, s, h⟩ := q
  exact h.elim
end
end TL
set_option Elab.async false
set_option linter.all false
set_option maxRecDepth 100000
set_option maxHeartbeats 1000000
namespace TL
open PySem PySem.Spec PyProof.Rows L2 GxR
/-! ### the law's own def -/
theorem FnS.fd {P : Program} {w : World} {K : PySem.W.Frag} {mg : Str → Option Value} {base : Heap} {T : List Addr} {ex : Str → Option Addr} {k np : Nat} {x : Str} {mf : M OV} (F : FnS P w K mg base T ex k x np mf) {f : Addr} (hx : mg x = some (.ref f)) :
    ∃ fd ps, ps.length = np ∧ FnOk P w K mg base (L2.CX P w) k f fd ps (fnSp np T ex mf) := by
  obtain ⟨f', fd, ps, h1, h2, _, _, h5⟩ := F.ok
  rw [h2] at hx
  cases hx
  exact ⟨fd, ps, h1, h5⟩
section
variable {P : Program} {w : World} {K : PySem.W.Frag} {mg : Str → Option Value} {base : Heap} {T : List Addr} {ex : Str → Option Addr}
/-- as FunC.fnS, for the def f itself -/
theorem FunC.fnOk {x qual : Str} {params : Arguments} {body : List Stmt} {scope : Scope} {f : Addr} {fd : FuncData} {cdv : Value} {ps N : List Str} {k np : Nat} {mb : M Fl} (F : FunC K x qual params body scope f fd cdv) (S : FnScope N ps scope) (hnp : ps.length = np) (hN : np ≤ N.length)
    (hbody : ∀ (A : Around) (outer : List PySem.Env) (s : Shared) (H : Hp) (E : XK) (C : Cc), Room k (A.deeper (envOfC qual scope s.heap.objs.size f cdv)) → C.tabs = T → C.exc = ex → (∀ i, ([] : List Nat).contains i = false → C.kp i = none) →
      PSs (fnX P w K mg base N qual scope f cdv A outer s H E) body (liftS C (fnW E) mb)) : FnOk P w K mg base (L2.CX P w) (k + 1) f fd ps (fnSp np T ex (fnM np N.length [] mb)) := by
  obtain ⟨oc, od, kV, doc, pm, an, ct, osl, rfl, lk, hcd⟩ := F.ex
  refine fn_of lk hcd S (fun vs H Q E q => by rw [hnp]; exact q.1) fun A outer s H vs Q E hr hsp => ?_
  obtain ⟨hl, C, P0, env, fp, hT, hE, hk, s0, q⟩ := hsp
  refine ⟨_, hbody A outer s H E (bodyC C []) hr hT hE (fun i hi => rfl), ?_⟩
  have hvl : vs.length ≤ N.length := by rw [hl]; exact hN
  refine ⟨P0, _, fp, s0.begin hk hvl, ?_⟩
  rw [hl]
  unfold fnM at q
  cases em : mb (env ++ List.replicate (N.length - np) none) with
  | none => rw [em] at q; exact q.elim
  | some o =>
    rw [em] at q
    cases o with
    | exc y e => exact fun P' fp' σ' H' cls d l s' r => q P' _ H' cls d l (s0.finish hk l s') r
    | ok fl e =>
      cases fl with
      | nx => exact fun P' fp' σ' H' l s' => q P' _ H' .non l (s0.finish hk l s') (rOV.d .non)
      | rt r => exact fun P' fp' σ' H' v l s' r => q P' _ H' v l (s0.finish hk l s') (rOV.finish r)
      | bk => exact q.elim
      | ct => exact q.elim
end
theorem FunC.bindsA {K : PySem.W.Frag} {x qual : Str} {params : Arguments} {body : List Stmt} {scope : Scope} {f : Addr} {fd : FuncData} {cdv : Value} {ps : List Str} (F : FunC K x qual params body scope f fd cdv)
    (h : ∀ (kV doc pm : Value) (an : Option Addr) (cdv ct : Value) (us : List Value), us.length = ps.length → bindArgs (PySem.W.fnOf x qual params body scope .none kV doc pm an cdv ct) ⟨us, []⟩ = pure (ps.zip us)) (s : Shared) (us : List Value) (hl : us.length = ps.length) : BindsTo s fd ⟨us, []⟩ (ps.zip us) := by
  obtain ⟨oc, od, kV, doc, pm, an, ct, osl, rfl, lk, hcd⟩ := F.ex
  exact .of_eq (h kV doc pm an cdv ct us hl)
/-! ### from the head's facts -/
def noLists (K : PySem.W.Frag) : Bool := K.all fun p => match p.2.cls with
  | .type n => decide (n ≠ "list")
  | _ => true
theorem noLists_no {K : PySem.W.Frag} (h : noLists K = true) {a : Addr} {o : Obj} (l : K.lookup a = some o) (c : o.cls = .type "list") : False := by
  have q := List.all_eq_true.mp h (a, o) (He.lookup_mem l)
  simp only [c] at q
  exact absurd rfl (of_decide_eq_true q)
section
variable {fa : List He.Fa} {fn : List He.DefD} {tf : List He.Defn} {w : World} {h : Heap} {K : PySem.W.Frag}
theorem funC_of (c : He.SaysD fa fn K) {d : He.DefD} (hd : d ∈ fn) (h0 : d.dfl = []) : ∃ fd, FunC K d.name d.qual d.params d.body d.scope (He.fAd K d.at_) fd (.ref (He.codeOf K d.at_)) := by
  obtain ⟨fd, F⟩ := c.defs hd
  obtain ⟨oc, od, dV, kV, doc, pm, an, cdv, ct, osl, e, l, hc, hdf, _⟩ := F.ex
  have e0 : d.dvs K = [] := by unfold He.DefD.dvs; rw [h0]; rfl
  rw [e0] at hdf
  rcases hdf with ⟨_, e2⟩ | ⟨e2, _⟩
  · subst e2
    obtain ⟨c0, rfl⟩ := He.codeIn_ref hc
    refine ⟨fd, ⟨⟨oc, od, kV, doc, pm, an, ct, osl, ?_, l, ?_⟩, F.kp⟩⟩
    · have : He.codeOf K d.at_ = c0 := He.codeOf_eq l (by rw [e])
      rw [this]
      exact e
    · have : He.codeOf K d.at_ = c0 := He.codeOf_eq l (by rw [e])
      rw [this]
      exact hc
  · exact absurd rfl e2
theorem blt_of {mg : Str → Option Value} (X : K.In h) (G : h.Ns mainGlobals mg) (c : He.SaysD fa fn K) (hb : ∀ x ∈ (["len", "isinstance", "int", "bool", "str", "tuple", "list", "dict", "set", "range", "zip", "enumerate", "sorted", "all", "min", "max", "sum"] : List Str), He.Fa.free x ∈ fa) : Blt mg := by
  have k : ∀ x ∈ (["len", "isinstance", "int", "bool", "str", "tuple", "list", "dict", "set", "range", "zip", "enumerate", "sorted", "all", "min", "max", "sum"] : List Str), mg x = none := fun x hx => He.free_ok X G (c.facts (hb x hx))
  constructor <;> exact k _ (by simp)
theorem glo_of {mg : Str → Option Value} (X : K.In h) (G : h.Ns mainGlobals mg) (c : He.SaysD fa fn K) {x : Str} (hb : He.Fa.glo x ∈ fa) : mg x = some (.ref (He.ga K x)) := He.glo_ok X G (c.facts hb)
end
/-! ### the end -/
theorem law_start {C : Cc} {H : Hp} {a : Addr} {ns : List Int} {K : PySem.W.Frag} (hF : C.F = fun _ => none) (hk : ∀ i, C.kp i = [V.ref a][i]?) (hT : ∀ p ∈ C.tabs, H p = some (.tbl #[])) (hS : SqL K H a (ns.map V.int)) (hK : noLists K = true) :
    StOk C (fun b => if b = a then H a else none) [some (.d (.list (ns.map .int)))] (fun _ => []) [some (V.ref a)] H := by
  have hS0 : (H a = some (.lst (ns.map V.int))) ∨ ∃ o, H a = some (.frz o (.lst (ns.map V.int))) := by
    rcases hS with h | ⟨o, its, n, e, hc, _⟩
    · exact h
    · exact (noLists_no hK e hc).elim
  refine ⟨fun b o q => ?_, fun b o q => ?_, fun i ov q => ?_, fun i j b h => (by cases h), fun i b h => (by cases h), fun i v q => ?_, fun p hp => ⟨#[], hT p hp, trivial⟩, rfl⟩
  · have q : (if b = a then H a else none) = some o := q
    by_cases hb : b = a
    · rw [if_pos hb] at q
      rw [hb]
      refine ⟨q, ?_⟩
      rcases hS0 with e | ⟨o', e⟩
      · rw [e] at q; cases q; trivial
      · rw [e] at q; cases q; trivial
    · rw [if_neg hb] at q
      cases q
  · rw [hF] at q
    cases q
  · cases i with
    | zero =>
      have e : some (some (OV.d (.list (ns.map .int)))) = some (some ov) := q
      cases e
      refine ⟨.ref a, rfl, .d (.lst ?_ (ints_dpAll ns))⟩
      rcases hS0 with e | ⟨o', e⟩
      · exact .inl (.inl ((if_pos rfl).trans e))
      · exact .inl (.inr ⟨o', (if_pos rfl).trans e⟩)
    | succ i => simp at q
  · rw [hk] at q
    cases i with
    | zero =>
      have e : some (V.ref a) = some v := q
      cases e
      rfl
    | succ i => simp at q
/-- a law whose mirror says True -/
def Says (mf : M OV) : Prop := ∀ ns : List Int, ns.length ≤ 63 → (∀ z ∈ ns, Builtin.Int.intBits z ≤ 1048576) → ∃ e, mf [some (.d (.list (ns.map .int)))] = some (.ok (.d (.bool true)) e)
theorem walk_tl {l : PySem.W.OpenLaw} {q : Program} {loose : List Str} {XP : (Str → Option Value) → Heap → Prop} {d : DefRec} {fa : List He.Fa} {fn : List He.DefD} {tf : List He.Defn} {x : Str} {k : Nat} {ex : Str → Option Addr} {mf : M OV} (hn : l.most = some 63) (hdf : d.params.defaults = []) (hdn : d.name = "law")
    (hr : Room k callerA) (F : ∀ (w : World) (mg : Str → Option Value) (h : Heap) (K : PySem.W.Frag), K.In h → h.Ns mainGlobals mg → He.SaysX fa fn [] tf noLists w h K → ∃ fd ex, mg "law" = some (.ref (He.ga K "law")) ∧ (∀ (s : Shared) (u : Value), BindsTo s fd ⟨[u], []⟩ [(x, u)]) ∧
      ∀ base : Heap, K.In base → base.Ns mainGlobals mg → (∀ p ∈ tf, TabB base mg (He.cT K p).1 (He.cT K p).2) → FnOk l.prog w K mg base (L2.CX l.prog w) k (He.ga K "law") fd [x] (fnSp 1 (tf.map fun p => (He.cT K p).2) ex mf))
    (hm : Says mf) : PySem.W.WalkO q loose XP (fun w h => ∃ K : PySem.W.Frag, K.In h ∧ He.SaysX fa fn [] tf noLists w h K) l.row.toRowW d [] (fun f vs => PySem.call f vs) := by
  refine LamX.walk_ofTsE (n := 63) (k := k) (x := x) (CX := fun w => L2.CX l.prog w) hn (by decide) hdf hr (fun w mg fa' h Y G hmg0 => ?_) (fun w H s e s' z => by
    obtain ⟨_, _, _, _, _, _, _, _, _, _, _, _, z⟩ := z
    exact z)
  obtain ⟨K, KX, c⟩ := Y
  obtain ⟨fd, ex', hmg, hb, hF⟩ := F w mg h K KX G c
  rw [hdn] at hmg0
  rw [hmg0] at hmg
  cases hmg
  refine ⟨K, KX, fd, tf.map (fun p => He.cT K p), _, fun p hp => ?_, fun p hp => ?_, fun p hp => ?_, hb, fun H a ns hl hbits hT hS => ?_, fun base hKb hns hTB => hF base hKb hns fun p hp => ?_⟩
  · obtain ⟨z, hz, rfl⟩ := List.mem_map.mp hp
    exact c.empty z hz
  · obtain ⟨z, hz, rfl⟩ := List.mem_map.mp hp
    exact c.out z hz
  · obtain ⟨z, hz, rfl⟩ := List.mem_map.mp hp
    exact PySem.W.codeHd_of_K KX (c.hd z hz)
  · obtain ⟨e, he⟩ := hm ns hl hbits
    let C : Cc := ⟨fun _ => none, fun i => [V.ref a][i]?, tf.map fun p => (He.cT K p).2, ex'⟩
    refine ⟨rfl, C, _, _, _, rfl, rfl, fun i => rfl, law_start (C := C) rfl (fun i => rfl) (fun p hp => ?_) hS c.more, ?_⟩
    · obtain ⟨z, hz, rfl⟩ := List.mem_map.mp hp
      exact hT (He.cT K z) (List.mem_map.mpr ⟨z, hz, rfl⟩)
    · rw [he]
      intro P' fp' H' v l' s' r
      obtain ⟨ft, o, _⟩ := r
      cases o with
      | d d => cases d; rfl
  · have t := hTB (He.cT K p) (List.mem_map.mpr ⟨p, hp, rfl⟩)
    exact ⟨t.code, t.bm, t.gP⟩
end TL
set_option Elab.async false
set_option linter.all false
set_option maxRecDepth 100000
set_option maxHeartbeats 1000000
namespace TL
open PySem PySem.Spec PyProof.Rows L2
section
variable {X : Cx} {C : Cc} {W : WX} {pos : Pos}
/-! ### an item of a dict just made, by a name's int -/
def mIxT (m : M OV) (j : Nat) : M OV := m >>= fun v => dV j >>= fun y => M.opt (gIxD y v)
theorem sE_ixT {j : Nat} {y : Str} {p : Pos} {a : Expr} {m : M OV} (hu : X.A.units + 200 < cLine) (ha : PE X a (liftE C W m)) (n : NameOk X j y) : PE X (.Subscript a (.Name y p) pos) (liftE C W (mIxT m j)) :=
  PE.imp (pe_dget (by omega) ha n.pe (fun _ _ => rfl)) fun σ H Q q => by
    obtain ⟨P, env, fp, s, h⟩ := q
    refine ⟨P, env, fp, s, postG.seq h fun ov env' P' fp' H' v l s' r q => ?_⟩
    rw [M.bind_at] at q
    unfold dV at q
    split at q
    · rename_i x e
      obtain ⟨u, e1, o⟩ := s'.own j _ e
      refine ⟨u, e1, ?_⟩
      obtain ⟨r0, g2, q'⟩ := opt_some q
      obtain ⟨kvs, k, z, rfl, rfl, hl, rfl⟩ := gIxD_some g2
      obtain ⟨ft, o2, t2⟩ := r
      obtain ⟨a2, vs, rfl, hf, hH, d⟩ := o2.of_dct
      obtain rfl := dp_int o.dp
      rcases d.look k with ⟨h1, _⟩ | ⟨z', w, h1, h2, h3⟩
      · rw [h1] at hl; cases hl
      · rw [hl] at h1
        cases h1
        exact ⟨a2, w, rfl, h2 ▸ DGet.k (k := Sum.inl k) hH, q' P' fp' H' w (Le.refl _) s' (rOV.d h3)⟩
    · exact q.elim
end
end TL
set_option Elab.async false
set_option linter.all false
set_option maxRecDepth 100000
namespace TL
open PySem PySem.Spec PyProof.Rows L2
noncomputable section
/-- is_number: 0 value, 1 low, 2 high -/
def b_is_number : M Fl := mRet (mAndV (mIsI "int" (dV 0)) (mAndV (mNotV (mIsI "bool" (dV 0))) (mChain gLe gLe (dV 1) (dV 0) (dV 2))))
def f_is_number : M OV := fnM 3 3 [] b_is_number

/-- is_door: 0 halls, 1 value, 2 hall -/
def b_is_door : M Fl := mThen (mIf (mOr (mNot (mTru (mIsI "tuple" (dV 1)))) (mOr (asB (mBin gNe (frz (mPeek 1 gLen)) (dC (.int 2)))) (mNot (mTru (mAll [2] (mItems (dV 1)) (gN 2) (mCall (.d (dV 2) :: .d (dC (.int 0)) :: .d (frz (mBin gSub (dV 0) (dC (.int 1)))) :: []) f_is_number)))))) (mRet (dat (dC (.bool false)))) (pure .nx))
  (mRet (mBin gNe (frz (mBin gIx (dV 1) (dC (.int 0)))) (frz (mBin gIx (dV 1) (dC (.int 1))))))
def f_is_door : M OV := fnM 2 3 [] b_is_door

/-- come_to: 0 halls, 1 doors, 2 first, 3 found, 4 layer, 5 later, 6 hall, 7 one, 8 other -/
def b_come_to : M Fl := mThen (mPar 3 4 (mDict1 (dV 2) (dC (.int 0))) (dat (frz (mLst (mCons (dV 2) (pure []))))))
  (mThen (mWhile (mPeek 4 ovTru) (mThen (mSet 5 (mLst (pure [])))
  (mThen (mFor (mItems (dV 4)) (gN 6) (mFor (mItems (dV 1)) (gT 2 (gsCons (gN 7) (gsCons (gN 8) (gsNil)))) (mIf (mAnd (asB (mBin gEq (dV 7) (dV 6))) (asB (mInD true 3 (dV 8)))) (mThen (mPutD 3 (dV 8) (frz (mBin gAdd (frz (mIxD 3 (dV 6))) (dC (.int 1)))))
  (mDrop (mAppend 5 (dV 8)))) (pure .nx))))
  (mSet 4 (dat (frz (mFrz 5)))))))
  (mRet (mMove 3)))
def f_come_to : M OV := fnM 3 9 [] b_come_to

/-- is_joined: 0 halls, 1 doors, 2 back, 3 one, 4 other -/
def b_is_joined : M Fl := mThen (mSet 2 (dat (frz (mComp [3, 4] (mItems (dV 1)) (gT 2 (gsCons (gN 3) (gsCons (gN 4) (gsNil)))) (pure true) (frz (mTup (mCons (dV 4) (mCons (dV 3) (pure [])))))))))
  (mRet (mAndV (mBin gEq (frz (mOne gLen (mCall (.d (dV 0) :: .d (dV 1) :: .d (dC (.int 0)) :: []) f_come_to))) (dV 0)) (mBin gEq (frz (mOne gLen (mCall (.d (dV 0) :: .d (dV 2) :: .d (dC (.int 0)) :: []) f_come_to))) (dV 0))))
def f_is_joined : M OV := fnM 2 5 [] b_is_joined

/-- wrong_part: 0 value, 1 halls, 2 doors, 3 door, 4 one, 5 other -/
def b_wrong_part : M Fl := mThen (mIf (mOr (mNot (mTru (mIsI "tuple" (dV 0)))) (asB (mBin gNe (frz (mPeek 0 gLen)) (dC (.int 2))))) (mRet (dat (dC (.str "whole")))) (pure .nx))
  (mThen (mAsg (gT 2 (gsCons (gN 1) (gsCons (gN 2) (gsNil)))) (dV 0))
  (mThen (mIf (mNot (mTru (mCall (.d (dV 1) :: .d (dC (.int 1)) :: .d (dC (.int 10)) :: []) f_is_number))) (mRet (dat (dC (.str "halls")))) (pure .nx))
  (mThen (mIf (mOr (mNot (mTru (mIsI "tuple" (dV 2)))) (mNot (mTru (mAll [3] (mItems (dV 2)) (gN 3) (mCall (.d (dV 1) :: .d (dV 3) :: []) f_is_door))))) (mRet (dat (dC (.str "doors")))) (pure .nx))
  (mThen (mIf (mOr (mNot (mTru (mAll [4, 5] (mZip (dV 2) (frz (mSlice (dV 2) (some (dC (.int 1))) none))) (gT 2 (gsCons (gN 4) (gsCons (gN 5) (gsNil)))) (mBin gLt (dV 4) (dV 5))))) (mNot (mTru (mCall (.d (dV 1) :: .d (dV 2) :: []) f_is_joined)))) (mRet (dat (dC (.str "doors")))) (pure .nx))
  (mRet (dat (dC .none)))))))
def f_wrong_part : M OV := fnM 1 6 [] b_wrong_part

/-- is_house: 0 value -/
def b_is_house : M Fl := mRet (mBin gIs (frz (mCall (.d (dV 0) :: []) f_wrong_part)) (dC .none))
def f_is_house : M OV := fnM 1 1 [] b_is_house

/-- need_house: 0 value, 1 word -/
def b_need_house : M Fl := mThen (mSet 1 (dat (frz (mCall (.d (dV 0) :: []) f_wrong_part))))
  (mIf (asB (mBin gIsNot (dV 1) (dC .none))) (mNo) (pure .nx))
def f_need_house : M OV := fnM 1 2 [] b_need_house

/-- need_hall: 0 house, 1 value -/
def b_need_hall : M Fl := mIf (mNot (mTru (mCall (.d (dV 1) :: .d (dC (.int 0)) :: .d (frz (mBin gSub (frz (mBin gIx (dV 0) (dC (.int 0)))) (dC (.int 1)))) :: []) f_is_number))) (mNo) (pure .nx)
def f_need_hall : M OV := fnM 2 2 [] b_need_hall

/-- doors_out: 0 house, 1 hall, 2 one, 3 other -/
def b_doors_out : M Fl := mThen (mDrop (mCall (.d (dV 0) :: []) f_need_house))
  (mThen (mDrop (mCall (.d (dV 0) :: .d (dV 1) :: []) f_need_hall))
  (mRet (mOne gTuple (mComp [2, 3] (mItems (frz (mBin gIx (dV 0) (dC (.int 1))))) (gT 2 (gsCons (gN 2) (gsCons (gN 3) (gsNil)))) (asB (mBin gEq (dV 2) (dV 1))) (dV 3)))))
def f_doors_out : M OV := fnM 2 4 [] b_doors_out

/-- far: 0 house, 1 one, 2 other -/
def b_far : M Fl := mThen (mDrop (mCall (.d (dV 0) :: []) f_need_house))
  (mThen (mDrop (mCall (.d (dV 0) :: .d (dV 1) :: []) f_need_hall))
  (mThen (mDrop (mCall (.d (dV 0) :: .d (dV 2) :: []) f_need_hall))
  (mRet (mIxT (mCall (.d (frz (mBin gIx (dV 0) (dC (.int 0)))) :: .d (frz (mBin gIx (dV 0) (dC (.int 1)))) :: .d (dV 1) :: []) f_come_to) 2))))
def f_far : M OV := fnM 3 3 [] b_far

/-- turned: 0 house, 1 one, 2 other -/
def b_turned : M Fl := mThen (mDrop (mCall (.d (dV 0) :: []) f_need_house))
  (mRet (mTup (mCons (frz (mBin gIx (dV 0) (dC (.int 0)))) (mCons (frz (mOne gTuple (mOne gSorted (mComp [1, 2] (mItems (frz (mBin gIx (dV 0) (dC (.int 1))))) (gT 2 (gsCons (gN 1) (gsCons (gN 2) (gsNil)))) (pure true) (frz (mTup (mCons (dV 2) (mCons (dV 1) (pure []))))))))) (pure [])))))
def f_turned : M OV := fnM 1 3 [] b_turned

/-- is_two_way: 0 house -/
def b_is_two_way : M Fl := mThen (mDrop (mCall (.d (dV 0) :: []) f_need_house))
  (mRet (mBin gEq (frz (mCall (.d (dV 0) :: []) f_turned)) (dV 0)))
def f_is_two_way : M OV := fnM 1 1 [] b_is_two_way

/-- _law_taken: 0 _law_row, 1 _law_many, 2 _law_cell, 3 _law_found -/
def b__law_taken : M Fl := mThen (mIf (asB (mBin gGt (frz (mIxL 0 (dC (.int 3)))) (dC (.int 0)))) (mThen (mSet 3 (dat (frz (mBin gMod (frz (mOne gInt (mIxL 0 (dC (.int 3))))) (dV 1)))))
  (mThen (mSetL 0 (dC (.int 3)) (frz (mBin gFdiv (frz (mIxL 0 (dC (.int 3)))) (dV 1))))
  (mRet (mVar 3)))) (pure .nx))
  (mThen (mSetL 0 (dC (.int 1)) (frz (mBin gAdd (frz (mIxL 0 (dC (.int 1)))) (dC (.int 1)))))
  (mThen (mIf (asB (mBin gGt (frz (mIxL 0 (dC (.int 1)))) (frz (mOne gLen (mIxL 0 (dC (.int 0))))))) (mThen (mSetL 0 (dC (.int 2)) (frz (mBin gMod (frz (mOne gInt (mBin gAdd (frz (mBin gMulX (frz (mIxL 0 (dC (.int 2)))) (dC (.int 48271)))) (dC (.int 11))))) (dC (.int 2147483647)))))
  (mRet (mBin gMod (frz (mOne gInt (mBin gFdiv (frz (mIxL 0 (dC (.int 2)))) (dC (.int 7))))) (dV 1)))) (pure .nx))
  (mThen (mSet 2 (dat (frz (mBin gIx (frz (mIxL 0 (dC (.int 0)))) (frz (mBin gSub (frz (mIxL 0 (dC (.int 1)))) (dC (.int 1))))))))
  (mThen (mSetL 0 (dC (.int 2)) (frz (mBin gMod (frz (mOne gInt (mBin gAdd (frz (mBin gAdd (frz (mBin gMulX (frz (mIxL 0 (dC (.int 2)))) (dC (.int 48271)))) (dV 2))) (dC (.int 11))))) (dC (.int 2147483647)))))
  (mThen (mIf (asB (mBin gGe (dV 2) (frz (mBin gPow (dC (.int 10)) (dC (.int 18)))))) (mSetL 0 (dC (.int 3)) (frz (mBin gFdiv (dV 2) (dV 1)))) (pure .nx))
  (mRet (mBin gMod (frz (mOne gInt (mVar 2))) (dV 1))))))))
def f__law_taken : M OV := fnM 2 4 [0] b__law_taken

/-- _law_pick: 0 _law_row, 1 _law_things -/
def b__law_pick : M Fl := mRet (mBin gIx (dV 1) (frz (mCall (.s 0 :: .d (frz (mPeek 1 gLen)) :: []) f__law_taken)))
def f__law_pick : M OV := fnM 2 2 [0] b__law_pick

/-- _law_alike: 0 _law_found, 1 _law_due, 2 _law_k -/
def b__law_alike (f__law_alike : M OV) : M Fl := mThen (mIf (mTru (mIsI2 "tuple" "list" (dV 1))) (mThen (mIf (mOr (mNot (mTru (mIsI2 "tuple" "list" (dV 0)))) (asB (mBin gNe (frz (mIsI "list" (dV 0))) (frz (mIsI "list" (dV 1)))))) (mRet (dat (dC (.bool false)))) (pure .nx))
  (mThen (mIf (asB (mBin gNe (frz (mPeek 0 gLen)) (frz (mPeek 1 gLen)))) (mRet (dat (dC (.bool false)))) (pure .nx))
  (mRet (mBin gEq (frz (mComp [2] (mRange1 (frz (mPeek 1 gLen))) (gN 2) (mNot (mTru (mCall (.d (frz (mBin gIx (dV 0) (dV 2))) :: .d (frz (mBin gIx (dV 1) (dV 2))) :: []) f__law_alike))) (dV 2))) (frz (mLst (pure []))))))) (pure .nx))
  (mThen (mIf (mOr (asB (mBin gIs (dV 1) (dC .none))) (mTru (mIsI "str" (dV 1)))) (mRet (mAndV (mBin gEq (dV 0) (dV 1)) (mBin gEq (frz (mIsI "str" (dV 0))) (frz (mIsI "str" (dV 1)))))) (pure .nx))
  (mRet (mAndV (mIsI "int" (dV 0)) (mAndV (mBin gEq (frz (mIsI "bool" (dV 0))) (frz (mIsI "bool" (dV 1)))) (mBin gEq (dV 0) (dV 1))))))
def r__law_alike : Nat → M OV
  | 0 => fnM 2 3 [] mNo
  | n + 1 => fnM 2 3 [] (b__law_alike (r__law_alike n))
def f__law_alike : M OV := r__law_alike 8

/-- _law_circle: 0 _law_halls, 1 _law_steps, 2 _law_found, 3 _law_hall, 4 _law_step -/
def b__law_circle : M Fl := mThen (mSet 2 (dat (frz (mLst (pure [])))))
  (mThen (mFor (mRange1 (dV 0)) (gN 3) (mSet 2 (dat (frz (mBin gAdd (dV 2) (frz (mComp [4] (mItems (dV 1)) (gN 4) (asB (mBin gNe (frz (mBin gMod (dV 4) (dV 0))) (dC (.int 0)))) (frz (mTup (mCons (dV 3) (mCons (frz (mBin gMod (frz (mBin gAdd (dV 3) (dV 4))) (dV 0))) (pure []))))))))))))
  (mRet (mTup (mCons (dV 0) (mCons (frz (mOne gTuple (mSset (dV 2)))) (pure []))))))
def f__law_circle : M OV := fnM 2 5 [] b__law_circle

/-- _law_known: 0 _law_most, 1 _law_rows, 2 _law_prism, 3 _law_house_here -/
def b__law_known : M Fl := mThen (mSet 1 (dat (frz (mLst (mCons (frz (mTup (mCons (dC (.int 1)) (mCons (frz (mTup (pure []))) (pure []))))) (mCons (frz (mCall (.d (dC (.int 2)) :: .d (frz (mLst (mCons (dC (.int 1)) (pure [])))) :: []) f__law_circle)) (mCons (frz (mCall (.d (dC (.int 3)) :: .d (frz (mLst (mCons (dC (.int 1)) (pure [])))) :: []) f__law_circle)) (mCons (frz (mCall (.d (dC (.int 3)) :: .d (frz (mLst (mCons (dC (.int 1)) (mCons (dC (.int 2)) (pure []))))) :: []) f__law_circle)) (mCons (frz (mCall (.d (dC (.int 4)) :: .d (frz (mLst (mCons (dC (.int 1)) (pure [])))) :: []) f__law_circle)) (pure []))))))))))
  (mThen (mSet 1 (dat (frz (mBin gAdd (dV 1) (frz (mLst (mCons (frz (mCall (.d (dC (.int 4)) :: .d (frz (mLst (mCons (dC (.int 1)) (mCons (dC (.int 3)) (pure []))))) :: []) f__law_circle)) (mCons (frz (mCall (.d (dC (.int 4)) :: .d (frz (mLst (mCons (dC (.int 1)) (mCons (dC (.int 2)) (mCons (dC (.int 3)) (pure [])))))) :: []) f__law_circle)) (mCons (frz (mCall (.d (dC (.int 5)) :: .d (frz (mLst (mCons (dC (.int 1)) (mCons (dC (.int 4)) (pure []))))) :: []) f__law_circle)) (mCons (frz (mCall (.d (dC (.int 4)) :: .d (frz (mLst (mCons (dC (.int 1)) (mCons (dC (.int 2)) (pure []))))) :: []) f__law_circle)) (pure [])))))))))))
  (mThen (mSet 1 (dat (frz (mBin gAdd (dV 1) (frz (mLst (mCons (frz (mCall (.d (dC (.int 5)) :: .d (frz (mLst (mCons (dC (.int 1)) (mCons (dC (.int 2)) (pure []))))) :: []) f__law_circle)) (mCons (frz (mCall (.d (dC (.int 6)) :: .d (frz (mLst (mCons (dC (.int 1)) (pure [])))) :: []) f__law_circle)) (mCons (frz (mCall (.d (dC (.int 6)) :: .d (frz (mLst (mCons (dC (.int 1)) (mCons (dC (.int 5)) (pure []))))) :: []) f__law_circle)) (mCons (frz (mCall (.d (dC (.int 6)) :: .d (frz (mLst (mCons (dC (.int 1)) (mCons (dC (.int 3)) (mCons (dC (.int 5)) (pure [])))))) :: []) f__law_circle)) (pure [])))))))))))
  (mThen (mSet 1 (dat (frz (mBin gAdd (dV 1) (frz (mLst (mCons (frz (mTup (mCons (dC (.int 3)) (mCons (frz (mTup (mCons (frz (mTup (mCons (dC (.int 0)) (mCons (dC (.int 1)) (pure []))))) (mCons (frz (mTup (mCons (dC (.int 1)) (mCons (dC (.int 0)) (pure []))))) (mCons (frz (mTup (mCons (dC (.int 1)) (mCons (dC (.int 2)) (pure []))))) (mCons (frz (mTup (mCons (dC (.int 2)) (mCons (dC (.int 1)) (pure []))))) (pure []))))))) (pure []))))) (mCons (frz (mTup (mCons (dC (.int 4)) (mCons (frz (mTup (mCons (frz (mTup (mCons (dC (.int 0)) (mCons (dC (.int 1)) (pure []))))) (mCons (frz (mTup (mCons (dC (.int 1)) (mCons (dC (.int 2)) (pure []))))) (mCons (frz (mTup (mCons (dC (.int 1)) (mCons (dC (.int 3)) (pure []))))) (mCons (frz (mTup (mCons (dC (.int 2)) (mCons (dC (.int 0)) (pure []))))) (mCons (frz (mTup (mCons (dC (.int 3)) (mCons (dC (.int 0)) (pure []))))) (pure [])))))))) (pure []))))) (pure [])))))))))
  (mThen (mSet 2 (dat (frz (mLst (mCons (frz (mTup (mCons (dC (.int 0)) (mCons (dC (.int 1)) (pure []))))) (mCons (frz (mTup (mCons (dC (.int 1)) (mCons (dC (.int 2)) (pure []))))) (mCons (frz (mTup (mCons (dC (.int 2)) (mCons (dC (.int 0)) (pure []))))) (mCons (frz (mTup (mCons (dC (.int 3)) (mCons (dC (.int 4)) (pure []))))) (mCons (frz (mTup (mCons (dC (.int 4)) (mCons (dC (.int 5)) (pure []))))) (mCons (frz (mTup (mCons (dC (.int 5)) (mCons (dC (.int 3)) (pure []))))) (mCons (frz (mTup (mCons (dC (.int 0)) (mCons (dC (.int 3)) (pure []))))) (mCons (frz (mTup (mCons (dC (.int 1)) (mCons (dC (.int 4)) (pure []))))) (mCons (frz (mTup (mCons (dC (.int 2)) (mCons (dC (.int 5)) (pure []))))) (mCons (frz (mTup (mCons (dC (.int 3)) (mCons (dC (.int 0)) (pure []))))) (mCons (frz (mTup (mCons (dC (.int 4)) (mCons (dC (.int 1)) (pure []))))) (mCons (frz (mTup (mCons (dC (.int 5)) (mCons (dC (.int 2)) (pure []))))) (pure [])))))))))))))))))
  (mThen (mSet 1 (dat (frz (mBin gAdd (dV 1) (frz (mLst (mCons (frz (mTup (mCons (dC (.int 6)) (mCons (frz (mOne gTuple (mOne gSorted (mVar 2)))) (pure []))))) (mCons (frz (mTup (mCons (dC (.int 4)) (mCons (frz (mTup (mCons (frz (mTup (mCons (dC (.int 0)) (mCons (dC (.int 1)) (pure []))))) (mCons (frz (mTup (mCons (dC (.int 1)) (mCons (dC (.int 0)) (pure []))))) (mCons (frz (mTup (mCons (dC (.int 1)) (mCons (dC (.int 2)) (pure []))))) (mCons (frz (mTup (mCons (dC (.int 2)) (mCons (dC (.int 3)) (pure []))))) (mCons (frz (mTup (mCons (dC (.int 3)) (mCons (dC (.int 0)) (pure []))))) (mCons (frz (mTup (mCons (dC (.int 3)) (mCons (dC (.int 2)) (pure []))))) (pure []))))))))) (pure []))))) (pure [])))))))))
  (mRet (mComp [3] (mItems (dV 1)) (gN 3) (asB (mBin gLe (frz (mBin gIx (dV 3) (dC (.int 0)))) (dV 0))) (dV 3))))))))
def f__law_known : M OV := fnM 1 4 [] b__law_known

/-- _law_moved: 0 _law_house_here, 1 _law_turn_here, 2 _law_one, 3 _law_other -/
def b__law_moved : M Fl := mRet (mTup (mCons (frz (mBin gIx (dV 0) (dC (.int 0)))) (mCons (frz (mOne gTuple (mOne gSorted (mComp [2, 3] (mItems (frz (mBin gIx (dV 0) (dC (.int 1))))) (gT 2 (gsCons (gN 2) (gsCons (gN 3) (gsNil)))) (pure true) (frz (mTup (mCons (frz (mBin gIx (dV 1) (dV 2))) (mCons (frz (mBin gIx (dV 1) (dV 3))) (pure []))))))))) (pure []))))
def f__law_moved : M OV := fnM 2 4 [] b__law_moved

/-- _law_turn: 0 _law_row, 1 _law_halls, 2 _law_found, 3 _law_left -/
def b__law_turn : M Fl := mThen (mPar 2 3 (dat (frz (mTup (pure [])))) (mListR1 (dV 1)))
  (mThen (mWhile (asB (mCmpS gNe 3 (frz (mLst (pure []))))) (mSet 2 (dat (frz (mBin gAdd (dV 2) (frz (mTup (mCons (frz (mPopAt 3 (frz (mCall (.s 0 :: .d (frz (mPeek 3 gLen)) :: []) f__law_taken)))) (pure [])))))))))
  (mRet (mVar 2)))
def f__law_turn : M OV := fnM 2 4 [0] b__law_turn

/-- _law_house: 0 _law_row, 1 _law_most, 2 _law_halls, 3 _law_doors, 4 _law_turn_here, 5 _law_house_here, 6 _law_door -/
def b__law_house : M Fl := mThen (mIf (asB (mBin gGt (frz (mCall (.s 0 :: .d (dC (.int 3)) :: []) f__law_taken)) (dC (.int 0)))) (mThen (mSet 5 (dat (frz (mCall (.s 0 :: .d (frz (mCall (.d (dV 1) :: []) f__law_known)) :: []) f__law_pick))))
  (mRet (mCall (.d (dV 5) :: .d (frz (mCall (.s 0 :: .d (frz (mBin gIx (dV 5) (dC (.int 0)))) :: []) f__law_turn)) :: []) f__law_moved))) (pure .nx))
  (mThen (mSet 2 (dat (frz (mBin gAdd (dC (.int 2)) (frz (mCall (.s 0 :: .d (frz (mBin gSub (dV 1) (dC (.int 1)))) :: []) f__law_taken))))))
  (mThen (mSet 3 (dat (frz (mOne gList (mBin gIx (frz (mCall (.d (dV 2) :: .d (frz (mLst (mCons (dC (.int 1)) (pure [])))) :: []) f__law_circle)) (dC (.int 1)))))))
  (mThen (mFor (mRange1 (frz (mCall (.s 0 :: .d (frz (mBin gAdd (dV 2) (dC (.int 1)))) :: []) f__law_taken))) (gN 4) (mThen (mSet 6 (dat (frz (mTup (mCons (frz (mCall (.s 0 :: .d (dV 2) :: []) f__law_taken)) (mCons (frz (mCall (.s 0 :: .d (dV 2) :: []) f__law_taken)) (pure [])))))))
  (mSet 3 (dat (frz (mBin gAdd (dV 3) (frz (mBin gMulX (frz (mLst (mCons (dV 6) (pure [])))) (frz (mOne gInt (mBin gNe (frz (mBin gIx (dV 6) (dC (.int 0)))) (frz (mBin gIx (dV 6) (dC (.int 1)))))))))))))))
  (mRet (mCall (.d (frz (mTup (mCons (dV 2) (mCons (frz (mOne gTuple (mSset (dV 3)))) (pure []))))) :: .d (frz (mCall (.s 0 :: .d (dV 2) :: []) f__law_turn)) :: []) f__law_moved)))))
def f__law_house : M OV := fnM 2 7 [0] b__law_house

/-- law: 0 _law_script, 1 _law_row, 2 _law_house_here, 3 _law_halls, 4 _law_doors, 5 _law_one, 6 _law_other, 7 _law_here, 8 _law_many, 9 _law_back, 10 _law_some, 11 _law_fine, 12 _law_first, 13 _law_last, 14 _law_start, 15 _law_end, 16 _law_turn_here -/
def b_law : M Fl := mThen (mSet 1 (mLst (mCons (dV 0) (mCons (dC (.int 0)) (mCons (dC (.int 5014)) (mCons (dC (.int 0)) (pure [])))))))
  (mThen (mSet 2 (dat (frz (mCall (.s 1 :: .d (dC (.int 10)) :: []) f__law_house))))
  (mThen (mAsg (gT 2 (gsCons (gN 3) (gsCons (gN 4) (gsNil)))) (dV 2))
  (mThen (mAsg (gT 2 (gsCons (gN 5) (gsCons (gN 6) (gsNil)))) (frz (mTup (mCons (frz (mCall (.s 1 :: .d (dV 3) :: []) f__law_taken)) (mCons (frz (mCall (.s 1 :: .d (dV 3) :: []) f__law_taken)) (pure []))))))
  (mThen (mIf (mNot (mTru (mCall (.d (frz (mCall (.d (dV 2) :: .d (dV 5) :: []) f_doors_out)) :: .d (frz (mOne gTuple (mComp [14, 15] (mItems (dV 4)) (gT 2 (gsCons (gN 14) (gsCons (gN 15) (gsNil)))) (asB (mBin gEq (dV 14) (dV 5))) (dV 15)))) :: []) f__law_alike))) (mRet (dat (dC (.bool false)))) (pure .nx))
  (mThen (mAsg (gT 2 (gsCons (gN 7) (gsCons (gN 8) (gsNil)))) (frz (mTup (mCons (frz (mLst (mCons (dV 5) (pure [])))) (mCons (dC (.int 0)) (pure []))))))
  (mThen (mWhile (asB (mBin gNotIn (dV 6) (dV 7))) (mAsg (gT 2 (gsCons (gN 7) (gsCons (gN 8) (gsNil)))) (frz (mTup (mCons (frz (mSset (frz (mBin gAdd (dV 7) (frz (mComp [14, 15] (mItems (dV 4)) (gT 2 (gsCons (gN 14) (gsCons (gN 15) (gsNil)))) (asB (mBin gIn (dV 14) (dV 7))) (dV 15))))))) (mCons (frz (mBin gAdd (dV 8) (dC (.int 1)))) (pure [])))))))
  (mThen (mIf (mNot (mTru (mCall (.d (frz (mCall (.d (dV 2) :: .d (dV 5) :: .d (dV 6) :: []) f_far)) :: .d (dV 8) :: []) f__law_alike))) (mRet (dat (dC (.bool false)))) (pure .nx))
  (mThen (mSet 9 (dat (frz (mTup (mCons (dV 3) (mCons (frz (mOne gTuple (mOne gSorted (mComp [14, 15] (mItems (dV 4)) (gT 2 (gsCons (gN 14) (gsCons (gN 15) (gsNil)))) (pure true) (frz (mTup (mCons (dV 15) (mCons (dV 14) (pure []))))))))) (pure [])))))))
  (mThen (mIf (mNot (mTru (mCall (.d (frz (mLst (mCons (frz (mCall (.d (dV 2) :: []) f_turned)) (mCons (frz (mCall (.d (dV 2) :: []) f_is_two_way)) (pure []))))) :: .d (frz (mLst (mCons (dV 9) (mCons (frz (mBin gEq (dV 9) (dV 2))) (pure []))))) :: []) f__law_alike))) (mRet (dat (dC (.bool false)))) (pure .nx))
  (mThen (mSet 8 (dat (frz (mBin gAdd (dC (.int 1)) (frz (mCall (.s 1 :: .d (frz (mBin gMulX (dC (.int 3)) (dV 3))) :: []) f__law_taken))))))
  (mThen (mSet 10 (dat (frz (mSset (frz (mComp [16] (mRange1 (dV 8)) (gN 16) (pure true) (frz (mTup (mCons (frz (mCall (.s 1 :: .d (dV 3) :: []) f__law_taken)) (mCons (frz (mCall (.s 1 :: .d (dV 3) :: []) f__law_taken)) (pure [])))))))))))
  (mThen (mSet 11 (dat (frz (mBin gEq (frz (mComp [14, 15] (mItems (dV 10)) (gT 2 (gsCons (gN 14) (gsCons (gN 15) (gsNil)))) (asB (mBin gEq (dV 14) (dV 15))) (dC (.int 1)))) (frz (mLst (pure [])))))))
  (mThen (mFor (mRange1 (dV 3)) (gN 12) (mThen (mAsg (gT 2 (gsCons (gN 7) (gsCons (gN 13) (gsNil)))) (frz (mTup (mCons (frz (mLst (pure []))) (mCons (frz (mLst (mCons (dV 12) (pure [])))) (pure []))))))
  (mThen (mWhile (asB (mBin gNe (dV 7) (dV 13))) (mAsg (gT 2 (gsCons (gN 7) (gsCons (gN 13) (gsNil)))) (frz (mTup (mCons (dV 13) (mCons (frz (mSset (frz (mBin gAdd (dV 13) (frz (mComp [14, 15] (mItems (dV 10)) (gT 2 (gsCons (gN 14) (gsCons (gN 15) (gsNil)))) (asB (mBin gIn (dV 14) (dV 13))) (dV 15))))))) (pure [])))))))
  (mSet 11 (dat (frz (mAndV (mVar 11) (mBin gEq (frz (mPeek 7 gLen)) (dV 3)))))))))
  (mRet (mAndV (mCall (.d (frz (mCall (.d (frz (mTup (mCons (dV 3) (mCons (frz (mOne gTuple (mVar 10))) (pure []))))) :: []) f_is_house)) :: .d (dV 11) :: []) f__law_alike) (mBin gIsX (frz (mCall (.d (dV 2) :: []) f_is_house)) (dC (.bool true))))))))))))))))))
def f_law : M OV := fnM 1 17 [] b_law

end
end TL
set_option Elab.async false
set_option linter.all false
set_option maxRecDepth 100000
namespace TL
open PySem PySem.Spec PyProof.Rows L2
/-! ### mirrors, run -/
section
variable {α β : Type}
@[simp] theorem aT_ok (a : α) (e : Env) (f : α → M β) : Out.andThen (some (.ok a e)) f = f a e := rfl
@[simp] theorem aT_exc (x : Exn) (e : Env) (f : α → M β) : Out.andThen (some (.exc x e)) f = some (.exc x e) := rfl
@[simp] theorem aT_none (f : α → M β) : Out.andThen none f = none := rfl
@[simp] theorem bind_at' (m : M α) (f : α → M β) (e : Env) : (m >>= f) e = Out.andThen (m e) f := rfl
@[simp] theorem pure_at' (a : α) (e : Env) : (pure a : M α) e = some (.ok a e) := rfl
@[simp] theorem opt_some_at (a : α) (e : Env) : M.opt (some a) e = some (.ok a e) := rfl
@[simp] theorem opt_none_at (e : Env) : M.opt (none : Option α) e = none := rfl
@[simp] theorem dat_d (x : PyData) : (OV.d x).dat = some x := rfl
@[simp] theorem dat_lst (x : List PyData) : (OV.lst x).dat = some (.list x) := rfl
@[simp] theorem frz_at (m : M OV) (e : Env) : frz m e = Out.andThen (m e) fun v => M.opt v.dat := rfl
@[simp] theorem dat_at (m : M PyData) (e : Env) : dat m e = Out.andThen (m e) fun x => pure (.d x) := rfl
@[simp] theorem dC_at (x : PyData) (e : Env) : dC x e = some (.ok x e) := rfl
@[simp] theorem mBin_at (g : PyData → PyData → Option OV) (a b : M PyData) (e : Env) : mBin g a b e = Out.andThen (a e) fun x => b >>= fun y => M.opt (g x y) := rfl
@[simp] theorem mOne_at (g : OV → Option OV) (m : M OV) (e : Env) : mOne g m e = Out.andThen (m e) fun v => M.opt (g v) := rfl
@[simp] theorem mCons_at (a : M PyData) (r : M (List PyData)) (e : Env) : mCons a r e = Out.andThen (a e) fun x => r >>= fun xs => pure (x :: xs) := rfl
@[simp] theorem mNot_at (m : M Bool) (e : Env) : mNot m e = Out.andThen (m e) fun b => pure (!b) := rfl
@[simp] theorem mAnd_at (a b : M Bool) (e : Env) : mAnd a b e = Out.andThen (a e) fun x => if x then b else pure false := rfl
@[simp] theorem mOr_at (a b : M Bool) (e : Env) : mOr a b e = Out.andThen (a e) fun x => if x then pure true else b := rfl
@[simp] theorem mAndV_at (a b : M OV) (e : Env) : mAndV a b e = Out.andThen (asB a e) fun x => if x then b else pure (.d (.bool false)) := rfl
@[simp] theorem mOrV_at (a b : M OV) (e : Env) : mOrV a b e = Out.andThen (asB a e) fun x => if x then pure (.d (.bool true)) else b := rfl
@[simp] theorem mNotV_at (a : M OV) (e : Env) : mNotV a e = Out.andThen (asB a e) fun x => pure (.d (.bool (!x))) := rfl
def boolOf : OV → M Bool
  | .d (.bool b) => pure b
  | _ => fun _ => none
@[simp] theorem boolOf_b (b : Bool) : boolOf (.d (.bool b)) = pure b := rfl
@[simp] theorem asB_at (m : M OV) (e : Env) : asB m e = Out.andThen (m e) boolOf := rfl
@[simp] theorem mTru_at (m : M OV) (e : Env) : mTru m e = Out.andThen (m e) fun v => M.opt (ovTru v) := rfl
@[simp] theorem ovTru_b (b : Bool) : ovTru (.d (.bool b)) = some b := rfl
@[simp] theorem ovTru_t (xs : List PyData) : ovTru (.d (.tuple xs)) = some (!xs.isEmpty) := rfl
@[simp] theorem ovTru_l (xs : List PyData) : ovTru (.d (.list xs)) = some (!xs.isEmpty) := rfl
@[simp] theorem ovTru_o (xs : List PyData) : ovTru (.lst xs) = some (!xs.isEmpty) := rfl
@[simp] theorem mIf_at (t : M Bool) (a b : M α) (e : Env) : mIf t a b e = Out.andThen (t e) fun x => if x then a else b := rfl
@[simp] theorem mRet_at (m : M OV) (e : Env) : mRet m e = Out.andThen (m e) fun v => pure (.rt v) := rfl
@[simp] theorem mDrop_at (m : M OV) (e : Env) : mDrop m e = Out.andThen (m e) fun _ => pure .nx := rfl
@[simp] theorem mSet_at (i : Nat) (m : M OV) (e : Env) : mSet i m e = Out.andThen (m e) fun v => fun e => some (.ok .nx (e.set i (some v))) := rfl
def fThen (b : M Fl) : Fl → M Fl
  | .nx => b
  | f => pure f
@[simp] theorem fThen_nx (b : M Fl) : fThen b .nx = b := rfl
@[simp] theorem fThen_rt (b : M Fl) (r : OV) : fThen b (.rt r) = pure (.rt r) := rfl
@[simp] theorem mThen_at (a b : M Fl) (e : Env) : mThen a b e = Out.andThen (a e) (fThen b) := rfl
@[simp] theorem mPar_at (i j : Nat) (a b : M OV) (e : Env) : mPar i j a b e = Out.andThen (a e) fun x => b >>= fun y => fun e => some (.ok .nx ((e.set i (some x)).set j (some y))) := rfl
def setBy (g : PyData → M Unit) (x : PyData) : M Fl := g x >>= fun _ => pure .nx
@[simp] theorem mAsg_at (g : PyData → M Unit) (m : M PyData) (e : Env) : mAsg g m e = Out.andThen (m e) (setBy g) := rfl
@[simp] theorem setBy_at (g : PyData → M Unit) (x : PyData) (e : Env) : setBy g x e = Out.andThen (g x e) fun _ => pure .nx := rfl
@[simp] theorem gN_at (i : Nat) (x : PyData) (e : Env) : gN i x e = some (.ok () (e.set i (some (.d x)))) := rfl
@[simp] theorem gsCons_at (g : PyData → M Unit) (r : List PyData → M Unit) (x : PyData) (xs : List PyData) (e : Env) : gsCons g r (x :: xs) e = Out.andThen (g x e) fun _ => r xs := rfl
@[simp] theorem gsNil_at (e : Env) : gsNil [] e = some (.ok () e) := rfl
theorem gT_at (n : Nat) (g : List PyData → M Unit) (xs : List PyData) (e : Env) (h : xs.length = n) : gT n g (.tuple xs) e = g xs e := by
  show (if xs.length = n then g xs else fun _ => none) e = _
  rw [if_pos h]
@[simp] theorem gT2_at (g : List PyData → M Unit) (x y : PyData) (e : Env) : gT 2 g (.tuple [x, y]) e = g [x, y] e := rfl
end
/-! slots -/
theorem dV_at {i : Nat} {x : PyData} {e : Env} (h : e[i]? = some (some (.d x))) : dV i e = some (.ok x e) := by
  unfold dV
  rw [h]
theorem mVar_at {i : Nat} {x : PyData} {e : Env} (h : e[i]? = some (some (.d x))) : mVar i e = some (.ok (.d x) e) := by
  unfold mVar
  rw [h]
theorem mMove_at {i : Nat} {v : OV} {e : Env} (h : e[i]? = some (some v)) : mMove i e = some (.ok v (e.set i none)) := by
  unfold mMove
  rw [h]
theorem mFrz_at {i : Nat} {v : OV} {x : PyData} {e : Env} (h : e[i]? = some (some v)) (hd : v.dat = some x) : mFrz i e = some (.ok (.d x) (e.set i (some (.d x)))) := by
  unfold mFrz
  rw [h]
  simp only [hd]
theorem mPeek_at {α : Type} {i : Nat} {f : OV → Option α} {v : OV} {a : α} {e : Env} (h : e[i]? = some (some v)) (hf : f v = some a) : mPeek i f e = some (.ok a e) := by
  unfold mPeek
  rw [h]
  simp only [hf]
theorem mHas_at {i : Nat} {p : OV → Bool} {v : OV} {e : Env} (h : e[i]? = some (some v)) (hp : p v = true) : mHas i p e = some (.ok () e) := by
  unfold mHas
  rw [h]
  simp only [hp, if_true]
theorem mMut_at {α : Type} {i : Nat} {f : OV → Option (OV × α)} {v v' : OV} {a : α} {e : Env} (h : e[i]? = some (some v)) (hf : f v = some (v', a)) : mMut i f e = some (.ok a (e.set i (some v'))) := by
  unfold mMut
  rw [h]
  simp only [hf]
theorem dV_app (i : Nat) (e : Env) : dV i e = (match e[i]? with
  | some (some (.d x)) => some (.ok x e)
  | _ => none) := rfl
theorem mVar_app (i : Nat) (e : Env) : mVar i e = (match e[i]? with
  | some (some (.d x)) => some (.ok (.d x) e)
  | _ => none) := rfl
theorem mMove_app (i : Nat) (e : Env) : mMove i e = (match e[i]? with
  | some (some v) => some (.ok v (e.set i none))
  | _ => none) := rfl
theorem mFrz_app (i : Nat) (e : Env) : mFrz i e = (match e[i]? with
  | some (some v) => (match v.dat with
    | some x => some (.ok (.d x) (e.set i (some (.d x))))
    | none => none)
  | _ => none) := rfl
theorem mPeek_app {α : Type} (i : Nat) (f : OV → Option α) (e : Env) : mPeek i f e = (match e[i]? with
  | some (some v) => (match f v with
    | some a => some (.ok a e)
    | none => none)
  | _ => none) := rfl
theorem mHas_app (i : Nat) (p : OV → Bool) (e : Env) : mHas i p e = (match e[i]? with
  | some (some v) => if p v then some (.ok () e) else none
  | _ => none) := rfl
theorem mMut_app {α : Type} (i : Nat) (f : OV → Option (OV × α)) (e : Env) : mMut i f e = (match e[i]? with
  | some (some v) => (match f v with
    | some (v', a) => some (.ok a (e.set i (some v')))
    | none => none)
  | _ => none) := rfl
@[simp] theorem mIxL_at (i : Nat) (mk : M PyData) (e : Env) : mIxL i mk e = Out.andThen (mHas i isLst e) fun _ => mk >>= fun y => mPeek i (gIxL y) := rfl
@[simp] theorem mIxD_at (i : Nat) (mk : M PyData) (e : Env) : mIxD i mk e = Out.andThen (mHas i isDct e) fun _ => mk >>= fun y => mPeek i (gIxD y) := rfl
@[simp] theorem mInD_at (neg : Bool) (i : Nat) (mk : M PyData) (e : Env) : mInD neg i mk e = Out.andThen (mHas i isDct e) fun _ => mk >>= fun y => mPeek i (gInD neg y) := rfl
@[simp] theorem mAppend_at (i : Nat) (mk : M PyData) (e : Env) : mAppend i mk e = Out.andThen (mHas i isLst e) fun _ => mk >>= fun y => mMut i (gApp y) := rfl
@[simp] theorem mPopAt_at (i : Nat) (mk : M PyData) (e : Env) : mPopAt i mk e = Out.andThen (mHas i isLst e) fun _ => mk >>= fun y => mMut i (gPopAt y) := rfl
@[simp] theorem mPutD_at (i : Nat) (mk mv : M PyData) (e : Env) : mPutD i mk mv e = Out.andThen (mv e) fun x => mHas i isDct >>= fun _ => mk >>= fun y => mMut i (gPutD y x) >>= fun _ => pure .nx := rfl
@[simp] theorem mSetL_at (i : Nat) (mk mv : M PyData) (e : Env) : mSetL i mk mv e = Out.andThen (mv e) fun x => mHas i isLst >>= fun _ => mk >>= fun y => mMut i (gSetL y x) >>= fun _ => pure .nx := rfl
@[simp] theorem mCmpS_at (g : PyData → PyData → Option OV) (i : Nat) (mb : M PyData) (e : Env) : mCmpS g i mb e = Out.andThen (mHas i isAny e) fun _ => mb >>= fun y => mPeek i (gCmpS g y) := rfl
def dict1K (v : PyData) : PyData → M OV
  | .int i => pure (.dct [(i, v)])
  | _ => fun _ => none
@[simp] theorem dict1K_int (v : PyData) (i : Int) : dict1K v (.int i) = pure (.dct [(i, v)]) := rfl
@[simp] theorem mDict1_at (mk mv : M PyData) (e : Env) : mDict1 mk mv e = Out.andThen (mk e) fun k => mv >>= fun v => dict1K v k := rfl
/-! calls -/
@[simp] theorem agsM_nil (e : Env) : agsM [] e = some (.ok [] e) := rfl
@[simp] theorem agsM_d (m : M PyData) (r : List Ag) (e : Env) : agsM (.d m :: r) e = Out.andThen (m e) fun x => agsM r >>= fun xs => pure (x :: xs) := rfl
theorem agsM_s {i : Nat} {r : List Ag} {v : OV} {e : Env} (h : e[i]? = some (some v)) : agsM (.s i :: r) e = agsM r e := by
  show Out.andThen (mHas i isAny e) (fun _ => agsM r) = _
  rw [mHas_at h rfl]
  rfl
@[simp] theorem argE_nil (env : Env) (xs : List PyData) : argE env [] xs = [] := by unfold argE; rfl
@[simp] theorem argE_d (env : Env) (m : M PyData) (r : List Ag) (x : PyData) (xs : List PyData) : argE env (.d m :: r) (x :: xs) = some (.d x) :: argE env r xs := rfl
@[simp] theorem argE_s (env : Env) (i : Nat) (r : List Ag) (xs : List PyData) : argE env (.s i :: r) xs = (env[i]?).join :: argE env r xs := rfl
@[simp] theorem backA_nil (env e : Env) : backA env [] e = env := by unfold backA; rfl
@[simp] theorem backA_d (env : Env) (m : M PyData) (r : List Ag) (o : Option OV) (e : Env) : backA env (.d m :: r) (o :: e) = backA env r e := rfl
@[simp] theorem backA_s (env : Env) (i : Nat) (r : List Ag) (o : Option OV) (e : Env) : backA env (.s i :: r) (o :: e) = backA (env.set i o) r e := rfl
theorem mCall_at {as : List Ag} {mf : M OV} {e e1 : Env} {xs : List PyData} {r : OV} {e2 : Env} (h : agsM as e = some (.ok xs e1)) (hf : mf (argE e1 as xs) = some (.ok r e2)) : mCall as mf e = some (.ok r (backA e1 as e2)) := by
  show Out.andThen (agsM as e) (fun xs => fun env => match mf (argE env as xs) with
    | none => none
    | some (Out.ok r e) => some (Out.ok r (backA env as e))
    | some (Out.exc x e) => some (Out.exc x (backA env as e))) = _
  rw [h]
  show (match mf (argE e1 as xs) with
    | none => none
    | some (Out.ok r e) => some (Out.ok r (backA e1 as e))
    | some (Out.exc x e) => some (Out.exc x (backA e1 as e))) = _
  rw [hf]
theorem fnM_rt {np N : Nat} {ow : List Nat} {mb : M Fl} {env e : Env} {r : OV} (h : mb (env ++ List.replicate (N - np) none) = some (.ok (.rt r) e)) : fnM np N ow mb env = some (.ok r (endE ow 0 env e)) := by
  unfold fnM
  rw [h]
theorem fnM_nx {np N : Nat} {ow : List Nat} {mb : M Fl} {env e : Env} (h : mb (env ++ List.replicate (N - np) none) = some (.ok .nx e)) : fnM np N ow mb env = some (.ok (.d .none) (endE ow 0 env e)) := by
  unfold fnM
  rw [h]
/-- all arguments data: they stand as they were -/
theorem endE_data : ∀ {xs : List PyData} {i : Nat} {e : Env}, endE [] i (xs.map fun x => some (.d x)) e = xs.map fun x => some (.d x)
  | [], i, e => by unfold endE; rfl
  | x :: xs, i, [] => by
    show endO [] i (some (.d x)) none :: endE [] (i + 1) _ [] = _
    rw [endE_data]
    rfl
  | x :: xs, i, o :: e => by
    show endO [] i (some (.d x)) o :: endE [] (i + 1) _ e = _
    rw [endE_data]
    rfl
/-! displays -/
theorem mTup_at {m : M (List PyData)} {e e1 : Env} {xs : List PyData} (h : m e = some (.ok xs e1)) (hz : xs.length ≤ sizeLine) : mTup m e = some (.ok (.d (.tuple xs)) e1) := by
  show Out.andThen (m e) (fun xs => if xs.length ≤ sizeLine then (pure (OV.d (.tuple xs)) : M OV) else fun _ => none) = _
  rw [h]
  show (if xs.length ≤ sizeLine then (pure (.d (.tuple xs)) : M OV) else fun _ => none) e1 = _
  rw [if_pos hz]
  rfl
theorem mLst_at {m : M (List PyData)} {e e1 : Env} {xs : List PyData} (h : m e = some (.ok xs e1)) (hz : xs.length ≤ sizeLine) : mLst m e = some (.ok (.lst xs) e1) := by
  show Out.andThen (m e) (fun xs => if xs.length ≤ sizeLine then (pure (OV.lst xs) : M OV) else fun _ => none) = _
  rw [h]
  show (if xs.length ≤ sizeLine then (pure (.lst xs) : M OV) else fun _ => none) e1 = _
  rw [if_pos hz]
  rfl
theorem fits {n : Nat} (h : n ≤ 1000) : n ≤ sizeLine := by rw [sizeLine_eq]; omega
/-! operators on ints -/
@[simp] theorem gAdd_int (i j : Int) : gAdd (.int i) (.int j) = some (.d (.int (i + j))) := rfl
@[simp] theorem gSub_int (i j : Int) : gSub (.int i) (.int j) = some (.d (.int (i - j))) := rfl
theorem gMod_int {i j : Int} (h : 0 < j) : gMod (.int i) (.int j) = some (.d (.int (i % j))) := by
  show (if 0 < j then some (OV.d (.int (i % j))) else none) = _
  rw [if_pos h]
theorem gFdiv_int {i j : Int} (h : 0 < j) (h2 : j < 1073741824) : gFdiv (.int i) (.int j) = some (.d (.int (i / j))) := by
  show (if 0 < j ∧ j < 1073741824 then some (OV.d (.int (i / j))) else none) = _
  rw [if_pos ⟨h, h2⟩]
theorem gMul_int {i j : Int} (h : i.natAbs.log2 + j.natAbs.log2 < 1000000) : gMulX (.int i) (.int j) = some (.d (.int (i * j))) := by
  show (if i.natAbs.log2 + j.natAbs.log2 < 1000000 then some (OV.d (.int (i * j))) else none) = _
  rw [if_pos h]
@[simp] theorem gLe_int (i j : Int) : gLe (.int i) (.int j) = some (.d (.bool (decide (i ≤ j)))) := by
  have e : gLe (.int i) (.int j) = some (.d (.bool (!PySem.W.dataLt (.int j) (.int i)))) := rfl
  rw [e, PySem.W.dataLt_int]
  congr 3
  by_cases h : i ≤ j
  · rw [decide_eq_true h, decide_eq_false (by omega)]; rfl
  · rw [decide_eq_false h, decide_eq_true (by omega)]; rfl
@[simp] theorem gLt_int (i j : Int) : gLt (.int i) (.int j) = some (.d (.bool (decide (i < j)))) := by
  have e : gLt (.int i) (.int j) = some (.d (.bool (PySem.W.dataLt (.int i) (.int j)))) := rfl
  rw [e, PySem.W.dataLt_int]
@[simp] theorem gGt_int (i j : Int) : gGt (.int i) (.int j) = some (.d (.bool (decide (j < i)))) := by
  have e : gGt (.int i) (.int j) = some (.d (.bool (PySem.W.dataLt (.int j) (.int i)))) := rfl
  rw [e, PySem.W.dataLt_int]
@[simp] theorem gGe_int (i j : Int) : gGe (.int i) (.int j) = some (.d (.bool (decide (j ≤ i)))) := by
  have e : gGe (.int i) (.int j) = some (.d (.bool (!PySem.W.dataLt (.int i) (.int j)))) := rfl
  rw [e, PySem.W.dataLt_int]
  congr 3
  by_cases h : j ≤ i
  · rw [decide_eq_true h, decide_eq_false (by omega)]; rfl
  · rw [decide_eq_false h, decide_eq_true (by omega)]; rfl
@[simp] theorem eqv_int (i j : Int) : PyData.eqv (.int i) (.int j) = decide (i = j) := by
  have e : PyData.eqv (.int i) (.int j) = (i == j) := by simp [PyData.eqv]
  rw [e, Bool.eq_iff_iff]
  simp
@[simp] theorem gEq_int (i j : Int) : gEq (.int i) (.int j) = some (.d (.bool (decide (i = j)))) := by
  have e : gEq (.int i) (.int j) = some (.d (.bool (PyData.eqv (.int i) (.int j)))) := rfl
  rw [e, eqv_int]
@[simp] theorem gNe_int (i j : Int) : gNe (.int i) (.int j) = some (.d (.bool (!decide (i = j)))) := by
  have e : gNe (.int i) (.int j) = some (.d (.bool (!PyData.eqv (.int i) (.int j)))) := rfl
  rw [e, eqv_int]
@[simp] theorem gIsNone (x : PyData) : gIs x .none = some (.d (.bool (isNone x))) := rfl
@[simp] theorem gIsNotNone (x : PyData) : gIsNot x .none = some (.d (.bool (!isNone x))) := rfl
/-! types -/
@[simp] theorem tyIs_int_int (i : Int) : tyIs (.int i) "int" = some true := by show kitB "int" "int" = _; decide +kernel
@[simp] theorem tyIs_int_bool (i : Int) : tyIs (.int i) "bool" = some false := by show kitB "int" "bool" = _; decide +kernel
@[simp] theorem tyIs_tuple_tuple (xs : List PyData) : tyIs (.tuple xs) "tuple" = some true := by show kitB "tuple" "tuple" = _; decide +kernel
@[simp] theorem mIsI_at (T : String) (m : M PyData) (e : Env) : mIsI T m e = Out.andThen (m e) fun x => M.opt ((tyIs x T).map fun b => .d (.bool b)) := rfl

/-! ### defs over data -/
def dEnv (xs : List PyData) : Env := xs.map fun x => some (.d x)
/-- the def answers r at the data xs -/
def Fd (mf : M OV) (xs : List PyData) (r : OV) : Prop := mf (dEnv xs) = some (.ok r (dEnv xs))
theorem Fd.rt {np N : Nat} {mb : M Fl} {xs : List PyData} {r : OV} (h : ∃ e, mb (dEnv xs ++ List.replicate (N - np) none) = some (.ok (.rt r) e)) : Fd (fnM np N [] mb) xs r := by
  obtain ⟨e, h⟩ := h
  unfold Fd
  rw [fnM_rt h]
  unfold dEnv
  rw [endE_data]
theorem Fd.nx {np N : Nat} {mb : M Fl} {xs : List PyData} (h : ∃ e, mb (dEnv xs ++ List.replicate (N - np) none) = some (.ok .nx e)) : Fd (fnM np N [] mb) xs (.d .none) := by
  obtain ⟨e, h⟩ := h
  unfold Fd
  rw [fnM_nx h]
  unfold dEnv
  rw [endE_data]
def callK (mf : M OV) (xs : List PyData) : M OV := fun e => match mf (dEnv xs) with
  | none => none
  | some (.ok r _) => some (.ok r e)
  | some (.exc x _) => some (.exc x e)
theorem Fd.call {mf : M OV} {xs : List PyData} {r : OV} (F : Fd mf xs r) (e : Env) : callK mf xs e = some (.ok r e) := by
  unfold callK
  rw [F]
theorem callK_eq {as : List Ag} {mf : M OV} {xs : List PyData} {e : Env} (h1 : argE e as xs = dEnv xs) (h2 : ∀ e2, e2.length = xs.length → backA e as e2 = e) (hl : ∀ r e2, mf (dEnv xs) = some (.ok r e2) → e2.length = xs.length) (hl2 : ∀ r e2, mf (dEnv xs) = some (.exc r e2) → e2.length = xs.length) :
    (match mf (argE e as xs) with
    | none => none
    | some (Out.ok r e2) => some (Out.ok r (backA e as e2))
    | some (Out.exc x e2) => some (Out.exc x (backA e as e2))) = callK mf xs e := by
  rw [h1]
  unfold callK
  cases em : mf (dEnv xs) with
  | none => rfl
  | some o =>
    cases o with
    | ok r e2 => simp only [h2 e2 (hl r e2 em)]
    | exc r e2 => simp only [h2 e2 (hl2 r e2 em)]
/-- the def keeps its environment's length -/
def Keeps (mf : M OV) : Prop := ∀ e, (∀ r e2, mf e = some (.ok r e2) → e2.length = e.length) ∧ ∀ r e2, mf e = some (.exc r e2) → e2.length = e.length
theorem fnM_len {np N : Nat} {ow : List Nat} {mb : M Fl} : Keeps (fnM np N ow mb) := fun e => by
  constructor
  · intro r e2 h
    unfold fnM at h
    split at h
    · cases h
    · cases h; exact endE_length
    · cases h; exact endE_length
    · cases h
    · cases h
  · intro r e2 h
    unfold fnM at h
    split at h
    · cases h
    · cases h
    · cases h
    · cases h
    · cases h; exact endE_length
theorem mCall1_at {m : M PyData} {mf : M OV} (k : Keeps mf) (e : Env) : mCall (.d m :: []) mf e = Out.andThen (m e) fun x => callK mf [x] := by
  show Out.andThen (agsM (.d m :: []) e) _ = _
  rw [agsM_d]
  cases m e with
  | none => rfl
  | some o =>
    cases o with
    | exc x e1 => rfl
    | ok x e1 =>
      refine callK_eq (as := [.d m]) (xs := [x]) rfl (fun e2 h => ?_) (fun r e2 h => (k _).1 r e2 h) fun r e2 h => (k _).2 r e2 h
      match e2, h with
      | [_], _ => rfl
theorem mCall2_at {m m2 : M PyData} {mf : M OV} (k : Keeps mf) (e : Env) : mCall (.d m :: .d m2 :: []) mf e = Out.andThen (m e) fun x => m2 >>= fun y => callK mf [x, y] := by
  show Out.andThen (agsM (.d m :: .d m2 :: []) e) _ = _
  rw [agsM_d]
  cases m e with
  | none => rfl
  | some o =>
    cases o with
    | exc x e1 => rfl
    | ok x e1 =>
      show Out.andThen ((agsM (.d m2 :: []) >>= fun xs => pure (x :: xs)) e1) _ = Out.andThen (m2 e1) _
      rw [bind_at', agsM_d]
      cases m2 e1 with
      | none => rfl
      | some o =>
        cases o with
        | exc x e1 => rfl
        | ok y e2 =>
          refine callK_eq (as := [.d m, .d m2]) (xs := [x, y]) rfl (fun e2 h => ?_) (fun r e2 h => (k _).1 r e2 h) fun r e2 h => (k _).2 r e2 h
          match e2, h with
          | [_, _], _ => rfl
theorem mCall3_at {m m2 m3 : M PyData} {mf : M OV} (k : Keeps mf) (e : Env) : mCall (.d m :: .d m2 :: .d m3 :: []) mf e = Out.andThen (m e) fun x => m2 >>= fun y => m3 >>= fun z => callK mf [x, y, z] := by
  show Out.andThen (agsM (.d m :: .d m2 :: .d m3 :: []) e) _ = _
  rw [agsM_d]
  cases m e with
  | none => rfl
  | some o =>
    cases o with
    | exc x e1 => rfl
    | ok x e1 =>
      show Out.andThen ((agsM (.d m2 :: .d m3 :: []) >>= fun xs => pure (x :: xs)) e1) _ = Out.andThen (m2 e1) _
      rw [bind_at', agsM_d]
      cases m2 e1 with
      | none => rfl
      | some o =>
        cases o with
        | exc x e1 => rfl
        | ok y e2 =>
          show Out.andThen (Out.andThen ((agsM (.d m3 :: []) >>= fun xs => pure (y :: xs)) e2) _) _ = Out.andThen (m3 e2) _
          rw [bind_at', agsM_d]
          cases m3 e2 with
          | none => rfl
          | some o =>
            cases o with
            | exc x e1 => rfl
            | ok z e3 =>
              refine callK_eq (as := [.d m, .d m2, .d m3]) (xs := [x, y, z]) rfl (fun e2 h => ?_) (fun r e2 h => (k _).1 r e2 h) fun r e2 h => (k _).2 r e2 h
              match e2, h with
              | [_, _, _], _ => rfl
/-- a chain's second half -/
def chainK (g' : PyData → PyData → Option OV) (y : PyData) (c : M PyData) : OV → M OV
  | .d (.bool true) => c >>= fun z => M.opt (g' y z)
  | .d (.bool false) => pure (.d (.bool false))
  | _ => fun _ => none
@[simp] theorem chainK_t (g' : PyData → PyData → Option OV) (y : PyData) (c : M PyData) : chainK g' y c (.d (.bool true)) = (c >>= fun z => M.opt (g' y z)) := rfl
@[simp] theorem chainK_f (g' : PyData → PyData → Option OV) (y : PyData) (c : M PyData) : chainK g' y c (.d (.bool false)) = pure (.d (.bool false)) := rfl
@[simp] theorem mChain_at (g g' : PyData → PyData → Option OV) (a b c : M PyData) (e : Env) : mChain g g' a b c e = Out.andThen (a e) fun x => b >>= fun y => M.opt (g x y) >>= chainK g' y c := rfl
end TL
set_option Elab.async false
set_option linter.all false
set_option maxRecDepth 100000
namespace TL
open PySem PySem.Spec PyProof.Rows L2
/-! ### loops -/
/-- each turn keeps I -/
theorem forM_inv {g : PyData → M Unit} {b : M Fl} (I : Nat → Env → Prop) {ys : List PyData} : ∀ {xs : List PyData} {i : Nat} {e : Env}, (∀ j x, xs[j]? = some x → ys[i + j]? = some x) →
    (∀ j x e, ys[j]? = some x → I j e → ∃ e1 e2, g x e = some (.ok () e1) ∧ (b e1 = some (.ok .nx e2) ∨ b e1 = some (.ok .ct e2)) ∧ I (j + 1) e2) → I i e → ∃ e', forM g b xs e = some (.ok .nx e') ∧ I (i + xs.length) e'
  | [], i, e, _, _, h => ⟨e, rfl, h⟩
  | x :: xs, i, e, hx, hb, h => by
    obtain ⟨e1, e2, h1, h2, h3⟩ := hb i x e (hx 0 x rfl) h
    obtain ⟨e', h4, h5⟩ := forM_inv I (xs := xs) (i := i + 1) (fun j y hy => by
      have := hx (j + 1) y (by simpa using hy)
      rwa [show i + (j + 1) = i + 1 + j by omega] at this) hb h3
    refine ⟨e', ?_, by rw [List.length_cons, show i + (xs.length + 1) = i + 1 + xs.length by omega]; exact h5⟩
    show Out.andThen (g x e) (fun _ => b >>= fun f => match f with
      | .nx => forM g b xs
      | .ct => forM g b xs
      | .bk => pure .nx
      | .rt r => pure (.rt r)) = _
    rw [h1]
    show Out.andThen (b e1) (fun f => match f with
      | .nx => forM g b xs
      | .ct => forM g b xs
      | .bk => pure .nx
      | .rt r => pure (.rt r)) = _
    rcases h2 with h2 | h2 <;> rw [h2] <;> exact h4
theorem mFor_inv {mi : M (List PyData)} {g : PyData → M Unit} {b : M Fl} (I : Nat → Env → Prop) {xs : List PyData} {e e0 : Env} (hi : mi e = some (.ok xs e0)) (h0 : I 0 e0)
    (hb : ∀ j x e, xs[j]? = some x → I j e → ∃ e1 e2, g x e = some (.ok () e1) ∧ (b e1 = some (.ok .nx e2) ∨ b e1 = some (.ok .ct e2)) ∧ I (j + 1) e2) : ∃ e', mFor mi g b e = some (.ok .nx e') ∧ I xs.length e' := by
  obtain ⟨e', h1, h2⟩ := forM_inv I (ys := xs) (xs := xs) (i := 0) (e := e0) (fun j x h => by rwa [Nat.zero_add]) hb h0
  rw [Nat.zero_add] at h2
  refine ⟨e', ?_, h2⟩
  show Out.andThen (mi e) (forM g b) = _
  rw [hi]
  exact h1
/-- a while loop by its turns: a measure that falls -/
theorem whileM_inv {t : M Bool} {b : M Fl} (I : Nat → Env → Prop) (Z : Env → Prop) (hb : ∀ n e, I n e → (∃ e1, t e = some (.ok false e1) ∧ Z e1) ∨ ∃ e1 e2 m, t e = some (.ok true e1) ∧ (b e1 = some (.ok .nx e2) ∨ b e1 = some (.ok .ct e2)) ∧ m < n ∧ I m e2) :
    ∀ {n : Nat} {e : Env}, I n e → ∃ k e', whileM t b k e = some (.ok .nx e') ∧ Z e' := by
  intro n
  induction n using Nat.strongRecOn with
  | ind n ih =>
    intro e h
    rcases hb n e h with ⟨e1, h1, h2⟩ | ⟨e1, e2, m, h1, h2, h3, h4⟩
    · refine ⟨1, e1, ?_, h2⟩
      show Out.andThen (t e) _ = _
      rw [h1]
      rfl
    · obtain ⟨k, e', h5, h6⟩ := ih m h3 h4
      refine ⟨k + 1, e', ?_, h6⟩
      show Out.andThen (t e) (fun c => if c then b >>= fun f => match f with
        | .nx => whileM t b k
        | .ct => whileM t b k
        | .bk => pure .nx
        | .rt r => pure (.rt r)
        else pure .nx) = _
      rw [h1]
      show Out.andThen (b e1) (fun f => match f with
        | .nx => whileM t b k
        | .ct => whileM t b k
        | .bk => pure .nx
        | .rt r => pure (.rt r)) = _
      rcases h2 with h2 | h2 <;> rw [h2] <;> exact h5
theorem mWhile_inv {t : M Bool} {b : M Fl} (I : Nat → Env → Prop) (Z : Env → Prop) (hb : ∀ n e, I n e → (∃ e1, t e = some (.ok false e1) ∧ Z e1) ∨ ∃ e1 e2 m, t e = some (.ok true e1) ∧ (b e1 = some (.ok .nx e2) ∨ b e1 = some (.ok .ct e2)) ∧ m < n ∧ I m e2)
    {n : Nat} {e : Env} (h : I n e) : ∃ e', mWhile t b e = some (.ok .nx e') ∧ Z e' := by
  obtain ⟨k, e', h1, h2⟩ := whileM_inv I Z hb h
  exact ⟨e', mWhile_of h1, h2⟩
/-! ### comprehensions, all -/
theorem backE_self {env : Env} : ∀ {vs : List Nat}, backE env env vs = env
  | [] => rfl
  | v :: vs => by
    show (backE env env vs).set v (env[v]?.getD none) = env
    rw [backE_self]
    apply List.ext_getElem?
    intro i
    by_cases hi : v = i
    · subst hi
      by_cases hl : v < env.length
      · rw [List.getElem?_set_self hl, List.getElem?_eq_getElem hl]
        rfl
      · rw [List.getElem?_eq_none (by rw [List.length_set]; omega), List.getElem?_eq_none (by omega)]
    · rw [List.getElem?_set_ne hi]
theorem backE_of {env e : Env} {vs : List Nat} (h : wipeE e vs = wipeE env vs) : backE e env vs = env := by
  rw [← backE_wipe (ws := vs) (fun w hw => hw), h, backE_wipe (fun w hw => hw), backE_self]
/-- one turn's condition -/
def allT (g : PyData → M Unit) (elt : M OV) (x : PyData) : M Bool := g x >>= fun _ => asB elt
theorem allM_run {vs : List Nat} {g : PyData → M Unit} {elt : M OV} {env : Env} (p : PyData → Bool) : ∀ {xs : List PyData} {e : Env}, (∀ x ∈ xs, ∃ e3, allT g elt x (wipeE env vs) = some (.ok (p x) e3) ∧ wipeE e3 vs = wipeE env vs) → wipeE e vs = wipeE env vs →
    ∃ e', allM vs g elt xs e = some (.ok (xs.all p) e') ∧ wipeE e' vs = wipeE env vs
  | [], e, _, h => ⟨e, rfl, h⟩
  | x :: xs, e, hb, h => by
    obtain ⟨e3, h1, h2⟩ := hb x List.mem_cons_self
    have e1 : allM vs g elt (x :: xs) e = Out.andThen (allT g elt x (wipeE e vs)) fun b => if b then fun env => allM vs g elt xs env else fun env => some (.ok false env) := by
      show (g x >>= fun _ => asB elt >>= fun b => if b then fun env => allM vs g elt xs env else fun env => some (.ok false env)) (wipeE e vs) = _
      unfold allT
      rw [bind_at', bind_at']
      cases g x (wipeE e vs) with
      | none => rfl
      | some o => cases o <;> rfl
    rw [h, h1] at e1
    cases hp : p x with
    | true =>
      rw [hp] at e1
      obtain ⟨e', h3, h4⟩ := allM_run p (xs := xs) (fun y hy => hb y (List.mem_cons_of_mem _ hy)) h2
      exact ⟨e', by rw [e1, List.all_cons, hp, Bool.true_and]; exact h3, h4⟩
    | false =>
      rw [hp] at e1
      exact ⟨e3, by rw [e1, List.all_cons, hp, Bool.false_and]; rfl, h2⟩
theorem mAll_run {vs : List Nat} {mi : M (List PyData)} {g : PyData → M Unit} {elt : M OV} {e env : Env} {xs : List PyData} (p : PyData → Bool) (hi : mi e = some (.ok xs env)) (hf : vs.all (flatAt env) = true)
    (hb : ∀ x ∈ xs, ∃ e3, allT g elt x (wipeE env vs) = some (.ok (p x) e3) ∧ wipeE e3 vs = wipeE env vs) : mAll vs mi g elt e = some (.ok (.d (.bool (xs.all p))) env) := by
  obtain ⟨e', h1, h2⟩ := allM_run p hb rfl
  show Out.andThen (mi e) (fun xs => fun env1 => if vs.all (flatAt env1) then (match allM vs g elt xs env1 with
    | some (Out.ok b env2) => some (Out.ok (OV.d (.bool b)) (backE env2 env1 vs))
    | _ => none) else none) = _
  rw [hi]
  show (if vs.all (flatAt env) then (match allM vs g elt xs env with
    | some (Out.ok b env2) => some (Out.ok (OV.d (.bool b)) (backE env2 env vs))
    | _ => none) else none) = _
  rw [if_pos hf, h1]
  show some (Out.ok (OV.d (.bool (xs.all p))) (backE e' env vs)) = _
  rw [backE_of h2]
/-- one turn of a comprehension -/
def compT (g : PyData → M Unit) (t : M Bool) (elt : M PyData) (x : PyData) : M (Option PyData) := g x >>= fun _ => t >>= fun c => if c then elt >>= fun y => pure (some y) else pure none
theorem compM_step {vs : List Nat} {g : PyData → M Unit} {t : M Bool} {elt : M PyData} {x : PyData} {xs acc : List PyData} {e : Env} : compM vs g t elt (x :: xs) acc e = Out.andThen (compT g t elt x (wipeE e vs)) fun o => match o with
    | some y => (if acc.length < sizeLine then fun env => compM vs g t elt xs (acc ++ [y]) env else fun _ => none)
    | none => fun env => compM vs g t elt xs acc env := by
  show (g x >>= fun _ => t >>= fun c => if c then elt >>= fun y => (if acc.length < sizeLine then fun env => compM vs g t elt xs (acc ++ [y]) env else fun _ => none) else fun env => compM vs g t elt xs acc env) (wipeE e vs) = _
  unfold compT
  rw [bind_at', bind_at']
  cases g x (wipeE e vs) with
  | none => rfl
  | some o =>
    cases o with
    | exc y e => rfl
    | ok u e1 =>
      show Out.andThen (t e1) _ = Out.andThen (Out.andThen (t e1) _) _
      cases t e1 with
      | none => rfl
      | some o =>
        cases o with
        | exc y e => rfl
        | ok c e2 =>
          cases c with
          | false => rfl
          | true =>
            show Out.andThen (elt e2) _ = Out.andThen (Out.andThen (elt e2) _) _
            cases elt e2 with
            | none => rfl
            | some o => cases o <;> rfl
theorem compM_run {vs : List Nat} {g : PyData → M Unit} {t : M Bool} {elt : M PyData} {env : Env} (f : PyData → Option PyData) : ∀ {xs acc : List PyData} {e : Env}, acc.length + xs.length ≤ sizeLine → (∀ x ∈ xs, ∃ e3, compT g t elt x (wipeE env vs) = some (.ok (f x) e3) ∧ wipeE e3 vs = wipeE env vs) → wipeE e vs = wipeE env vs →
    ∃ e', compM vs g t elt xs acc e = some (.ok (acc ++ xs.filterMap f) e') ∧ wipeE e' vs = wipeE env vs
  | [], acc, e, _, _, h => ⟨e, by rw [List.filterMap_nil, List.append_nil]; rfl, h⟩
  | x :: xs, acc, e, hl, hb, h => by
    obtain ⟨e3, h1, h2⟩ := hb x List.mem_cons_self
    rw [compM_step, h, h1]
    rw [List.length_cons] at hl
    cases hf : f x with
    | none =>
      obtain ⟨e', h3, h4⟩ := compM_run f (xs := xs) (acc := acc) (by omega) (fun y hy => hb y (List.mem_cons_of_mem _ hy)) h2
      exact ⟨e', by rw [List.filterMap_cons_none hf]; exact h3, h4⟩
    | some y =>
      obtain ⟨e', h3, h4⟩ := compM_run f (xs := xs) (acc := acc ++ [y]) (by rw [List.length_append, List.length_singleton]; omega) (fun y hy => hb y (List.mem_cons_of_mem _ hy)) h2
      refine ⟨e', ?_, h4⟩
      rw [List.filterMap_cons_some hf]
      show (if acc.length < sizeLine then fun env => compM vs g t elt xs (acc ++ [y]) env else fun _ => none) e3 = _
      rw [if_pos (by omega)]
      show compM vs g t elt xs (acc ++ [y]) e3 = _
      rw [h3, List.append_assoc]
      rfl
theorem mComp_run {vs : List Nat} {mi : M (List PyData)} {g : PyData → M Unit} {t : M Bool} {elt : M PyData} {e env : Env} {xs : List PyData} (f : PyData → Option PyData) (hi : mi e = some (.ok xs env)) (hf : vs.all (flatAt env) = true) (hl : xs.length ≤ sizeLine)
    (hb : ∀ x ∈ xs, ∃ e3, compT g t elt x (wipeE env vs) = some (.ok (f x) e3) ∧ wipeE e3 vs = wipeE env vs) : mComp vs mi g t elt e = some (.ok (.lst (xs.filterMap f)) env) := by
  obtain ⟨e', h1, h2⟩ := compM_run f (acc := []) (by simpa using hl) hb rfl
  show Out.andThen (mi e) (fun xs => fun env1 => if vs.all (flatAt env1) then (match compM vs g t elt xs [] env1 with
    | some (Out.ok acc env2) => some (Out.ok (OV.lst acc) (backE env2 env1 vs))
    | _ => none) else none) = _
  rw [hi]
  show (if vs.all (flatAt env) then (match compM vs g t elt xs [] env with
    | some (Out.ok acc env2) => some (Out.ok (OV.lst acc) (backE env2 env vs))
    | _ => none) else none) = _
  rw [if_pos hf, h1]
  show some (Out.ok (OV.lst ([] ++ xs.filterMap f)) (backE e' env vs)) = _
  rw [backE_of h2, List.nil_append]
/-! walked data -/
theorem mItems_l {m : M PyData} {e e1 : Env} {xs : List PyData} (h : m e = some (.ok (.list xs) e1)) : mItems m e = some (.ok xs e1) := by
  show Out.andThen (m e) _ = _
  rw [h]
  rfl
theorem mItems_t {m : M PyData} {e e1 : Env} {xs : List PyData} (h : m e = some (.ok (.tuple xs) e1)) : mItems m e = some (.ok xs e1) := by
  show Out.andThen (m e) _ = _
  rw [h]
  rfl
theorem mRange1_at {m : M PyData} {e e1 : Env} {j : Int} (h : m e = some (.ok (.int j) e1)) (h1 : -(2 ^ 62) ≤ j) (h2 : j < 2 ^ 62) : mRange1 m e = some (.ok (rngD 0 j.toNat) e1) := by
  show Out.andThen (m e) _ = _
  rw [h]
  show (if -(2 ^ 62) ≤ j ∧ j < 2 ^ 62 then (pure (rngD 0 j.toNat) : M (List PyData)) else fun _ => none) e1 = _
  rw [if_pos ⟨h1, h2⟩]
  rfl
end TL
set_option Elab.async false
set_option linter.all false
set_option maxRecDepth 100000
namespace TL
open PySem PySem.Spec PyProof.Rows L2
theorem atI_nat {α : Type} {xs : List α} {i : Nat} {x : α} (h : xs[i]? = some x) : atI xs (i : Nat) = some x := by
  have hl : i < xs.length := (List.getElem?_eq_some_iff.mp h).1
  unfold atI ixN
  rw [if_pos (by omega), if_pos (by omega)]
  simpa using h
theorem gIx_tn {xs : List PyData} {i : Nat} {x : PyData} (h : xs[i]? = some x) : gIx (.tuple xs) (.int (i : Nat)) = some (.d x) := by
  show (atI xs (i : Nat)).map OV.d = _
  rw [atI_nat h]
  rfl
theorem gIx_ln {xs : List PyData} {i : Nat} {x : PyData} (h : xs[i]? = some x) : gIx (.list xs) (.int (i : Nat)) = some (.d x) := by
  show (atI xs (i : Nat)).map OV.d = _
  rw [atI_nat h]
  rfl
@[simp] theorem gIx_t0 (a : PyData) (r : List PyData) : gIx (.tuple (a :: r)) (.int 0) = some (.d a) := gIx_tn (i := 0) rfl
@[simp] theorem gIx_t1 (a b : PyData) (r : List PyData) : gIx (.tuple (a :: b :: r)) (.int 1) = some (.d b) := gIx_tn (i := 1) rfl
theorem is_number_int (v lo hi : Int) : Fd f_is_number [.int v, .int lo, .int hi] (.d (.bool (decide (lo ≤ v) && decide (v ≤ hi)))) := by
  refine Fd.rt ?_
  simp [b_is_number, dV_app, dEnv]
  cases decide (lo ≤ v) <;> simp [dV_app]
def inR (n i : Int) : Bool := decide (0 ≤ i) && decide (i ≤ n - 1)
def doorOk (n : Int) (p : Int × Int) : Bool := inR n p.1 && inR n p.2 && !decide (p.1 = p.2)
theorem is_door_run (n : Int) (p : Int × Int) : Fd f_is_door [.int n, pairD p] (.d (.bool (doorOk n p))) := by
  unfold pairD
  have ha : mAll [2] (mItems (dV 1)) (gN 2) (mCall (.d (dV 2) :: .d (dC (.int 0)) :: .d (frz (mBin gSub (dV 0) (dC (.int 1)))) :: []) f_is_number) [some (.d (.int n)), some (.d (.tuple [.int p.1, .int p.2])), none] = some (.ok (.d (.bool (inR n p.1 && inR n p.2))) [some (.d (.int n)), some (.d (.tuple [.int p.1, .int p.2])), none]) := by
    have := mAll_run (vs := [2]) (mi := mItems (dV 1)) (g := gN 2) (elt := mCall (.d (dV 2) :: .d (dC (.int 0)) :: .d (frz (mBin gSub (dV 0) (dC (.int 1)))) :: []) f_is_number) (e := [some (.d (.int n)), some (.d (.tuple [.int p.1, .int p.2])), none]) (env := [some (.d (.int n)), some (.d (.tuple [.int p.1, .int p.2])), none]) (xs := [.int p.1, .int p.2])
      (fun x => match x with | .int i => inR n i | _ => false) (by rfl) (by rfl) (fun x hx => ?_)
    · simpa using this
    · have : ∃ i, x = .int i := by
        rcases List.mem_cons.mp hx with rfl | hx
        · exact ⟨_, rfl⟩
        · exact ⟨_, List.mem_singleton.mp hx⟩
      obtain ⟨i, rfl⟩ := this
      simp [allT, wipeE, mCall3_at (mf := f_is_number) fnM_len, dV_app, (is_number_int i 0 (n - 1)).call, inR]
  refine Fd.rt ?_
  have hl : gLen (.d (.tuple [.int p.1, .int p.2])) = some (.d (.int 2)) := rfl
  simp [b_is_door, dEnv, dV_app, mPeek_app, hl, ha, doorOk]
  cases inR n p.1 <;> cases inR n p.2 <;> simp [dV_app]
end TL
set_option Elab.async false
set_option linter.all false
set_option maxRecDepth 100000
namespace TL
open PySem PySem.Spec PyProof.Rows L2
/-! ### distances -/
section
variable (ds : List (Int × Int)) (a : Int)
/-- reached from a over at most t doors -/
def ball : Nat → Int → Prop
  | 0, y => y = a
  | t + 1, y => ball t y ∨ ∃ x, ball t x ∧ (x, y) ∈ ds
/-- the least number of doors -/
def dist (y : Int) (d : Nat) : Prop := ball ds a d y ∧ ∀ s, s < d → ¬ ball ds a s y
end
section
variable {ds : List (Int × Int)} {a : Int}
theorem ball_mono {s t : Nat} (h : s ≤ t) {y : Int} (hy : ball ds a s y) : ball ds a t y := by
  induction t with
  | zero => rwa [show s = 0 by omega] at hy
  | succ t ih =>
    by_cases e : s = t + 1
    · rwa [e] at hy
    · exact .inl (ih (by omega))
theorem dist_uniq {y : Int} {d e : Nat} (h : dist ds a y d) (k : dist ds a y e) : d = e := by
  rcases Nat.lt_trichotomy d e with q | q | q
  · exact absurd h.1 (k.2 d q)
  · exact q
  · exact absurd k.1 (h.2 e q)
theorem dist_of {t : Nat} {y : Int} (h : ball ds a t y) : ∃ d, d ≤ t ∧ dist ds a y d := by
  induction t with
  | zero => exact ⟨0, Nat.le_refl _, h, fun s hs => by omega⟩
  | succ t ih =>
    by_cases q : ball ds a t y
    · obtain ⟨d, h1, h2⟩ := ih q
      exact ⟨d, by omega, h2⟩
    · exact ⟨t + 1, Nat.le_refl _, h, fun s hs z => q (ball_mono (by omega) z)⟩
theorem ball_step {t : Nat} {y : Int} : ball ds a (t + 1) y ↔ ball ds a t y ∨ ∃ x, dist ds a x t ∧ (x, y) ∈ ds := by
  constructor
  · intro h
    rcases h with h | ⟨x, h1, h2⟩
    · exact .inl h
    · obtain ⟨d, h3, h4⟩ := dist_of h1
      by_cases e : d = t
      · subst e
        exact .inr ⟨x, h4, h2⟩
      · exact .inl (ball_mono (s := d + 1) (by omega) (.inr ⟨x, h4.1, h2⟩))
  · intro h
    rcases h with h | ⟨x, h1, h2⟩
    · exact .inl h
    · exact .inr ⟨x, h1.1, h2⟩
theorem ball_stop {t : Nat} (h : ∀ x, ¬ dist ds a x t) : ∀ s y, ball ds a s y → ball ds a t y := by
  have h1 : ∀ s, t ≤ s → ∀ y, ball ds a s y → ball ds a t y := by
    intro s
    induction s with
    | zero =>
      intro hs y hy
      rwa [show t = 0 by omega]
    | succ s ih =>
      intro hs y hy
      by_cases e : t = s + 1
      · rwa [e]
      · rcases hy with hy | ⟨x, hx, he⟩
        · exact ih (by omega) y hy
        · have hx' := ih (by omega) x hx
          have : ball ds a (t + 1) y := .inr ⟨x, hx', he⟩
          rcases ball_step.mp this with z | ⟨x', z, _⟩
          · exact z
          · exact absurd z (h x')
  intro s y hy
  by_cases hs : t ≤ s
  · exact h1 s hs y hy
  · exact ball_mono (by omega) hy
end
/-! ### the dict of distances -/
def encK (kv : List (Int × Int)) : List (Int × PyData) := kv.map fun p => (p.1, .int p.2)
theorem look_encK {kv : List (Int × Int)} {y : Int} : look (encK kv) y = (kv.lookup y).map .int := by
  unfold look encK
  induction kv with
  | nil => rfl
  | cons p kv ih =>
    rw [List.map_cons, List.find?_cons]
    by_cases h : p.1 = y
    · rw [decide_eq_true (by exact h)]
      rw [show (p :: kv).lookup y = some p.2 by obtain ⟨p1, p2⟩ := p; simp at h; simp [List.lookup, h]]
      rfl
    · rw [decide_eq_false (by exact h)]
      rw [show (p :: kv).lookup y = kv.lookup y by obtain ⟨p1, p2⟩ := p; simp at h; simp [List.lookup]; rw [show (y == p1) = false by simp; exact fun e => h e.symm]]
      exact ih
theorem lookup_none {kv : List (Int × Int)} {y : Int} : kv.lookup y = none ↔ y ∉ kv.map (·.1) := by
  induction kv with
  | nil => simp
  | cons p kv ih =>
    obtain ⟨p1, p2⟩ := p
    simp only [List.lookup, List.map_cons, List.mem_cons, not_or]
    by_cases h : y = p1
    · subst h
      simp
    · rw [show (y == p1) = false by simpa using h]
      simp [h, ih]
theorem lookup_mem' {kv : List (Int × Int)} {y d : Int} (h : kv.lookup y = some d) : (y, d) ∈ kv := by
  induction kv with
  | nil => cases h
  | cons p kv ih =>
    obtain ⟨p1, p2⟩ := p
    simp only [List.lookup] at h
    by_cases e : y = p1
    · subst e
      simp at h
      subst h
      exact List.mem_cons_self
    · rw [show (y == p1) = false by simpa using e] at h
      exact List.mem_cons_of_mem _ (ih h)
theorem mem_lookup' {kv : List (Int × Int)} {y d : Int} (hn : (kv.map (·.1)).Nodup) (h : (y, d) ∈ kv) : kv.lookup y = some d := by
  induction kv with
  | nil => cases h
  | cons p kv ih =>
    obtain ⟨p1, p2⟩ := p
    rw [List.map_cons, List.nodup_cons] at hn
    simp only [List.lookup]
    rcases List.mem_cons.mp h with e | e
    · cases e
      simp
    · have ne : y ≠ p1 := fun z => hn.1 (by rw [← z]; exact List.mem_map.mpr ⟨(y, d), e, rfl⟩)
      rw [show (y == p1) = false by simpa using ne]
      exact ih hn.2 e
theorem put_new {kv : List (Int × Int)} {y d : Int} (h : y ∉ kv.map (·.1)) : put (encK kv) y (.int d) = encK (kv ++ [(y, d)]) := by
  unfold put
  have : ((encK kv).any fun p => decide (p.1 = y)) = false := by
    rw [List.any_eq_false]
    intro p hp
    unfold encK at hp
    obtain ⟨q, hq, rfl⟩ := List.mem_map.mp hp
    simp only [decide_eq_true_eq]
    exact fun e => h (by rw [← e]; exact List.mem_map.mpr ⟨q, hq, rfl⟩)
  rw [this, if_neg Bool.false_ne_true]
  unfold encK
  rw [List.map_append]
  rfl
/-- what has been found: all within t, and what new shows -/
structure Found (ds : List (Int × Int)) (a : Int) (t : Nat) (new : Int → Prop) (kv : List (Int × Int)) (later : List Int) : Prop where
  nd : (kv.map (·.1)).Nodup
  keys : ∀ y, y ∈ kv.map (·.1) ↔ ball ds a t y ∨ new y
  val : ∀ p ∈ kv, ∃ d : Nat, p.2 = d ∧ dist ds a p.1 d
  later : ∀ y, y ∈ later ↔ new y ∧ ¬ ball ds a t y
theorem Found.congr {ds : List (Int × Int)} {a : Int} {t : Nat} {n n' : Int → Prop} {kv : List (Int × Int)} {l : List Int} (f : Found ds a t n kv l) (h : ∀ y, n y ↔ n' y) : Found ds a t n' kv l :=
  ⟨f.nd, fun y => by rw [f.keys, h], f.val, fun y => by rw [f.later, h]⟩
/-- one door more: (x, y), x at distance t -/
theorem Found.add {ds : List (Int × Int)} {a : Int} {t : Nat} {n : Int → Prop} {kv : List (Int × Int)} {l : List Int} (f : Found ds a t n kv l) {x y : Int} (hx : dist ds a x t) (he : (x, y) ∈ ds) (hy : y ∉ kv.map (·.1)) :
    Found ds a t (fun z => n z ∨ z = y) (kv ++ [(y, ((t + 1 : Nat) : Int))]) (l ++ [y]) := by
  have hb : ¬ ball ds a t y := fun z => hy ((f.keys y).mpr (.inl z))
  refine ⟨?_, fun z => ?_, fun p hp => ?_, fun z => ?_⟩
  · rw [List.map_append, List.nodup_append]
    refine ⟨f.nd, by simp, fun u hu v hv => ?_⟩
    simp only [List.map_cons, List.map_nil, List.mem_singleton] at hv
    subst hv
    exact fun e => hy (by rw [← e]; exact hu)
  · rw [List.map_append, List.mem_append, f.keys]
    simp only [List.map_cons, List.map_nil, List.mem_singleton]
    constructor
    · rintro ((h | h) | h)
      · exact .inl h
      · exact .inr (.inl h)
      · exact .inr (.inr h)
    · rintro (h | h | h)
      · exact .inl (.inl h)
      · exact .inl (.inr h)
      · exact .inr h
  · rcases List.mem_append.mp hp with h | h
    · exact f.val p h
    · rw [List.mem_singleton.mp h]
      refine ⟨t + 1, rfl, .inr ⟨x, hx.1, he⟩, fun s hs z => hb (ball_mono (by omega) z)⟩
  · rw [List.mem_append, f.later, List.mem_singleton]
    constructor
    · rintro (⟨h1, h2⟩ | h)
      · exact ⟨.inl h1, h2⟩
      · subst h
        exact ⟨.inr rfl, hb⟩
    · rintro ⟨h1 | h1, h2⟩
      · exact .inl ⟨h1, h2⟩
      · exact .inr h1
theorem Found.skip {ds : List (Int × Int)} {a : Int} {t : Nat} {n : Int → Prop} {kv : List (Int × Int)} {l : List Int} (f : Found ds a t n kv l) {y : Int} (hy : y ∈ kv.map (·.1)) : Found ds a t (fun z => n z ∨ z = y) kv l := by
  have h := (f.keys y).mp hy
  refine ⟨f.nd, fun z => ?_, f.val, fun z => ?_⟩
  · rw [f.keys]
    constructor
    · rintro (h | h)
      · exact .inl h
      · exact .inr (.inl h)
    · rintro (h' | h' | h')
      · exact .inl h'
      · exact .inr h'
      · subst h'
        exact h
  · rw [f.later]
    constructor
    · rintro ⟨h1, h2⟩
      exact ⟨.inl h1, h2⟩
    · rintro ⟨h1 | h1, h2⟩
      · exact ⟨h1, h2⟩
      · subst h1
        rcases h with h | h
        · exact absurd h h2
        · exact ⟨h, h2⟩
end TL
set_option Elab.async false
set_option linter.all false
set_option maxRecDepth 100000
namespace TL
open PySem PySem.Spec PyProof.Rows L2
/-! ### come_to, run -/
def IsDoors (q : PyData) (ds : List (Int × Int)) : Prop := q = .tuple (ds.map pairD) ∨ q = .list (ds.map pairD)
theorem IsDoors.items {q : PyData} {ds : List (Int × Int)} (h : IsDoors q ds) {m : M PyData} {e e1 : Env} (hm : m e = some (.ok q e1)) : mItems m e = some (.ok (ds.map pairD) e1) := by
  rcases h with rfl | rfl
  · exact mItems_t hm
  · exact mItems_l hm
/-- come_to's slots -/
def cE (n a : Int) (q : PyData) (kv : List (Int × Int)) (L : List Int) (j5 j6 j7 j8 : Option OV) : Env := [some (.d (.int n)), some (.d q), some (.d (.int a)), some (.dct (encK kv)), some (.d (.list (L.map .int))), j5, j6, j7, j8]
def cBody : M Fl := mIf (mAnd (asB (mBin gEq (dV 7) (dV 6))) (asB (mInD true 3 (dV 8)))) (mThen (mPutD 3 (dV 8) (frz (mBin gAdd (frz (mIxD 3 (dV 6))) (dC (.int 1)))))
  (mDrop (mAppend 5 (dV 8)))) (pure .nx)
theorem nodup_le {α : Type} [DecidableEq α] : ∀ {l m : List α}, l.Nodup → (∀ x ∈ l, x ∈ m) → l.length ≤ m.length
  | [], m, _, _ => Nat.zero_le _
  | x :: l, m, h, k => by
    obtain ⟨h1, h2⟩ := List.nodup_cons.mp h
    have hx := k x List.mem_cons_self
    have := nodup_le (l := l) (m := m.erase x) h2 fun y hy => (List.mem_erase_of_ne (fun e => h1 (by rw [← e]; exact hy))).mpr (k y (List.mem_cons_of_mem _ hy))
    rw [List.length_erase_of_mem hx] at this
    have := List.length_pos_of_mem hx
    rw [List.length_cons]
    omega
theorem keys_small {ds : List (Int × Int)} {a : Int} {t : Nat} {n : Int → Prop} {kv : List (Int × Int)} {l : List Int} (f : Found ds a t n kv l) (hn : ∀ y, n y → ∃ x, (x, y) ∈ ds) : kv.length ≤ ds.length + 1 := by
  have h : (kv.map (·.1)).length ≤ (a :: ds.map (·.2)).length := by
    refine nodup_le f.nd ?_
    · intro y hy
      rcases (f.keys y).mp hy with h | h
      · have : ∀ t y, ball ds a t y → y ∈ a :: ds.map (·.2) := by
          intro t
          induction t with
          | zero => intro y h; rw [show y = a from h]; exact List.mem_cons_self
          | succ t ih =>
            intro y h
            rcases h with h | ⟨x, _, he⟩
            · exact ih y h
            · exact List.mem_cons_of_mem _ (List.mem_map.mpr ⟨(x, y), he, rfl⟩)
        exact this t y h
      · obtain ⟨x, he⟩ := hn y h
        exact List.mem_cons_of_mem _ (List.mem_map.mpr ⟨(x, y), he, rfl⟩)
  simpa using h
theorem inner_run {n a x : Int} {q : PyData} {ds : List (Int × Int)} (hq : IsDoors q ds) (hl : ds.length ≤ 1000) {t : Nat} {new : Int → Prop} {kv : List (Int × Int)} {L later : List Int} {j7 j8 : Option OV} (f : Found ds a t new kv later) (hx : dist ds a x t) (hn : ∀ y, new y → ∃ x, (x, y) ∈ ds) (hlt : later.length ≤ kv.length) :
    ∃ kv' later' j7' j8', mFor (mItems (dV 1)) (gT 2 (gsCons (gN 7) (gsCons (gN 8) (gsNil)))) cBody (cE n a q kv L (some (.lst (later.map .int))) (some (.d (.int x))) j7 j8) = some (.ok .nx (cE n a q kv' L (some (.lst (later'.map .int))) (some (.d (.int x))) j7' j8')) ∧
      Found ds a t (fun y => new y ∨ (x, y) ∈ ds) kv' later' ∧ kv'.length + later.length = kv.length + later'.length := by
  let I : Nat → Env → Prop := (fun j e => ∃ kv' later' j7' j8', e = cE n a q kv' L (some (.lst (later'.map .int))) (some (.d (.int x))) j7' j8' ∧ Found ds a t (fun y => new y ∨ (x, y) ∈ ds.take j) kv' later' ∧ kv'.length + later.length = kv.length + later'.length)
  have turn : ∀ j z e, (ds.map pairD)[j]? = some z → I j e → ∃ e1 e2, gT 2 (gsCons (gN 7) (gsCons (gN 8) (gsNil))) z e = some (.ok () e1) ∧ (cBody e1 = some (.ok .nx e2) ∨ cBody e1 = some (.ok .ct e2)) ∧ I (j + 1) e2 := by
    intro j z e hz h
    obtain ⟨kv', later', j7', j8', rfl, f', hlen⟩ := h
    rw [List.getElem?_map] at hz
    obtain ⟨⟨o, y⟩, hd, rfl⟩ := Option.map_eq_some_iff.mp hz
    have hmem : (o, y) ∈ ds := List.mem_of_getElem? hd
    have htk : ∀ u v, (u, v) ∈ ds.take (j + 1) ↔ (u, v) ∈ ds.take j ∨ (u, v) = (o, y) := fun u v => by
      rw [List.take_add_one, hd]
      simp
    have hsm : kv'.length ≤ ds.length + 1 := keys_small f' fun y h => by
      rcases h with h | h
      · exact hn y h
      · exact ⟨x, List.mem_of_mem_take h⟩
    have hkx : ∃ d : Int, kv'.lookup x = some d ∧ d = (t : Int) := by
      have hk : x ∈ kv'.map (·.1) := (f'.keys x).mpr (.inl hx.1)
      obtain ⟨p, hp, e⟩ := List.mem_map.mp hk
      obtain ⟨d, hd1, hd2⟩ := f'.val p hp
      rw [e] at hd2
      have := dist_uniq hd2 hx
      subst this
      obtain ⟨p1, p2⟩ := p
      simp only at e hd1
      subst e hd1
      exact ⟨_, mem_lookup' f'.nd hp, rfl⟩
    obtain ⟨dx, hkx, rfl⟩ := hkx
    by_cases ho : o = x
    · subst ho
      by_cases hy : y ∈ kv'.map (·.1)
      · have hlk : ∃ d, kv'.lookup y = some d := by
          cases e : kv'.lookup y with
          | none => exact absurd hy (lookup_none.mp e)
          | some d => exact ⟨d, rfl⟩
        obtain ⟨d, hlk⟩ := hlk
        refine ⟨cE n a q kv' L (some (.lst (later'.map .int))) (some (.d (.int o))) (some (.d (.int o))) (some (.d (.int y))), cE n a q kv' L (some (.lst (later'.map .int))) (some (.d (.int o))) (some (.d (.int o))) (some (.d (.int y))), by simp [pairD, cE], .inl ?_, kv', later', _, _, rfl, (f'.skip hy).congr (fun z => ?_), hlen⟩
        · simp [cBody, dV_app, cE, mHas_app, isDct, mPeek_app, gInD, look_encK, hlk]
        · rw [htk]
          constructor
          · rintro ((h | h) | h)
            · exact .inl h
            · exact .inr (.inl h)
            · exact .inr (.inr (by rw [h]))
          · rintro (h | h | h)
            · exact .inl (.inl h)
            · exact .inl (.inr h)
            · cases h; exact .inr rfl
      · have hlk : kv'.lookup y = none := lookup_none.mpr hy
        refine ⟨cE n a q kv' L (some (.lst (later'.map .int))) (some (.d (.int o))) (some (.d (.int o))) (some (.d (.int y))), cE n a q (kv' ++ [(y, ((t + 1 : Nat) : Int))]) L (some (.lst ((later' ++ [y]).map .int))) (some (.d (.int o))) (some (.d (.int o))) (some (.d (.int y))), by simp [pairD, cE], .inl ?_, _, later' ++ [y], _, _, rfl, (f'.add hx hmem hy).congr (fun z => ?_), ?_⟩
        · have hz1 : (encK kv').length < sizeLine := by rw [encK, List.length_map, sizeLine_eq]; omega
          have hz2 : later'.length < sizeLine := by rw [sizeLine_eq]; omega
          simp [cBody, dV_app, cE, mHas_app, isDct, isLst, mPeek_app, mMut_app, gInD, gIxD, gPutD, gApp, look_encK, hlk, hkx, hz1, hz2, put_new hy]
        · rw [htk]
          constructor
          · rintro ((h | h) | h)
            · exact .inl h
            · exact .inr (.inl h)
            · exact .inr (.inr (by rw [h]))
          · rintro (h | h | h)
            · exact .inl (.inl h)
            · exact .inl (.inr h)
            · cases h; exact .inr rfl
        · rw [List.length_append, List.length_append]
          simp only [List.length_cons, List.length_nil]
          omega
    · refine ⟨cE n a q kv' L (some (.lst (later'.map .int))) (some (.d (.int x))) (some (.d (.int o))) (some (.d (.int y))), cE n a q kv' L (some (.lst (later'.map .int))) (some (.d (.int x))) (some (.d (.int o))) (some (.d (.int y))), by simp [pairD, cE], .inl ?_, kv', later', _, _, rfl, f'.congr (fun z => ?_), hlen⟩
      · simp [cBody, dV_app, cE, ho]
      · rw [htk]
        constructor
        · rintro (h | h)
          · exact .inl h
          · exact .inr (.inl h)
        · rintro (h | h | h)
          · exact .inl h
          · exact .inr h
          · cases h; exact absurd rfl ho
  obtain ⟨e', h1, h2⟩ := mFor_inv (mi := mItems (dV 1)) (g := gT 2 (gsCons (gN 7) (gsCons (gN 8) (gsNil)))) (b := cBody) (xs := ds.map pairD) (e := cE n a q kv L (some (.lst (later.map .int))) (some (.d (.int x))) j7 j8) (e0 := cE n a q kv L (some (.lst (later.map .int))) (some (.d (.int x))) j7 j8)
    I (hq.items (by simp [cE, dV_app])) ⟨kv, later, j7, j8, rfl, f.congr (fun y => by simp), rfl⟩ turn
  obtain ⟨kv', later', j7', j8', rfl, f', hlen⟩ := h2
  refine ⟨kv', later', j7', j8', h1, f'.congr (fun y => ?_), hlen⟩
  rw [List.length_map, List.take_length]
/-- all halls of a layer -/
theorem layer_run {n a : Int} {q : PyData} {ds : List (Int × Int)} (hq : IsDoors q ds) (hl : ds.length ≤ 1000) {t : Nat} {kv : List (Int × Int)} {L : List Int} {j6 j7 j8 : Option OV} (f : Found ds a t (fun _ => False) kv []) (hL : ∀ x, x ∈ L ↔ dist ds a x t) :
    ∃ kv' later' j6' j7' j8', mFor (mItems (dV 4)) (gN 6) (mFor (mItems (dV 1)) (gT 2 (gsCons (gN 7) (gsCons (gN 8) (gsNil)))) cBody) (cE n a q kv L (some (.lst [])) j6 j7 j8) = some (.ok .nx (cE n a q kv' L (some (.lst (later'.map .int))) j6' j7' j8')) ∧
      Found ds a t (fun y => ∃ x ∈ L, (x, y) ∈ ds) kv' later' ∧ kv'.length = kv.length + later'.length := by
  let I : Nat → Env → Prop := fun j e => ∃ kv' later' j6' j7' j8', e = cE n a q kv' L (some (.lst (later'.map .int))) j6' j7' j8' ∧ Found ds a t (fun y => ∃ x ∈ L.take j, (x, y) ∈ ds) kv' later' ∧ kv'.length = kv.length + later'.length
  have turn : ∀ j z e, (L.map PyData.int)[j]? = some z → I j e → ∃ e1 e2, gN 6 z e = some (.ok () e1) ∧ (mFor (mItems (dV 1)) (gT 2 (gsCons (gN 7) (gsCons (gN 8) (gsNil)))) cBody e1 = some (.ok .nx e2) ∨ mFor (mItems (dV 1)) (gT 2 (gsCons (gN 7) (gsCons (gN 8) (gsNil)))) cBody e1 = some (.ok .ct e2)) ∧ I (j + 1) e2 := by
    intro j z e hz h
    obtain ⟨kv', later', j6', j7', j8', rfl, f', hlen⟩ := h
    rw [List.getElem?_map] at hz
    obtain ⟨x, hx, rfl⟩ := Option.map_eq_some_iff.mp hz
    have hmem : x ∈ L := List.mem_of_getElem? hx
    have htk : ∀ u, u ∈ L.take (j + 1) ↔ u ∈ L.take j ∨ u = x := fun u => by
      rw [List.take_add_one, hx]
      simp
    obtain ⟨kv2, later2, j72, j82, h1, f2, hlen2⟩ := inner_run (j7 := j7') (j8 := j8') (L := L) (n := n) hq hl f' ((hL x).mp hmem) (fun y ⟨x, _, he⟩ => ⟨x, he⟩) (by omega)
    refine ⟨cE n a q kv' L (some (.lst (later'.map .int))) (some (.d (.int x))) j7' j8', _, by simp [cE], .inl h1, kv2, later2, _, _, _, rfl, f2.congr (fun y => ?_), by omega⟩
    constructor
    · rintro (⟨u, hu, he⟩ | he)
      · exact ⟨u, (htk u).mpr (.inl hu), he⟩
      · exact ⟨x, (htk x).mpr (.inr rfl), he⟩
    · rintro ⟨u, hu, he⟩
      rcases (htk u).mp hu with h | h
      · exact .inl ⟨u, h, he⟩
      · subst h; exact .inr he
  obtain ⟨e', h1, h2⟩ := mFor_inv (mi := mItems (dV 4)) (g := gN 6) (b := mFor (mItems (dV 1)) (gT 2 (gsCons (gN 7) (gsCons (gN 8) (gsNil)))) cBody) (xs := L.map PyData.int) (e := cE n a q kv L (some (.lst [])) j6 j7 j8) (e0 := cE n a q kv L (some (.lst [])) j6 j7 j8)
    I (mItems_l (by simp [cE, dV_app])) ⟨kv, [], j6, j7, j8, rfl, f.congr (fun y => by simp), rfl⟩ turn
  obtain ⟨kv', later', j6', j7', j8', rfl, f', hlen⟩ := h2
  refine ⟨kv', later', j6', j7', j8', h1, f'.congr (fun y => ?_), hlen⟩
  rw [List.length_map, List.take_length]
theorem come_to_run {n a : Int} {q : PyData} {ds : List (Int × Int)} (hq : IsDoors q ds) (hl : ds.length ≤ 1000) : ∃ (kv : List (Int × Int)) (t : Nat), Fd f_come_to [.int n, q, .int a] (.dct (encK kv)) ∧ (kv.map (·.1)).Nodup ∧ (∀ y, y ∈ kv.map (·.1) ↔ ball ds a t y) ∧
    (∀ p ∈ kv, ∃ d : Nat, p.2 = d ∧ dist ds a p.1 d) ∧ ∀ s y, ball ds a s y → ball ds a t y := by
  let lp : M Fl := mThen (mSet 5 (mLst (pure []))) (mThen (mFor (mItems (dV 4)) (gN 6) (mFor (mItems (dV 1)) (gT 2 (gsCons (gN 7) (gsCons (gN 8) (gsNil)))) cBody)) (mSet 4 (dat (frz (mFrz 5)))))
  let I : Nat → Env → Prop := fun m e => ∃ (t : Nat) (kv : List (Int × Int)) (L : List Int) (j5 j6 j7 j8 : Option OV), e = cE n a q kv L j5 j6 j7 j8 ∧ Found ds a t (fun _ => False) kv [] ∧ (∀ x, x ∈ L ↔ dist ds a x t) ∧ m = 2 * (ds.length + 1 - kv.length) + (if L = [] then 0 else 1)
  let Z : Env → Prop := fun e => ∃ (t : Nat) (kv : List (Int × Int)) (L : List Int) (j5 j6 j7 j8 : Option OV), e = cE n a q kv L j5 j6 j7 j8 ∧ Found ds a t (fun _ => False) kv [] ∧ ∀ s y, ball ds a s y → ball ds a t y
  have turn : ∀ m e, I m e → (∃ e1, mPeek 4 ovTru e = some (.ok false e1) ∧ Z e1) ∨ ∃ e1 e2 m', mPeek 4 ovTru e = some (.ok true e1) ∧ (lp e1 = some (.ok .nx e2) ∨ lp e1 = some (.ok .ct e2)) ∧ m' < m ∧ I m' e2 := by
    rintro m e ⟨t, kv, L, j5, j6, j7, j8, rfl, f, hL, rfl⟩
    by_cases hLe : L = []
    · subst hLe
      refine .inl ⟨cE n a q kv [] j5 j6 j7 j8, by simp [cE, mPeek_app], t, kv, [], j5, j6, j7, j8, rfl, f, ball_stop fun x hx => ?_⟩
      have := (hL x).mpr hx
      cases this
    · have hne : L.isEmpty = false := by cases L with | nil => exact absurd rfl hLe | cons => rfl
      obtain ⟨kv', later', j6', j7', j8', h1, f', hlen⟩ := layer_run (n := n) (j6 := j6) (j7 := j7) (j8 := j8) hq hl f hL
      have hsm := keys_small f' fun y ⟨x, _, he⟩ => ⟨x, he⟩
      have f2 : Found ds a (t + 1) (fun _ => False) kv' [] := by
        refine ⟨f'.nd, fun y => ?_, f'.val, fun y => ⟨fun h => (by cases h), fun h => h.1.elim⟩⟩
        rw [f'.keys, ball_step]
        constructor
        · rintro (h | ⟨x, hx, he⟩)
          · exact .inl (.inl h)
          · exact .inl (.inr ⟨x, (hL x).mp hx, he⟩)
        · rintro ((h | ⟨x, hx, he⟩) | h)
          · exact .inl h
          · exact .inr ⟨x, (hL x).mpr hx, he⟩
          · exact h.elim
      have hL2 : ∀ x, x ∈ later' ↔ dist ds a x (t + 1) := fun y => by
        rw [f'.later]
        constructor
        · rintro ⟨⟨x, hx, he⟩, hb⟩
          exact ⟨.inr ⟨x, ((hL x).mp hx).1, he⟩, fun s hs z => hb (ball_mono (by omega) z)⟩
        · intro h
          have hb : ¬ ball ds a t y := h.2 t (by omega)
          rcases ball_step.mp h.1 with z | ⟨x, hx, he⟩
          · exact absurd z hb
          · exact ⟨⟨x, (hL x).mpr hx, he⟩, hb⟩
      refine .inr ⟨cE n a q kv L j5 j6 j7 j8, cE n a q kv' later' (some (.d (.list (later'.map .int)))) j6' j7' j8', 2 * (ds.length + 1 - kv'.length) + (if later' = [] then 0 else 1), by simp [cE, mPeek_app, hLe], .inl ?_, ?_, t + 1, kv', later', _, _, _, _, rfl, f2, hL2, rfl⟩
      · have e1 : (cE n a q kv L j5 j6 j7 j8).set 5 (some (.lst [])) = cE n a q kv L (some (.lst [])) j6 j7 j8 := rfl
        show mThen (mSet 5 (mLst (pure []))) (mThen (mFor (mItems (dV 4)) (gN 6) (mFor (mItems (dV 1)) (gT 2 (gsCons (gN 7) (gsCons (gN 8) (gsNil)))) cBody)) (mSet 4 (dat (frz (mFrz 5))))) _ = _
        rw [mThen_at, mSet_at, mLst_at (xs := []) (e1 := cE n a q kv L j5 j6 j7 j8) rfl (Nat.zero_le _), aT_ok, e1, aT_ok, fThen_nx, mThen_at, h1, aT_ok, fThen_nx]
        simp [cE, mFrz_app]
      · rw [if_neg hLe]
        by_cases hl' : later' = []
        · rw [if_pos hl']
          rw [hl'] at hlen
          simp only [List.length_nil] at hlen
          omega
        · rw [if_neg hl']
          have : 0 < later'.length := List.length_pos_iff.mpr hl'
          omega
  have h0 : I (2 * (ds.length + 1 - 1) + 1) (cE n a q [(a, 0)] [a] none none none none) := by
    refine ⟨0, [(a, 0)], [a], none, none, none, none, rfl, ⟨by simp, fun y => ?_, fun p hp => ?_, fun y => ⟨fun h => (by cases h), fun h => h.1.elim⟩⟩, fun x => ?_, by simp⟩
    · simp [ball]
    · rw [List.mem_singleton.mp hp]
      exact ⟨0, rfl, rfl, fun s hs => by omega⟩
    · rw [List.mem_singleton]
      exact ⟨fun h => ⟨h, fun s hs => by omega⟩, fun h => h.1⟩
  obtain ⟨e', h1, t, kv, L, j5, j6, j7, j8, rfl, f, hs⟩ := mWhile_inv (t := mPeek 4 ovTru) (b := lp) I Z turn h0
  refine ⟨kv, t, Fd.rt ⟨(cE n a q kv L j5 j6 j7 j8).set 3 none, ?_⟩, f.nd, fun y => ?_, f.val, hs⟩
  · have e0 : mPar 3 4 (mDict1 (dV 2) (dC (.int 0))) (dat (frz (mLst (mCons (dV 2) (pure []))))) (dEnv [.int n, q, .int a] ++ List.replicate (9 - 3) none) = some (.ok .nx (cE n a q [(a, 0)] [a] none none none none)) := by
      have hz : (1 : Nat) ≤ sizeLine := fits (by omega)
      simp [dEnv, dV_app, cE, encK]
      rw [mLst_at (xs := [.int a]) (e1 := [some (.d (.int n)), some (.d q), some (.d (.int a)), none, none, none, none, none, none]) (by simp [dV_app]) (by simpa using hz)]
      simp
    show mThen (mPar 3 4 (mDict1 (dV 2) (dC (.int 0))) (dat (frz (mLst (mCons (dV 2) (pure [])))))) (mThen (mWhile (mPeek 4 ovTru) lp) (mRet (mMove 3))) _ = _
    rw [mThen_at, e0, aT_ok, fThen_nx, mThen_at, h1, aT_ok, fThen_nx]
    simp [cE, mMove_app]
  · rw [f.keys]
    simp
end TL
set_option Elab.async false
set_option linter.all false
set_option maxRecDepth 100000
namespace TL
open PySem PySem.Spec PyProof.Rows L2
/-! ### ways -/
inductive Reach (ds : List (Int × Int)) : Int → Int → Prop
  | refl (x : Int) : Reach ds x x
  | step {x y z : Int} : Reach ds x y → (y, z) ∈ ds → Reach ds x z
theorem Reach.trans {ds : List (Int × Int)} {x y z : Int} (h : Reach ds x y) (k : Reach ds y z) : Reach ds x z := by
  induction k with
  | refl => exact h
  | step _ e ih => exact .step ih e
theorem Reach.one {ds : List (Int × Int)} {x y : Int} (h : (x, y) ∈ ds) : Reach ds x y := .step (.refl x) h
def swp (p : Int × Int) : Int × Int := (p.2, p.1)
theorem mem_swp {ds : List (Int × Int)} {x y : Int} : (x, y) ∈ ds.map swp ↔ (y, x) ∈ ds := by
  constructor
  · intro h
    obtain ⟨⟨a, b⟩, h1, h2⟩ := List.mem_map.mp h
    cases h2
    exact h1
  · exact fun h => List.mem_map.mpr ⟨(y, x), h, rfl⟩
theorem Reach.back {ds es : List (Int × Int)} (hs : ∀ x y, (x, y) ∈ ds → (y, x) ∈ es) {x y : Int} (h : Reach ds x y) : Reach es y x := by
  induction h with
  | refl => exact .refl _
  | step _ e ih => exact (Reach.one (hs _ _ e)).trans ih
theorem Reach.mono {ds es : List (Int × Int)} (hs : ∀ x y, (x, y) ∈ ds → Reach es x y) {x y : Int} (h : Reach ds x y) : Reach es x y := by
  induction h with
  | refl => exact .refl _
  | step _ e ih => exact ih.trans (hs _ _ e)
theorem Reach.of_ball {ds : List (Int × Int)} {a : Int} : ∀ {t : Nat} {y : Int}, ball ds a t y → Reach ds a y
  | 0, y, h => by rw [show y = a from h]; exact .refl a
  | t + 1, y, h => by
    rcases h with h | ⟨x, h1, h2⟩
    · exact Reach.of_ball h
    · exact .step (Reach.of_ball h1) h2
theorem Reach.ball {ds : List (Int × Int)} {a y : Int} (h : Reach ds a y) : ∃ t, ball ds a t y := by
  induction h with
  | refl => exact ⟨0, rfl⟩
  | step _ e ih =>
    obtain ⟨t, h⟩ := ih
    exact ⟨t + 1, .inr ⟨_, h, e⟩⟩
def inN (n y : Int) : Prop := 0 ≤ y ∧ y < n
instance (n y : Int) : Decidable (inN n y) := inferInstanceAs (Decidable (_ ∧ _))
theorem Reach.inN {ds : List (Int × Int)} {n : Int} (hd : ∀ p ∈ ds, inN n p.1 ∧ inN n p.2) {x y : Int} (h : Reach ds x y) (hx : inN n x) : inN n y := by
  induction h with
  | refl => exact hx
  | step _ e _ => exact (hd _ e).2
/-- each hall can be reached from each -/
def SC (n : Int) (ds : List (Int × Int)) : Prop := ∀ x y, inN n x → inN n y → Reach ds x y
theorem SC.of0 {n : Int} {ds es : List (Int × Int)} (hs : ∀ x y, (x, y) ∈ es ↔ (y, x) ∈ ds) (h1 : ∀ y, inN n y → Reach ds 0 y) (h2 : ∀ y, inN n y → Reach es 0 y) : SC n ds := fun x y hx hy =>
  ((h2 x hx).back (es := ds) (fun a b h => (hs a b).mp h)).trans (h1 y hy)
def rangeI (n : Int) : List Int := (List.range n.toNat).map fun (k : Nat) => (k : Int)
theorem mem_rangeI {n y : Int} : y ∈ rangeI n ↔ inN n y := by
  unfold rangeI inN
  rw [List.mem_map]
  constructor
  · rintro ⟨k, h, rfl⟩
    rw [List.mem_range] at h
    omega
  · intro h
    exact ⟨y.toNat, List.mem_range.mpr (by omega), by omega⟩
theorem rangeI_len (n : Int) : (rangeI n).length = n.toNat := by unfold rangeI; simp
theorem rangeI_nodup (n : Int) : (rangeI n).Nodup := by
  unfold rangeI
  rw [List.nodup_iff_pairwise_ne, List.pairwise_map]
  exact List.nodup_iff_pairwise_ne.mp (List.nodup_range) |>.imp fun h e => h (by omega)
/-- a list of unlike halls holds all of them just if it is as long -/
theorem full_iff {n : Int} (hn : 0 ≤ n) {l : List Int} (h : l.Nodup) (hl : ∀ y ∈ l, inN n y) : (l.length : Int) = n ↔ ∀ y, inN n y → y ∈ l := by
  have h1 : l.length ≤ n.toNat := by
    rw [← rangeI_len]
    exact nodup_le h fun y hy => mem_rangeI.mpr (hl y hy)
  constructor
  · intro e y hy
    apply Decidable.byContradiction
    intro hc
    have : (y :: l).length ≤ (rangeI n).length := nodup_le (List.nodup_cons.mpr ⟨hc, h⟩) fun z hz => by
      rcases List.mem_cons.mp hz with rfl | hz
      · exact mem_rangeI.mpr hy
      · exact mem_rangeI.mpr (hl z hz)
    rw [rangeI_len, List.length_cons] at this
    omega
  · intro ha
    have : (rangeI n).length ≤ l.length := nodup_le (rangeI_nodup n) fun y hy => ha y (mem_rangeI.mp hy)
    rw [rangeI_len] at this
    omega
/-! ### comprehensions over doors -/
theorem comp_doors {i j : Nat} {mi : M (List PyData)} {t : M Bool} {elt : M PyData} {e env : Env} {ds : List (Int × Int)} (f : Int × Int → Option PyData) (hi : mi e = some (.ok (ds.map pairD) env)) (hf : [i, j].all (flatAt env) = true) (hl : ds.length ≤ 1000)
    (hb : ∀ p ∈ ds, ∃ e3, compT (gT 2 (gsCons (gN i) (gsCons (gN j) (gsNil)))) t elt (pairD p) (wipeE env [i, j]) = some (.ok (f p) e3) ∧ wipeE e3 [i, j] = wipeE env [i, j]) :
    mComp [i, j] mi (gT 2 (gsCons (gN i) (gsCons (gN j) (gsNil)))) t elt e = some (.ok (.lst (ds.filterMap f)) env) := by
  rw [mComp_run (xs := ds.map pairD) (fun x => match x with | .tuple [.int a, .int b] => f (a, b) | _ => none) hi hf (fits (by simpa using hl))]
  · rw [List.filterMap_map]
    rfl
  · intro x hx
    obtain ⟨p, hp, rfl⟩ := List.mem_map.mp hx
    exact hb p hp
theorem all_doors {i : Nat} {mi : M (List PyData)} {elt : M OV} {e env : Env} {ds : List (Int × Int)} (f : Int × Int → Bool) (hi : mi e = some (.ok (ds.map pairD) env)) (hf : [i].all (flatAt env) = true)
    (hb : ∀ p ∈ ds, ∃ e3, allT (gN i) elt (pairD p) (wipeE env [i]) = some (.ok (f p) e3) ∧ wipeE e3 [i] = wipeE env [i]) :
    mAll [i] mi (gN i) elt e = some (.ok (.d (.bool (ds.all f))) env) := by
  rw [mAll_run (xs := ds.map pairD) (fun x => match x with | .tuple [.int a, .int b] => f (a, b) | _ => false) hi hf]
  · rw [List.all_map]
    rfl
  · intro x hx
    obtain ⟨p, hp, rfl⟩ := List.mem_map.mp hx
    exact hb p hp
/-! ### is_joined, run -/
@[simp] theorem gLen_dct (kv : List (Int × PyData)) : gLen (.dct kv) = some (.d (.int kv.length)) := rfl
@[simp] theorem gLen_t (xs : List PyData) : gLen (.d (.tuple xs)) = some (.d (.int xs.length)) := rfl
@[simp] theorem gLen_l (xs : List PyData) : gLen (.d (.list xs)) = some (.d (.int xs.length)) := rfl
@[simp] theorem gLen_o (xs : List PyData) : gLen (.lst xs) = some (.d (.int xs.length)) := rfl
@[simp] theorem encK_len (kv : List (Int × Int)) : (encK kv).length = kv.length := by unfold encK; simp
theorem come_full {n : Int} {q : PyData} {ds : List (Int × Int)} (hq : IsDoors q ds) (hl : ds.length ≤ 1000) (hn : 1 ≤ n) (hd : ∀ p ∈ ds, inN n p.1 ∧ inN n p.2) :
    ∃ kv, Fd f_come_to [.int n, q, .int 0] (.dct (encK kv)) ∧ ((kv.length : Int) = n ↔ ∀ y, inN n y → Reach ds 0 y) := by
  obtain ⟨kv, t, F, nd, keys, val, st⟩ := come_to_run (n := n) (a := 0) hq hl
  have hr : ∀ y, y ∈ kv.map (·.1) ↔ Reach ds 0 y := fun y => by
    rw [keys]
    exact ⟨Reach.of_ball, fun h => by obtain ⟨s, hs⟩ := h.ball; exact st s y hs⟩
  refine ⟨kv, F, ?_⟩
  have := full_iff (n := n) (by omega) nd fun y hy => ((hr y).mp hy).inN hd ⟨by omega, by omega⟩
  rw [List.length_map] at this
  rw [this]
  exact ⟨fun h y hy => (hr y).mp (h y hy), fun h y hy => (hr y).mpr (h y hy)⟩
theorem is_joined_run {n : Int} {ds : List (Int × Int)} (hn : 1 ≤ n) (hd : ∀ p ∈ ds, inN n p.1 ∧ inN n p.2) (hl : ds.length ≤ 1000) : ∃ b, Fd f_is_joined [.int n, .tuple (ds.map pairD)] (.d (.bool b)) ∧ (b = true ↔ SC n ds) := by
  obtain ⟨kv1, F1, h1⟩ := come_full (q := .tuple (ds.map pairD)) (.inl rfl) hl hn hd
  obtain ⟨kv2, F2, h2⟩ := come_full (n := n) (q := .list ((ds.map swp).map pairD)) (.inr rfl) (by simpa using hl) hn (fun p hp => by
    obtain ⟨r, hr, rfl⟩ := List.mem_map.mp hp
    exact ⟨(hd r hr).2, (hd r hr).1⟩)
  refine ⟨decide ((kv1.length : Int) = n) && decide ((kv2.length : Int) = n), Fd.rt ⟨[some (.d (.int n)), some (.d (.tuple (ds.map pairD))), some (.d (.list ((ds.map swp).map pairD))), none, none], ?_⟩, ?_⟩
  · have hc : mComp [3, 4] (mItems (dV 1)) (gT 2 (gsCons (gN 3) (gsCons (gN 4) (gsNil)))) (pure true) (frz (mTup (mCons (dV 4) (mCons (dV 3) (pure []))))) [some (.d (.int n)), some (.d (.tuple (ds.map pairD))), none, none, none] = some (.ok (.lst ((ds.map swp).map pairD)) [some (.d (.int n)), some (.d (.tuple (ds.map pairD))), none, none, none]) := by
      rw [comp_doors (env := [some (.d (.int n)), some (.d (.tuple (ds.map pairD))), none, none, none]) (ds := ds) (fun p => some (pairD (swp p))) (mItems_t (by simp [dV_app])) rfl hl]
      · simp [List.filterMap_eq_map', Function.comp_def]
      · intro p hp
        refine ⟨[some (.d (.int n)), some (.d (.tuple (ds.map pairD))), none, some (.d (.int p.1)), some (.d (.int p.2))], ?_, rfl⟩
        simp [compT, wipeE, pairD, swp]
        rw [mTup_at (xs := [.int p.2, .int p.1]) (e1 := [some (.d (.int n)), some (.d (.tuple (ds.map pairD))), none, some (.d (.int p.1)), some (.d (.int p.2))]) (by simp [dV_app]) (fits (by simp))]
        simp
    have hb : (dEnv [.int n, .tuple (ds.map pairD)] ++ List.replicate (5 - 2) none) = [some (.d (.int n)), some (.d (.tuple (ds.map pairD))), none, none, none] := rfl
    rw [hb]
    unfold b_is_joined
    rw [mThen_at, mSet_at, dat_at, frz_at, hc]
    by_cases c : (kv1.length : Int) = n
    · simp [-List.map_map, dV_app, mCall3_at (mf := f_come_to) fnM_len, F1.call, F2.call, c]
    · simp [-List.map_map, dV_app, mCall3_at (mf := f_come_to) fnM_len, F1.call, F2.call, c]
  · rw [Bool.and_eq_true_iff, decide_eq_true_iff, decide_eq_true_iff, h1, h2]
    constructor
    · rintro ⟨a, b⟩
      exact SC.of0 (fun x y => mem_swp) a b
    · intro s
      refine ⟨fun y hy => s 0 y ⟨by omega, by omega⟩ hy, fun y hy => (s y 0 hy ⟨by omega, by omega⟩).back fun a b h => mem_swp.mpr h⟩
end TL
set_option Elab.async false
set_option linter.all false
set_option maxRecDepth 100000
namespace TL
open PySem PySem.Spec PyProof.Rows L2
/-! ### is_house and its like, run -/
def plt (p q : Int × Int) : Prop := p.1 < q.1 ∨ (p.1 = q.1 ∧ p.2 < q.2)
instance (p q : Int × Int) : Decidable (plt p q) := inferInstanceAs (Decidable (_ ∨ _))
theorem plt.trans {p q r : Int × Int} (h : plt p q) (k : plt q r) : plt p r := by unfold plt at *; omega
def chainB : List (Int × Int) → Bool
  | p :: q :: r => decide (plt p q) && chainB (q :: r)
  | _ => true
theorem chainB_iff : ∀ {ds : List (Int × Int)}, chainB ds = true ↔ ds.Pairwise plt
  | [] => by simp [chainB]
  | [p] => by simp [chainB]
  | p :: q :: r => by
    rw [chainB, Bool.and_eq_true_iff, decide_eq_true_iff, chainB_iff (ds := q :: r), List.pairwise_cons (l := q :: r)]
    constructor
    · rintro ⟨h1, h2⟩
      refine ⟨fun z hz => ?_, h2⟩
      rcases List.mem_cons.mp hz with rfl | hz
      · exact h1
      · exact h1.trans ((List.pairwise_cons.mp h2).1 z hz)
    · rintro ⟨h1, h2⟩
      exact ⟨h1 q List.mem_cons_self, h2⟩
def pltD : PyData → Bool
  | .tuple [.tuple [.int a, .int b], .tuple [.int c, .int d]] => decide (plt (a, b) (c, d))
  | _ => false
theorem zip_chain : ∀ (ds : List (Int × Int)), (zipD (ds.map pairD) (ds.map pairD).tail).all pltD = chainB ds
  | [] => rfl
  | [p] => rfl
  | p :: q :: r => by
    show (pltD (.tuple [pairD p, pairD q]) && (zipD ((q :: r).map pairD) ((q :: r).map pairD).tail).all pltD) = _
    rw [zip_chain (q :: r)]
    rfl
theorem cutD_tail (xs : List PyData) : cutD xs (some 1) none = xs.tail := by
  unfold cutD
  rw [HT.sIx_none, show HT.sIx xs.length 0 (some 1) = min 1 xs.length from HT.sIx_nat xs.length 0 1]
  cases xs with
  | nil => rfl
  | cons x xs =>
    rw [show min 1 (x :: xs).length = 1 by rw [List.length_cons]; omega, List.drop_one, List.tail_cons, List.take_of_length_le (by simp)]
theorem gLt_pair (p q : Int × Int) : gLt (pairD p) (pairD q) = some (.d (.bool (decide (plt p q)))) := by
  show (if _ then some (OV.d (.bool (PySem.W.dataLt (.tuple [.int p.1, .int p.2]) (.tuple [.int q.1, .int q.2])))) else none) = _
  have hc : (PySem.W.alike (pairD p) (pairD q) && (!isNone (pairD p) && okD (pairD p))) = true := by rfl
  rw [if_pos hc, PySem.W.dataLt_ii]
  rfl
theorem pltD_pair (p q : Int × Int) : pltD (.tuple [pairD p, pairD q]) = decide (plt p q) := rfl
theorem mZip_t {a b : M PyData} {e e1 e2 : Env} {xs ys : List PyData} (h1 : a e = some (.ok (.tuple xs) e1)) (h2 : b e1 = some (.ok (.tuple ys) e2)) : mZip a b e = some (.ok (zipD xs ys) e2) := by
  show Out.andThen (a e) _ = _
  rw [h1]
  show Out.andThen (b e1) _ = _
  rw [h2]
  rfl
theorem mSlice_t1 {m : M PyData} {e e1 : Env} {xs : List PyData} (h1 : m e = some (.ok (.tuple xs) e1)) : mSlice m (some (dC (.int 1))) none e = some (.ok (.d (.tuple xs.tail)) e1) := by
  show Out.andThen (m e) _ = _
  rw [h1, ← cutD_tail]
  rfl
theorem zip_mem {ds : List (Int × Int)} {x : PyData} (h : x ∈ zipD (ds.map pairD) (ds.map pairD).tail) : ∃ p q, x = .tuple [pairD p, pairD q] := by
  obtain ⟨i, hi⟩ := List.getElem?_of_mem h
  obtain ⟨y, z, h1, h2, rfl⟩ := zipD_get hi
  obtain ⟨p, _, rfl⟩ := List.mem_map.mp (List.mem_of_getElem? h1)
  obtain ⟨q, _, rfl⟩ := List.mem_map.mp (List.mem_of_mem_tail (List.mem_of_getElem? h2))
  exact ⟨p, q, rfl⟩
/-- a house as data -/
def houseD (n : Int) (ds : List (Int × Int)) : PyData := .tuple [.int n, .tuple (ds.map pairD)]
structure Good (n : Int) (ds : List (Int × Int)) : Prop where
  lo : 1 ≤ n
  hi : n ≤ 10
  ok : ∀ p ∈ ds, inN n p.1 ∧ inN n p.2 ∧ p.1 ≠ p.2
  srt : ds.Pairwise plt
  sc : SC n ds
  len : ds.length ≤ 1000
theorem doorOk_iff {n : Int} {p : Int × Int} : doorOk n p = true ↔ inN n p.1 ∧ inN n p.2 ∧ p.1 ≠ p.2 := by
  unfold doorOk inR inN
  simp only [Bool.and_eq_true, decide_eq_true_eq, Bool.not_eq_true', decide_eq_false_iff_not]
  omega
def word (b : Bool) : PyData := if b then .none else .str "doors"
theorem isNone_word (b : Bool) : isNone (word b) = b := by cases b <;> rfl
theorem wrong_part_run {n : Int} {ds : List (Int × Int)} (h1 : 1 ≤ n) (h2 : n ≤ 10) (hl : ds.length ≤ 1000) : ∃ b, Fd f_wrong_part [houseD n ds] (.d (word b)) ∧ (b = true ↔ Good n ds) := by
  let E (o3 : Option OV) : Env := [some (.d (houseD n ds)), some (.d (.int n)), some (.d (.tuple (ds.map pairD))), o3, none, none]
  have ha : mAll [3] (mItems (dV 2)) (gN 3) (mCall (.d (dV 1) :: .d (dV 3) :: []) f_is_door) (E none) = some (.ok (.d (.bool (ds.all (doorOk n)))) (E none)) := by
    refine all_doors (doorOk n) (mItems_t (by simp [dV_app, E])) rfl fun p hp => ⟨E (some (.d (pairD p))), ?_, rfl⟩
    simp [allT, wipeE, E, mCall2_at (mf := f_is_door) fnM_len, dV_app, (is_door_run n p).call]
  have hz : mAll [4, 5] (mZip (dV 2) (frz (mSlice (dV 2) (some (dC (.int 1))) none))) (gT 2 (gsCons (gN 4) (gsCons (gN 5) (gsNil)))) (mBin gLt (dV 4) (dV 5)) (E none) = some (.ok (.d (.bool (chainB ds))) (E none)) := by
    rw [← zip_chain]
    refine mAll_run pltD ?_ rfl fun x hx => ?_
    · have e2 : dV 2 (E none) = some (.ok (.tuple (ds.map pairD)) (E none)) := rfl
      refine mZip_t e2 ?_
      rw [frz_at, mSlice_t1 e2]
      rfl
    · obtain ⟨p, q, rfl⟩ := zip_mem hx
      refine ⟨[some (.d (houseD n ds)), some (.d (.int n)), some (.d (.tuple (ds.map pairD))), none, some (.d (pairD p)), some (.d (pairD q))], ?_, rfl⟩
      simp [allT, wipeE, E, dV_app, gLt_pair, pltD_pair]
  have hstart : (dEnv [houseD n ds] ++ List.replicate (6 - 1) none) = [some (.d (houseD n ds)), none, none, none, none, none] := rfl
  have hnum : (decide (1 ≤ n) && decide (n ≤ 10)) = true := by simp [h1, h2]
  have hnum2 := is_number_int n 1 10
  rw [hnum] at hnum2
  have hgo : ∀ {r : OV} (e : Env), (mThen (mIf (mOr (mNot (mTru (mIsI "tuple" (dV 2)))) (mNot (mTru (mAll [3] (mItems (dV 2)) (gN 3) (mCall (.d (dV 1) :: .d (dV 3) :: []) f_is_door))))) (mRet (dat (dC (.str "doors")))) (pure .nx))
      (mThen (mIf (mOr (mNot (mTru (mAll [4, 5] (mZip (dV 2) (frz (mSlice (dV 2) (some (dC (.int 1))) none))) (gT 2 (gsCons (gN 4) (gsCons (gN 5) (gsNil)))) (mBin gLt (dV 4) (dV 5))))) (mNot (mTru (mCall (.d (dV 1) :: .d (dV 2) :: []) f_is_joined)))) (mRet (dat (dC (.str "doors")))) (pure .nx))
      (mRet (dat (dC .none))))) (E none) = some (.ok (.rt r) e) → b_wrong_part (dEnv [houseD n ds] ++ List.replicate (6 - 1) none) = some (.ok (.rt r) e) := by
    intro r e h
    rw [hstart]
    unfold b_wrong_part
    simp only [houseD, mThen_at, mIf_at, mOr_at, mNot_at, mTru_at, mIsI_at, dV_app, List.getElem?_cons_zero, List.getElem?_cons_succ, aT_ok, tyIs_tuple_tuple, Option.map_some, opt_some_at, ovTru_b, pure_at', Bool.not_true, Bool.false_eq_true, if_false, asB_at, mBin_at, frz_at, mPeek_app, gLen_t, List.length_cons, List.length_nil, dat_d, bind_at', dC_at, gNe_int, boolOf_b, mAsg_at, setBy_at, gT2_at, gsCons_at, gN_at, gsNil_at, fThen_nx, mCall3_at (mf := f_is_number) fnM_len, List.set_cons_succ, List.set_cons_zero, hnum2.call]
    simp only [mThen_at, mIf_at, mOr_at, mNot_at, mTru_at, houseD, E] at h
    simpa [hnum2.call, dV_app, mCall3_at (mf := f_is_number) fnM_len] using h
  by_cases c1 : ds.all (doorOk n) = true
  · have hd : ∀ p ∈ ds, inN n p.1 ∧ inN n p.2 ∧ p.1 ≠ p.2 := fun p hp => doorOk_iff.mp (List.all_eq_true.mp c1 p hp)
    obtain ⟨b, hj, hb⟩ := is_joined_run h1 (fun p hp => ⟨(hd p hp).1, (hd p hp).2.1⟩) hl
    refine ⟨chainB ds && b, Fd.rt ⟨E none, hgo _ ?_⟩, ?_⟩
    · have e1 : dV 1 (E none) = some (.ok (.int n) (E none)) := rfl
      have e2 : dV 2 (E none) = some (.ok (.tuple (ds.map pairD)) (E none)) := rfl
      simp [ha, hz, c1, e1, e2]
      cases chainB ds
      · simp [word]
      · simp [mCall2_at (mf := f_is_joined) fnM_len, e1, e2, hj.call]
        cases b <;> simp [word]
    · rw [Bool.and_eq_true_iff, chainB_iff, hb]
      exact ⟨fun ⟨a, b⟩ => ⟨h1, h2, hd, a, b, hl⟩, fun g => ⟨g.srt, g.sc⟩⟩
  · refine ⟨false, Fd.rt ⟨E none, hgo _ ?_⟩, ?_⟩
    · have e2 : dV 2 (E none) = some (.ok (.tuple (ds.map pairD)) (E none)) := rfl
      simp [ha, c1, e2, word]
    · refine ⟨fun h => (by cases h), fun g => absurd ?_ c1⟩
      exact List.all_eq_true.mpr fun p hp => doorOk_iff.mpr (g.ok p hp)
end TL
set_option Elab.async false
set_option linter.all false
set_option maxRecDepth 100000
namespace TL
open PySem PySem.Spec PyProof.Rows L2
@[simp] theorem mIxT_at (m : M OV) (j : Nat) (e : Env) : mIxT m j e = Out.andThen (m e) fun v => dV j >>= fun y => M.opt (gIxD y v) := rfl
/-! ### plain data -/
def OkN (d : Nat) (x : PyData) : Prop := x.plain = true ∧ x.depth ≤ d
theorem OkN.ok {d : Nat} {x : PyData} (h : OkN d x) (hd : d ≤ 64) : okD x = true := by
  unfold okD
  rw [h.1, Bool.true_and, decide_eq_true_iff]
  exact Nat.le_trans h.2 hd
theorem okN_none {d : Nat} : OkN d .none := ⟨rfl, Nat.zero_le _⟩
theorem okN_int {d : Nat} (i : Int) : OkN d (.int i) := ⟨rfl, Nat.zero_le _⟩
theorem okN_bool {d : Nat} (b : Bool) : OkN d (.bool b) := ⟨rfl, Nat.zero_le _⟩
theorem okN_str {d : Nat} (b : Str) : OkN d (.str b) := ⟨rfl, Nat.zero_le _⟩
theorem okN_all {d : Nat} : ∀ {xs : List PyData}, (∀ x ∈ xs, OkN d x) → PyData.plainAll xs = true ∧ PyData.depthAll xs ≤ d
  | [], _ => ⟨rfl, Nat.zero_le _⟩
  | x :: xs, h => by
    obtain ⟨h1, h2⟩ := okN_all (xs := xs) fun y hy => h y (List.mem_cons_of_mem _ hy)
    obtain ⟨h3, h4⟩ := h x List.mem_cons_self
    exact ⟨by rw [PyData.plainAll, h3, h1]; rfl, by rw [PyData.depthAll]; omega⟩
theorem okN_tuple {d : Nat} {xs : List PyData} (h : ∀ x ∈ xs, OkN d x) : OkN (d + 1) (.tuple xs) := by
  obtain ⟨h1, h2⟩ := okN_all h
  exact ⟨by rw [PyData.plain]; exact h1, by rw [PyData.depth]; omega⟩
theorem okN_list {d : Nat} {xs : List PyData} (h : ∀ x ∈ xs, OkN d x) : OkN (d + 1) (.list xs) := by
  obtain ⟨h1, h2⟩ := okN_all h
  exact ⟨by rw [PyData.plain]; exact h1, by rw [PyData.depth]; omega⟩
theorem okN_pair {d : Nat} (p : Int × Int) : OkN (d + 1) (pairD p) := okN_tuple fun x hx => by
  simp only [List.mem_cons, List.not_mem_nil, or_false] at hx
  rcases hx with rfl | rfl <;> exact okN_int _
theorem okN_house {d : Nat} (n : Int) (ds : List (Int × Int)) : OkN (d + 3) (houseD n ds) := okN_tuple fun x hx => by
  simp only [List.mem_cons, List.not_mem_nil, or_false] at hx
  rcases hx with rfl | rfl
  · exact okN_int _
  · refine okN_tuple fun x hx => ?_
    obtain ⟨p, _, rfl⟩ := List.mem_map.mp hx
    exact okN_pair p
theorem gEq_ok {d : Nat} {x y : PyData} (hx : OkN d x) (hy : OkN d y) (hd : d ≤ 64) : gEq x y = some (.d (.bool (PyData.eqv x y))) := by
  unfold gEq
  rw [hx.ok hd, hy.ok hd]
  rfl
theorem gNe_ok {d : Nat} {x y : PyData} (hx : OkN d x) (hy : OkN d y) (hd : d ≤ 64) : gNe x y = some (.d (.bool (!PyData.eqv x y))) := by
  unfold gNe
  rw [hx.ok hd, hy.ok hd]
  rfl
/-! ### sorted lists of doors -/
def sortP (ps : List (Int × Int)) : List (Int × Int) := ps.mergeSort pairLe
theorem dSort_pairs (ps : List (Int × Int)) : dSort (ps.map pairD) = (sortP ps).map pairD := by
  unfold dSort sortP
  rw [List.map_mergeSort]
  intro p _ q _
  have := congrFun (congrFun (PySem.W.dataLe_ii (β := Int × Int) (·.1) (·.2)) p) q
  exact this.symm
theorem srtB_pairs (ps : List (Int × Int)) : srtB (ps.map pairD) = true := by
  unfold srtB alikeB
  rw [Bool.and_eq_true_iff, Bool.and_eq_true_iff, Bool.or_eq_true_iff]
  refine ⟨List.all_eq_true.mpr fun x hx => List.all_eq_true.mpr fun y hy => ?_, .inl (List.all_eq_true.mpr fun x hx => ?_), List.all_eq_true.mpr fun x hx => ?_⟩
  · obtain ⟨p, _, rfl⟩ := List.mem_map.mp hx
    obtain ⟨q, _, rfl⟩ := List.mem_map.mp hy
    rfl
  · obtain ⟨p, _, rfl⟩ := List.mem_map.mp hx
    rfl
  · obtain ⟨p, _, rfl⟩ := List.mem_map.mp hx
    exact decide_eq_true (Nat.le_trans (okN_pair (d := 0) p).2 (by omega))
theorem gSorted_pairs (ps : List (Int × Int)) : gSorted (.lst (ps.map pairD)) = some (.lst ((sortP ps).map pairD)) := by
  show (if srtB (ps.map pairD) then some (OV.lst (dSort (ps.map pairD))) else none) = _
  rw [if_pos (srtB_pairs ps), dSort_pairs]
theorem gSorted_pairsL (ps : List (Int × Int)) : gSorted (.d (.list (ps.map pairD))) = some (.lst ((sortP ps).map pairD)) := by
  show (if srtB (ps.map pairD) then some (OV.lst (dSort (ps.map pairD))) else none) = _
  rw [if_pos (srtB_pairs ps), dSort_pairs]
theorem mem_sortP {ps : List (Int × Int)} {p : Int × Int} : p ∈ sortP ps ↔ p ∈ ps := List.mem_mergeSort
theorem sortP_len (ps : List (Int × Int)) : (sortP ps).length = ps.length := List.length_mergeSort _
theorem plt_of {l : List (Int × Int)} (h : l.Pairwise fun p q => pairLe p q = true) (n : l.Nodup) : l.Pairwise plt := by
  refine (h.and (List.nodup_iff_pairwise_ne.mp n)).imp fun {p q} ⟨h1, h2⟩ => ?_
  unfold pairLe at h1
  rw [decide_eq_true_iff] at h1
  unfold plt
  have : p.1 = q.1 → p.2 ≠ q.2 := fun e1 e2 => h2 (Prod.ext e1 e2)
  omega
theorem sortP_plt {ps : List (Int × Int)} (n : ps.Nodup) : (sortP ps).Pairwise plt := plt_of (List.pairwise_mergeSort pairLe_trans pairLe_total _) ((List.mergeSort_perm _ _).nodup_iff.mpr n)
theorem setP_plt (ps : List (Int × Int)) : (setP ps).Pairwise plt := plt_of (setP_sorted ps) (setP_nodup ps)
theorem plt_nodup {ps : List (Int × Int)} (h : ps.Pairwise plt) : ps.Nodup := by
  rw [List.nodup_iff_pairwise_ne]
  exact h.imp fun {p q} h e => by subst e; unfold plt at h; omega
@[simp] theorem gTuple_o (xs : List PyData) : gTuple (.lst xs) = some (.d (.tuple xs)) := rfl
@[simp] theorem gTuple_l (xs : List PyData) : gTuple (.d (.list xs)) = some (.d (.tuple xs)) := rfl
/-! ### what the program's functions answer at a house -/
section
variable {n : Int} {ds : List (Int × Int)}
theorem is_house_run (h1 : 1 ≤ n) (h2 : n ≤ 10) (hl : ds.length ≤ 1000) : ∃ b, Fd f_is_house [houseD n ds] (.d (.bool b)) ∧ (b = true ↔ Good n ds) := by
  obtain ⟨b, F, h⟩ := wrong_part_run h1 h2 hl
  refine ⟨b, Fd.rt ⟨[some (.d (houseD n ds))], ?_⟩, h⟩
  simp [b_is_house, dEnv, dV_app, mCall1_at (mf := f_wrong_part) fnM_len, F.call, isNone_word]
theorem need_house_run (g : Good n ds) : Fd f_need_house [houseD n ds] (.d .none) := by
  obtain ⟨b, F, h⟩ := wrong_part_run g.lo g.hi g.len
  rw [h.mpr g] at F
  refine Fd.nx ⟨[some (.d (houseD n ds)), some (.d .none)], ?_⟩
  simp [b_need_house, dEnv, dV_app, mCall1_at (mf := f_wrong_part) fnM_len, F.call, word, isNone]
theorem houseD_ix0 : gIx (houseD n ds) (.int 0) = some (.d (.int n)) := gIx_t0 _ _
theorem houseD_ix1 : gIx (houseD n ds) (.int 1) = some (.d (.tuple (ds.map pairD))) := gIx_t1 _ _ _
theorem need_hall_run {x : Int} (hx : inN n x) : Fd f_need_hall [houseD n ds, .int x] (.d .none) := by
  have F := is_number_int x 0 (n - 1)
  rw [show (decide (0 ≤ x) && decide (x ≤ n - 1)) = true by obtain ⟨a, b⟩ := hx; simp; omega] at F
  refine Fd.nx ⟨[some (.d (houseD n ds)), some (.d (.int x))], ?_⟩
  simp [b_need_hall, dEnv, dV_app, mCall3_at (mf := f_is_number) fnM_len, houseD_ix0, F.call]
/-- the halls behind the doors that go out of x -/
def outs (ds : List (Int × Int)) (x : Int) : List PyData := ds.filterMap fun p => if p.1 = x then some (.int p.2) else none
theorem doors_out_run (g : Good n ds) {x : Int} (hx : inN n x) : Fd f_doors_out [houseD n ds, .int x] (.d (.tuple (outs ds x))) := by
  refine Fd.rt ⟨[some (.d (houseD n ds)), some (.d (.int x)), none, none], ?_⟩
  have hc : mComp [2, 3] (mItems (frz (mBin gIx (dV 0) (dC (.int 1))))) (gT 2 (gsCons (gN 2) (gsCons (gN 3) (gsNil)))) (asB (mBin gEq (dV 2) (dV 1))) (dV 3) [some (.d (houseD n ds)), some (.d (.int x)), none, none] = some (.ok (.lst (outs ds x)) [some (.d (houseD n ds)), some (.d (.int x)), none, none]) := by
    refine comp_doors (env := [some (.d (houseD n ds)), some (.d (.int x)), none, none]) (fun p => if p.1 = x then some (.int p.2) else none) (mItems_t (by simp [dV_app, houseD_ix1])) rfl g.len fun p hp => ⟨[some (.d (houseD n ds)), some (.d (.int x)), some (.d (.int p.1)), some (.d (.int p.2))], ?_, rfl⟩
    by_cases c : p.1 = x <;> simp [compT, wipeE, pairD, dV_app, c]
  simp [b_doors_out, dEnv, dV_app, mCall1_at (mf := f_need_house) fnM_len, mCall2_at (mf := f_need_hall) fnM_len, (need_house_run g).call, (need_hall_run (ds := ds) hx).call, hc]
theorem far_run (g : Good n ds) {x y : Int} (hx : inN n x) (hy : inN n y) : ∃ d : Nat, Fd f_far [houseD n ds, .int x, .int y] (.d (.int d)) ∧ dist ds x y d := by
  obtain ⟨kv, t, F, nd, keys, val, st⟩ := come_to_run (n := n) (a := x) (q := .tuple (ds.map pairD)) (.inl rfl) g.len
  obtain ⟨s, hs⟩ := (g.sc x y hx hy).ball
  obtain ⟨p, hp, e⟩ := List.mem_map.mp ((keys y).mpr (st s y hs))
  obtain ⟨d, e2, hd⟩ := val p hp
  rw [e] at hd
  refine ⟨d, Fd.rt ⟨[some (.d (houseD n ds)), some (.d (.int x)), some (.d (.int y))], ?_⟩, hd⟩
  have hkv : kv.lookup y = some (d : Int) := by
    obtain ⟨p1, p2⟩ := p
    simp only at e e2
    subst e e2
    exact mem_lookup' nd hp
  have hix : gIxD (.int y) (.dct (encK kv)) = some (.d (.int d)) := by
    show (look (encK kv) y).map OV.d = _
    rw [look_encK, hkv]
    rfl
  simp [b_far, dEnv, dV_app, mCall1_at (mf := f_need_house) fnM_len, mCall2_at (mf := f_need_hall) fnM_len, mCall3_at (mf := f_come_to) fnM_len, (need_house_run g).call, (need_hall_run (ds := ds) hx).call, (need_hall_run (ds := ds) hy).call, houseD_ix0, houseD_ix1, F.call, hix]
def turnD (ds : List (Int × Int)) : List (Int × Int) := sortP (ds.map swp)
theorem turned_run (g : Good n ds) : Fd f_turned [houseD n ds] (.d (houseD n (turnD ds))) := by
  refine Fd.rt ⟨[some (.d (houseD n ds)), none, none], ?_⟩
  have hc : mComp [1, 2] (mItems (frz (mBin gIx (dV 0) (dC (.int 1))))) (gT 2 (gsCons (gN 1) (gsCons (gN 2) (gsNil)))) (pure true) (frz (mTup (mCons (dV 2) (mCons (dV 1) (pure []))))) [some (.d (houseD n ds)), none, none] = some (.ok (.lst ((ds.map swp).map pairD)) [some (.d (houseD n ds)), none, none]) := by
    rw [comp_doors (env := [some (.d (houseD n ds)), none, none]) (ds := ds) (fun p => some (pairD (swp p))) (mItems_t (by simp [dV_app, houseD_ix1])) rfl g.len]
    · simp [List.filterMap_eq_map', Function.comp_def]
    · intro p hp
      refine ⟨[some (.d (houseD n ds)), some (.d (.int p.1)), some (.d (.int p.2))], ?_, rfl⟩
      simp [compT, wipeE, pairD, swp]
      rw [mTup_at (xs := [.int p.2, .int p.1]) (e1 := [some (.d (houseD n ds)), some (.d (.int p.1)), some (.d (.int p.2))]) (by simp [dV_app]) (fits (by simp))]
      simp
  have ht : mTup (mCons (frz (mBin gIx (dV 0) (dC (.int 0)))) (mCons (frz (mOne gTuple (mOne gSorted (mComp [1, 2] (mItems (frz (mBin gIx (dV 0) (dC (.int 1))))) (gT 2 (gsCons (gN 1) (gsCons (gN 2) (gsNil)))) (pure true) (frz (mTup (mCons (dV 2) (mCons (dV 1) (pure []))))))))) (pure []))) [some (.d (houseD n ds)), none, none] = some (.ok (.d (houseD n (turnD ds))) [some (.d (houseD n ds)), none, none]) := by
    refine mTup_at (xs := [.int n, .tuple ((turnD ds).map pairD)]) ?_ (fits (by simp))
    simp [-List.map_map, dV_app, houseD_ix0, hc, gSorted_pairs, turnD]
  simp [b_turned, dEnv, dV_app, mCall1_at (mf := f_need_house) fnM_len, (need_house_run g).call, ht]
theorem is_two_way_run (g : Good n ds) : Fd f_is_two_way [houseD n ds] (.d (.bool (PyData.eqv (houseD n (turnD ds)) (houseD n ds)))) := by
  refine Fd.rt ⟨[some (.d (houseD n ds))], ?_⟩
  simp [b_is_two_way, dEnv, dV_app, mCall1_at (mf := f_need_house) fnM_len, mCall1_at (mf := f_turned) fnM_len, (need_house_run g).call, (turned_run g).call, gEq_ok (okN_house n (turnD ds)) (okN_house n ds) (Nat.le_refl 64 |> fun h => (by omega : 0 + 3 ≤ 64))]
end
end TL
set_option Elab.async false
set_option linter.all false
set_option maxRecDepth 100000
namespace TL
open PySem PySem.Spec PyProof.Rows L2
/-! ### data of bounded size and depth -/
inductive Tame : Nat → PyData → Prop
  | none {d : Nat} : Tame d .none
  | bool {d : Nat} (b : Bool) : Tame d (.bool b)
  | int {d : Nat} (i : Int) : Tame d (.int i)
  | str {d : Nat} (s : Str) : Tame d (.str s)
  | list {d : Nat} {xs : List PyData} : xs.length ≤ 1000 → (∀ x ∈ xs, Tame d x) → Tame (d + 1) (.list xs)
  | tuple {d : Nat} {xs : List PyData} : xs.length ≤ 1000 → (∀ x ∈ xs, Tame d x) → Tame (d + 1) (.tuple xs)
theorem Tame.okN {d : Nat} {x : PyData} (h : Tame d x) : OkN d x := by
  induction h with
  | none => exact okN_none
  | bool b => exact okN_bool b
  | int i => exact okN_int i
  | str s => exact okN_str s
  | list _ _ ih => exact okN_list ih
  | tuple _ _ ih => exact okN_tuple ih
theorem eqvAll_refl {xs : List PyData} (h : ∀ x ∈ xs, PyData.eqv x x = true) : PyData.eqvAll xs xs = true := by
  induction xs with
  | nil => simp [PyData.eqvAll]
  | cons x xs ih => simp only [PyData.eqvAll, Bool.and_eq_true]; exact ⟨h x List.mem_cons_self, ih fun y hy => h y (List.mem_cons_of_mem _ hy)⟩
theorem Tame.eqv {d : Nat} {x : PyData} (h : Tame d x) : PyData.eqv x x = true := by
  induction h with
  | none => simp [PyData.eqv]
  | bool b => simp [PyData.eqv]
  | int i => simp [PyData.eqv]
  | str s => simp [PyData.eqv]
  | list _ _ ih => rw [PyData.eqv]; exact eqvAll_refl ih
  | tuple _ _ ih => rw [PyData.eqv]; exact eqvAll_refl ih
@[simp] theorem mIsI2_at (T1 T2 : String) (m : M PyData) (e : Env) : mIsI2 T1 T2 m e = Out.andThen (m e) fun x => M.opt (match tyIs x T1, tyIs x T2 with
  | some a, some b => some (.d (.bool (a || b)))
  | _, _ => none) := rfl
def tyNames : List String := ["tuple", "list", "str", "bool", "int"]
theorem tyIs_none : tyIs .none "tuple" = some false ∧ tyIs .none "list" = some false ∧ tyIs .none "str" = some false := by
  refine ⟨?_, ?_, ?_⟩ <;> (show kitB "NoneType" _ = _; decide +kernel)
theorem tyIs_bool (b : Bool) : tyIs (.bool b) "tuple" = some false ∧ tyIs (.bool b) "list" = some false ∧ tyIs (.bool b) "str" = some false ∧ tyIs (.bool b) "int" = some true ∧ tyIs (.bool b) "bool" = some true := by
  refine ⟨?_, ?_, ?_, ?_, ?_⟩ <;> (show kitB "bool" _ = _; decide +kernel)
theorem tyIs_int (i : Int) : tyIs (.int i) "tuple" = some false ∧ tyIs (.int i) "list" = some false ∧ tyIs (.int i) "str" = some false ∧ tyIs (.int i) "int" = some true ∧ tyIs (.int i) "bool" = some false := by
  refine ⟨?_, ?_, ?_, ?_, ?_⟩ <;> (show kitB "int" _ = _; decide +kernel)
theorem tyIs_str (s : Str) : tyIs (.str s) "tuple" = some false ∧ tyIs (.str s) "list" = some false ∧ tyIs (.str s) "str" = some true := by
  refine ⟨?_, ?_, ?_⟩ <;> (show kitB "str" _ = _; decide +kernel)
theorem tyIs_list (xs : List PyData) : tyIs (.list xs) "tuple" = some false ∧ tyIs (.list xs) "list" = some true := by
  refine ⟨?_, ?_⟩ <;> (show kitB "list" _ = _; decide +kernel)
theorem tyIs_tuple (xs : List PyData) : tyIs (.tuple xs) "tuple" = some true ∧ tyIs (.tuple xs) "list" = some false := by
  refine ⟨?_, ?_⟩ <;> (show kitB "tuple" _ = _; decide +kernel)
@[simp] theorem gEq_bool (a b : Bool) : gEq (.bool a) (.bool b) = some (.d (.bool (a == b))) := by
  rw [gEq_ok (okN_bool (d := 0) a) (okN_bool b) (by omega), PyData.eqv]
@[simp] theorem gNe_bool (a b : Bool) : gNe (.bool a) (.bool b) = some (.d (.bool (!(a == b)))) := by
  rw [gNe_ok (okN_bool (d := 0) a) (okN_bool b) (by omega), PyData.eqv]
theorem rngD_mem {n : Nat} {x : PyData} (h : x ∈ rngD 0 n) : ∃ i : Nat, i < n ∧ x = .int (i : Nat) := by
  unfold rngD at h
  obtain ⟨i, h1, rfl⟩ := List.mem_map.mp h
  exact ⟨i, List.mem_range.mp h1, by rw [Int.zero_add]⟩
theorem rngD_len (lo : Int) (n : Nat) : (rngD lo n).length = n := by unfold rngD; simp
/-! ### _law_alike at two equal data -/
theorem alike_comp {f : M OV} (kf : Keeps f) {x : PyData} {xs : List PyData} (hx : x = .list xs ∨ x = .tuple xs) (hl : xs.length ≤ 1000) (hf : ∀ y ∈ xs, Fd f [y, y] (.d (.bool true))) :
    mComp [2] (mRange1 (frz (mPeek 1 gLen))) (gN 2) (mNot (mTru (mCall (.d (frz (mBin gIx (dV 0) (dV 2))) :: .d (frz (mBin gIx (dV 1) (dV 2))) :: []) f))) (dV 2) [some (.d x), some (.d x), none] = some (.ok (.lst []) [some (.d x), some (.d x), none]) := by
  have hlen : gLen (.d x) = some (.d (.int (xs.length : Nat))) := by rcases hx with rfl | rfl <;> rfl
  rw [mComp_run (env := [some (.d x), some (.d x), none]) (xs := rngD 0 xs.length) (fun _ => none)]
  · rw [List.filterMap_eq_nil_iff.mpr fun _ _ => rfl]
  · rw [mRange1_at (j := (xs.length : Nat)) (e1 := [some (.d x), some (.d x), none]) (by simp [mPeek_app, hlen]) (by omega) (by omega)]
    rfl
  · rfl
  · rw [rngD_len]; exact fits hl
  · intro z hz
    obtain ⟨i, hi, rfl⟩ := rngD_mem hz
    obtain ⟨y, hy⟩ : ∃ y, xs[i]? = some y := ⟨xs[i], List.getElem?_eq_getElem hi⟩
    have hg : gIx x (.int (i : Nat)) = some (.d y) := by
      rcases hx with rfl | rfl
      · exact gIx_ln hy
      · exact gIx_tn hy
    refine ⟨[some (.d x), some (.d x), some (.d (.int (i : Nat)))], ?_, rfl⟩
    simp [compT, wipeE, mCall2_at (mf := f) kf, dV_app, hg, (hf y (List.mem_of_getElem? hy)).call]
theorem Fd.rt1 {np N : Nat} {mb : M Fl} {xs : List PyData} {r : OV} (e0 e : Env) (h0 : dEnv xs ++ List.replicate (N - np) none = e0) (h : mb e0 = some (.ok (.rt r) e)) : Fd (fnM np N [] mb) xs r := Fd.rt ⟨e, by rw [h0]; exact h⟩
theorem r_len : ∀ n, Keeps (r__law_alike n)
  | 0 => fnM_len
  | _ + 1 => fnM_len
theorem alike_sq {f : M OV} (kf : Keeps f) {x : PyData} {xs : List PyData} (hx : x = .list xs ∨ x = .tuple xs) (hl : xs.length ≤ 1000) (hf : ∀ y ∈ xs, Fd f [y, y] (.d (.bool true))) : b__law_alike f [some (.d x), some (.d x), none] = some (.ok (.rt (.d (.bool true))) [some (.d x), some (.d x), none]) := by
  have hc := alike_comp kf hx hl hf
  have hm : ∀ e, mLst (pure []) e = some (.ok (.lst []) e) := fun e => mLst_at rfl (Nat.zero_le _)
  have h0 : OkN 1 (.list []) := okN_list fun x hx => by cases hx
  have hq : gEq (.list []) (.list []) = some (.d (.bool true)) := by rw [gEq_ok h0 h0 (by omega)]; rfl
  have hlen : gLen (.d x) = some (.d (.int (xs.length : Nat))) := by rcases hx with rfl | rfl <;> rfl
  have ht : ∃ a b, tyIs x "tuple" = some a ∧ tyIs x "list" = some b ∧ (a || b) = true := by
    rcases hx with rfl | rfl
    · exact ⟨_, _, (tyIs_list xs).1, (tyIs_list xs).2, rfl⟩
    · exact ⟨_, _, (tyIs_tuple xs).1, (tyIs_tuple xs).2, rfl⟩
  obtain ⟨a, b, h1, h2, h3⟩ := ht
  unfold b__law_alike
  simp only [mThen_at, mIf_at, mTru_at, mIsI2_at, dV_app, List.getElem?_cons_zero, List.getElem?_cons_succ, aT_ok, h1, h2, h3, opt_some_at, ovTru_b, if_true, mOr_at, mNot_at, pure_at', Bool.not_true, Bool.false_eq_true, if_false, asB_at, mBin_at, frz_at, mIsI_at, Option.map_some, dat_d, bind_at', gNe_bool, beq_self_eq_true, boolOf_b, fThen_nx, mPeek_app, hlen, gNe_int, decide_true, mRet_at, hc, dat_lst, hm, hq, fThen_rt]
theorem alike_step {f : M OV} (kf : Keeps f) {d : Nat} {x : PyData} (h : Tame d x) (hf : ∀ e y, e < d → Tame e y → Fd f [y, y] (.d (.bool true))) : b__law_alike f [some (.d x), some (.d x), none] = some (.ok (.rt (.d (.bool true))) [some (.d x), some (.d x), none]) := by
  cases h with
  | none =>
    obtain ⟨h1, h2, h3⟩ := tyIs_none
    have hq : gEq .none .none = some (.d (.bool true)) := by rw [gEq_ok (okN_none (d := 0)) okN_none (by omega)]; rfl
    unfold b__law_alike
    simp [dV_app, h1, h2, h3, isNone, hq]
  | bool b =>
    obtain ⟨h1, h2, h3, h4, h5⟩ := tyIs_bool b
    unfold b__law_alike
    simp [dV_app, h1, h2, h3, h4, h5, isNone]
  | int i =>
    obtain ⟨h1, h2, h3, h4, h5⟩ := tyIs_int i
    unfold b__law_alike
    simp [dV_app, h1, h2, h3, h4, h5, isNone]
  | str s =>
    obtain ⟨h1, h2, h3⟩ := tyIs_str s
    have hq : gEq (.str s) (.str s) = some (.d (.bool true)) := by rw [gEq_ok (okN_str (d := 0) s) (okN_str s) (by omega)]; simp [PyData.eqv]
    unfold b__law_alike
    simp [dV_app, h1, h2, h3, isNone, hq]
  | list hl h => exact alike_sq kf (.inl rfl) hl fun y hy => hf _ y (by omega) (h y hy)
  | tuple hl h => exact alike_sq kf (.inr rfl) hl fun y hy => hf _ y (by omega) (h y hy)
theorem alike_run (n : Nat) : ∀ (d : Nat) (x : PyData), d < n → Tame d x → Fd (r__law_alike n) [x, x] (.d (.bool true)) := by
  induction n with
  | zero => intro d x hd; omega
  | succ n ih => exact fun d x hd h => Fd.rt1 (mb := b__law_alike (r__law_alike n)) [some (.d x), some (.d x), none] [some (.d x), some (.d x), none] rfl (alike_step (r_len n) h fun e y he hy => ih e y (by omega) hy)
theorem law_alike_run {d : Nat} {x : PyData} (h : Tame d x) (hd : d < 8) : Fd f__law_alike [x, x] (.d (.bool true)) := alike_run 8 d x hd h
end TL
set_option Elab.async false
set_option linter.all false
set_option maxRecDepth 100000
namespace TL
open PySem PySem.Spec PyProof.Rows L2
/-! ### the row of a law and what is taken from it -/
def rowV (ns : List Int) (k seed rest : Int) : OV := .lst [.list (ns.map .int), .int k, .int seed, .int rest]
def RowOk (v : OV) : Prop := ∃ (ns : List Int) (k seed rest : Int), v = rowV ns k seed rest ∧ 0 ≤ k ∧ 0 ≤ seed ∧ seed < 2147483647
section
variable (ns : List Int) (k seed rest x : Int)
theorem row_ix0 : gIxL (.int 0) (rowV ns k seed rest) = some (.d (.list (ns.map .int))) := rfl
theorem row_ix1 : gIxL (.int 1) (rowV ns k seed rest) = some (.d (.int k)) := rfl
theorem row_ix2 : gIxL (.int 2) (rowV ns k seed rest) = some (.d (.int seed)) := rfl
theorem row_ix3 : gIxL (.int 3) (rowV ns k seed rest) = some (.d (.int rest)) := rfl
theorem row_set1 : gSetL (.int 1) (.int x) (rowV ns k seed rest) = some (rowV ns x seed rest, .d .none) := rfl
theorem row_set2 : gSetL (.int 2) (.int x) (rowV ns k seed rest) = some (rowV ns k x rest, .d .none) := rfl
theorem row_set3 : gSetL (.int 3) (.int x) (rowV ns k seed rest) = some (rowV ns k seed x, .d .none) := rfl
theorem row_lst : isLst (rowV ns k seed rest) = true := rfl
end
@[simp] theorem gInt_i (i : Int) : gInt (.d (.int i)) = some (.d (.int i)) := rfl
@[simp] theorem gInt_b (b : Bool) : gInt (.d (.bool b)) = some (.d (.int (if b then 1 else 0))) := rfl
theorem small_log {i : Int} (h0 : 0 ≤ i) (h : i < 2147483648) : i.natAbs.log2 < 32 := by
  by_cases c : i.natAbs = 0
  · rw [c]; decide
  · rw [Nat.log2_lt c]
    omega
theorem mul_small {i j : Int} (h0 : 0 ≤ i) (h : i < 2147483648) (k0 : 0 ≤ j) (k : j < 2147483648) : gMulX (.int i) (.int j) = some (.d (.int (i * j))) := gMul_int (by have := small_log h0 h; have := small_log k0 k; omega)
theorem gPow_1018 : gPow (.int 10) (.int 18) = some (.d (.int 1000000000000000000)) := by
  rfl
theorem taken_run {v : OV} {many : Int} (hv : RowOk v) (h1 : 0 < many) (h2 : many < 1073741824) : ∃ r v', f__law_taken [some v, some (.d (.int many))] = some (.ok (.d (.int r)) [some v', some (.d (.int many))]) ∧ RowOk v' ∧ 0 ≤ r ∧ r < many := by
  obtain ⟨ns, k, seed, rest, rfl, hk, hs1, hs2⟩ := hv
  have fin : ∀ {r : Int} {v' : OV} {o2 o3 : Option OV}, b__law_taken [some (rowV ns k seed rest), some (.d (.int many)), none, none] = some (.ok (.rt (.d (.int r))) [some v', some (.d (.int many)), o2, o3]) → f__law_taken [some (rowV ns k seed rest), some (.d (.int many))] = some (.ok (.d (.int r)) [some v', some (.d (.int many))]) := fun {r v' o2 o3} h => fnM_rt (np := 2) (N := 4) (ow := [0]) (mb := b__law_taken) (env := [some (rowV ns k seed rest), some (.d (.int many))]) (e := [some v', some (.d (.int many)), o2, o3]) h
  have hm := fun (i : Int) => gMod_int (i := i) h1
  have hd := fun (i : Int) => gFdiv_int (i := i) h1 h2
  have hM := fun (i : Int) => gMod_int (i := i) (j := 2147483647) (by omega)
  have h7 := fun (i : Int) => gFdiv_int (i := i) (j := 7) (by omega) (by omega)
  have hmul : gMulX (.int seed) (.int 48271) = some (.d (.int (seed * 48271))) := mul_small hs1 (by omega) (by omega) (by omega)
  have hr : ∀ i : Int, 0 ≤ i % many ∧ i % many < many := fun i => ⟨Int.emod_nonneg _ (by omega), Int.emod_lt_of_pos _ h1⟩
  have hR : ∀ i : Int, 0 ≤ i % 2147483647 ∧ i % 2147483647 < 2147483647 := fun i => ⟨Int.emod_nonneg _ (by omega), Int.emod_lt_of_pos _ (by omega)⟩
  by_cases c3 : 0 < rest
  · refine ⟨rest % many, rowV ns k seed (rest / many), fin (o2 := none) (o3 := some (.d (.int (rest % many)))) ?_, ⟨ns, k, seed, rest / many, rfl, hk, hs1, hs2⟩, (hr _).1, (hr _).2⟩
    unfold b__law_taken
    simp [mHas_app, row_lst, mPeek_app, row_ix3, c3, dV_app, hm, hd, mMut_app, row_set3, mVar_app]
  · by_cases c1 : (ns.length : Int) < k + 1
    · refine ⟨(seed * 48271 + 11) % 2147483647 / 7 % many, rowV ns (k + 1) ((seed * 48271 + 11) % 2147483647) rest, fin (o2 := none) (o3 := none) ?_, ⟨ns, k + 1, _, rest, rfl, by omega, (hR _).1, (hR _).2⟩, (hr _).1, (hr _).2⟩
      unfold b__law_taken
      simp [mHas_app, row_lst, mPeek_app, row_ix3, row_ix0, row_ix1, row_ix2, c3, c1, dV_app, hm, hd, hM, h7, hmul, mMut_app, row_set1, row_set2, mVar_app]
    · obtain ⟨c, hc⟩ : ∃ c, ns[k.toNat]? = some c := ⟨ns[k.toNat]'(by omega), List.getElem?_eq_getElem (by omega)⟩
      have hix : gIx (.list (ns.map .int)) (.int (k + 1 - 1)) = some (.d (.int c)) := by
        have := gIx_ln (xs := ns.map PyData.int) (i := k.toNat) (x := .int c) (by rw [List.getElem?_map, hc]; rfl)
        rwa [show ((k.toNat : Nat) : Int) = k + 1 - 1 by omega] at this
      by_cases cb : 1000000000000000000 ≤ c
      · refine ⟨c % many, rowV ns (k + 1) ((seed * 48271 + c + 11) % 2147483647) (c / many), fin (o2 := some (.d (.int c))) (o3 := none) ?_, ⟨ns, k + 1, _, _, rfl, by omega, (hR _).1, (hR _).2⟩, (hr _).1, (hr _).2⟩
        unfold b__law_taken
        simp [-Int.add_sub_cancel, mHas_app, row_lst, mPeek_app, row_ix3, row_ix0, row_ix1, row_ix2, c3, c1, dV_app, hm, hd, hM, h7, hmul, mMut_app, row_set1, row_set2, row_set3, mVar_app, hix, gPow_1018, cb]
      · refine ⟨c % many, rowV ns (k + 1) ((seed * 48271 + c + 11) % 2147483647) rest, fin (o2 := some (.d (.int c))) (o3 := none) ?_, ⟨ns, k + 1, _, _, rfl, by omega, (hR _).1, (hR _).2⟩, (hr _).1, (hr _).2⟩
        unfold b__law_taken
        simp [-Int.add_sub_cancel, mHas_app, row_lst, mPeek_app, row_ix3, row_ix0, row_ix1, row_ix2, c3, c1, dV_app, hm, hd, hM, h7, hmul, mMut_app, row_set1, row_set2, row_set3, mVar_app, hix, gPow_1018, cb]
/-! ### calls that hand a slot on -/
theorem mCall_s1 {i : Nat} {m : M PyData} {f : M OV} {e e1 : Env} {x : PyData} {v0 v v' r : OV} {o : Option OV} (h0 : e[i]? = some (some v0)) (hm : m e = some (.ok x e1)) (h1 : e1[i]? = some (some v)) (hf : f [some v, some (.d x)] = some (.ok r [some v', o])) :
    mCall (.s i :: .d m :: []) f e = some (.ok r (e1.set i (some v'))) := by
  have ha : agsM (.s i :: .d m :: []) e = some (.ok [x] e1) := by
    rw [agsM_s h0, agsM_d, hm]
    rfl
  have hg : argE e1 (.s i :: .d m :: []) [x] = [some v, some (.d x)] := by
    simp [h1]
  rw [mCall_at ha (hg ▸ hf)]
  simp
theorem taken_call {i : Nat} {m : M PyData} {e e1 : Env} {many : Int} {v0 v : OV} (h0 : e[i]? = some (some v0)) (hm : m e = some (.ok (.int many) e1)) (h1 : e1[i]? = some (some v)) (hv : RowOk v) (h2 : 0 < many) (h3 : many < 1073741824) :
    ∃ r v', mCall (.s i :: .d m :: []) f__law_taken e = some (.ok (.d (.int r)) (e1.set i (some v'))) ∧ RowOk v' ∧ 0 ≤ r ∧ r < many := by
  obtain ⟨r, v', h, h4, h5, h6⟩ := taken_run hv h2 h3
  exact ⟨r, v', mCall_s1 h0 hm h1 h, h4, h5, h6⟩
end TL
set_option Elab.async false
set_option linter.all false
set_option maxRecDepth 100000
namespace TL
open PySem PySem.Spec PyProof.Rows L2
/-! ### sorting that the kernel can run -/
def insP (p : Int × Int) : List (Int × Int) → List (Int × Int)
  | [] => [p]
  | q :: r => if pairLe p q then p :: q :: r else q :: insP p r
def isP : List (Int × Int) → List (Int × Int)
  | [] => []
  | p :: r => insP p (isP r)
theorem insP_perm (p : Int × Int) : ∀ l, (insP p l).Perm (p :: l)
  | [] => .refl _
  | q :: r => by
    unfold insP
    split
    · exact .refl _
    · exact ((insP_perm p r).cons q).trans (.swap p q r)
theorem isP_perm : ∀ l, (isP l).Perm l
  | [] => .refl _
  | p :: r => (insP_perm p _).trans ((isP_perm r).cons p)
theorem insP_sorted (p : Int × Int) : ∀ l : List (Int × Int), l.Pairwise (fun p q => pairLe p q = true) → (insP p l).Pairwise (fun p q => pairLe p q = true)
  | [], _ => by simp [insP]
  | q :: r, h => by
    obtain ⟨h1, h2⟩ := List.pairwise_cons.mp h
    unfold insP
    split
    · rename_i c
      refine List.pairwise_cons.mpr ⟨fun z hz => ?_, h⟩
      rcases List.mem_cons.mp hz with rfl | hz
      · exact c
      · exact pairLe_trans _ _ _ c (h1 z hz)
    · rename_i c
      refine List.pairwise_cons.mpr ⟨fun z hz => ?_, insP_sorted p r h2⟩
      rcases List.mem_cons.mp ((insP_perm p r).mem_iff.mp hz) with rfl | hz
      · have := pairLe_total z q
        rw [Bool.or_eq_true_iff] at this
        rcases this with a | a
        · exact absurd a c
        · exact a
      · exact h1 z hz
theorem isP_sorted : ∀ l : List (Int × Int), (isP l).Pairwise (fun p q => pairLe p q = true)
  | [] => .nil
  | p :: r => insP_sorted p _ (isP_sorted r)
theorem sortP_eq (ps : List (Int × Int)) : sortP ps = isP ps :=
  ((List.mergeSort_perm ps pairLe).trans (isP_perm ps).symm).eq_of_pairwise (fun a b _ _ h k => pairLe_anti a b h k) (List.pairwise_mergeSort pairLe_trans pairLe_total _) (isP_sorted ps)
theorem setP_eq (ps : List (Int × Int)) : setP ps = isP ps.eraseDups := sortP_eq ps.eraseDups
def kSset : PyData → Option OV
  | .list xs => if xs.length < 64 then (match intsOf xs with
    | some ns => some (.lst ((setI ns).map .int))
    | none => (match pairsOf xs with
      | some ps => if ps.all pairOk then some (.lst ((isP ps.eraseDups).map pairD)) else none
      | none => none)) else none
  | _ => none
theorem gSset_eq : gSset = kSset := by
  funext x
  cases x with
  | list xs =>
    simp only [gSset, kSset, setP_eq]
    all_goals split
    all_goals first
      | rfl
      | (cases intsOf xs with
        | some ns => rfl
        | none => cases pairsOf xs <;> rfl)
  | _ => rfl
def mSsetK (m : M PyData) : M OV := m >>= fun x => M.opt (kSset x)
theorem mSset_eq : mSset = mSsetK := by
  funext m
  show (m >>= fun x => M.opt (gSset x)) = _
  rw [gSset_eq]
  rfl
def kSort (xs : List PyData) : List PyData := match pairsOf xs with
  | some ps => (isP ps).map pairD
  | none => dSort xs
theorem dSort_eq (xs : List PyData) : dSort xs = kSort xs := by
  unfold kSort
  split
  · rename_i ps e
    rw [pairsOf_eq e, dSort_pairs, sortP_eq]
  · rfl
def kSorted : OV → Option OV
  | .d (.list xs) => if srtB xs then some (.lst (kSort xs)) else none
  | .lst xs => if srtB xs then some (.lst (kSort xs)) else none
  | _ => none
theorem gSorted_eq : gSorted = kSorted := by
  funext x
  cases x with
  | d x => cases x <;> simp only [gSorted, kSorted, dSort_eq]
  | lst xs => simp only [gSorted, kSorted, dSort_eq]
  | dct xs => simp only [gSorted, kSorted]
end TL
set_option Elab.async false
set_option linter.all false
set_option maxRecDepth 100000
namespace TL
open PySem PySem.Spec PyProof.Rows L2
/-! ### the known houses -/
def knownL : List (Int × List (Int × Int)) := [
  (1, []),
  (2, [(0, 1), (1, 0)]),
  (3, [(0, 1), (1, 2), (2, 0)]),
  (3, [(0, 1), (0, 2), (1, 0), (1, 2), (2, 0), (2, 1)]),
  (4, [(0, 1), (1, 2), (2, 3), (3, 0)]),
  (4, [(0, 1), (0, 3), (1, 0), (1, 2), (2, 1), (2, 3), (3, 0), (3, 2)]),
  (4, [(0, 1), (0, 2), (0, 3), (1, 0), (1, 2), (1, 3), (2, 0), (2, 1), (2, 3), (3, 0), (3, 1), (3, 2)]),
  (5, [(0, 1), (0, 4), (1, 0), (1, 2), (2, 1), (2, 3), (3, 2), (3, 4), (4, 0), (4, 3)]),
  (4, [(0, 1), (0, 2), (1, 2), (1, 3), (2, 0), (2, 3), (3, 0), (3, 1)]),
  (5, [(0, 1), (0, 2), (1, 2), (1, 3), (2, 3), (2, 4), (3, 0), (3, 4), (4, 0), (4, 1)]),
  (6, [(0, 1), (1, 2), (2, 3), (3, 4), (4, 5), (5, 0)]),
  (6, [(0, 1), (0, 5), (1, 0), (1, 2), (2, 1), (2, 3), (3, 2), (3, 4), (4, 3), (4, 5), (5, 0), (5, 4)]),
  (6, [(0, 1), (0, 3), (0, 5), (1, 0), (1, 2), (1, 4), (2, 1), (2, 3), (2, 5), (3, 0), (3, 2), (3, 4), (4, 1), (4, 3), (4, 5), (5, 0), (5, 2), (5, 4)]),
  (3, [(0, 1), (1, 0), (1, 2), (2, 1)]),
  (4, [(0, 1), (1, 2), (1, 3), (2, 0), (3, 0)]),
  (6, [(0, 1), (0, 3), (1, 2), (1, 4), (2, 0), (2, 5), (3, 0), (3, 4), (4, 1), (4, 5), (5, 2), (5, 3)]),
  (4, [(0, 1), (1, 0), (1, 2), (2, 3), (3, 0), (3, 2)])]
def knownsD (most : Int) : List PyData := (knownL.filter fun p => decide (p.1 ≤ most)).map fun p => houseD p.1 p.2
theorem known_run10 : Fd f__law_known [.int 10] (.lst (knownsD 10)) := by
  show f__law_known [some (.d (.int 10))] = some (.ok (.lst (knownsD 10)) [some (.d (.int 10))])
  unfold f__law_known b__law_known f__law_circle b__law_circle
  rw [mSset_eq, gSorted_eq]
  kernel_rfl
/-- checked by reckoning -/
def ballL (ds : List (Int × Int)) (a : Int) : Nat → List Int
  | 0 => [a]
  | t + 1 => let l := ballL ds a t; l ++ (ds.filterMap fun p => if l.contains p.1 && !l.contains p.2 then some p.2 else none)
theorem ballL_reach {ds : List (Int × Int)} {a : Int} : ∀ {t : Nat} {y : Int}, y ∈ ballL ds a t → Reach ds a y
  | 0, y, h => by rw [List.mem_singleton.mp h]; exact .refl a
  | t + 1, y, h => by
    rcases List.mem_append.mp h with h | h
    · exact ballL_reach h
    · obtain ⟨p, hp, e⟩ := List.mem_filterMap.mp h
      split at e
      · rename_i c
        cases e
        rw [Bool.and_eq_true_iff, List.contains_iff_mem] at c
        exact .step (ballL_reach c.1) hp
      · cases e
def scB (n : Int) (ds : List (Int × Int)) : Bool := (rangeI n).all fun x => (rangeI n).all fun y => (ballL ds x n.toNat).contains y
theorem sc_of {n : Int} {ds : List (Int × Int)} (h : scB n ds = true) : SC n ds := fun x y hx hy => by
  have := List.all_eq_true.mp (List.all_eq_true.mp h x (mem_rangeI.mpr hx)) y (mem_rangeI.mpr hy)
  exact ballL_reach (List.contains_iff_mem.mp this)
def goodB (n : Int) (ds : List (Int × Int)) : Bool := decide (1 ≤ n) && (decide (n ≤ 10) && (ds.all (doorOk n) && (chainB ds && (scB n ds && decide (ds.length ≤ 20)))))
theorem good_of {n : Int} {ds : List (Int × Int)} (h : goodB n ds = true) : Good n ds ∧ ds.length ≤ 20 := by
  unfold goodB at h
  simp only [Bool.and_eq_true, decide_eq_true_eq] at h
  obtain ⟨h1, h2, h3, h4, h5, h6⟩ := h
  exact ⟨⟨h1, h2, fun p hp => doorOk_iff.mp (List.all_eq_true.mp h3 p hp), chainB_iff.mp h4, sc_of h5, by omega⟩, h6⟩
theorem known_goodB : (knownL.all fun p => goodB p.1 p.2) = true := by decide +kernel
theorem knownsD_mem {most : Int} {x : PyData} (h : x ∈ knownsD most) : ∃ n ds, x = houseD n ds ∧ n ≤ most ∧ Good n ds ∧ ds.length ≤ 20 := by
  unfold knownsD at h
  obtain ⟨p, hp, rfl⟩ := List.mem_map.mp h
  obtain ⟨h1, h2⟩ := List.mem_filter.mp hp
  obtain ⟨h3, h4⟩ := good_of (List.all_eq_true.mp known_goodB p h1)
  exact ⟨p.1, p.2, rfl, of_decide_eq_true h2, h3, h4⟩
/-! ### _law_pick -/
theorem pick_run {v : OV} {xs : List PyData} (hv : RowOk v) (h1 : 0 < xs.length) (h2 : xs.length ≤ 1000) : ∃ x v', f__law_pick [some v, some (.d (.list xs))] = some (.ok (.d x) [some v', some (.d (.list xs))]) ∧ RowOk v' ∧ x ∈ xs := by
  obtain ⟨r, v', h, h3, h4, h5⟩ := taken_call (i := 0) (m := frz (mPeek 1 gLen)) (e := [some v, some (.d (.list xs))]) (e1 := [some v, some (.d (.list xs))]) (many := (xs.length : Nat)) (v := v) rfl (by simp [mPeek_app]) rfl hv (by omega) (by omega)
  have hx : xs[r.toNat]? = some (xs[r.toNat]'(by omega)) := List.getElem?_eq_getElem (by omega)
  have hg := gIx_ln hx
  rw [show ((r.toNat : Nat) : Int) = r by omega] at hg
  refine ⟨_, v', ?_, h3, List.mem_of_getElem? hx⟩
  refine fnM_rt (np := 2) (N := 2) (ow := [0]) (mb := b__law_pick) (env := [some v, some (.d (.list xs))]) (e := [some v', some (.d (.list xs))]) ?_
  show b__law_pick [some v, some (.d (.list xs))] = _
  unfold b__law_pick
  simp [dV_app, h, hg]
/-! ### _law_circle of one step -/
def circ (n : Int) : List (Int × Int) := (rangeI n).map fun h => (h, (h + 1) % n)
theorem circle_run {n : Int} (h1 : 2 ≤ n) (h2 : n ≤ 10) : Fd f__law_circle [.int n, .list [.int 1]] (.d (houseD n (circ n))) := by
  have : n = 2 ∨ n = 3 ∨ n = 4 ∨ n = 5 ∨ n = 6 ∨ n = 7 ∨ n = 8 ∨ n = 9 ∨ n = 10 := by omega
  rcases this with rfl | rfl | rfl | rfl | rfl | rfl | rfl | rfl | rfl
  · show f__law_circle [some (.d (.int 2)), some (.d (.list [.int 1]))] = some (.ok (.d (houseD 2 (circ 2))) [some (.d (.int 2)), some (.d (.list [.int 1]))])
    unfold f__law_circle b__law_circle
    rw [mSset_eq]
    kernel_rfl
  · show f__law_circle [some (.d (.int 3)), some (.d (.list [.int 1]))] = some (.ok (.d (houseD 3 (circ 3))) [some (.d (.int 3)), some (.d (.list [.int 1]))])
    unfold f__law_circle b__law_circle
    rw [mSset_eq]
    kernel_rfl
  · show f__law_circle [some (.d (.int 4)), some (.d (.list [.int 1]))] = some (.ok (.d (houseD 4 (circ 4))) [some (.d (.int 4)), some (.d (.list [.int 1]))])
    unfold f__law_circle b__law_circle
    rw [mSset_eq]
    kernel_rfl
  · show f__law_circle [some (.d (.int 5)), some (.d (.list [.int 1]))] = some (.ok (.d (houseD 5 (circ 5))) [some (.d (.int 5)), some (.d (.list [.int 1]))])
    unfold f__law_circle b__law_circle
    rw [mSset_eq]
    kernel_rfl
  · show f__law_circle [some (.d (.int 6)), some (.d (.list [.int 1]))] = some (.ok (.d (houseD 6 (circ 6))) [some (.d (.int 6)), some (.d (.list [.int 1]))])
    unfold f__law_circle b__law_circle
    rw [mSset_eq]
    kernel_rfl
  · show f__law_circle [some (.d (.int 7)), some (.d (.list [.int 1]))] = some (.ok (.d (houseD 7 (circ 7))) [some (.d (.int 7)), some (.d (.list [.int 1]))])
    unfold f__law_circle b__law_circle
    rw [mSset_eq]
    kernel_rfl
  · show f__law_circle [some (.d (.int 8)), some (.d (.list [.int 1]))] = some (.ok (.d (houseD 8 (circ 8))) [some (.d (.int 8)), some (.d (.list [.int 1]))])
    unfold f__law_circle b__law_circle
    rw [mSset_eq]
    kernel_rfl
  · show f__law_circle [some (.d (.int 9)), some (.d (.list [.int 1]))] = some (.ok (.d (houseD 9 (circ 9))) [some (.d (.int 9)), some (.d (.list [.int 1]))])
    unfold f__law_circle b__law_circle
    rw [mSset_eq]
    kernel_rfl
  · show f__law_circle [some (.d (.int 10)), some (.d (.list [.int 1]))] = some (.ok (.d (houseD 10 (circ 10))) [some (.d (.int 10)), some (.d (.list [.int 1]))])
    unfold f__law_circle b__law_circle
    rw [mSset_eq]
    kernel_rfl
theorem circ_good {n : Int} (h1 : 2 ≤ n) (h2 : n ≤ 10) : Good n (circ n) ∧ (circ n).length = n.toNat := by
  refine ⟨(good_of ?_).1, by unfold circ; rw [List.length_map, rangeI_len]⟩
  have : n = 2 ∨ n = 3 ∨ n = 4 ∨ n = 5 ∨ n = 6 ∨ n = 7 ∨ n = 8 ∨ n = 9 ∨ n = 10 := by omega
  rcases this with rfl | rfl | rfl | rfl | rfl | rfl | rfl | rfl | rfl <;> decide +kernel
/-! ### _law_moved -/
structure Perm1 (n : Int) (p : List Int) : Prop where
  len : (p.length : Int) = n
  nd : p.Nodup
  mem : ∀ x ∈ p, inN n x
def at1 (p : List Int) (x : Int) : Int := p.getD x.toNat 0
theorem at1_get {n : Int} {p : List Int} (h : Perm1 n p) {x : Int} (hx : inN n x) : p[x.toNat]? = some (at1 p x) := by
  have hl := h.len
  obtain ⟨h1, h2⟩ := hx
  have : x.toNat < p.length := by omega
  unfold at1
  rw [List.getD_eq_getElem?_getD, List.getElem?_eq_getElem this]
  rfl
theorem at1_in {n : Int} {p : List Int} (h : Perm1 n p) {x : Int} (hx : inN n x) : inN n (at1 p x) := h.mem _ (List.mem_of_getElem? (at1_get h hx))
theorem at1_inj {n : Int} {p : List Int} (h : Perm1 n p) {x y : Int} (hx : inN n x) (hy : inN n y) (e : at1 p x = at1 p y) : x = y := by
  have h1 := at1_get h hx
  have h2 := at1_get h hy
  rw [e] at h1
  have := (List.getElem?_inj (by have := h.len; unfold inN at hx; omega) h.nd).mp (h1.trans h2.symm)
  unfold inN at hx hy
  omega
theorem at1_sur {n : Int} {p : List Int} (h : Perm1 n p) (h0 : 0 ≤ n) {y : Int} (hy : inN n y) : ∃ x, inN n x ∧ at1 p x = y := by
  have := (full_iff h0 h.nd h.mem).mp h.len y hy
  obtain ⟨i, hi⟩ := List.getElem?_of_mem this
  have hl := (List.getElem?_eq_some_iff.mp hi).1
  have hi2 : inN n (i : Int) := ⟨by omega, by have := h.len; omega⟩
  refine ⟨i, hi2, ?_⟩
  have := at1_get h hi2
  rw [show ((i : Int)).toNat = i by omega, hi] at this
  exact (Option.some.inj this).symm
def mv (p : List Int) (d : Int × Int) : Int × Int := (at1 p d.1, at1 p d.2)
def movedD (p : List Int) (ds : List (Int × Int)) : List (Int × Int) := sortP (ds.map (mv p))
theorem reach_mv {p : List Int} {ds : List (Int × Int)} {x y : Int} (h : Reach ds x y) : Reach (ds.map (mv p)) (at1 p x) (at1 p y) := by
  induction h with
  | refl => exact .refl _
  | step _ e ih => exact .step ih (List.mem_map.mpr ⟨_, e, rfl⟩)
theorem moved_good {n : Int} {p : List Int} {ds : List (Int × Int)} (h : Perm1 n p) (g : Good n ds) : Good n (movedD p ds) := by
  refine ⟨g.lo, g.hi, fun d hd => ?_, sortP_plt ?_, fun x y hx hy => ?_, by unfold movedD; rw [sortP_len, List.length_map]; exact g.len⟩
  · obtain ⟨d0, h0, rfl⟩ := List.mem_map.mp (mem_sortP.mp hd)
    obtain ⟨h1, h2, h3⟩ := g.ok d0 h0
    exact ⟨at1_in h h1, at1_in h h2, fun e => h3 (at1_inj h h1 h2 e)⟩
  · rw [List.nodup_iff_pairwise_ne, List.pairwise_map]
    refine (List.nodup_iff_pairwise_ne.mp (plt_nodup g.srt)).imp_of_mem fun {a b} ha hb hab e => hab ?_
    have e1 := congrArg Prod.fst e
    have e2 := congrArg Prod.snd e
    exact Prod.ext (at1_inj h (g.ok a ha).1 (g.ok b hb).1 e1) (at1_inj h (g.ok a ha).2.1 (g.ok b hb).2.1 e2)
  · obtain ⟨x0, hx0, rfl⟩ := at1_sur h (by have := g.lo; omega) hx
    obtain ⟨y0, hy0, rfl⟩ := at1_sur h (by have := g.lo; omega) hy
    exact (reach_mv (g.sc x0 y0 hx0 hy0)).mono fun a b hab => .one (mem_sortP.mpr hab)
theorem moved_run {n : Int} {p : List Int} {ds : List (Int × Int)} (h : Perm1 n p) (hd : ∀ d ∈ ds, inN n d.1 ∧ inN n d.2) (hl : ds.length ≤ 1000) : Fd f__law_moved [houseD n ds, .tuple (p.map .int)] (.d (houseD n (movedD p ds))) := by
  let E (a b : Option OV) : Env := [some (.d (houseD n ds)), some (.d (.tuple (p.map .int))), a, b]
  refine Fd.rt1 (E none none) (E none none) rfl ?_
  have hix : ∀ x, inN n x → gIx (.tuple (p.map .int)) (.int x) = some (.d (.int (at1 p x))) := fun x hx => by
    have := gIx_tn (xs := p.map PyData.int) (i := x.toNat) (x := .int (at1 p x)) (by rw [List.getElem?_map, at1_get h hx]; rfl)
    rwa [show ((x.toNat : Nat) : Int) = x by unfold inN at hx; omega] at this
  have e0 : ∀ a b, dV 0 (E a b) = some (.ok (houseD n ds) (E a b)) := fun _ _ => rfl
  have e1 : ∀ a b, dV 1 (E a b) = some (.ok (.tuple (p.map .int)) (E a b)) := fun _ _ => rfl
  have hc : mComp [2, 3] (mItems (frz (mBin gIx (dV 0) (dC (.int 1))))) (gT 2 (gsCons (gN 2) (gsCons (gN 3) (gsNil)))) (pure true) (frz (mTup (mCons (frz (mBin gIx (dV 1) (dV 2))) (mCons (frz (mBin gIx (dV 1) (dV 3))) (pure []))))) (E none none) = some (.ok (.lst ((ds.map (mv p)).map pairD)) (E none none)) := by
    rw [comp_doors (env := E none none) (ds := ds) (fun d => some (pairD (mv p d))) (mItems_t (by simp [e0, houseD_ix1])) rfl hl]
    · simp [List.filterMap_eq_map', Function.comp_def]
    · intro d hdm
      refine ⟨E (some (.d (.int d.1))) (some (.d (.int d.2))), ?_, rfl⟩
      have e2 : dV 2 (E (some (.d (.int d.1))) (some (.d (.int d.2)))) = some (.ok (.int d.1) (E (some (.d (.int d.1))) (some (.d (.int d.2))))) := rfl
      have e3 : dV 3 (E (some (.d (.int d.1))) (some (.d (.int d.2)))) = some (.ok (.int d.2) (E (some (.d (.int d.1))) (some (.d (.int d.2))))) := rfl
      have ht := mTup_at (m := mCons (frz (mBin gIx (dV 1) (dV 2))) (mCons (frz (mBin gIx (dV 1) (dV 3))) (pure []))) (xs := [.int (at1 p d.1), .int (at1 p d.2)]) (e := E (some (.d (.int d.1))) (some (.d (.int d.2)))) (e1 := E (some (.d (.int d.1))) (some (.d (.int d.2)))) (by simp [e1, e2, e3, hix _ (hd d hdm).1, hix _ (hd d hdm).2]) (fits (by simp))
      have hw : gT 2 (gsCons (gN 2) (gsCons (gN 3) (gsNil))) (pairD d) (wipeE (E none none) [2, 3]) = some (.ok () (E (some (.d (.int d.1))) (some (.d (.int d.2))))) := rfl
      unfold compT
      rw [bind_at', hw]
      simp [ht, mv, pairD]
  have ht : mTup (mCons (frz (mBin gIx (dV 0) (dC (.int 0)))) (mCons (frz (mOne gTuple (mOne gSorted (mComp [2, 3] (mItems (frz (mBin gIx (dV 0) (dC (.int 1))))) (gT 2 (gsCons (gN 2) (gsCons (gN 3) (gsNil)))) (pure true) (frz (mTup (mCons (frz (mBin gIx (dV 1) (dV 2))) (mCons (frz (mBin gIx (dV 1) (dV 3))) (pure []))))))))) (pure []))) (E none none) = some (.ok (.d (houseD n (movedD p ds))) (E none none)) := by
    refine mTup_at (xs := [.int n, .tuple ((movedD p ds).map pairD)]) ?_ (fits (by simp))
    simp [-List.map_map, e0, houseD_ix0, hc, gSorted_pairs, movedD]
  unfold b__law_moved
  simp [ht]
end TL
set_option Elab.async false
set_option linter.all false
set_option maxRecDepth 100000
namespace TL
open PySem PySem.Spec PyProof.Rows L2
theorem eraseIdx_map' {α β : Type} (f : α → β) : ∀ (l : List α) (i : Nat), (l.map f).eraseIdx i = (l.eraseIdx i).map f
  | [], i => rfl
  | x :: l, 0 => rfl
  | x :: l, i + 1 => by
    show f x :: (l.map f).eraseIdx i = f x :: (l.eraseIdx i).map f
    rw [eraseIdx_map' f l i]
theorem eraseIdx_perm' {α : Type} : ∀ (l : List α) (i : Nat) (z : α), l[i]? = some z → (z :: l.eraseIdx i).Perm l
  | x :: l, 0, z, h => by
    cases h
    exact .refl _
  | x :: l, i + 1, z, h => by
    have := eraseIdx_perm' l i z h
    exact (List.Perm.swap x z _).trans (this.cons x)
theorem gPopAt_ok {xs : List Int} {i : Nat} {z : Int} (h : xs[i]? = some z) (hl : xs.length ≤ 1000) : gPopAt (.int (i : Nat)) (.lst (xs.map .int)) = some (.lst ((xs.eraseIdx i).map .int), .d (.int z)) := by
  have hlt : i < xs.length := (List.getElem?_eq_some_iff.mp h).1
  show (if (xs.map PyData.int).length ≤ sizeLine then (ixN (xs.map PyData.int).length (i : Nat)).bind fun k => ((xs.map PyData.int)[k]?).map fun z => (OV.lst ((xs.map PyData.int).eraseIdx k), OV.d z) else none) = _
  rw [if_pos (fits (by simpa using hl))]
  have : ixN (xs.map PyData.int).length (i : Nat) = some i := by
    unfold ixN
    rw [List.length_map, if_pos (by omega), if_pos (by omega)]
    simp
  rw [this]
  show ((xs.map PyData.int)[i]?).map _ = _
  rw [List.getElem?_map, h, eraseIdx_map']
  rfl
theorem mListR1_at {m : M PyData} {e e1 : Env} {n : Int} (h : m e = some (.ok (.int n) e1)) (h0 : 0 ≤ n) (h1 : n ≤ 1000) : mListR1 m e = some (.ok (.lst ((rangeI n).map .int)) e1) := by
  show Out.andThen (m e) _ = _
  rw [h]
  show M.opt (if rgOk 0 n then some (OV.lst (rngD 0 n.toNat)) else none) e1 = _
  rw [if_pos (by unfold rgOk; rw [decide_eq_true_iff]; omega), opt_some_at]
  unfold rngD rangeI
  rw [List.map_map]
  simp [Function.comp_def]
/-! ### _law_turn -/
def tE (v : OV) (n : Int) (fs ls : List Int) : Env := [some v, some (.d (.int n)), some (.d (.tuple (fs.map .int))), some (.lst (ls.map .int))]
theorem eqv_nil (ls : List Int) : gNe (.list (ls.map .int)) (.list []) = some (.d (.bool (!ls.isEmpty))) := by
  rw [gNe_ok (d := 1) (okN_list fun x hx => by obtain ⟨i, _, rfl⟩ := List.mem_map.mp hx; exact okN_int i) (okN_list fun x hx => by cases hx) (by omega)]
  cases ls with
  | nil => rfl
  | cons => rfl
def tBody : M Fl := mSet 2 (dat (frz (mBin gAdd (dV 2) (frz (mTup (mCons (frz (mPopAt 3 (frz (mCall (.s 0 :: .d (frz (mPeek 3 gLen)) :: []) f__law_taken)))) (pure [])))))))
theorem tBody_run {v : OV} {n : Int} {fs ls : List Int} (hv : RowOk v) (hn : ls ≠ []) (hl : fs.length + ls.length ≤ 1000) : ∃ v' z i, tBody (tE v n fs ls) = some (.ok .nx (tE v' n (fs ++ [z]) (ls.eraseIdx i))) ∧ RowOk v' ∧ ls[i]? = some z := by
  have hpos : 0 < ls.length := List.length_pos_iff.mpr hn
  obtain ⟨r, v', hc, h3, h4, h5⟩ := taken_call (i := 0) (m := frz (mPeek 3 gLen)) (e := tE v n fs ls) (e1 := tE v n fs ls) (many := (ls.length : Nat)) (v := v) rfl (by simp [mPeek_app, tE]) rfl hv (by omega) (by omega)
  rw [show (tE v n fs ls).set 0 (some v') = tE v' n fs ls from rfl] at hc
  have hx : ls[r.toNat]? = some (ls[r.toNat]'(by omega)) := List.getElem?_eq_getElem (by omega)
  have hg := gPopAt_ok hx (by omega)
  rw [show ((r.toNat : Nat) : Int) = r by omega] at hg
  generalize ls[r.toNat]'(by omega) = z at hx hg
  refine ⟨v', z, r.toNat, ?_, h3, hx⟩
  have hpop : frz (mPopAt 3 (frz (mCall (.s 0 :: .d (frz (mPeek 3 gLen)) :: []) f__law_taken))) (tE v n fs ls) = some (.ok (.int z) (tE v' n fs (ls.eraseIdx r.toNat))) := by
    rw [frz_at, mPopAt_at]
    have : mHas 3 isLst (tE v n fs ls) = some (.ok () (tE v n fs ls)) := rfl
    rw [this, aT_ok]
    show Out.andThen (Out.andThen (frz (mCall (.s 0 :: .d (frz (mPeek 3 gLen)) :: []) f__law_taken) (tE v n fs ls)) fun y => mMut 3 (gPopAt y)) _ = _
    rw [frz_at, hc]
    have hm := mMut_at (i := 3) (f := gPopAt (.int r)) (e := tE v' n fs ls) (v := .lst (ls.map .int)) rfl hg
    simp only [aT_ok, dat_d, opt_some_at, hm]
    rfl
  have e2 : dV 2 (tE v n fs ls) = some (.ok (.tuple (fs.map .int)) (tE v n fs ls)) := rfl
  have ht : mTup (mCons (frz (mPopAt 3 (frz (mCall (.s 0 :: .d (frz (mPeek 3 gLen)) :: []) f__law_taken)))) (pure [])) (tE v n fs ls) = some (.ok (.d (.tuple [.int z])) (tE v' n fs (ls.eraseIdx r.toNat))) := by
    refine mTup_at ?_ (fits (by simp))
    rw [mCons_at, hpop]
    rfl
  have ha : gAdd (.tuple (fs.map .int)) (.tuple [.int z]) = some (.d (.tuple ((fs ++ [z]).map .int))) := by
    show (if _ then _ else _) = _
    rw [if_pos (fits (by simp; omega)), List.map_append]
    rfl
  unfold tBody
  rw [mSet_at, dat_at, frz_at, mBin_at, e2, aT_ok]
  show Out.andThen (Out.andThen (Out.andThen (Out.andThen (frz (mTup _) _) _) _) _) _ = _
  rw [frz_at, ht]
  simp only [aT_ok, dat_d, opt_some_at, ha, pure_at']
  rfl
theorem turn_run {v : OV} {n : Int} (hv : RowOk v) (h1 : 0 ≤ n) (h2 : n ≤ 10) : ∃ p v', f__law_turn [some v, some (.d (.int n))] = some (.ok (.d (.tuple (p.map .int))) [some v', some (.d (.int n))]) ∧ RowOk v' ∧ Perm1 n p := by
  let I : Nat → Env → Prop := fun m e => ∃ v fs ls, e = tE v n fs ls ∧ RowOk v ∧ (fs ++ ls).Perm (rangeI n) ∧ m = ls.length
  let Z : Env → Prop := fun e => ∃ v fs, e = tE v n fs [] ∧ RowOk v ∧ fs.Perm (rangeI n)
  have turn : ∀ m e, I m e → (∃ e1, asB (mCmpS gNe 3 (frz (mLst (pure [])))) e = some (.ok false e1) ∧ Z e1) ∨ ∃ e1 e2 m', asB (mCmpS gNe 3 (frz (mLst (pure [])))) e = some (.ok true e1) ∧ (tBody e1 = some (.ok .nx e2) ∨ tBody e1 = some (.ok .ct e2)) ∧ m' < m ∧ I m' e2 := by
    rintro m e ⟨v, fs, ls, rfl, hv, hp, rfl⟩
    have htest : asB (mCmpS gNe 3 (frz (mLst (pure [])))) (tE v n fs ls) = some (.ok (!ls.isEmpty) (tE v n fs ls)) := by
      have hm : ∀ e, mLst (pure []) e = some (.ok (.lst []) e) := fun e => mLst_at rfl (Nat.zero_le _)
      have hh : mHas 3 isAny (tE v n fs ls) = some (.ok () (tE v n fs ls)) := rfl
      have hk : mPeek 3 (gCmpS gNe (.list [])) (tE v n fs ls) = some (.ok (.d (.bool (!ls.isEmpty))) (tE v n fs ls)) := mPeek_at (v := .lst (ls.map .int)) rfl (by
        show gNe (.list (ls.map .int)) (.list []) = _
        exact eqv_nil ls)
      simp [hh, hm, hk]
    have hlen := hp.length_eq
    rw [List.length_append, rangeI_len] at hlen
    by_cases c : ls = []
    · subst c
      exact .inl ⟨_, htest, v, fs, rfl, hv, by simpa using hp⟩
    · obtain ⟨v', z, i, h, h3, h4⟩ := tBody_run (n := n) (fs := fs) hv c (by omega)
      have hi : i < ls.length := (List.getElem?_eq_some_iff.mp h4).1
      refine .inr ⟨_, _, _, by rw [htest]; cases ls with | nil => exact absurd rfl c | cons => rfl, .inl h, ?_, v', fs ++ [z], ls.eraseIdx i, rfl, h3, ?_, rfl⟩
      · rw [List.length_eraseIdx, if_pos hi]
        omega
      · rw [List.append_assoc]
        exact ((eraseIdx_perm' ls i z h4).append_left fs).trans hp
  obtain ⟨e', h, v', fs, rfl, h3, hp⟩ := mWhile_inv (t := asB (mCmpS gNe 3 (frz (mLst (pure []))))) (b := tBody) I Z turn (n := (rangeI n).length) (e := tE v n [] (rangeI n)) ⟨v, [], rangeI n, rfl, hv, .refl _, rfl⟩
  refine ⟨fs, v', ?_, h3, ?_⟩
  · refine fnM_rt (np := 2) (N := 4) (ow := [0]) (mb := b__law_turn) (env := [some v, some (.d (.int n))]) (e := tE v' n fs []) ?_
    show mThen (mPar 2 3 (dat (frz (mTup (pure [])))) (mListR1 (dV 1))) (mThen (mWhile (asB (mCmpS gNe 3 (frz (mLst (pure []))))) tBody) (mRet (mVar 2))) [some v, some (.d (.int n)), none, none] = _
    have ht : mTup (pure []) [some v, some (.d (.int n)), none, none] = some (.ok (.d (.tuple [])) [some v, some (.d (.int n)), none, none]) := mTup_at rfl (Nat.zero_le _)
    have hl := mListR1_at (m := dV 1) (e := [some v, some (.d (.int n)), none, none]) (e1 := [some v, some (.d (.int n)), none, none]) rfl h1 (by omega)
    have hp : mPar 2 3 (dat (frz (mTup (pure [])))) (mListR1 (dV 1)) [some v, some (.d (.int n)), none, none] = some (.ok .nx (tE v n [] (rangeI n))) := by
      rw [mPar_at, dat_at, frz_at, ht]
      simp only [aT_ok, dat_d, opt_some_at, pure_at', bind_at', hl]
      rfl
    have hv2 : mVar 2 (tE v' n fs []) = some (.ok (.d (.tuple (fs.map .int))) (tE v' n fs [])) := rfl
    rw [mThen_at, hp, aT_ok, fThen_nx, mThen_at, h, aT_ok, fThen_nx, mRet_at, hv2]
    rfl
  · refine ⟨?_, hp.nodup_iff.mpr (rangeI_nodup n), fun x hx => mem_rangeI.mp (hp.mem_iff.mp hx)⟩
    rw [hp.length_eq, rangeI_len]
    omega
end TL
set_option Elab.async false
set_option linter.all false
set_option maxRecDepth 100000
namespace TL
open PySem PySem.Spec PyProof.Rows L2
theorem setP_len (ps : List (Int × Int)) : (setP ps).length ≤ ps.length := nodup_le (setP_nodup ps) fun x hx => mem_setP.mp hx
theorem intsOf_pairs (p : Int × Int) (ps : List (Int × Int)) : intsOf ((p :: ps).map pairD) = none := rfl
theorem pairsOf_pairs : ∀ (ps : List (Int × Int)), pairsOf (ps.map pairD) = some ps
  | [] => rfl
  | p :: ps => by
    show (pairsOf (ps.map pairD)).map ((p.1, p.2) :: ·) = _
    rw [pairsOf_pairs ps]
    rfl
theorem gSset_pairs {ps : List (Int × Int)} (hl : ps.length < 64) (h : ∀ p ∈ ps, inN 64 p.1 ∧ inN 64 p.2) : gSset (.list (ps.map pairD)) = some (.lst ((setP ps).map pairD)) := by
  cases ps with
  | nil =>
    show (if ([] : List PyData).length < 64 then some (OV.lst ((setI []).map .int)) else none) = _
    rw [if_pos (by decide)]
    have h1 : setI [] = [] := List.length_eq_zero_iff.mp (by unfold setI; rw [List.length_mergeSort]; rfl)
    have h2 : setP [] = [] := List.length_eq_zero_iff.mp (by unfold setP; rw [List.length_mergeSort]; rfl)
    rw [h1, h2]
    rfl
  | cons p ps =>
    show (if ((p :: ps).map pairD).length < 64 then (match intsOf ((p :: ps).map pairD) with
      | some ns => some (OV.lst ((setI ns).map .int))
      | none => (match pairsOf ((p :: ps).map pairD) with
        | some ps => if ps.all pairOk then some (OV.lst ((setP ps).map pairD)) else none
        | none => none)) else none) = _
    rw [if_pos (by simpa using hl), intsOf_pairs, pairsOf_pairs]
    show (if (p :: ps).all pairOk then _ else _) = _
    rw [if_pos]
    rw [List.all_eq_true]
    intro q hq
    obtain ⟨⟨a, b⟩, c, d⟩ := h q hq
    unfold pairOk
    rw [decide_eq_true_iff]
    exact ⟨a, b, c, d⟩
theorem mSset_at {m : M PyData} {e e1 : Env} {x : PyData} {r : OV} (h : m e = some (.ok x e1)) (g : gSset x = some r) : mSset m e = some (.ok r e1) := by
  show Out.andThen (m e) _ = _
  rw [h]
  show M.opt (gSset x) e1 = _
  rw [g]
  rfl
/-- doors more -/
theorem good_more {n : Int} {ds es : List (Int × Int)} (g : Good n ds) (h : ∀ p ∈ es, p ∈ ds ∨ (inN n p.1 ∧ inN n p.2 ∧ p.1 ≠ p.2)) (hs : ∀ p ∈ ds, p ∈ es) (hl : es.length ≤ 1000) : Good n (setP es) := by
  refine ⟨g.lo, g.hi, fun p hp => ?_, setP_plt es, fun x y hx hy => ?_, Nat.le_trans (setP_len es) hl⟩
  · rcases h p (mem_setP.mp hp) with h | h
    · exact g.ok p h
    · exact h
  · exact (g.sc x y hx hy).mono fun a b hab => .one (mem_setP.mpr (hs _ hab))
/-! ### _law_house -/
def hE (v : OV) (most : Int) (o2 o3 o4 o5 o6 : Option OV) : Env := [some v, some (.d (.int most)), o2, o3, o4, o5, o6]
def hBody : M Fl := mThen (mSet 6 (dat (frz (mTup (mCons (frz (mCall (.s 0 :: .d (dV 2) :: []) f__law_taken)) (mCons (frz (mCall (.s 0 :: .d (dV 2) :: []) f__law_taken)) (pure [])))))))
  (mSet 3 (dat (frz (mBin gAdd (dV 3) (frz (mBin gMulX (frz (mLst (mCons (dV 6) (pure [])))) (frz (mOne gInt (mBin gNe (frz (mBin gIx (dV 6) (dC (.int 0)))) (frz (mBin gIx (dV 6) (dC (.int 1)))))))))))))
theorem gMul_l0 (x : PyData) : gMulX (.list [x]) (.int 0) = some (.lst []) := by
  show (if -(2 ^ 63) ≤ (0 : Int) ∧ (0 : Int) < 2 ^ 63 ∧ [x].length * (0 : Int).toNat ≤ sizeLine then some (OV.lst (List.replicate (0 : Int).toNat [x]).flatten) else none) = _
  rw [if_pos ⟨by decide, by decide, by simp⟩]
  rfl
theorem gMul_l1 (x : PyData) : gMulX (.list [x]) (.int 1) = some (.lst [x]) := by
  show (if -(2 ^ 63) ≤ (1 : Int) ∧ (1 : Int) < 2 ^ 63 ∧ [x].length * (1 : Int).toNat ≤ sizeLine then some (OV.lst (List.replicate (1 : Int).toNat [x]).flatten) else none) = _
  rw [if_pos ⟨by decide, by decide, fits (by simp)⟩]
  rfl
/-- two taken side by side -/
theorem taken_pair {i j : Nat} {e : Env} {n : Int} {v : OV} (hi : e[i]? = some (some v)) (hj : e[j]? = some (some (.d (.int n)))) (hij : i ≠ j) (hv : RowOk v) (h2 : 0 < n) (h3 : n < 1073741824) :
    ∃ p v', frz (mTup (mCons (frz (mCall (.s i :: .d (dV j) :: []) f__law_taken)) (mCons (frz (mCall (.s i :: .d (dV j) :: []) f__law_taken)) (pure [])))) e = some (.ok (pairD p) (e.set i (some v'))) ∧ RowOk v' ∧ inN n p.1 ∧ inN n p.2 := by
  obtain ⟨r, v1, hc, k1, k2, k3⟩ := taken_call (i := i) (m := dV j) (e := e) (e1 := e) (many := n) hi (dV_at hj) hi hv h2 h3
  have hl : i < e.length := (List.getElem?_eq_some_iff.mp hi).1
  have hi1 : (e.set i (some v1))[i]? = some (some v1) := List.getElem?_set_self hl
  have hj1 : (e.set i (some v1))[j]? = some (some (.d (.int n))) := by rw [List.getElem?_set_ne hij]; exact hj
  obtain ⟨s, v2, hd, l1, l2, l3⟩ := taken_call (i := i) (m := dV j) (e := e.set i (some v1)) (e1 := e.set i (some v1)) (many := n) hi1 (dV_at hj1) hi1 k1 h2 h3
  rw [List.set_set] at hd
  refine ⟨(r, s), v2, ?_, l1, ⟨k2, k3⟩, ⟨l2, l3⟩⟩
  have ht := mTup_at (m := mCons (frz (mCall (.s i :: .d (dV j) :: []) f__law_taken)) (mCons (frz (mCall (.s i :: .d (dV j) :: []) f__law_taken)) (pure []))) (e := e) (e1 := e.set i (some v2)) (xs := [.int r, .int s]) (by simp [hc, hd]) (fits (by simp))
  rw [frz_at, ht]
  rfl
theorem hBody_run {v : OV} {most n : Int} {ds : List (Int × Int)} {o4 o5 o6 : Option OV} (hv : RowOk v) (h1 : 0 < n) (h2 : n ≤ 10) (hl : ds.length ≤ 100) : ∃ v' es o6', hBody (hE v most (some (.d (.int n))) (some (.d (.list (ds.map pairD)))) o4 o5 o6) = some (.ok .nx (hE v' most (some (.d (.int n))) (some (.d (.list ((ds ++ es).map pairD)))) o4 o5 o6')) ∧ RowOk v' ∧ es.length ≤ 1 ∧ ∀ p ∈ es, inN n p.1 ∧ inN n p.2 ∧ p.1 ≠ p.2 := by
  obtain ⟨p, v', hc, k1, k2, k3⟩ := taken_pair (i := 0) (j := 2) (e := hE v most (some (.d (.int n))) (some (.d (.list (ds.map pairD)))) o4 o5 o6) rfl rfl (by omega) hv h1 (by omega)
  refine ⟨v', if p.1 = p.2 then [] else [p], some (.d (pairD p)), ?_, k1, ?_, ?_⟩
  · have e1 : (hE v most (some (.d (.int n))) (some (.d (.list (ds.map pairD)))) o4 o5 o6).set 0 (some v') = hE v' most (some (.d (.int n))) (some (.d (.list (ds.map pairD)))) o4 o5 o6 := rfl
    rw [e1] at hc
    have e2 : (hE v' most (some (.d (.int n))) (some (.d (.list (ds.map pairD)))) o4 o5 o6).set 6 (some (.d (pairD p))) = hE v' most (some (.d (.int n))) (some (.d (.list (ds.map pairD)))) o4 o5 (some (.d (pairD p))) := rfl
    have e3 : dV 3 (hE v' most (some (.d (.int n))) (some (.d (.list (ds.map pairD)))) o4 o5 (some (.d (pairD p)))) = some (.ok (.list (ds.map pairD)) (hE v' most (some (.d (.int n))) (some (.d (.list (ds.map pairD)))) o4 o5 (some (.d (pairD p))))) := rfl
    have e6 : dV 6 (hE v' most (some (.d (.int n))) (some (.d (.list (ds.map pairD)))) o4 o5 (some (.d (pairD p)))) = some (.ok (pairD p) (hE v' most (some (.d (.int n))) (some (.d (.list (ds.map pairD)))) o4 o5 (some (.d (pairD p))))) := rfl
    have hl1 := mLst_at (m := mCons (dV 6) (pure [])) (xs := [pairD p]) (e := hE v' most (some (.d (.int n))) (some (.d (.list (ds.map pairD)))) o4 o5 (some (.d (pairD p)))) (e1 := hE v' most (some (.d (.int n))) (some (.d (.list (ds.map pairD)))) o4 o5 (some (.d (pairD p)))) (by simp [e6]) (fits (by simp))
    have i0 : gIx (pairD p) (.int 0) = some (.d (.int p.1)) := gIx_t0 _ _
    have i1 : gIx (pairD p) (.int 1) = some (.d (.int p.2)) := gIx_t1 _ _ _
    have hm : gMulX (.list [pairD p]) (.int (if (!decide (p.1 = p.2)) = true then 1 else 0)) = some (.lst ((if p.1 = p.2 then [] else [p]).map pairD)) := by
      by_cases c : p.1 = p.2
      · rw [if_pos c, decide_eq_true c]
        exact gMul_l0 _
      · rw [if_neg c, decide_eq_false c]
        exact gMul_l1 _
    have ha : gAdd (.list (ds.map pairD)) (.list ((if p.1 = p.2 then [] else [p]).map pairD)) = some (.lst ((ds ++ (if p.1 = p.2 then [] else [p])).map pairD)) := by
      show (if (ds.map pairD).length + ((if p.1 = p.2 then [] else [p]).map pairD).length ≤ sizeLine then some (OV.lst (ds.map pairD ++ (if p.1 = p.2 then [] else [p]).map pairD)) else none) = _
      rw [if_pos (fits (by rw [List.length_map, List.length_map]; split <;> simp <;> omega)), List.map_append]
    unfold hBody
    rw [mThen_at, mSet_at, dat_at, hc]
    simp only [aT_ok, pure_at', e2, fThen_nx, mSet_at, dat_at, frz_at, mBin_at, e3, bind_at', hl1, opt_some_at, dat_lst, mOne_at, e6, i0, i1, dat_d, dC_at, gNe_int, gInt_b, hm, ha]
    rfl
  · split <;> simp
  · intro q hq
    split at hq
    · cases hq
    · rw [List.mem_singleton.mp hq]
      exact ⟨k2, k3, by assumption⟩
end TL
set_option Elab.async false
set_option linter.all false
set_option maxRecDepth 100000
namespace TL
open PySem PySem.Spec PyProof.Rows L2
theorem knownsD_pos {most : Int} (h : 1 ≤ most) : 0 < (knownsD most).length := by
  refine List.length_pos_of_mem (a := houseD 1 []) (List.mem_map.mpr ⟨(1, []), List.mem_filter.mpr ⟨List.mem_cons_self, decide_eq_true h⟩, rfl⟩)
theorem knownsD_len (most : Int) : (knownsD most).length ≤ 17 := by
  unfold knownsD
  rw [List.length_map]
  exact Nat.le_trans (List.length_filter_le _ _) (by decide)
theorem law_house_run {v : OV} {most : Int} (hv : RowOk v) (h1 : 2 ≤ most) (h2 : most ≤ 10) (K : Fd f__law_known [.int most] (.lst (knownsD most))) : ∃ n ds v', f__law_house [some v, some (.d (.int most))] = some (.ok (.d (houseD n ds)) [some v', some (.d (.int most))]) ∧ RowOk v' ∧ n ≤ most ∧ Good n ds ∧ ds.length ≤ 20 := by
  have fin : ∀ {x : PyData} {v' : OV} {o2 o3 o4 o5 o6 : Option OV}, b__law_house (hE v most none none none none none) = some (.ok (.rt (.d x)) (hE v' most o2 o3 o4 o5 o6)) → f__law_house [some v, some (.d (.int most))] = some (.ok (.d x) [some v', some (.d (.int most))]) := fun {x v' o2 o3 o4 o5 o6} h => fnM_rt (np := 2) (N := 7) (ow := [0]) (mb := b__law_house) (env := [some v, some (.d (.int most))]) (e := hE v' most o2 o3 o4 o5 o6) h
  obtain ⟨r, v1, hc, k1, k2, k3⟩ := taken_call (i := 0) (m := dC (.int 3)) (e := hE v most none none none none none) (e1 := hE v most none none none none none) (many := 3) (v := v) rfl rfl rfl hv (by omega) (by omega)
  rw [show (hE v most none none none none none).set 0 (some v1) = hE v1 most none none none none none from rfl] at hc
  by_cases c : 0 < r
  · -- a known house
    have e1 : ∀ {v : OV} {o5 : Option OV}, dV 1 (hE v most none none none o5 none) = some (.ok (.int most) (hE v most none none none o5 none)) := rfl
    obtain ⟨x, v2, hp, l1, l2⟩ := pick_run k1 (knownsD_pos (most := most) (by omega)) (by have := knownsD_len most; omega)
    obtain ⟨n, ds, rfl, m1, m2, m3⟩ := knownsD_mem l2
    have hk : frz (mCall (.d (dV 1) :: []) f__law_known) (hE v1 most none none none none none) = some (.ok (.list (knownsD most)) (hE v1 most none none none none none)) := by
      simp [mCall1_at (mf := f__law_known) fnM_len, e1, K.call]
    have hp2 := mCall_s1 (i := 0) (m := frz (mCall (.d (dV 1) :: []) f__law_known)) (f := f__law_pick) (e := hE v1 most none none none none none) (v0 := v1) rfl hk rfl hp
    rw [show (hE v1 most none none none none none).set 0 (some v2) = hE v2 most none none none none none from rfl] at hp2
    obtain ⟨p, v3, ht, n1, n2⟩ := turn_run (n := n) l1 (by have := m2.lo; omega) m2.hi
    have e5 : ∀ {v : OV}, dV 5 (hE v most none none none (some (.d (houseD n ds))) none) = some (.ok (houseD n ds) (hE v most none none none (some (.d (houseD n ds))) none)) := rfl
    have ht2 := mCall_s1 (i := 0) (m := frz (mBin gIx (dV 5) (dC (.int 0)))) (f := f__law_turn) (e := hE v2 most none none none (some (.d (houseD n ds))) none) (v0 := v2) rfl (x := .int n) (e1 := hE v2 most none none none (some (.d (houseD n ds))) none) (by simp [e5, houseD_ix0]) rfl ht
    rw [show (hE v2 most none none none (some (.d (houseD n ds))) none).set 0 (some v3) = hE v3 most none none none (some (.d (houseD n ds))) none from rfl] at ht2
    have hm := moved_run n2 (fun d hd => ⟨(m2.ok d hd).1, (m2.ok d hd).2.1⟩) m2.len
    refine ⟨n, movedD p ds, v3, fin (o2 := none) (o3 := none) (o4 := none) (o5 := some (.d (houseD n ds))) (o6 := none) ?_, n1, m1, moved_good n2 m2, by unfold movedD; rw [sortP_len, List.length_map]; exact m3⟩
    have es : (hE v2 most none none none none none).set 5 (some (.d (houseD n ds))) = hE v2 most none none none (some (.d (houseD n ds))) none := rfl
    unfold b__law_house
    rw [mThen_at, mIf_at, asB_at, mBin_at, frz_at, hc]
    simp only [aT_ok, dat_d, opt_some_at, bind_at', dC_at, gGt_int, decide_eq_true c, boolOf_b, pure_at', if_true, mThen_at, mSet_at, dat_at, frz_at, hp2, es, fThen_nx, mRet_at, mCall2_at (mf := f__law_moved) fnM_len, e5, ht2, hm.call, fThen_rt]
  · -- a house made by chance
    obtain ⟨r2, v2, hc2, l1, l2, l3⟩ := taken_call (i := 0) (m := frz (mBin gSub (dV 1) (dC (.int 1)))) (e := hE v1 most none none none none none) (e1 := hE v1 most none none none none none) (many := most - 1) (v := v1) rfl (by simp [dV_app, hE]) rfl k1 (by omega) (by omega)
    rw [show (hE v1 most none none none none none).set 0 (some v2) = hE v2 most none none none none none from rfl] at hc2
    generalize hn : 2 + r2 = n
    have n1 : 2 ≤ n := by omega
    have n2 : n ≤ most := by omega
    obtain ⟨gc, lc⟩ := circ_good n1 (by omega : n ≤ 10)
    let E (v : OV) (ds : List (Int × Int)) (o4 o6 : Option OV) : Env := hE v most (some (.d (.int n))) (some (.d (.list (ds.map pairD)))) o4 none o6
    obtain ⟨r3, v3, hc3, p1, p2, p3⟩ := taken_call (i := 0) (m := frz (mBin gAdd (dV 2) (dC (.int 1)))) (e := E v2 (circ n) none none) (e1 := E v2 (circ n) none none) (many := n + 1) (v := v2) rfl (by simp [dV_app, hE, E]) rfl l1 (by omega) (by omega)
    rw [show (E v2 (circ n) none none).set 0 (some v3) = E v3 (circ n) none none from rfl] at hc3
    let I : Nat → Env → Prop := fun j e => ∃ v es o4 o6, e = E v (circ n ++ es) o4 o6 ∧ RowOk v ∧ es.length ≤ j ∧ ∀ p ∈ es, inN n p.1 ∧ inN n p.2 ∧ p.1 ≠ p.2
    have hlen : (rngD 0 r3.toNat).length ≤ 10 := by rw [rngD_len]; omega
    have turn : ∀ j x e, (rngD 0 r3.toNat)[j]? = some x → I j e → ∃ e1 e2, gN 4 x e = some (.ok () e1) ∧ (hBody e1 = some (.ok .nx e2) ∨ hBody e1 = some (.ok .ct e2)) ∧ I (j + 1) e2 := by
      rintro j x e hx ⟨v, es, o4, o6, rfl, hv, hl, ho⟩
      have hj : j < (rngD 0 r3.toNat).length := (List.getElem?_eq_some_iff.mp hx).1
      obtain ⟨v', es', o6', hb, q1, q2, q3⟩ := hBody_run (most := most) (n := n) (ds := circ n ++ es) (o4 := some (.d x)) (o5 := none) (o6 := o6) hv (by omega) (by omega) (by rw [List.length_append, lc]; omega)
      refine ⟨E v (circ n ++ es) (some (.d x)) o6, _, rfl, .inl hb, v', es ++ es', some (.d x), o6', by rw [List.append_assoc], q1, by rw [List.length_append]; omega, fun p hp => ?_⟩
      rcases List.mem_append.mp hp with h | h
      · exact ho p h
      · exact q3 p h
    obtain ⟨e', hf, v4, es, o4, o6, rfl, s1, s2, s3⟩ := mFor_inv (mi := mRange1 (frz (mCall (.s 0 :: .d (frz (mBin gAdd (dV 2) (dC (.int 1)))) :: []) f__law_taken))) (g := gN 4) (b := hBody) I (e := E v2 (circ n) none none) (e0 := E v3 (circ n) none none) (xs := rngD 0 r3.toNat)
      (mRange1_at (j := r3) (by simp [hc3]) (by omega) (by omega)) ⟨v3, [], none, none, by rw [List.append_nil], p1, Nat.zero_le _, fun p hp => by cases hp⟩ turn
    rw [rngD_len] at s2
    have hcl : (circ n ++ es).length ≤ 20 := by rw [List.length_append, lc]; omega
    have hall : ∀ p ∈ circ n ++ es, inN n p.1 ∧ inN n p.2 ∧ p.1 ≠ p.2 := fun p hp => by
      rcases List.mem_append.mp hp with h | h
      · exact gc.ok p h
      · exact s3 p h
    have gm : Good n (setP (circ n ++ es)) := good_more gc (fun p hp => .inr (hall p hp)) (fun p hp => List.mem_append.mpr (.inl hp)) (by omega)
    obtain ⟨p, v5, ht, t1, t2⟩ := turn_run (n := n) s1 (by omega) (by omega)
    have ht2 := mCall_s1 (i := 0) (m := dV 2) (f := f__law_turn) (e := E v4 (circ n ++ es) o4 o6) (v0 := v4) rfl (x := .int n) (e1 := E v4 (circ n ++ es) o4 o6) rfl rfl ht
    rw [show (E v4 (circ n ++ es) o4 o6).set 0 (some v5) = E v5 (circ n ++ es) o4 o6 from rfl] at ht2
    have hm := moved_run t2 (fun d hd => ⟨(gm.ok d hd).1, (gm.ok d hd).2.1⟩) gm.len
    refine ⟨n, movedD p (setP (circ n ++ es)), v5, fin (o2 := some (.d (.int n))) (o3 := some (.d (.list ((circ n ++ es).map pairD)))) (o4 := o4) (o5 := none) (o6 := o6) ?_, t1, n2, moved_good t2 gm, by unfold movedD; rw [sortP_len, List.length_map]; have := setP_len (circ n ++ es); omega⟩
    have hss : mSset (dV 3) (E v4 (circ n ++ es) o4 o6) = some (.ok (.lst ((setP (circ n ++ es)).map pairD)) (E v4 (circ n ++ es) o4 o6)) := mSset_at (x := .list ((circ n ++ es).map pairD)) rfl (gSset_pairs (by omega) fun p hp => by
      obtain ⟨a, b, _⟩ := hall p hp
      unfold inN at *
      omega)
    have e2 : ∀ v ds o4 o6, dV 2 (E v ds o4 o6) = some (.ok (.int n) (E v ds o4 o6)) := fun _ _ _ _ => rfl
    have htup := mTup_at (m := mCons (dV 2) (mCons (frz (mOne gTuple (mSset (dV 3)))) (pure []))) (xs := [.int n, .tuple ((setP (circ n ++ es)).map pairD)]) (e := E v4 (circ n ++ es) o4 o6) (e1 := E v4 (circ n ++ es) o4 o6) (by simp [e2, hss]) (fits (by simp))
    have hcirc := circle_run n1 (by omega : n ≤ 10)
    have hl1 := mLst_at (m := mCons (dC (.int 1)) (pure [])) (xs := [.int 1]) (e := hE v2 most (some (.d (.int n))) none none none none) (e1 := hE v2 most (some (.d (.int n))) none none none none) rfl (fits (by simp))
    have e2' : dV 2 (hE v2 most (some (.d (.int n))) none none none none) = some (.ok (.int n) (hE v2 most (some (.d (.int n))) none none none none)) := rfl
    have s2' : (hE v2 most none none none none none).set 2 (some (.d (.int n))) = hE v2 most (some (.d (.int n))) none none none none := rfl
    have s3' : (hE v2 most (some (.d (.int n))) none none none none).set 3 (some (.d (.list ((circ n).map pairD)))) = E v2 (circ n) none none := rfl
    have hgl : gList (.d (.tuple ((circ n).map pairD))) = some (.lst ((circ n).map pairD)) := rfl
    show mThen _ (mThen _ (mThen _ (mThen (mFor (mRange1 (frz (mCall (.s 0 :: .d (frz (mBin gAdd (dV 2) (dC (.int 1)))) :: []) f__law_taken))) (gN 4) hBody) _))) _ = _
    rw [mThen_at, mIf_at, asB_at, mBin_at, frz_at, hc]
    simp only [aT_ok, dat_d, opt_some_at, bind_at', dC_at, gGt_int, decide_eq_false c, boolOf_b, pure_at', Bool.false_eq_true, if_false, fThen_nx]
    rw [mThen_at, mSet_at]
    simp only [dat_at, frz_at, mBin_at, dC_at, aT_ok, bind_at', hc2, dat_d, opt_some_at, gAdd_int, hn, pure_at', s2', fThen_nx]
    rw [mThen_at, mSet_at]
    simp only [dat_at, frz_at, mOne_at, mBin_at, mCall2_at (mf := f__law_circle) fnM_len, e2', aT_ok, bind_at', hl1, dat_lst, opt_some_at, hcirc.call, dat_d, dC_at, houseD_ix1, hgl, pure_at', s3', fThen_nx]
    rw [mThen_at, hf, aT_ok, fThen_nx]
    simp only [mRet_at, mCall2_at (mf := f__law_moved) fnM_len, frz_at, htup, aT_ok, dat_d, opt_some_at, bind_at', ht2]
    show Out.andThen (callK f__law_moved [houseD n (setP (circ n ++ es)), .tuple (p.map .int)] (E v5 (circ n ++ es) o4 o6)) _ = _
    rw [hm.call]
    rfl
end TL
set_option Elab.async false
set_option linter.all false
set_option maxRecDepth 100000
namespace TL
open PySem PySem.Spec PyProof.Rows L2
/-! ### comprehensions that change the slots -/
theorem compM_inv {vs : List Nat} {g : PyData → M Unit} {t : M Bool} {elt : M PyData} (I : List PyData → Env → Prop) : ∀ {xs acc : List PyData} {e : Env}, acc.length + xs.length ≤ sizeLine → I acc e →
    (∀ x ∈ xs, ∀ acc e, I acc e → ∃ o e3, compT g t elt x (wipeE e vs) = some (.ok o e3) ∧ I (acc ++ o.toList) e3) → ∃ acc' e', compM vs g t elt xs acc e = some (.ok acc' e') ∧ I acc' e' ∧ acc'.length ≤ acc.length + xs.length
  | [], acc, e, _, h, _ => ⟨acc, e, rfl, h, by simp⟩
  | x :: xs, acc, e, hl, h, hb => by
    obtain ⟨o, e3, h1, h2⟩ := hb x List.mem_cons_self acc e h
    rw [compM_step, h1]
    rw [List.length_cons] at hl
    cases o with
    | none =>
      rw [Option.toList_none, List.append_nil] at h2
      obtain ⟨acc', e', h3, h4, h5⟩ := compM_inv I (xs := xs) (acc := acc) (e := e3) (by omega) h2 fun y hy => hb y (List.mem_cons_of_mem _ hy)
      exact ⟨acc', e', h3, h4, by rw [List.length_cons]; omega⟩
    | some y =>
      rw [Option.toList_some] at h2
      obtain ⟨acc', e', h3, h4, h5⟩ := compM_inv I (xs := xs) (acc := acc ++ [y]) (e := e3) (by rw [List.length_append, List.length_singleton]; omega) h2 fun z hz => hb z (List.mem_cons_of_mem _ hz)
      rw [List.length_append, List.length_singleton] at h5
      refine ⟨acc', e', ?_, h4, by rw [List.length_cons]; omega⟩
      show (if acc.length < sizeLine then fun env => compM vs g t elt xs (acc ++ [y]) env else fun _ => none) e3 = _
      rw [if_pos (by omega)]
      exact h3
theorem mComp_inv {vs : List Nat} {mi : M (List PyData)} {g : PyData → M Unit} {t : M Bool} {elt : M PyData} {e env : Env} {xs : List PyData} (I : List PyData → Env → Prop) (hi : mi e = some (.ok xs env)) (hf : vs.all (flatAt env) = true) (hl : xs.length ≤ sizeLine)
    (h0 : I [] env) (hb : ∀ x ∈ xs, ∀ acc e, I acc e → ∃ o e3, compT g t elt x (wipeE e vs) = some (.ok o e3) ∧ I (acc ++ o.toList) e3) : ∃ acc e', mComp vs mi g t elt e = some (.ok (.lst acc) (backE e' env vs)) ∧ I acc e' ∧ acc.length ≤ xs.length := by
  obtain ⟨acc, e', h1, h2, h3⟩ := compM_inv I (xs := xs) (acc := []) (e := env) (by simpa using hl) h0 hb
  refine ⟨acc, e', ?_, h2, by simpa using h3⟩
  show Out.andThen (mi e) (fun xs => fun env1 => if vs.all (flatAt env1) then (match compM vs g t elt xs [] env1 with
    | some (Out.ok acc env2) => some (Out.ok (OV.lst acc) (backE env2 env1 vs))
    | _ => none) else none) = _
  rw [hi]
  show (if vs.all (flatAt env) then (match compM vs g t elt xs [] env with
    | some (Out.ok acc env2) => some (Out.ok (OV.lst acc) (backE env2 env vs))
    | _ => none) else none) = _
  rw [if_pos hf, h1]
/-! ### lists of halls -/
theorem okN_ints {d : Nat} (xs : List Int) : OkN (d + 1) (.list (xs.map .int)) := okN_list fun x hx => by
  obtain ⟨i, _, rfl⟩ := List.mem_map.mp hx
  exact okN_int i
theorem any_int (xs : List Int) (a : Int) : ((xs.map PyData.int).any fun z => PyData.eqv z (.int a)) = decide (a ∈ xs) := by
  rw [List.any_map, Bool.eq_iff_iff, List.any_eq_true, decide_eq_true_iff]
  constructor
  · rintro ⟨z, hz, e⟩
    have : z = a := by simpa using e
    rwa [← this]
  · exact fun h => ⟨a, h, by simp⟩
theorem gIn_int (a : Int) (xs : List Int) : gIn (.int a) (.list (xs.map .int)) = some (.d (.bool (decide (a ∈ xs)))) := by
  show (if okD (.int a) && okD (.list (xs.map .int)) then some (OV.d (.bool ((xs.map PyData.int).any fun z => PyData.eqv z (.int a)))) else none) = _
  rw [(okN_int (d := 0) a).ok (by omega), (okN_ints (d := 0) xs).ok (by omega), any_int]
  rfl
theorem gNotIn_int (a : Int) (xs : List Int) : gNotIn (.int a) (.list (xs.map .int)) = some (.d (.bool (!decide (a ∈ xs)))) := by
  show (if okD (.int a) && okD (.list (xs.map .int)) then some (OV.d (.bool (!(xs.map PyData.int).any fun z => PyData.eqv z (.int a)))) else none) = _
  rw [(okN_int (d := 0) a).ok (by omega), (okN_ints (d := 0) xs).ok (by omega), any_int]
  rfl
theorem eqvAll_ints : ∀ (xs ys : List Int), PyData.eqvAll (xs.map .int) (ys.map .int) = decide (xs = ys)
  | [], [] => rfl
  | [], _ :: _ => rfl
  | _ :: _, [] => rfl
  | x :: xs, y :: ys => by
    show (PyData.eqv (.int x) (.int y) && PyData.eqvAll (xs.map .int) (ys.map .int)) = _
    rw [eqvAll_ints xs ys, eqv_int, Bool.eq_iff_iff]
    simp
theorem gNe_ints (xs ys : List Int) : gNe (.list (xs.map .int)) (.list (ys.map .int)) = some (.d (.bool (!decide (xs = ys)))) := by
  rw [gNe_ok (okN_ints (d := 0) xs) (okN_ints ys) (by omega), PyData.eqv, eqvAll_ints]
theorem intsOf_ints : ∀ (xs : List Int), intsOf (xs.map .int) = some xs
  | [] => rfl
  | x :: xs => by
    show (intsOf (xs.map .int)).map (x :: ·) = _
    rw [intsOf_ints xs]
    rfl
theorem gSset_ints {xs : List Int} (h : xs.length < 64) : gSset (.list (xs.map .int)) = some (.lst ((setI xs).map .int)) := by
  show (if (xs.map PyData.int).length < 64 then (match intsOf (xs.map .int) with
    | some ns => some (OV.lst ((setI ns).map .int))
    | none => (match pairsOf (xs.map .int) with
      | some ps => if ps.all pairOk then some (.lst ((setP ps).map pairD)) else none
      | none => none)) else none) = _
  rw [if_pos (by simpa using h), intsOf_ints]
/-- the halls behind the doors out of these -/
def nearI (ds : List (Int × Int)) (xs : List Int) : List Int := ds.filterMap fun p => if p.1 ∈ xs then some p.2 else none
theorem mem_nearI {ds : List (Int × Int)} {xs : List Int} {y : Int} : y ∈ nearI ds xs ↔ ∃ x, x ∈ xs ∧ (x, y) ∈ ds := by
  unfold nearI
  rw [List.mem_filterMap]
  constructor
  · rintro ⟨⟨a, b⟩, h, e⟩
    by_cases c : a ∈ xs
    · rw [if_pos c] at e
      cases e
      exact ⟨a, c, h⟩
    · rw [if_neg c] at e
      cases e
  · rintro ⟨x, h1, h2⟩
    exact ⟨(x, y), h2, by rw [if_pos h1]⟩
theorem nearI_len (ds : List (Int × Int)) (xs : List Int) : (nearI ds xs).length ≤ ds.length := List.length_filterMap_le _ _
theorem nearI_map (ds : List (Int × Int)) (xs : List Int) : (nearI ds xs).map PyData.int = ds.filterMap fun p => if p.1 ∈ xs then some (.int p.2) else none := by
  unfold nearI
  rw [List.map_filterMap]
  congr 1
  funext p
  split <;> rfl
def grow (ds : List (Int × Int)) (xs : List Int) : List Int := setI (xs ++ nearI ds xs)
theorem mem_grow {ds : List (Int × Int)} {xs : List Int} {y : Int} : y ∈ grow ds xs ↔ y ∈ xs ∨ ∃ x, x ∈ xs ∧ (x, y) ∈ ds := by
  unfold grow
  rw [mem_setI, List.mem_append, mem_nearI]
theorem grow_nodup (ds : List (Int × Int)) (xs : List Int) : (grow ds xs).Nodup := by
  rw [List.nodup_iff_pairwise_ne]
  exact (setI_sorted _).imp fun h e => by omega
/-- a list of halls that holds just those within t doors -/
def IsBall (ds : List (Int × Int)) (a : Int) (t : Nat) (xs : List Int) : Prop := ∀ y, y ∈ xs ↔ ball ds a t y
theorem IsBall.grow {ds : List (Int × Int)} {a : Int} {t : Nat} {xs : List Int} (h : IsBall ds a t xs) : IsBall ds a (t + 1) (grow ds xs) := fun y => by
  rw [mem_grow, h y]
  show _ ↔ ball ds a t y ∨ ∃ x, ball ds a t x ∧ (x, y) ∈ ds
  constructor
  · rintro (h1 | ⟨x, h1, h2⟩)
    · exact .inl h1
    · exact .inr ⟨x, (h x).mp h1, h2⟩
  · rintro (h1 | ⟨x, h1, h2⟩)
    · exact .inl h1
    · exact .inr ⟨x, (h x).mpr h1, h2⟩
theorem IsBall.zero {ds : List (Int × Int)} (a : Int) : IsBall ds a 0 [a] := fun y => List.mem_singleton
theorem IsBall.small {ds : List (Int × Int)} {n a : Int} {t : Nat} {xs : List Int} (h : IsBall ds a t xs) (nd : xs.Nodup) (hd : ∀ p ∈ ds, inN n p.1 ∧ inN n p.2) (ha : inN n a) : xs.length ≤ n.toNat := by
  rw [← rangeI_len]
  exact nodup_le nd fun y hy => mem_rangeI.mpr ((Reach.of_ball ((h y).mp hy)).inN hd ha)
theorem grow_run {ds : List (Int × Int)} {xs : List Int} {a b : M PyData} {e : Env} (h1 : a e = some (.ok (.list (xs.map .int)) e)) (h2 : b e = some (.ok (.list ((nearI ds xs).map .int)) e)) (hl : xs.length + ds.length < 64) :
    frz (mSset (frz (mBin gAdd a b))) e = some (.ok (.list ((grow ds xs).map .int)) e) := by
  have hn := nearI_len ds xs
  have ha : gAdd (.list (xs.map .int)) (.list ((nearI ds xs).map .int)) = some (.lst ((xs ++ nearI ds xs).map .int)) := by
    show (if (xs.map PyData.int).length + ((nearI ds xs).map PyData.int).length ≤ sizeLine then some (OV.lst (xs.map PyData.int ++ (nearI ds xs).map PyData.int)) else none) = _
    rw [if_pos (fits (by rw [List.length_map, List.length_map]; omega)), List.map_append]
  rw [frz_at, mSset_at (x := .list ((xs ++ nearI ds xs).map .int)) (r := .lst ((grow ds xs).map .int)) (e1 := e) (by simp [-List.map_append, h1, h2, ha]) (gSset_ints (by rw [List.length_append]; omega))]
  rfl
end TL
set_option Elab.async false
set_option linter.all false
set_option maxRecDepth 100000
namespace TL
open PySem PySem.Spec PyProof.Rows L2
/-! ### the law's own steps -/
def lE (sc : PyData) (v : OV) (o2 o3 o4 o5 o6 o7 o8 o9 o10 o11 o12 o13 o14 o15 o16 : Option OV) : Env := [some (.d sc), some v, o2, o3, o4, o5, o6, o7, o8, o9, o10, o11, o12, o13, o14, o15, o16]
def dI (i : Int) : Option OV := some (.d (.int i))
def dP (ds : List (Int × Int)) : Option OV := some (.d (.tuple (ds.map pairD)))
def dQ (ds : List (Int × Int)) : Option OV := some (.d (.list (ds.map pairD)))
def dL (xs : List Int) : Option OV := some (.d (.list (xs.map .int)))
theorem alike_if {A B : M PyData} {e : Env} {x : PyData} {d : Nat} (hA : A e = some (.ok x e)) (hB : B e = some (.ok x e)) (ht : Tame d x) (hd : d < 8) : mIf (mNot (mTru (mCall (.d A :: .d B :: []) f__law_alike))) (mRet (dat (dC (.bool false)))) (pure .nx) e = some (.ok .nx e) := by
  have F := law_alike_run ht hd
  have : mCall (.d A :: .d B :: []) f__law_alike e = some (.ok (.d (.bool true)) e) := by
    rw [mCall2_at (mf := f__law_alike) (r_len 8), hA, aT_ok, bind_at', hB, aT_ok]
    exact F.call e
  simp [this]
theorem tame_ints {xs : List PyData} (h : ∀ x ∈ xs, ∃ i, x = .int i) {d : Nat} : ∀ x ∈ xs, Tame d x := fun x hx => by
  obtain ⟨i, rfl⟩ := h x hx
  exact .int i
theorem outs_tame {ds : List (Int × Int)} {a : Int} (hl : ds.length ≤ 1000) : Tame 1 (.tuple (outs ds a)) := .tuple (Nat.le_trans (List.length_filterMap_le _ _) hl) (tame_ints fun x hx => by
  obtain ⟨p, _, e⟩ := List.mem_filterMap.mp hx
  split at e
  · cases e
    exact ⟨_, rfl⟩
  · cases e)
theorem tame_pair {d : Nat} (p : Int × Int) : Tame (d + 1) (pairD p) := .tuple (by simp) (tame_ints fun x hx => by
  simp only [List.mem_cons, List.not_mem_nil, or_false] at hx
  rcases hx with rfl | rfl <;> exact ⟨_, rfl⟩)
theorem tame_house {d : Nat} {n : Int} {ds : List (Int × Int)} (hl : ds.length ≤ 1000) : Tame (d + 3) (houseD n ds) := .tuple (by simp) fun x hx => by
  simp only [List.mem_cons, List.not_mem_nil, or_false] at hx
  rcases hx with rfl | rfl
  · exact .int _
  · refine .tuple (by simpa using hl) fun x hx => ?_
    obtain ⟨p, _, rfl⟩ := List.mem_map.mp hx
    exact tame_pair p
theorem gEq_nil {d : Nat} {xs : List PyData} (h : ∀ x ∈ xs, OkN d x) (hd : d < 64) : gEq (.list xs) (.list []) = some (.d (.bool xs.isEmpty)) := by
  rw [gEq_ok (okN_list h) (okN_list fun x hx => by cases hx) (by omega), PyData.eqv]
  cases xs <;> rfl
section
variable {sc : PyData} {v : OV} {o2 o3 o4 o5 o6 o7 o8 o9 o10 o11 o12 o13 : Option OV}
/-- comprehensions over the doors in slot 4 -/
theorem comp4 {ds : List (Int × Int)} {t : M Bool} {elt : M PyData} (f : Int × Int → Option PyData) (hl : ds.length ≤ 1000)
    (hb : ∀ p ∈ ds, compT (gT 2 (gsCons (gN 14) (gsCons (gN 15) (gsNil)))) t elt (pairD p) (lE sc v o2 o3 (dP ds) o5 o6 o7 o8 o9 o10 o11 o12 o13 none none none) = some (.ok (f p) (lE sc v o2 o3 (dP ds) o5 o6 o7 o8 o9 o10 o11 o12 o13 (dI p.1) (dI p.2) none))) :
    mComp [14, 15] (mItems (dV 4)) (gT 2 (gsCons (gN 14) (gsCons (gN 15) (gsNil)))) t elt (lE sc v o2 o3 (dP ds) o5 o6 o7 o8 o9 o10 o11 o12 o13 none none none) = some (.ok (.lst (ds.filterMap f)) (lE sc v o2 o3 (dP ds) o5 o6 o7 o8 o9 o10 o11 o12 o13 none none none)) :=
  comp_doors f (mItems_t rfl) rfl hl fun p hp => ⟨_, hb p hp, rfl⟩
/-- and in slot 10 -/
theorem comp10 {ds : List (Int × Int)} {t : M Bool} {elt : M PyData} (f : Int × Int → Option PyData) (hl : ds.length ≤ 1000)
    (hb : ∀ p ∈ ds, compT (gT 2 (gsCons (gN 14) (gsCons (gN 15) (gsNil)))) t elt (pairD p) (lE sc v o2 o3 o4 o5 o6 o7 o8 o9 (dQ ds) o11 o12 o13 none none none) = some (.ok (f p) (lE sc v o2 o3 o4 o5 o6 o7 o8 o9 (dQ ds) o11 o12 o13 (dI p.1) (dI p.2) none))) :
    mComp [14, 15] (mItems (dV 10)) (gT 2 (gsCons (gN 14) (gsCons (gN 15) (gsNil)))) t elt (lE sc v o2 o3 o4 o5 o6 o7 o8 o9 (dQ ds) o11 o12 o13 none none none) = some (.ok (.lst (ds.filterMap f)) (lE sc v o2 o3 o4 o5 o6 o7 o8 o9 (dQ ds) o11 o12 o13 none none none)) :=
  comp_doors f (mItems_l rfl) rfl hl fun p hp => ⟨_, hb p hp, rfl⟩
theorem near4 {ds : List (Int × Int)} {xs : List Int} (hl : ds.length ≤ 1000) : frz (mComp [14, 15] (mItems (dV 4)) (gT 2 (gsCons (gN 14) (gsCons (gN 15) (gsNil)))) (asB (mBin gIn (dV 14) (dV 7))) (dV 15)) (lE sc v o2 o3 (dP ds) o5 o6 (dL xs) o8 o9 o10 o11 o12 o13 none none none) = some (.ok (.list ((nearI ds xs).map .int)) (lE sc v o2 o3 (dP ds) o5 o6 (dL xs) o8 o9 o10 o11 o12 o13 none none none)) := by
  rw [frz_at, comp4 (fun p => if p.1 ∈ xs then some (.int p.2) else none) hl, nearI_map]
  · rfl
  · intro p hp
    by_cases c : p.1 ∈ xs <;> simp [compT, lE, dP, dL, dI, pairD, dV_app, gIn_int, c]
theorem near10 {ds : List (Int × Int)} {xs : List Int} (hl : ds.length ≤ 1000) : frz (mComp [14, 15] (mItems (dV 10)) (gT 2 (gsCons (gN 14) (gsCons (gN 15) (gsNil)))) (asB (mBin gIn (dV 14) (dV 13))) (dV 15)) (lE sc v o2 o3 o4 o5 o6 o7 o8 o9 (dQ ds) o11 o12 (dL xs) none none none) = some (.ok (.list ((nearI ds xs).map .int)) (lE sc v o2 o3 o4 o5 o6 o7 o8 o9 (dQ ds) o11 o12 (dL xs) none none none)) := by
  rw [frz_at, comp10 (fun p => if p.1 ∈ xs then some (.int p.2) else none) hl, nearI_map]
  · rfl
  · intro p hp
    by_cases c : p.1 ∈ xs <;> simp [compT, lE, dQ, dL, dI, pairD, dV_app, gIn_int, c]
end
/-! ### as far as it is -/
def wB1 : M Fl := mAsg (gT 2 (gsCons (gN 7) (gsCons (gN 8) (gsNil)))) (frz (mTup (mCons (frz (mSset (frz (mBin gAdd (dV 7) (frz (mComp [14, 15] (mItems (dV 4)) (gT 2 (gsCons (gN 14) (gsCons (gN 15) (gsNil)))) (asB (mBin gIn (dV 14) (dV 7))) (dV 15))))))) (mCons (frz (mBin gAdd (dV 8) (dC (.int 1)))) (pure [])))))
section
variable {sc : PyData} {v : OV} {n a b : Int} {ds : List (Int × Int)}
def fE (sc : PyData) (v : OV) (n a b : Int) (ds : List (Int × Int)) (xs : List Int) (t : Int) : Env := lE sc v (some (.d (houseD n ds))) (dI n) (dP ds) (dI a) (dI b) (dL xs) (dI t) none none none none none none none none
theorem wB1_run {xs : List Int} {t : Int} (hl : xs.length + ds.length < 64) : wB1 (fE sc v n a b ds xs t) = some (.ok .nx (fE sc v n a b ds (grow ds xs) (t + 1))) := by
  have h7 : dV 7 (fE sc v n a b ds xs t) = some (.ok (.list (xs.map .int)) (fE sc v n a b ds xs t)) := rfl
  have h8 : dV 8 (fE sc v n a b ds xs t) = some (.ok (.int t) (fE sc v n a b ds xs t)) := rfl
  have hg := grow_run (a := dV 7) h7 (near4 (sc := sc) (v := v) (o2 := some (.d (houseD n ds))) (o3 := dI n) (o5 := dI a) (o6 := dI b) (o8 := dI t) (o9 := none) (o10 := none) (o11 := none) (o12 := none) (o13 := none) (ds := ds) (xs := xs) (by omega)) hl
  have ht := mTup_at (m := mCons (frz (mSset (frz (mBin gAdd (dV 7) (frz (mComp [14, 15] (mItems (dV 4)) (gT 2 (gsCons (gN 14) (gsCons (gN 15) (gsNil)))) (asB (mBin gIn (dV 14) (dV 7))) (dV 15))))))) (mCons (frz (mBin gAdd (dV 8) (dC (.int 1)))) (pure []))) (xs := [.list ((grow ds xs).map .int), .int (t + 1)]) (e := fE sc v n a b ds xs t) (e1 := fE sc v n a b ds xs t) (by
    rw [mCons_at, hg]
    simp [h8]) (fits (by simp))
  unfold wB1
  rw [mAsg_at, frz_at, ht]
  rfl
theorem far_loop (g : Good n ds) (hl : ds.length ≤ 20) (ha : inN n a) {d : Nat} (hd : dist ds a b d) : ∃ xs, mWhile (asB (mBin gNotIn (dV 6) (dV 7))) wB1 (fE sc v n a b ds [a] 0) = some (.ok .nx (fE sc v n a b ds xs (d : Int))) := by
  let I : Nat → Env → Prop := fun m e => ∃ (t : Nat) (xs : List Int), e = fE sc v n a b ds xs (t : Int) ∧ IsBall ds a t xs ∧ xs.Nodup ∧ t ≤ d ∧ m = d - t
  let Z : Env → Prop := fun e => ∃ xs, e = fE sc v n a b ds xs (d : Int)
  have turn : ∀ m e, I m e → (∃ e1, asB (mBin gNotIn (dV 6) (dV 7)) e = some (.ok false e1) ∧ Z e1) ∨ ∃ e1 e2 m', asB (mBin gNotIn (dV 6) (dV 7)) e = some (.ok true e1) ∧ (wB1 e1 = some (.ok .nx e2) ∨ wB1 e1 = some (.ok .ct e2)) ∧ m' < m ∧ I m' e2 := by
    rintro m e ⟨t, xs, rfl, hb, nd, ht, rfl⟩
    have h6 : dV 6 (fE sc v n a b ds xs t) = some (.ok (.int b) (fE sc v n a b ds xs t)) := rfl
    have h7 : dV 7 (fE sc v n a b ds xs t) = some (.ok (.list (xs.map .int)) (fE sc v n a b ds xs t)) := rfl
    have htest : asB (mBin gNotIn (dV 6) (dV 7)) (fE sc v n a b ds xs t) = some (.ok (!decide (b ∈ xs)) (fE sc v n a b ds xs t)) := by
      simp [h6, h7, gNotIn_int]
    have hsm := hb.small nd (fun p hp => ⟨(g.ok p hp).1, (g.ok p hp).2.1⟩) ha
    have hhi := g.hi
    by_cases c : b ∈ xs
    · have : t = d := by
        apply Decidable.byContradiction
        intro z
        exact hd.2 t (by omega) ((hb b).mp c)
      subst this
      exact .inl ⟨_, by rw [htest, decide_eq_true c]; rfl, xs, rfl⟩
    · have : t ≠ d := fun e => c ((hb b).mpr (by rw [e]; exact hd.1))
      refine .inr ⟨_, _, d - (t + 1), by rw [htest, decide_eq_false c]; rfl, .inl (wB1_run (by omega)), by omega, t + 1, grow ds xs, rfl, hb.grow, grow_nodup ds xs, by omega, rfl⟩
  obtain ⟨e', h, xs, rfl⟩ := mWhile_inv (t := asB (mBin gNotIn (dV 6) (dV 7))) (b := wB1) I Z turn (n := d - 0) (e := fE sc v n a b ds [a] 0) ⟨0, [a], rfl, .zero a, by simp, Nat.zero_le _, rfl⟩
  exact ⟨xs, h⟩
end
end TL
set_option Elab.async false
set_option linter.all false
set_option maxRecDepth 100000
namespace TL
open PySem PySem.Spec PyProof.Rows L2
def wB2 : M Fl := mAsg (gT 2 (gsCons (gN 7) (gsCons (gN 13) (gsNil)))) (frz (mTup (mCons (dV 13) (mCons (frz (mSset (frz (mBin gAdd (dV 13) (frz (mComp [14, 15] (mItems (dV 10)) (gT 2 (gsCons (gN 14) (gsCons (gN 15) (gsNil)))) (asB (mBin gIn (dV 14) (dV 13))) (dV 15))))))) (pure [])))))
noncomputable def oB : M Fl := mThen (mAsg (gT 2 (gsCons (gN 7) (gsCons (gN 13) (gsNil)))) (frz (mTup (mCons (frz (mLst (pure []))) (mCons (frz (mLst (mCons (dV 12) (pure [])))) (pure []))))))
  (mThen (mWhile (asB (mBin gNe (dV 7) (dV 13))) wB2) (mSet 11 (dat (frz (mAndV (mVar 11) (mBin gEq (frz (mPeek 7 gLen)) (dV 3)))))))
theorem closed_reach {ss : List (Int × Int)} {a : Int} {s : Nat} (h : ∀ y, ball ss a (s + 1) y → ball ss a s y) {y : Int} (r : Reach ss a y) : ball ss a s y := by
  induction r with
  | refl => exact ball_mono (Nat.zero_le s) rfl
  | step _ e ih => exact h _ (.inr ⟨_, ih, e⟩)
theorem lt_nodup {xs : List Int} (h : xs.Pairwise (· < ·)) : xs.Nodup := by
  rw [List.nodup_iff_pairwise_ne]
  exact h.imp fun h e => by omega
section
variable {sc : PyData} {v : OV} {n : Int} {ss ds : List (Int × Int)} {o2 o5 o6 o8 o9 : Option OV}
def gE (sc : PyData) (v : OV) (n : Int) (o2 o4 o5 o6 o8 o9 : Option OV) (ss : List (Int × Int)) (f : Bool) (o7 o12 o13 : Option OV) : Env := lE sc v o2 (dI n) o4 o5 o6 o7 o8 o9 (dQ ss) (some (.d (.bool f))) o12 o13 none none none
theorem wB2_run {o4 o12 : Option OV} {f : Bool} {xs ys : List Int} (hl : ys.length + ss.length < 64) : wB2 (gE sc v n o2 o4 o5 o6 o8 o9 ss f (dL xs) o12 (dL ys)) = some (.ok .nx (gE sc v n o2 o4 o5 o6 o8 o9 ss f (dL ys) o12 (dL (grow ss ys)))) := by
  have h13 : dV 13 (gE sc v n o2 o4 o5 o6 o8 o9 ss f (dL xs) o12 (dL ys)) = some (.ok (.list (ys.map .int)) (gE sc v n o2 o4 o5 o6 o8 o9 ss f (dL xs) o12 (dL ys))) := rfl
  have hg := grow_run (a := dV 13) h13 (near10 (sc := sc) (v := v) (o2 := o2) (o3 := dI n) (o4 := o4) (o5 := o5) (o6 := o6) (o7 := dL xs) (o8 := o8) (o9 := o9) (o11 := some (.d (.bool f))) (o12 := o12) (ds := ss) (xs := ys) (by omega)) hl
  have ht := mTup_at (m := mCons (dV 13) (mCons (frz (mSset (frz (mBin gAdd (dV 13) (frz (mComp [14, 15] (mItems (dV 10)) (gT 2 (gsCons (gN 14) (gsCons (gN 15) (gsNil)))) (asB (mBin gIn (dV 14) (dV 13))) (dV 15))))))) (pure []))) (xs := [.list (ys.map .int), .list ((grow ss ys).map .int)]) (e := gE sc v n o2 o4 o5 o6 o8 o9 ss f (dL xs) o12 (dL ys)) (e1 := gE sc v n o2 o4 o5 o6 o8 o9 ss f (dL xs) o12 (dL ys)) (by
    rw [mCons_at, h13, aT_ok, bind_at', mCons_at, hg]
    rfl) (fits (by simp))
  unfold wB2
  rw [mAsg_at, frz_at, ht]
  rfl
theorem close_loop {o4 o12 : Option OV} {f : Bool} {a : Int} (hn : n ≤ 10) (hd : ∀ p ∈ ss, inN n p.1 ∧ inN n p.2) (hl : ss.length ≤ 30) (ha : inN n a) : ∃ xs, mWhile (asB (mBin gNe (dV 7) (dV 13))) wB2 (gE sc v n o2 o4 o5 o6 o8 o9 ss f (dL []) o12 (dL [a])) = some (.ok .nx (gE sc v n o2 o4 o5 o6 o8 o9 ss f (dL xs) o12 (dL xs))) ∧ xs.Nodup ∧ ∀ y, y ∈ xs ↔ Reach ss a y := by
  let I : Nat → Env → Prop := fun m e => ∃ (t : Nat) (xs ys : List Int), e = gE sc v n o2 o4 o5 o6 o8 o9 ss f (dL xs) o12 (dL ys) ∧ IsBall ss a t ys ∧ ys.Pairwise (· < ·) ∧ (xs = [] ∨ ∃ s, t = s + 1 ∧ IsBall ss a s xs ∧ xs.Pairwise (· < ·)) ∧ m = n.toNat + 1 - xs.length
  let Z : Env → Prop := fun e => ∃ xs, e = gE sc v n o2 o4 o5 o6 o8 o9 ss f (dL xs) o12 (dL xs) ∧ xs.Nodup ∧ ∀ y, y ∈ xs ↔ Reach ss a y
  have turn : ∀ m e, I m e → (∃ e1, asB (mBin gNe (dV 7) (dV 13)) e = some (.ok false e1) ∧ Z e1) ∨ ∃ e1 e2 m', asB (mBin gNe (dV 7) (dV 13)) e = some (.ok true e1) ∧ (wB2 e1 = some (.ok .nx e2) ∨ wB2 e1 = some (.ok .ct e2)) ∧ m' < m ∧ I m' e2 := by
    rintro m e ⟨t, xs, ys, rfl, hb, hs, hx, rfl⟩
    have h7 : dV 7 (gE sc v n o2 o4 o5 o6 o8 o9 ss f (dL xs) o12 (dL ys)) = some (.ok (.list (xs.map .int)) (gE sc v n o2 o4 o5 o6 o8 o9 ss f (dL xs) o12 (dL ys))) := rfl
    have h13 : dV 13 (gE sc v n o2 o4 o5 o6 o8 o9 ss f (dL xs) o12 (dL ys)) = some (.ok (.list (ys.map .int)) (gE sc v n o2 o4 o5 o6 o8 o9 ss f (dL xs) o12 (dL ys))) := rfl
    have htest : asB (mBin gNe (dV 7) (dV 13)) (gE sc v n o2 o4 o5 o6 o8 o9 ss f (dL xs) o12 (dL ys)) = some (.ok (!decide (xs = ys)) (gE sc v n o2 o4 o5 o6 o8 o9 ss f (dL xs) o12 (dL ys))) := by
      simp [h7, h13, gNe_ints]
    have hay : a ∈ ys := (hb a).mpr (ball_mono (Nat.zero_le t) rfl)
    have hsm := hb.small (lt_nodup hs) hd ha
    by_cases c : xs = ys
    · subst c
      rcases hx with rfl | ⟨s, rfl, hb2, hs2⟩
      · cases hay
      · refine .inl ⟨_, by rw [htest, decide_eq_true rfl]; rfl, xs, rfl, lt_nodup hs, fun y => ⟨fun h => Reach.of_ball ((hb y).mp h), fun h => ?_⟩⟩
        exact (hb2 y).mpr (closed_reach (fun z hz => (hb2 z).mp ((hb z).mpr hz)) h)
    · refine .inr ⟨_, _, n.toNat + 1 - ys.length, by rw [htest, decide_eq_false c]; rfl, .inl (wB2_run (by omega)), ?_, t + 1, ys, grow ss ys, rfl, hb.grow, setI_sorted _, .inr ⟨t, rfl, hb, hs⟩, rfl⟩
      have : xs.length < ys.length := by
        rcases hx with rfl | ⟨s, rfl, hb2, hs2⟩
        · exact List.length_pos_of_mem hay
        · apply Decidable.byContradiction
          intro z
          refine c (pairwise_lt_unique hs2 hs fun k => ⟨fun hk => (hb k).mpr (.inl ((hb2 k).mp hk)), fun hk => ?_⟩)
          apply Decidable.byContradiction
          intro hk2
          have := nodup_le (l := k :: xs) (m := ys) (List.nodup_cons.mpr ⟨hk2, lt_nodup hs2⟩) fun u hu => by
            rcases List.mem_cons.mp hu with rfl | hu
            · exact hk
            · exact (hb u).mpr (.inl ((hb2 u).mp hu))
          rw [List.length_cons] at this
          omega
      omega
  obtain ⟨e', h, xs, rfl, h1, h2⟩ := mWhile_inv (t := asB (mBin gNe (dV 7) (dV 13))) (b := wB2) I Z turn (n := n.toNat + 1 - 0) (e := gE sc v n o2 o4 o5 o6 o8 o9 ss f (dL []) o12 (dL [a])) ⟨0, [], [a], rfl, .zero a, by simp, .inl rfl, rfl⟩
  exact ⟨xs, h, h1, h2⟩
theorem oB_run {o4 o7 o13 : Option OV} {f : Bool} {a : Int} (hn0 : 0 ≤ n) (hn : n ≤ 10) (hd : ∀ p ∈ ss, inN n p.1 ∧ inN n p.2) (hl : ss.length ≤ 30) (ha : inN n a) : ∃ f' o7' o13', oB (gE sc v n o2 o4 o5 o6 o8 o9 ss f o7 (dI a) o13) = some (.ok .nx (gE sc v n o2 o4 o5 o6 o8 o9 ss f' o7' (dI a) o13')) ∧ (f' = true ↔ f = true ∧ ∀ y, inN n y → Reach ss a y) := by
  obtain ⟨xs, hw, nd, hr⟩ := close_loop (sc := sc) (v := v) (o2 := o2) (o4 := o4) (o5 := o5) (o6 := o6) (o8 := o8) (o9 := o9) (o12 := dI a) (f := f) hn hd hl ha
  have hfull := full_iff hn0 nd fun y hy => ((hr y).mp hy).inN hd ha
  refine ⟨f && decide ((xs.length : Int) = n), dL xs, dL xs, ?_, ?_⟩
  · have hm0 : mLst (pure []) (gE sc v n o2 o4 o5 o6 o8 o9 ss f o7 (dI a) o13) = some (.ok (.lst []) (gE sc v n o2 o4 o5 o6 o8 o9 ss f o7 (dI a) o13)) := mLst_at rfl (Nat.zero_le _)
    have hm1 : mLst (mCons (dV 12) (pure [])) (gE sc v n o2 o4 o5 o6 o8 o9 ss f o7 (dI a) o13) = some (.ok (.lst [.int a]) (gE sc v n o2 o4 o5 o6 o8 o9 ss f o7 (dI a) o13)) := mLst_at rfl (fits (by simp))
    have ht := mTup_at (m := mCons (frz (mLst (pure []))) (mCons (frz (mLst (mCons (dV 12) (pure [])))) (pure []))) (xs := [.list [], .list [.int a]]) (e := gE sc v n o2 o4 o5 o6 o8 o9 ss f o7 (dI a) o13) (e1 := gE sc v n o2 o4 o5 o6 o8 o9 ss f o7 (dI a) o13) (by simp [hm0, hm1]) (fits (by simp))
    have h1 : mAsg (gT 2 (gsCons (gN 7) (gsCons (gN 13) (gsNil)))) (frz (mTup (mCons (frz (mLst (pure []))) (mCons (frz (mLst (mCons (dV 12) (pure [])))) (pure []))))) (gE sc v n o2 o4 o5 o6 o8 o9 ss f o7 (dI a) o13) = some (.ok .nx (gE sc v n o2 o4 o5 o6 o8 o9 ss f (dL []) (dI a) (dL [a]))) := by
      rw [mAsg_at, frz_at, ht]
      rfl
    have e11 : mVar 11 (gE sc v n o2 o4 o5 o6 o8 o9 ss f (dL xs) (dI a) (dL xs)) = some (.ok (.d (.bool f)) (gE sc v n o2 o4 o5 o6 o8 o9 ss f (dL xs) (dI a) (dL xs))) := rfl
    have e3 : dV 3 (gE sc v n o2 o4 o5 o6 o8 o9 ss f (dL xs) (dI a) (dL xs)) = some (.ok (.int n) (gE sc v n o2 o4 o5 o6 o8 o9 ss f (dL xs) (dI a) (dL xs))) := rfl
    have e7 : mPeek 7 gLen (gE sc v n o2 o4 o5 o6 o8 o9 ss f (dL xs) (dI a) (dL xs)) = some (.ok (.d (.int xs.length)) (gE sc v n o2 o4 o5 o6 o8 o9 ss f (dL xs) (dI a) (dL xs))) := mPeek_at (v := .d (.list (xs.map .int))) rfl (by simp)
    unfold oB
    rw [mThen_at, h1, aT_ok, fThen_nx, mThen_at, hw, aT_ok, fThen_nx, mSet_at, dat_at, frz_at, mAndV_at, asB_at, e11]
    cases f
    · simp
      rfl
    · simp [e7, e3]
      rfl
  · rw [Bool.and_eq_true_iff, decide_eq_true_iff, hfull]
    exact and_congr_right fun _ => forall_congr' fun y => imp_congr_right fun _ => hr y
theorem all_loop {o4 o7 o12 o13 : Option OV} {f : Bool} (hn0 : 0 ≤ n) (hn : n ≤ 10) (hd : ∀ p ∈ ss, inN n p.1 ∧ inN n p.2) (hl : ss.length ≤ 30) : ∃ f' o7' o12' o13', mFor (mRange1 (dV 3)) (gN 12) oB (gE sc v n o2 o4 o5 o6 o8 o9 ss f o7 o12 o13) = some (.ok .nx (gE sc v n o2 o4 o5 o6 o8 o9 ss f' o7' o12' o13')) ∧ (f' = true ↔ f = true ∧ SC n ss) := by
  let I : Nat → Env → Prop := fun j e => ∃ f' o7' o12' o13', e = gE sc v n o2 o4 o5 o6 o8 o9 ss f' o7' o12' o13' ∧ (f' = true ↔ f = true ∧ ∀ x, 0 ≤ x → x < (j : Int) → ∀ y, inN n y → Reach ss x y)
  have turn : ∀ j x e, (rngD 0 n.toNat)[j]? = some x → I j e → ∃ e1 e2, gN 12 x e = some (.ok () e1) ∧ (oB e1 = some (.ok .nx e2) ∨ oB e1 = some (.ok .ct e2)) ∧ I (j + 1) e2 := by
    rintro j x e hx ⟨f1, o7', o12', o13', rfl, hf⟩
    obtain ⟨hj, rfl⟩ := rngD_get hx
    rw [Int.zero_add]
    obtain ⟨f2, o72, o132, h, hf2⟩ := oB_run (sc := sc) (v := v) (o2 := o2) (o4 := o4) (o5 := o5) (o6 := o6) (o8 := o8) (o9 := o9) (f := f1) (o7 := o7') (o13 := o13') (a := (j : Int)) hn0 hn hd hl ⟨by omega, by omega⟩
    refine ⟨_, _, rfl, .inl h, f2, o72, _, o132, rfl, ?_⟩
    rw [hf2, hf]
    constructor
    · rintro ⟨⟨a, b⟩, c⟩
      refine ⟨a, fun x h0 h1 y hy => ?_⟩
      by_cases e : x = (j : Int)
      · rw [e]; exact c y hy
      · exact b x h0 (by omega) y hy
    · rintro ⟨a, b⟩
      exact ⟨⟨a, fun x h0 h1 => b x h0 (by omega)⟩, b j (by omega) (by omega)⟩
  obtain ⟨e', h, f', o7', o12', o13', rfl, hf⟩ := mFor_inv (mi := mRange1 (dV 3)) (g := gN 12) (b := oB) I (e := gE sc v n o2 o4 o5 o6 o8 o9 ss f o7 o12 o13) (e0 := gE sc v n o2 o4 o5 o6 o8 o9 ss f o7 o12 o13) (xs := rngD 0 n.toNat)
    (mRange1_at (j := n) rfl (by omega) (by omega)) ⟨f, o7, o12, o13, rfl, fun h => ⟨h, fun x h0 h1 => by omega⟩, fun h => h.1⟩ turn
  rw [rngD_len] at hf
  refine ⟨f', o7', o12', o13', h, hf.trans (and_congr_right fun _ => ⟨fun h x y hx hy => h x hx.1 (by have := hx.2; omega) y hy, fun h x h0 h1 y hy => h x y ⟨h0, by omega⟩ hy⟩)⟩
end
/-! ### the doors made by chance -/
theorem some_comp {sc : PyData} {v : OV} {n m : Int} {o2 o4 o5 o6 o7 o9 : Option OV} (hv : RowOk v) (h1 : 0 < n) (h2 : n ≤ 10) (m1 : 0 ≤ m) (m2 : m ≤ 30) :
    ∃ (ps : List (Int × Int)) (v' : OV), mComp [16] (mRange1 (dV 8)) (gN 16) (pure true) (frz (mTup (mCons (frz (mCall (.s 1 :: .d (dV 3) :: []) f__law_taken)) (mCons (frz (mCall (.s 1 :: .d (dV 3) :: []) f__law_taken)) (pure []))))) (lE sc v o2 (dI n) o4 o5 o6 o7 (dI m) o9 none none none none none none none) = some (.ok (.lst (ps.map pairD)) (lE sc v' o2 (dI n) o4 o5 o6 o7 (dI m) o9 none none none none none none none)) ∧ RowOk v' ∧ (∀ p ∈ ps, inN n p.1 ∧ inN n p.2) ∧ ps.length ≤ 30 := by
  let I : List PyData → Env → Prop := fun acc e => ∃ (v : OV) (ps : List (Int × Int)) (o16 : Option OV), acc = ps.map pairD ∧ (∀ p ∈ ps, inN n p.1 ∧ inN n p.2) ∧ RowOk v ∧ e = lE sc v o2 (dI n) o4 o5 o6 o7 (dI m) o9 none none none none none none o16
  obtain ⟨acc, e', h, ⟨v', ps, o16, rfl, ho, hr, rfl⟩, hl⟩ := mComp_inv (vs := [16]) (mi := mRange1 (dV 8)) (g := gN 16) (t := pure true) (elt := frz (mTup (mCons (frz (mCall (.s 1 :: .d (dV 3) :: []) f__law_taken)) (mCons (frz (mCall (.s 1 :: .d (dV 3) :: []) f__law_taken)) (pure []))))) I (e := lE sc v o2 (dI n) o4 o5 o6 o7 (dI m) o9 none none none none none none none) (env := lE sc v o2 (dI n) o4 o5 o6 o7 (dI m) o9 none none none none none none none) (xs := rngD 0 m.toNat)
    (mRange1_at (j := m) rfl (by omega) (by omega)) rfl (by rw [rngD_len]; exact fits (by omega)) ⟨v, [], none, rfl, ⟨fun p (hp : p ∈ []) => (nomatch hp), hv, rfl⟩⟩ (by
      rintro x hx acc e ⟨v, ps, o16, rfl, ho, hr, rfl⟩
      obtain ⟨p, v', hc, k1, k2, k3⟩ := taken_pair (i := 1) (j := 3) (e := lE sc v o2 (dI n) o4 o5 o6 o7 (dI m) o9 none none none none none none (some (.d x))) rfl rfl (by omega) hr h1 (by omega)
      refine ⟨some (pairD p), lE sc v' o2 (dI n) o4 o5 o6 o7 (dI m) o9 none none none none none none (some (.d x)), ?_, v', ps ++ [p], some (.d x), by simp, fun q hq => ?_, k1, rfl⟩
      · have hw : gN 16 x (wipeE (lE sc v o2 (dI n) o4 o5 o6 o7 (dI m) o9 none none none none none none o16) [16]) = some (.ok () (lE sc v o2 (dI n) o4 o5 o6 o7 (dI m) o9 none none none none none none (some (.d x)))) := rfl
        unfold compT
        rw [bind_at', hw, aT_ok, bind_at', pure_at', aT_ok, if_pos rfl, bind_at', hc]
        rfl
      · rcases List.mem_append.mp hq with hq | hq
        · exact ho q hq
        · rw [List.mem_singleton.mp hq]
          exact ⟨k2, k3⟩)
  rw [rngD_len, List.length_map] at hl
  exact ⟨ps, v', h, hr, ho, by omega⟩
end TL
set_option Elab.async false
set_option linter.all false
set_option maxRecDepth 100000
namespace TL
open PySem PySem.Spec PyProof.Rows L2
theorem mThen_nx {a b : M Fl} {e e1 : Env} {r : Option (Out Fl)} (h : a e = some (.ok .nx e1)) (k : b e1 = r) : mThen a b e = r := by rw [mThen_at, h, aT_ok, fThen_nx, k]
theorem law_says : Says f_law := fun ns hl hb => by
  have fin : ∀ {e : Env}, b_law [some (.d (.list (ns.map .int))), none, none, none, none, none, none, none, none, none, none, none, none, none, none, none, none] = some (.ok (.rt (.d (.bool true))) e) → ∃ e, f_law [some (.d (.list (ns.map .int)))] = some (.ok (.d (.bool true)) e) := fun {e} h => ⟨_, fnM_rt (np := 1) (N := 17) (ow := []) (mb := b_law) (env := [some (.d (.list (ns.map .int)))]) h⟩
  generalize hsc : PyData.list (ns.map .int) = sc at fin ⊢
  -- the row
  have hs1 : mSet 1 (mLst (mCons (dV 0) (mCons (dC (.int 0)) (mCons (dC (.int 5014)) (mCons (dC (.int 0)) (pure [])))))) [some (.d sc), none, none, none, none, none, none, none, none, none, none, none, none, none, none, none, none] = some (.ok .nx (lE sc (rowV ns 0 5014 0) none none none none none none none none none none none none none none none)) := by
    have := mLst_at (m := mCons (dV 0) (mCons (dC (.int 0)) (mCons (dC (.int 5014)) (mCons (dC (.int 0)) (pure []))))) (xs := [sc, .int 0, .int 5014, .int 0]) (e := [some (.d sc), none, none, none, none, none, none, none, none, none, none, none, none, none, none, none, none]) (e1 := [some (.d sc), none, none, none, none, none, none, none, none, none, none, none, none, none, none, none, none]) rfl (fits (by simp))
    rw [mSet_at, this, ← hsc]
    rfl
  have hr0 : RowOk (rowV ns 0 5014 0) := ⟨ns, 0, 5014, 0, rfl, by omega, by omega, by omega⟩
  -- a house
  obtain ⟨n, ds, v1, hh, r1, nm, g, dl⟩ := law_house_run (most := 10) hr0 (by omega) (by omega) known_run10
  have hh2 := mCall_s1 (i := 1) (m := dC (.int 10)) (f := f__law_house) (e := lE sc (rowV ns 0 5014 0) none none none none none none none none none none none none none none none) rfl rfl rfl hh
  have hs2 : mSet 2 (dat (frz (mCall (.s 1 :: .d (dC (.int 10)) :: []) f__law_house))) (lE sc (rowV ns 0 5014 0) none none none none none none none none none none none none none none none) = some (.ok .nx (lE sc v1 (some (.d (houseD n ds))) none none none none none none none none none none none none none none)) := by
    rw [mSet_at, dat_at, frz_at, hh2]
    rfl
  have hs3 : mAsg (gT 2 (gsCons (gN 3) (gsCons (gN 4) (gsNil)))) (dV 2) (lE sc v1 (some (.d (houseD n ds))) none none none none none none none none none none none none none none) = some (.ok .nx (lE sc v1 (some (.d (houseD n ds))) (dI n) (dP ds) none none none none none none none none none none none none)) := rfl
  have n1 := g.lo
  have n2 := g.hi
  -- two halls
  obtain ⟨⟨a, b⟩, v2, hp, r2, ia, ib⟩ := taken_pair (i := 1) (j := 3) (e := lE sc v1 (some (.d (houseD n ds))) (dI n) (dP ds) none none none none none none none none none none none none) rfl rfl (by omega) r1 (by omega : 0 < n) (by omega)
  simp only at ia ib
  have hs4 : mAsg (gT 2 (gsCons (gN 5) (gsCons (gN 6) (gsNil)))) (frz (mTup (mCons (frz (mCall (.s 1 :: .d (dV 3) :: []) f__law_taken)) (mCons (frz (mCall (.s 1 :: .d (dV 3) :: []) f__law_taken)) (pure []))))) (lE sc v1 (some (.d (houseD n ds))) (dI n) (dP ds) none none none none none none none none none none none none) = some (.ok .nx (lE sc v2 (some (.d (houseD n ds))) (dI n) (dP ds) (dI a) (dI b) none none none none none none none none none none)) := by
    rw [mAsg_at, hp]
    rfl
  -- doors_out
  have k2 : ∀ {v : OV} {o3 o4 o5 o6 o7 o8 o9 o10 o11 o12 o13 : Option OV}, dV 2 (lE sc v (some (.d (houseD n ds))) o3 o4 o5 o6 o7 o8 o9 o10 o11 o12 o13 none none none) = some (.ok (houseD n ds) (lE sc v (some (.d (houseD n ds))) o3 o4 o5 o6 o7 o8 o9 o10 o11 o12 o13 none none none)) := rfl
  have k3 : ∀ {v : OV} {o2 o4 o5 o6 o7 o8 o9 o10 o11 o12 o13 : Option OV}, dV 3 (lE sc v o2 (dI n) o4 o5 o6 o7 o8 o9 o10 o11 o12 o13 none none none) = some (.ok (.int n) (lE sc v o2 (dI n) o4 o5 o6 o7 o8 o9 o10 o11 o12 o13 none none none)) := rfl
  have k5 : ∀ {v : OV} {o2 o3 o4 o6 o7 o8 o9 o10 o11 o12 o13 : Option OV}, dV 5 (lE sc v o2 o3 o4 (dI a) o6 o7 o8 o9 o10 o11 o12 o13 none none none) = some (.ok (.int a) (lE sc v o2 o3 o4 (dI a) o6 o7 o8 o9 o10 o11 o12 o13 none none none)) := rfl
  have k6 : ∀ {v : OV} {o2 o3 o4 o5 o7 o8 o9 o10 o11 o12 o13 : Option OV}, dV 6 (lE sc v o2 o3 o4 o5 (dI b) o7 o8 o9 o10 o11 o12 o13 none none none) = some (.ok (.int b) (lE sc v o2 o3 o4 o5 (dI b) o7 o8 o9 o10 o11 o12 o13 none none none)) := rfl
  have hs5 := alike_if (A := frz (mCall (.d (dV 2) :: .d (dV 5) :: []) f_doors_out)) (B := frz (mOne gTuple (mComp [14, 15] (mItems (dV 4)) (gT 2 (gsCons (gN 14) (gsCons (gN 15) (gsNil)))) (asB (mBin gEq (dV 14) (dV 5))) (dV 15)))) (e := lE sc v2 (some (.d (houseD n ds))) (dI n) (dP ds) (dI a) (dI b) none none none none none none none none none none) (x := .tuple (outs ds a)) (d := 1) (by
      simp [mCall2_at (mf := f_doors_out) fnM_len, k2, k5, (doors_out_run g ia).call]) (by
      have := comp4 (sc := sc) (v := v2) (o2 := some (.d (houseD n ds))) (o3 := dI n) (o5 := dI a) (o6 := dI b) (o7 := none) (o8 := none) (o9 := none) (o10 := none) (o11 := none) (o12 := none) (o13 := none) (ds := ds) (t := asB (mBin gEq (dV 14) (dV 5))) (elt := dV 15) (fun p => if p.1 = a then some (.int p.2) else none) g.len (fun p hp => by
        by_cases c : p.1 = a <;> simp [compT, lE, dP, dI, pairD, dV_app, c])
      simp [this]
      rfl) (outs_tame g.len) (by omega)
  -- far
  have hs6 : mAsg (gT 2 (gsCons (gN 7) (gsCons (gN 8) (gsNil)))) (frz (mTup (mCons (frz (mLst (mCons (dV 5) (pure [])))) (mCons (dC (.int 0)) (pure []))))) (lE sc v2 (some (.d (houseD n ds))) (dI n) (dP ds) (dI a) (dI b) none none none none none none none none none none) = some (.ok .nx (fE sc v2 n a b ds [a] 0)) := by
    have h1 := mLst_at (m := mCons (dV 5) (pure [])) (xs := [.int a]) (e := lE sc v2 (some (.d (houseD n ds))) (dI n) (dP ds) (dI a) (dI b) none none none none none none none none none none) (e1 := lE sc v2 (some (.d (houseD n ds))) (dI n) (dP ds) (dI a) (dI b) none none none none none none none none none none) rfl (fits (by simp))
    have h2 := mTup_at (m := mCons (frz (mLst (mCons (dV 5) (pure [])))) (mCons (dC (.int 0)) (pure []))) (xs := [.list [.int a], .int 0]) (e := lE sc v2 (some (.d (houseD n ds))) (dI n) (dP ds) (dI a) (dI b) none none none none none none none none none none) (e1 := lE sc v2 (some (.d (houseD n ds))) (dI n) (dP ds) (dI a) (dI b) none none none none none none none none none none) (by simp [h1]) (fits (by simp))
    rw [mAsg_at, frz_at, h2]
    rfl
  obtain ⟨d, hf, hd⟩ := far_run g ia ib
  obtain ⟨xs, hs7⟩ := far_loop (sc := sc) (v := v2) (b := b) g dl ia hd
  have hs8 := alike_if (A := frz (mCall (.d (dV 2) :: .d (dV 5) :: .d (dV 6) :: []) f_far)) (B := dV 8) (e := fE sc v2 n a b ds xs (d : Int)) (x := .int (d : Int)) (d := 0) (by
      simp [mCall3_at (mf := f_far) fnM_len, fE, k2, k5, k6, hf.call]) rfl (.int _) (by omega)
  -- turned
  have tl : (turnD ds).length ≤ 1000 := by unfold turnD; rw [sortP_len, List.length_map]; exact g.len
  have hs9 : mSet 9 (dat (frz (mTup (mCons (dV 3) (mCons (frz (mOne gTuple (mOne gSorted (mComp [14, 15] (mItems (dV 4)) (gT 2 (gsCons (gN 14) (gsCons (gN 15) (gsNil)))) (pure true) (frz (mTup (mCons (dV 15) (mCons (dV 14) (pure []))))))))) (pure [])))))) (fE sc v2 n a b ds xs (d : Int)) = some (.ok .nx (lE sc v2 (some (.d (houseD n ds))) (dI n) (dP ds) (dI a) (dI b) (dL xs) (dI d) (some (.d (houseD n (turnD ds)))) none none none none none none none)) := by
    have h1 := comp4 (sc := sc) (v := v2) (o2 := some (.d (houseD n ds))) (o3 := dI n) (o5 := dI a) (o6 := dI b) (o7 := dL xs) (o8 := dI d) (o9 := none) (o10 := none) (o11 := none) (o12 := none) (o13 := none) (ds := ds) (t := pure true) (elt := frz (mTup (mCons (dV 15) (mCons (dV 14) (pure []))))) (fun p => some (pairD (swp p))) g.len (fun p hp => by
      have ht := mTup_at (m := mCons (dV 15) (mCons (dV 14) (pure []))) (xs := [.int p.2, .int p.1]) (e := lE sc v2 (some (.d (houseD n ds))) (dI n) (dP ds) (dI a) (dI b) (dL xs) (dI d) none none none none none (dI p.1) (dI p.2) none) (e1 := lE sc v2 (some (.d (houseD n ds))) (dI n) (dP ds) (dI a) (dI b) (dL xs) (dI d) none none none none none (dI p.1) (dI p.2) none) rfl (fits (by simp))
      have hw : gT 2 (gsCons (gN 14) (gsCons (gN 15) (gsNil))) (pairD p) (lE sc v2 (some (.d (houseD n ds))) (dI n) (dP ds) (dI a) (dI b) (dL xs) (dI d) none none none none none none none none) = some (.ok () (lE sc v2 (some (.d (houseD n ds))) (dI n) (dP ds) (dI a) (dI b) (dL xs) (dI d) none none none none none (dI p.1) (dI p.2) none)) := rfl
      unfold compT
      rw [bind_at', hw, aT_ok, bind_at', pure_at', aT_ok, if_pos rfl, bind_at', frz_at, ht]
      rfl)
    rw [List.filterMap_eq_map', show (fun p => pairD (swp p)) = pairD ∘ swp from rfl, ← List.map_map] at h1
    have h2 := mTup_at (m := mCons (dV 3) (mCons (frz (mOne gTuple (mOne gSorted (mComp [14, 15] (mItems (dV 4)) (gT 2 (gsCons (gN 14) (gsCons (gN 15) (gsNil)))) (pure true) (frz (mTup (mCons (dV 15) (mCons (dV 14) (pure []))))))))) (pure []))) (xs := [.int n, .tuple ((turnD ds).map pairD)]) (e := fE sc v2 n a b ds xs (d : Int)) (e1 := fE sc v2 n a b ds xs (d : Int)) (by
      unfold fE
      simp only [mCons_at, k3, aT_ok, bind_at', frz_at, mOne_at, h1, gSorted_pairs, opt_some_at, gTuple_o, dat_d, pure_at']
      rfl) (fits (by simp))
    rw [mSet_at, dat_at, frz_at, h2]
    rfl
  have hs10 := alike_if (A := frz (mLst (mCons (frz (mCall (.d (dV 2) :: []) f_turned)) (mCons (frz (mCall (.d (dV 2) :: []) f_is_two_way)) (pure []))))) (B := frz (mLst (mCons (dV 9) (mCons (frz (mBin gEq (dV 9) (dV 2))) (pure []))))) (e := lE sc v2 (some (.d (houseD n ds))) (dI n) (dP ds) (dI a) (dI b) (dL xs) (dI d) (some (.d (houseD n (turnD ds)))) none none none none none none none) (x := .list [houseD n (turnD ds), .bool (PyData.eqv (houseD n (turnD ds)) (houseD n ds))]) (d := 4) (by
      rw [frz_at, mLst_at (xs := [houseD n (turnD ds), .bool (PyData.eqv (houseD n (turnD ds)) (houseD n ds))]) (e1 := lE sc v2 (some (.d (houseD n ds))) (dI n) (dP ds) (dI a) (dI b) (dL xs) (dI d) (some (.d (houseD n (turnD ds)))) none none none none none none none) (by
        simp [mCall1_at (mf := f_turned) fnM_len, mCall1_at (mf := f_is_two_way) fnM_len, k2, (turned_run g).call, (is_two_way_run g).call]) (fits (by simp))]
      rfl) (by
      have k9 : dV 9 (lE sc v2 (some (.d (houseD n ds))) (dI n) (dP ds) (dI a) (dI b) (dL xs) (dI d) (some (.d (houseD n (turnD ds)))) none none none none none none none) = some (.ok (houseD n (turnD ds)) (lE sc v2 (some (.d (houseD n ds))) (dI n) (dP ds) (dI a) (dI b) (dL xs) (dI d) (some (.d (houseD n (turnD ds)))) none none none none none none none)) := rfl
      rw [frz_at, mLst_at (xs := [houseD n (turnD ds), .bool (PyData.eqv (houseD n (turnD ds)) (houseD n ds))]) (e1 := lE sc v2 (some (.d (houseD n ds))) (dI n) (dP ds) (dI a) (dI b) (dL xs) (dI d) (some (.d (houseD n (turnD ds)))) none none none none none none none) (by
        simp [k2, k9, gEq_ok (okN_house (d := 0) n (turnD ds)) (okN_house n ds) (by omega)]) (fits (by simp))]
      rfl) (.list (by simp) fun x hx => by
      simp only [List.mem_cons, List.not_mem_nil, or_false] at hx
      rcases hx with rfl | rfl
      · exact tame_house tl
      · exact .bool _) (by omega)
  -- doors made by chance
  obtain ⟨r, v3, hc, r3, ra, rb⟩ := taken_call (i := 1) (m := frz (mBin gMulX (dC (.int 3)) (dV 3))) (e := lE sc v2 (some (.d (houseD n ds))) (dI n) (dP ds) (dI a) (dI b) (dL xs) (dI d) (some (.d (houseD n (turnD ds)))) none none none none none none none) (e1 := lE sc v2 (some (.d (houseD n ds))) (dI n) (dP ds) (dI a) (dI b) (dL xs) (dI d) (some (.d (houseD n (turnD ds)))) none none none none none none none) (many := 3 * n) (v := v2) rfl (by
    simp [k3, mul_small (i := 3) (j := n) (by omega) (by omega) (by omega) (by omega)]) rfl r2 (by omega) (by omega)
  have hs11 : mSet 8 (dat (frz (mBin gAdd (dC (.int 1)) (frz (mCall (.s 1 :: .d (frz (mBin gMulX (dC (.int 3)) (dV 3))) :: []) f__law_taken))))) (lE sc v2 (some (.d (houseD n ds))) (dI n) (dP ds) (dI a) (dI b) (dL xs) (dI d) (some (.d (houseD n (turnD ds)))) none none none none none none none) = some (.ok .nx (lE sc v3 (some (.d (houseD n ds))) (dI n) (dP ds) (dI a) (dI b) (dL xs) (dI (1 + r)) (some (.d (houseD n (turnD ds)))) none none none none none none none)) := by
    rw [mSet_at, dat_at, frz_at, mBin_at, dC_at, aT_ok, bind_at', frz_at, hc]
    rfl
  obtain ⟨ps, v4, hc2, r4, hps, lps⟩ := some_comp (sc := sc) (v := v3) (n := n) (m := 1 + r) (o2 := some (.d (houseD n ds))) (o4 := dP ds) (o5 := dI a) (o6 := dI b) (o7 := dL xs) (o9 := some (.d (houseD n (turnD ds)))) r3 (by omega) n2 (by omega) (by omega)
  have hs12 : mSet 10 (dat (frz (mSset (frz (mComp [16] (mRange1 (dV 8)) (gN 16) (pure true) (frz (mTup (mCons (frz (mCall (.s 1 :: .d (dV 3) :: []) f__law_taken)) (mCons (frz (mCall (.s 1 :: .d (dV 3) :: []) f__law_taken)) (pure [])))))))))) (lE sc v3 (some (.d (houseD n ds))) (dI n) (dP ds) (dI a) (dI b) (dL xs) (dI (1 + r)) (some (.d (houseD n (turnD ds)))) none none none none none none none) = some (.ok .nx (lE sc v4 (some (.d (houseD n ds))) (dI n) (dP ds) (dI a) (dI b) (dL xs) (dI (1 + r)) (some (.d (houseD n (turnD ds)))) (dQ (setP ps)) none none none none none none)) := by
    rw [mSet_at, dat_at, frz_at, mSset_at (x := .list (ps.map pairD)) (r := .lst ((setP ps).map pairD)) (by rw [frz_at, hc2]; rfl) (gSset_pairs (by omega) fun p hp => by
      obtain ⟨x, y⟩ := hps p hp
      unfold inN at *
      omega)]
    rfl
  have sl : (setP ps).length ≤ 30 := Nat.le_trans (setP_len ps) lps
  have hss : ∀ p ∈ setP ps, inN n p.1 ∧ inN n p.2 := fun p hp => hps p (mem_setP.mp hp)
  generalize hq : setP ps = ss at hs12 sl hss
  -- fine
  have hs13 : mSet 11 (dat (frz (mBin gEq (frz (mComp [14, 15] (mItems (dV 10)) (gT 2 (gsCons (gN 14) (gsCons (gN 15) (gsNil)))) (asB (mBin gEq (dV 14) (dV 15))) (dC (.int 1)))) (frz (mLst (pure [])))))) (lE sc v4 (some (.d (houseD n ds))) (dI n) (dP ds) (dI a) (dI b) (dL xs) (dI (1 + r)) (some (.d (houseD n (turnD ds)))) (dQ ss) none none none none none none) = some (.ok .nx (gE sc v4 n (some (.d (houseD n ds))) (dP ds) (dI a) (dI b) (dI (1 + r)) (some (.d (houseD n (turnD ds)))) ss ((ss.filterMap fun (p : Int × Int) => if p.1 = p.2 then some (PyData.int 1) else none).isEmpty) (dL xs) none none)) := by
    have h1 := comp10 (sc := sc) (v := v4) (o2 := some (.d (houseD n ds))) (o3 := dI n) (o4 := dP ds) (o5 := dI a) (o6 := dI b) (o7 := dL xs) (o8 := dI (1 + r)) (o9 := some (.d (houseD n (turnD ds)))) (o11 := none) (o12 := none) (o13 := none) (ds := ss) (t := asB (mBin gEq (dV 14) (dV 15))) (elt := dC (.int 1)) (fun (p : Int × Int) => if p.1 = p.2 then some (PyData.int 1) else none) (by omega) (fun p hp => by
        by_cases c : p.1 = p.2 <;> simp [compT, lE, dQ, dI, pairD, dV_app, c])
    have hm : ∀ e, mLst (pure []) e = some (.ok (.lst []) e) := fun e => mLst_at rfl (Nat.zero_le _)
    have hg := gEq_nil (d := 0) (xs := ss.filterMap fun (p : Int × Int) => if p.1 = p.2 then some (PyData.int 1) else none) (fun x hx => by
      obtain ⟨p, _, e⟩ := List.mem_filterMap.mp hx
      split at e
      · cases e
        exact okN_int _
      · cases e) (by omega)
    rw [mSet_at, dat_at, frz_at, mBin_at, frz_at, h1]
    simp only [aT_ok, dat_lst, opt_some_at, bind_at', frz_at, hm, hg, dat_d, pure_at']
    rfl
  obtain ⟨f', o7', o12', o13', hs14, hf'⟩ := all_loop (sc := sc) (v := v4) (o2 := some (.d (houseD n ds))) (o4 := dP ds) (o5 := dI a) (o6 := dI b) (o8 := dI (1 + r)) (o9 := some (.d (houseD n (turnD ds)))) (f := (ss.filterMap fun (p : Int × Int) => if p.1 = p.2 then some (PyData.int 1) else none).isEmpty) (o7 := dL xs) (o12 := none) (o13 := none) (by omega : 0 ≤ n) n2 hss sl
  -- is_house
  obtain ⟨b1, F1, h1⟩ := is_house_run (n := n) (ds := ss) n1 n2 (by omega)
  obtain ⟨b2, F2, h2⟩ := is_house_run (n := n) (ds := ds) n1 n2 g.len
  have hb2 : b2 = true := h2.mpr g
  subst hb2
  have hbf : b1 = f' := by
    rw [Bool.eq_iff_iff, h1, hf', List.isEmpty_iff, List.filterMap_eq_nil_iff]
    constructor
    · exact fun g' => ⟨fun p hp => if_neg (g'.ok p hp).2.2, g'.sc⟩
    · rintro ⟨u, w⟩
      refine ⟨n1, n2, fun p hp => ⟨(hss p hp).1, (hss p hp).2, fun e => ?_⟩, by rw [← hq]; exact setP_plt ps, w, by omega⟩
      have := u p hp
      rw [if_pos e] at this
      cases this
  subst hbf
  refine fin (e := gE sc v4 n (some (.d (houseD n ds))) (dP ds) (dI a) (dI b) (dI (1 + r)) (some (.d (houseD n (turnD ds)))) ss b1 o7' o12' o13') ?_
  refine mThen_nx hs1 (mThen_nx hs2 (mThen_nx hs3 (mThen_nx hs4 (mThen_nx hs5 (mThen_nx hs6 (mThen_nx hs7 (mThen_nx hs8 (mThen_nx hs9 (mThen_nx hs10 (mThen_nx hs11 (mThen_nx hs12 (mThen_nx hs13 (mThen_nx hs14 ?_)))))))))))))
  have kk3 : dV 3 (gE sc v4 n (some (.d (houseD n ds))) (dP ds) (dI a) (dI b) (dI (1 + r)) (some (.d (houseD n (turnD ds)))) ss b1 o7' o12' o13') = some (.ok (.int n) (gE sc v4 n (some (.d (houseD n ds))) (dP ds) (dI a) (dI b) (dI (1 + r)) (some (.d (houseD n (turnD ds)))) ss b1 o7' o12' o13')) := rfl
  have kk2 : dV 2 (gE sc v4 n (some (.d (houseD n ds))) (dP ds) (dI a) (dI b) (dI (1 + r)) (some (.d (houseD n (turnD ds)))) ss b1 o7' o12' o13') = some (.ok (houseD n ds) (gE sc v4 n (some (.d (houseD n ds))) (dP ds) (dI a) (dI b) (dI (1 + r)) (some (.d (houseD n (turnD ds)))) ss b1 o7' o12' o13')) := rfl
  have k10 : mVar 10 (gE sc v4 n (some (.d (houseD n ds))) (dP ds) (dI a) (dI b) (dI (1 + r)) (some (.d (houseD n (turnD ds)))) ss b1 o7' o12' o13') = some (.ok (.d (.list (ss.map pairD))) (gE sc v4 n (some (.d (houseD n ds))) (dP ds) (dI a) (dI b) (dI (1 + r)) (some (.d (houseD n (turnD ds)))) ss b1 o7' o12' o13')) := rfl
  have k11 : dV 11 (gE sc v4 n (some (.d (houseD n ds))) (dP ds) (dI a) (dI b) (dI (1 + r)) (some (.d (houseD n (turnD ds)))) ss b1 o7' o12' o13') = some (.ok (.bool b1) (gE sc v4 n (some (.d (houseD n ds))) (dP ds) (dI a) (dI b) (dI (1 + r)) (some (.d (houseD n (turnD ds)))) ss b1 o7' o12' o13')) := rfl
  have ht := mTup_at (m := mCons (dV 3) (mCons (frz (mOne gTuple (mVar 10))) (pure []))) (xs := [.int n, .tuple (ss.map pairD)]) (e := gE sc v4 n (some (.d (houseD n ds))) (dP ds) (dI a) (dI b) (dI (1 + r)) (some (.d (houseD n (turnD ds)))) ss b1 o7' o12' o13') (e1 := gE sc v4 n (some (.d (houseD n ds))) (dP ds) (dI a) (dI b) (dI (1 + r)) (some (.d (houseD n (turnD ds)))) ss b1 o7' o12' o13') (by simp [kk3, k10]) (fits (by simp))
  have hA : frz (mCall (.d (frz (mTup (mCons (dV 3) (mCons (frz (mOne gTuple (mVar 10))) (pure []))))) :: []) f_is_house) (gE sc v4 n (some (.d (houseD n ds))) (dP ds) (dI a) (dI b) (dI (1 + r)) (some (.d (houseD n (turnD ds)))) ss b1 o7' o12' o13') = some (.ok (.bool b1) (gE sc v4 n (some (.d (houseD n ds))) (dP ds) (dI a) (dI b) (dI (1 + r)) (some (.d (houseD n (turnD ds)))) ss b1 o7' o12' o13')) := by
    rw [frz_at, mCall1_at (mf := f_is_house) fnM_len, frz_at, ht]
    simp only [aT_ok, dat_d, opt_some_at]
    show Out.andThen (callK f_is_house [houseD n ss] _) _ = _
    rw [F1.call]
    rfl
  have hal : mCall (.d (frz (mCall (.d (frz (mTup (mCons (dV 3) (mCons (frz (mOne gTuple (mVar 10))) (pure []))))) :: []) f_is_house)) :: .d (dV 11) :: []) f__law_alike (gE sc v4 n (some (.d (houseD n ds))) (dP ds) (dI a) (dI b) (dI (1 + r)) (some (.d (houseD n (turnD ds)))) ss b1 o7' o12' o13') = some (.ok (.d (.bool true)) (gE sc v4 n (some (.d (houseD n ds))) (dP ds) (dI a) (dI b) (dI (1 + r)) (some (.d (houseD n (turnD ds)))) ss b1 o7' o12' o13')) := by
    rw [mCall2_at (mf := f__law_alike) (r_len 8), hA, aT_ok, bind_at', k11, aT_ok]
    exact (law_alike_run (Tame.bool (d := 0) b1) (by omega)).call _
  have hlast : mCall (.d (dV 2) :: []) f_is_house (gE sc v4 n (some (.d (houseD n ds))) (dP ds) (dI a) (dI b) (dI (1 + r)) (some (.d (houseD n (turnD ds)))) ss b1 o7' o12' o13') = some (.ok (.d (.bool true)) (gE sc v4 n (some (.d (houseD n ds))) (dP ds) (dI a) (dI b) (dI (1 + r)) (some (.d (houseD n (turnD ds)))) ss b1 o7' o12' o13')) := by
    rw [mCall1_at (mf := f_is_house) fnM_len, kk2, aT_ok, F2.call]
  rw [mRet_at, mAndV_at, asB_at, hal, aT_ok, boolOf_b, pure_at', aT_ok, if_pos rfl, mBin_at, frz_at, hlast]
  rfl
end TL
set_option Elab.async false
set_option linter.all false
set_option maxRecDepth 100000
set_option maxHeartbeats 2000000
namespace TL
open PySem PySem.Spec PyProof.Rows L2 GxR
def top (i : Nat) : Stmt := PySem.Challenge.pw_letterhalls_k14_whole_basics.main.body.getD i (.Pass ⟨0, 0, 0, 0⟩)
theorem d_is_number {P : Program} {w : World} {K : PySem.W.Frag} {mg : Str → Option Value} {base : Heap} {T : List Addr} {ex : Str → Option Addr}  {f : Addr} {fd : FuncData} {cdv : Value} (Bl : Blt mg) 
    (F : FunC K "is_number" "is_number" (defArgs (top 6)) (defBody (top 6)) (defScope (top 6)) f fd cdv) (hx : mg "is_number" = some (.ref f)) : FnS P w K mg base T ex 1 "is_number" 3 f_is_number := by
  have nd : (["value", "low", "high"] : List Str).Nodup := by decide
  refine FunC.fnS (N := ["value", "low", "high"]) (ps := ["value", "low", "high"]) (ow := []) (k := 0) (mb := b_is_number) F hx ⟨rfl, rfl, rfl, nd, rfl, by decide, by decide⟩ rfl (by decide) (fun _ _ _ _ _ _ us hl => match us, hl with | [_, _, _], _ => rfl) fun A outer s H E C hr hT hE hk => ?_
  subst hT hE
  have hcm : (fnX P w K mg base ["value", "low", "high"] "is_number" (defScope (top 6)) f cdv A outer s H E).calm = true := rfl
  exact sSs_one (sS_ret (sE_and (sE_isi rfl Bl.isinstance (NameOk.dv ⟨rfl, (by first | exact Or.inl rfl | exact Or.inr (Or.inl rfl) | exact Or.inr (Or.inr rfl)), rfl, rfl⟩) (fun _ _ => rfl) rfl Bl.int boot_int (by decide) rfl) (sE_and (sE_not (sE_isi rfl Bl.isinstance (NameOk.dv ⟨rfl, (by first | exact Or.inl rfl | exact Or.inr (Or.inl rfl) | exact Or.inr (Or.inr rfl)), rfl, rfl⟩) (fun _ _ => rfl) rfl Bl.bool boot_bool (by decide) rfl)) (sE_one (sE_chain (od_le (Room.u hr)) (od_le (Room.u hr)) (NameOk.dv ⟨rfl, (by first | exact Or.inl rfl | exact Or.inr (Or.inl rfl) | exact Or.inr (Or.inr rfl)), rfl, rfl⟩) (NameOk.dv ⟨rfl, (by first | exact Or.inl rfl | exact Or.inr (Or.inl rfl) | exact Or.inr (Or.inr rfl)), rfl, rfl⟩) (NameOk.dv ⟨rfl, (by first | exact Or.inl rfl | exact Or.inr (Or.inl rfl) | exact Or.inr (Or.inr rfl)), rfl, rfl⟩) rfl)))))

theorem d_is_door {P : Program} {w : World} {K : PySem.W.Frag} {mg : Str → Option Value} {base : Heap} {T : List Addr} {ex : Str → Option Addr}  {f : Addr} {fd : FuncData} {c p : Addr} (Bl : Blt mg) (F_is_number : FnS P w K mg base T ex 1 "is_number" 3 f_is_number) (TB : TabB base mg c p) (hp : p ∈ T)
    (F : FunC K "is_door" "is_door" (defArgs (top 7)) (defBody (top 7)) (defScope (top 7)) f fd (.ref c)) (hx : mg "is_door" = some (.ref f)) : FnS P w K mg base T ex 3 "is_door" 2 f_is_door := by
  have nd : (["halls", "value", "hall"] : List Str).Nodup := by decide
  refine FunC.fnS (N := ["halls", "value", "hall"]) (ps := ["halls", "value"]) (ow := []) (k := 2) (mb := b_is_door) F hx ⟨rfl, rfl, rfl, nd, rfl, by decide, by decide⟩ rfl (by decide) (fun _ _ _ _ _ _ us hl => match us, hl with | [_, _], _ => rfl) fun A outer s H E C hr hT hE hk => ?_
  subst hT hE
  have hcm : (fnX P w K mg base ["halls", "value", "hall"] "is_door" (defScope (top 7)) f (.ref c) A outer s H E).calm = true := rfl
  exact sSs_cons (sS_if (PW.pt (sW_or (sT_not (sT_tru (sE_isi rfl Bl.isinstance (NameOk.dv ⟨rfl, (by first | exact Or.inl rfl | exact Or.inr (Or.inl rfl) | exact Or.inr (Or.inr rfl)), rfl, rfl⟩) (fun _ _ => rfl) rfl Bl.tuple boot_tuple (by decide) rfl) (fun _ => rfl))) (sW_or (sT_cmp (od_ne (Room.u hr)) (sE_frz (NameOk.len ⟨rfl, (by first | exact Or.inl rfl | exact Or.inr (Or.inl rfl) | exact Or.inr (Or.inr rfl)), rfl, rfl⟩ rfl Bl.len)) (sD_int) rfl) (sW_one (sT_not (sT_tru (sE_all (own := [("hall", 2)]) hcm nd hr rfl Bl.all TB rfl hp (genSc_by rfl rfl rfl rfl) (sI_seq (NameOk.dv ⟨rfl, (by first | exact Or.inl rfl | exact Or.inr (Or.inl rfl) | exact Or.inr (Or.inr rfl)), rfl, rfl⟩)) ⟨fun _ _ _ _ => sG_name ⟨nd, rfl, (by first | exact Or.inl rfl | exact Or.inr rfl), (by first | exact Or.inr rfl | exact Or.inl rfl), hk 2 rfl⟩ (by decide), fun _ _ _ _ => sE_call (F_is_number.mono (by decide)) (Room.gen hr _) rfl takesB (by simp [agNd, posOf]) rfl (sAg_d (NameOk.dv ⟨rfl, (by first | exact Or.inl rfl | exact Or.inr (Or.inl rfl) | exact Or.inr (Or.inr rfl)), rfl, rfl⟩) (sAg_d (sD_int) (sAg_d (sE_frz (sE_bin od_sub (NameOk.dv ⟨rfl, (by first | exact Or.inl rfl | exact Or.inr (Or.inl rfl) | exact Or.inr (Or.inr rfl)), rfl, rfl⟩) (sD_int))) (sAg_nil) (fun _ _ => rfl)) (fun _ _ => rfl)) (fun _ _ => rfl)) (fun _ _ => rfl) rfl rfl⟩ (gok_n) (by intro i hi; exact hk i (by revert i; decide)) (fun _ => rfl) rfl) (fun _ => rfl))))))) (sSs_one (sS_ret (sE_dt sD_bool))) (sSs_nil))
        (sSs_one (sS_ret (sE_cmp (od_ne (Room.u hr)) (sE_frz (sE_ix (NameOk.dv ⟨rfl, (by first | exact Or.inl rfl | exact Or.inr (Or.inl rfl) | exact Or.inr (Or.inr rfl)), rfl, rfl⟩) (sD_int) (fun _ _ => rfl))) (sE_frz (sE_ix (NameOk.dv ⟨rfl, (by first | exact Or.inl rfl | exact Or.inr (Or.inl rfl) | exact Or.inr (Or.inr rfl)), rfl, rfl⟩) (sD_int) (fun _ _ => rfl))) rfl)))

theorem d_come_to {P : Program} {w : World} {K : PySem.W.Frag} {mg : Str → Option Value} {base : Heap} {T : List Addr} {ex : Str → Option Addr}  {f : Addr} {fd : FuncData} {cdv : Value} (Bl : Blt mg) 
    (F : FunC K "come_to" "come_to" (defArgs (top 8)) (defBody (top 8)) (defScope (top 8)) f fd cdv) (hx : mg "come_to" = some (.ref f)) : FnS P w K mg base T ex 1 "come_to" 3 f_come_to := by
  have nd : (["halls", "doors", "first", "found", "layer", "later", "hall", "one", "other"] : List Str).Nodup := by decide
  refine FunC.fnS (N := ["halls", "doors", "first", "found", "layer", "later", "hall", "one", "other"]) (ps := ["halls", "doors", "first"]) (ow := []) (k := 0) (mb := b_come_to) F hx ⟨rfl, rfl, rfl, nd, rfl, by decide, by decide⟩ rfl (by decide) (fun _ _ _ _ _ _ us hl => match us, hl with | [_, _, _], _ => rfl) fun A outer s H E C hr hT hE hk => ?_
  subst hT hE
  have hcm : (fnX P w K mg base ["halls", "doors", "first", "found", "layer", "later", "hall", "one", "other"] "come_to" (defScope (top 8)) f cdv A outer s H E).calm = true := rfl
  exact sSs_cons (sS_par hcm ⟨nd, rfl, (by first | exact Or.inl rfl | exact Or.inr rfl), (by first | exact Or.inr rfl | exact Or.inl rfl), hk 3 rfl⟩ ⟨nd, rfl, (by first | exact Or.inl rfl | exact Or.inr rfl), (by first | exact Or.inr rfl | exact Or.inl rfl), hk 4 rfl⟩ (by decide) rfl rfl (sE_dict1 (fun _ => NameOk.dv ⟨rfl, (by first | exact Or.inl rfl | exact Or.inr (Or.inl rfl) | exact Or.inr (Or.inr rfl)), rfl, rfl⟩) (fun _ => sD_int)) (fun _ => sE_dt (sE_frz (sE_lst (sA_cons (NameOk.dv ⟨rfl, (by first | exact Or.inl rfl | exact Or.inr (Or.inl rfl) | exact Or.inr (Or.inr rfl)), rfl, rfl⟩) (sA_nil) (fun _ _ => rfl))))) (fun _ _ => rfl) (fun _ _ => rfl) rfl rfl)
        (sSs_cons (sS_while fnX_passes (NameOk.tru ⟨rfl, (by first | exact Or.inl rfl | exact Or.inr (Or.inl rfl) | exact Or.inr (Or.inr rfl)), rfl, rfl⟩ (fun _ => rfl)) (sSs_cons (LocOk.set ⟨nd, rfl, (by first | exact Or.inl rfl | exact Or.inr rfl), (by first | exact Or.inr rfl | exact Or.inl rfl), hk 5 rfl⟩ (sE_lst (sA_nil)) rfl)
        (sSs_cons (sS_for (vs := [6]) fnX_passes hcm (sI_seq (NameOk.dv ⟨rfl, (by first | exact Or.inl rfl | exact Or.inr (Or.inl rfl) | exact Or.inr (Or.inr rfl)), rfl, rfl⟩)) (sG_name ⟨nd, rfl, (by first | exact Or.inl rfl | exact Or.inr rfl), (by first | exact Or.inr rfl | exact Or.inl rfl), hk 6 rfl⟩ (by decide)) (gok_n) (sSs_one (sS_for (vs := [7, 8]) fnX_passes hcm (sI_seq (NameOk.dv ⟨rfl, (by first | exact Or.inl rfl | exact Or.inr (Or.inl rfl) | exact Or.inr (Or.inr rfl)), rfl, rfl⟩)) (sG_tup hcm (sGs_cons (sG_name ⟨nd, rfl, (by first | exact Or.inl rfl | exact Or.inr rfl), (by first | exact Or.inr rfl | exact Or.inl rfl), hk 7 rfl⟩ (by decide)) (sGs_cons (sG_name ⟨nd, rfl, (by first | exact Or.inl rfl | exact Or.inr rfl), (by first | exact Or.inr rfl | exact Or.inl rfl), hk 8 rfl⟩ (by decide)) (sGs_nil) rfl) rfl) rfl rfl) (gok_t (gsok_cons (gok_n) (gsok_cons (gok_n) (gsok_nil)))) (sSs_one (sS_if (PW.pt (sW_and (sT_cmp (od_eq (Room.u hr)) (NameOk.dv ⟨rfl, (by first | exact Or.inl rfl | exact Or.inr (Or.inl rfl) | exact Or.inr (Or.inr rfl)), rfl, rfl⟩) (NameOk.dv ⟨rfl, (by first | exact Or.inl rfl | exact Or.inr (Or.inl rfl) | exact Or.inr (Or.inr rfl)), rfl, rfl⟩) rfl) (sW_one (sT_notInD (Room.u hr) ⟨rfl, (by first | exact Or.inl rfl | exact Or.inr (Or.inl rfl) | exact Or.inr (Or.inr rfl)), rfl, rfl⟩ (NameOk.dv ⟨rfl, (by first | exact Or.inl rfl | exact Or.inr (Or.inl rfl) | exact Or.inr (Or.inr rfl)), rfl, rfl⟩))))) (sSs_cons (sS_putD (Room.u hr) ⟨rfl, (by first | exact Or.inl rfl | exact Or.inr (Or.inl rfl) | exact Or.inr (Or.inr rfl)), rfl, rfl⟩ (NameOk.dv ⟨rfl, (by first | exact Or.inl rfl | exact Or.inr (Or.inl rfl) | exact Or.inr (Or.inr rfl)), rfl, rfl⟩) (sE_frz (sE_bin od_add (sE_frz (sE_ixD (Room.u hr) ⟨rfl, (by first | exact Or.inl rfl | exact Or.inr (Or.inl rfl) | exact Or.inr (Or.inr rfl)), rfl, rfl⟩ (NameOk.dv ⟨rfl, (by first | exact Or.inl rfl | exact Or.inr (Or.inl rfl) | exact Or.inr (Or.inr rfl)), rfl, rfl⟩) (fun _ _ => rfl))) (sD_int))) rfl)
        (sSs_one (sS_expr (sE_append ⟨rfl, (by first | exact Or.inl rfl | exact Or.inr (Or.inl rfl) | exact Or.inr (Or.inr rfl)), rfl, rfl⟩ ⟨rfl, rfl⟩ (fun _ _ => rfl) (NameOk.dv ⟨rfl, (by first | exact Or.inl rfl | exact Or.inr (Or.inl rfl) | exact Or.inr (Or.inr rfl)), rfl, rfl⟩)) rfl))) (sSs_nil))) (fun _ => rfl))) (fun _ => rfl))
        (sSs_one (LocOk.set ⟨nd, rfl, (by first | exact Or.inl rfl | exact Or.inr rfl), (by first | exact Or.inr rfl | exact Or.inl rfl), hk 4 rfl⟩ (sE_dt (sE_frz (NameOk.frz ⟨rfl, (by first | exact Or.inl rfl | exact Or.inr (Or.inl rfl) | exact Or.inr (Or.inr rfl)), rfl, rfl⟩))) rfl)))))
        (sSs_one (sS_ret (NameOk.move ⟨rfl, (by first | exact Or.inl rfl | exact Or.inr (Or.inl rfl) | exact Or.inr (Or.inr rfl)), rfl, rfl⟩))))

theorem d_is_joined {P : Program} {w : World} {K : PySem.W.Frag} {mg : Str → Option Value} {base : Heap} {T : List Addr} {ex : Str → Option Addr}  {f : Addr} {fd : FuncData} {cdv : Value} (Bl : Blt mg) (F_come_to : FnS P w K mg base T ex 1 "come_to" 3 f_come_to)
    (F : FunC K "is_joined" "is_joined" (defArgs (top 9)) (defBody (top 9)) (defScope (top 9)) f fd cdv) (hx : mg "is_joined" = some (.ref f)) : FnS P w K mg base T ex 2 "is_joined" 2 f_is_joined := by
  have nd : (["halls", "doors", "back", "one", "other"] : List Str).Nodup := by decide
  refine FunC.fnS (N := ["halls", "doors", "back", "one", "other"]) (ps := ["halls", "doors"]) (ow := []) (k := 1) (mb := b_is_joined) F hx ⟨rfl, rfl, rfl, nd, rfl, by decide, by decide⟩ rfl (by decide) (fun _ _ _ _ _ _ us hl => match us, hl with | [_, _], _ => rfl) fun A outer s H E C hr hT hE hk => ?_
  subst hT hE
  have hcm : (fnX P w K mg base ["halls", "doors", "back", "one", "other"] "is_joined" (defScope (top 9)) f cdv A outer s H E).calm = true := rfl
  exact sSs_cons (sS_setLcD (own := [("one", 3), ("other", 4)]) hcm nd rfl rfl (hk 2 rfl) rfl (sI_seq (NameOk.dv ⟨rfl, (by first | exact Or.inl rfl | exact Or.inr (Or.inl rfl) | exact Or.inr (Or.inr rfl)), rfl, rfl⟩)) (blkOk_by rfl) ⟨fun _ _ _ _ _ _ => sG_tup hcm (sGs_cons (sG_name ⟨nd, rfl, (by first | exact Or.inl rfl | exact Or.inr rfl), (by first | exact Or.inr rfl | exact Or.inl rfl), hk 3 rfl⟩ (by decide)) (sGs_cons (sG_name ⟨nd, rfl, (by first | exact Or.inl rfl | exact Or.inr rfl), (by first | exact Or.inr rfl | exact Or.inl rfl), hk 4 rfl⟩ (by decide)) (sGs_nil) rfl) rfl) rfl rfl, fun _ _ _ _ _ _ => sTs_nil, fun _ _ _ _ _ _ => sE_frz (sE_tup (sA_cons (NameOk.dv ⟨rfl, (by first | exact Or.inl rfl | exact Or.inr (Or.inl rfl) | exact Or.inr (Or.inr rfl)), rfl, rfl⟩) (sA_cons (NameOk.dv ⟨rfl, (by first | exact Or.inl rfl | exact Or.inr (Or.inl rfl) | exact Or.inr (Or.inr rfl)), rfl, rfl⟩) (sA_nil) (fun _ _ => rfl)) (fun _ _ => rfl)))⟩ (gok_t (gsok_cons (gok_n) (gsok_cons (gok_n) (gsok_nil)))) (by intro i hi; exact hk i (by revert i; decide)) (fun _ => rfl))
        (sSs_one (sS_ret (sE_and (sE_cmp (od_eq (Room.u hr)) (sE_frz (sE_callB cr_len rfl Bl.len boot_len (sE_call (F_come_to.mono (by decide)) hr rfl fnX_takes (by simp [agNd, posOf]) rfl (sAg_d (NameOk.dv ⟨rfl, (by first | exact Or.inl rfl | exact Or.inr (Or.inl rfl) | exact Or.inr (Or.inr rfl)), rfl, rfl⟩) (sAg_d (NameOk.dv ⟨rfl, (by first | exact Or.inl rfl | exact Or.inr (Or.inl rfl) | exact Or.inr (Or.inr rfl)), rfl, rfl⟩) (sAg_d (sD_int) (sAg_nil) (fun _ _ => rfl)) (fun _ _ => rfl)) (fun _ _ => rfl)) (fun _ _ => rfl) rfl rfl) (fun _ _ => rfl) (by decide) rfl)) (NameOk.dv ⟨rfl, (by first | exact Or.inl rfl | exact Or.inr (Or.inl rfl) | exact Or.inr (Or.inr rfl)), rfl, rfl⟩) rfl) (sE_one (sE_cmp (od_eq (Room.u hr)) (sE_frz (sE_callB cr_len rfl Bl.len boot_len (sE_call (F_come_to.mono (by decide)) hr rfl fnX_takes (by simp [agNd, posOf]) rfl (sAg_d (NameOk.dv ⟨rfl, (by first | exact Or.inl rfl | exact Or.inr (Or.inl rfl) | exact Or.inr (Or.inr rfl)), rfl, rfl⟩) (sAg_d (NameOk.dv ⟨rfl, (by first | exact Or.inl rfl | exact Or.inr (Or.inl rfl) | exact Or.inr (Or.inr rfl)), rfl, rfl⟩) (sAg_d (sD_int) (sAg_nil) (fun _ _ => rfl)) (fun _ _ => rfl)) (fun _ _ => rfl)) (fun _ _ => rfl) rfl rfl) (fun _ _ => rfl) (by decide) rfl)) (NameOk.dv ⟨rfl, (by first | exact Or.inl rfl | exact Or.inr (Or.inl rfl) | exact Or.inr (Or.inr rfl)), rfl, rfl⟩) rfl)))))

theorem d_wrong_part {P : Program} {w : World} {K : PySem.W.Frag} {mg : Str → Option Value} {base : Heap} {T : List Addr} {ex : Str → Option Addr} {t_MOST_HALLS : Tok} {f : Addr} {fd : FuncData} {c p : Addr} (Bl : Blt mg) (hc_MOST_HALLS : mg "MOST_HALLS" = some (.int 10 t_MOST_HALLS)) (F_is_number : FnS P w K mg base T ex 1 "is_number" 3 f_is_number) (F_is_door : FnS P w K mg base T ex 3 "is_door" 2 f_is_door) (F_is_joined : FnS P w K mg base T ex 2 "is_joined" 2 f_is_joined) (TB : TabB base mg c p) (hp : p ∈ T)
    (F : FunC K "wrong_part" "wrong_part" (defArgs (top 10)) (defBody (top 10)) (defScope (top 10)) f fd (.ref c)) (hx : mg "wrong_part" = some (.ref f)) : FnS P w K mg base T ex 5 "wrong_part" 1 f_wrong_part := by
  have nd : (["value", "halls", "doors", "door", "one", "other"] : List Str).Nodup := by decide
  refine FunC.fnS (N := ["value", "halls", "doors", "door", "one", "other"]) (ps := ["value"]) (ow := []) (k := 4) (mb := b_wrong_part) F hx ⟨rfl, rfl, rfl, nd, rfl, by decide, by decide⟩ rfl (by decide) (fun _ _ _ _ _ _ us hl => match us, hl with | [_], _ => rfl) fun A outer s H E C hr hT hE hk => ?_
  subst hT hE
  have hcm : (fnX P w K mg base ["value", "halls", "doors", "door", "one", "other"] "wrong_part" (defScope (top 10)) f (.ref c) A outer s H E).calm = true := rfl
  exact sSs_cons (sS_if (PW.pt (sW_or (sT_not (sT_tru (sE_isi rfl Bl.isinstance (NameOk.dv ⟨rfl, (by first | exact Or.inl rfl | exact Or.inr (Or.inl rfl) | exact Or.inr (Or.inr rfl)), rfl, rfl⟩) (fun _ _ => rfl) rfl Bl.tuple boot_tuple (by decide) rfl) (fun _ => rfl))) (sW_one (sT_cmp (od_ne (Room.u hr)) (sE_frz (NameOk.len ⟨rfl, (by first | exact Or.inl rfl | exact Or.inr (Or.inl rfl) | exact Or.inr (Or.inr rfl)), rfl, rfl⟩ rfl Bl.len)) (sD_int) rfl)))) (sSs_one (sS_ret (sE_dt sD_str))) (sSs_nil))
        (sSs_cons (sS_asg (vs := [1, 2]) (sG_tup hcm (sGs_cons (sG_name ⟨nd, rfl, (by first | exact Or.inl rfl | exact Or.inr rfl), (by first | exact Or.inr rfl | exact Or.inl rfl), hk 1 rfl⟩ (by decide)) (sGs_cons (sG_name ⟨nd, rfl, (by first | exact Or.inl rfl | exact Or.inr rfl), (by first | exact Or.inr rfl | exact Or.inl rfl), hk 2 rfl⟩ (by decide)) (sGs_nil) rfl) rfl) rfl rfl) (NameOk.dv ⟨rfl, (by first | exact Or.inl rfl | exact Or.inr (Or.inl rfl) | exact Or.inr (Or.inr rfl)), rfl, rfl⟩) (gok_t (gsok_cons (gok_n) (gsok_cons (gok_n) (gsok_nil)))) rfl rfl rfl)
        (sSs_cons (sS_if (sT_not (sT_tru (sE_call (F_is_number.mono (by decide)) hr rfl fnX_takes (by simp [agNd, posOf]) rfl (sAg_d (NameOk.dv ⟨rfl, (by first | exact Or.inl rfl | exact Or.inr (Or.inl rfl) | exact Or.inr (Or.inr rfl)), rfl, rfl⟩) (sAg_d (sD_int) (sAg_d (sD_globI rfl hc_MOST_HALLS rfl) (sAg_nil) (fun _ _ => rfl)) (fun _ _ => rfl)) (fun _ _ => rfl)) (fun _ _ => rfl) rfl rfl) (fun _ => rfl))) (sSs_one (sS_ret (sE_dt sD_str))) (sSs_nil))
        (sSs_cons (sS_if (PW.pt (sW_or (sT_not (sT_tru (sE_isi rfl Bl.isinstance (NameOk.dv ⟨rfl, (by first | exact Or.inl rfl | exact Or.inr (Or.inl rfl) | exact Or.inr (Or.inr rfl)), rfl, rfl⟩) (fun _ _ => rfl) rfl Bl.tuple boot_tuple (by decide) rfl) (fun _ => rfl))) (sW_one (sT_not (sT_tru (sE_all (own := [("door", 3)]) hcm nd hr rfl Bl.all TB rfl hp (genSc_by rfl rfl rfl rfl) (sI_seq (NameOk.dv ⟨rfl, (by first | exact Or.inl rfl | exact Or.inr (Or.inl rfl) | exact Or.inr (Or.inr rfl)), rfl, rfl⟩)) ⟨fun _ _ _ _ => sG_name ⟨nd, rfl, (by first | exact Or.inl rfl | exact Or.inr rfl), (by first | exact Or.inr rfl | exact Or.inl rfl), hk 3 rfl⟩ (by decide), fun _ _ _ _ => sE_call (F_is_door.mono (by decide)) (Room.gen hr _) rfl takesB (by simp [agNd, posOf]) rfl (sAg_d (NameOk.dv ⟨rfl, (by first | exact Or.inl rfl | exact Or.inr (Or.inl rfl) | exact Or.inr (Or.inr rfl)), rfl, rfl⟩) (sAg_d (NameOk.dv ⟨rfl, (by first | exact Or.inl rfl | exact Or.inr (Or.inl rfl) | exact Or.inr (Or.inr rfl)), rfl, rfl⟩) (sAg_nil) (fun _ _ => rfl)) (fun _ _ => rfl)) (fun _ _ => rfl) rfl rfl⟩ (gok_n) (by intro i hi; exact hk i (by revert i; decide)) (fun _ => rfl) rfl) (fun _ => rfl)))))) (sSs_one (sS_ret (sE_dt sD_str))) (sSs_nil))
        (sSs_cons (sS_if (PW.pt (sW_or (sT_not (sT_tru (sE_all (own := [("one", 4), ("other", 5)]) hcm nd hr rfl Bl.all TB rfl hp (genSc_by rfl rfl rfl rfl) (sI_zip rfl Bl.zip (NameOk.dv ⟨rfl, (by first | exact Or.inl rfl | exact Or.inr (Or.inl rfl) | exact Or.inr (Or.inr rfl)), rfl, rfl⟩) (sE_frz (sE_slice (NameOk.dv ⟨rfl, (by first | exact Or.inl rfl | exact Or.inr (Or.inl rfl) | exact Or.inr (Or.inr rfl)), rfl, rfl⟩) (sO_some (sD_int)) (sO_none))) (fun _ _ => rfl) (fun _ _ => rfl)) ⟨fun _ _ _ _ => sG_tup hcm (sGs_cons (sG_name ⟨nd, rfl, (by first | exact Or.inl rfl | exact Or.inr rfl), (by first | exact Or.inr rfl | exact Or.inl rfl), hk 4 rfl⟩ (by decide)) (sGs_cons (sG_name ⟨nd, rfl, (by first | exact Or.inl rfl | exact Or.inr rfl), (by first | exact Or.inr rfl | exact Or.inl rfl), hk 5 rfl⟩ (by decide)) (sGs_nil) rfl) rfl) rfl rfl, fun _ _ _ _ => sE_cmp (od_lt (Room.u (Room.gen hr _))) (NameOk.dv ⟨rfl, (by first | exact Or.inl rfl | exact Or.inr (Or.inl rfl) | exact Or.inr (Or.inr rfl)), rfl, rfl⟩) (NameOk.dv ⟨rfl, (by first | exact Or.inl rfl | exact Or.inr (Or.inl rfl) | exact Or.inr (Or.inr rfl)), rfl, rfl⟩) rfl⟩ (gok_t (gsok_cons (gok_n) (gsok_cons (gok_n) (gsok_nil)))) (by intro i hi; exact hk i (by revert i; decide)) (fun _ => rfl) rfl) (fun _ => rfl))) (sW_one (sT_not (sT_tru (sE_call (F_is_joined.mono (by decide)) hr rfl fnX_takes (by simp [agNd, posOf]) rfl (sAg_d (NameOk.dv ⟨rfl, (by first | exact Or.inl rfl | exact Or.inr (Or.inl rfl) | exact Or.inr (Or.inr rfl)), rfl, rfl⟩) (sAg_d (NameOk.dv ⟨rfl, (by first | exact Or.inl rfl | exact Or.inr (Or.inl rfl) | exact Or.inr (Or.inr rfl)), rfl, rfl⟩) (sAg_nil) (fun _ _ => rfl)) (fun _ _ => rfl)) (fun _ _ => rfl) rfl rfl) (fun _ => rfl)))))) (sSs_one (sS_ret (sE_dt sD_str))) (sSs_nil))
        (sSs_one (sS_ret (sE_dt sD_none)))))))

theorem d_is_house {P : Program} {w : World} {K : PySem.W.Frag} {mg : Str → Option Value} {base : Heap} {T : List Addr} {ex : Str → Option Addr}  {f : Addr} {fd : FuncData} {cdv : Value} (Bl : Blt mg) (F_wrong_part : FnS P w K mg base T ex 5 "wrong_part" 1 f_wrong_part)
    (F : FunC K "is_house" "is_house" (defArgs (top 11)) (defBody (top 11)) (defScope (top 11)) f fd cdv) (hx : mg "is_house" = some (.ref f)) : FnS P w K mg base T ex 6 "is_house" 1 f_is_house := by
  have nd : (["value"] : List Str).Nodup := by decide
  refine FunC.fnS (N := ["value"]) (ps := ["value"]) (ow := []) (k := 5) (mb := b_is_house) F hx ⟨rfl, rfl, rfl, nd, rfl, by decide, by decide⟩ rfl (by decide) (fun _ _ _ _ _ _ us hl => match us, hl with | [_], _ => rfl) fun A outer s H E C hr hT hE hk => ?_
  subst hT hE
  have hcm : (fnX P w K mg base ["value"] "is_house" (defScope (top 11)) f cdv A outer s H E).calm = true := rfl
  exact sSs_one (sS_ret (sE_cmp od_is (sE_frz (sE_call (F_wrong_part.mono (by decide)) hr rfl fnX_takes (by simp [agNd, posOf]) rfl (sAg_d (NameOk.dv ⟨rfl, (by first | exact Or.inl rfl | exact Or.inr (Or.inl rfl) | exact Or.inr (Or.inr rfl)), rfl, rfl⟩) (sAg_nil) (fun _ _ => rfl)) (fun _ _ => rfl) rfl rfl)) (sD_none) rfl))

theorem d_need_house {P : Program} {w : World} {K : PySem.W.Frag} {mg : Str → Option Value} {base : Heap} {T : List Addr} {ex : Str → Option Addr}  {f : Addr} {fd : FuncData} {cdv : Value} (Bl : Blt mg) (F_wrong_part : FnS P w K mg base T ex 5 "wrong_part" 1 f_wrong_part)
    (F : FunC K "need_house" "need_house" (defArgs (top 12)) (defBody (top 12)) (defScope (top 12)) f fd cdv) (hx : mg "need_house" = some (.ref f)) : FnS P w K mg base T ex 6 "need_house" 1 f_need_house := by
  have nd : (["value", "word"] : List Str).Nodup := by decide
  refine FunC.fnS (N := ["value", "word"]) (ps := ["value"]) (ow := []) (k := 5) (mb := b_need_house) F hx ⟨rfl, rfl, rfl, nd, rfl, by decide, by decide⟩ rfl (by decide) (fun _ _ _ _ _ _ us hl => match us, hl with | [_], _ => rfl) fun A outer s H E C hr hT hE hk => ?_
  subst hT hE
  have hcm : (fnX P w K mg base ["value", "word"] "need_house" (defScope (top 12)) f cdv A outer s H E).calm = true := rfl
  exact sSs_cons (LocOk.set ⟨nd, rfl, (by first | exact Or.inl rfl | exact Or.inr rfl), (by first | exact Or.inr rfl | exact Or.inl rfl), hk 1 rfl⟩ (sE_dt (sE_frz (sE_call (F_wrong_part.mono (by decide)) hr rfl fnX_takes (by simp [agNd, posOf]) rfl (sAg_d (NameOk.dv ⟨rfl, (by first | exact Or.inl rfl | exact Or.inr (Or.inl rfl) | exact Or.inr (Or.inr rfl)), rfl, rfl⟩) (sAg_nil) (fun _ _ => rfl)) (fun _ _ => rfl) rfl rfl))) rfl)
        (sSs_one (sS_if (sT_cmp od_isNot (NameOk.dv ⟨rfl, (by first | exact Or.inl rfl | exact Or.inr (Or.inl rfl) | exact Or.inr (Or.inr rfl)), rfl, rfl⟩) (sD_none) rfl) (sSs_one (sS_never)) (sSs_nil)))

theorem d_need_hall {P : Program} {w : World} {K : PySem.W.Frag} {mg : Str → Option Value} {base : Heap} {T : List Addr} {ex : Str → Option Addr}  {f : Addr} {fd : FuncData} {cdv : Value} (Bl : Blt mg) (F_is_number : FnS P w K mg base T ex 1 "is_number" 3 f_is_number)
    (F : FunC K "need_hall" "need_hall" (defArgs (top 13)) (defBody (top 13)) (defScope (top 13)) f fd cdv) (hx : mg "need_hall" = some (.ref f)) : FnS P w K mg base T ex 2 "need_hall" 2 f_need_hall := by
  have nd : (["house", "value"] : List Str).Nodup := by decide
  refine FunC.fnS (N := ["house", "value"]) (ps := ["house", "value"]) (ow := []) (k := 1) (mb := b_need_hall) F hx ⟨rfl, rfl, rfl, nd, rfl, by decide, by decide⟩ rfl (by decide) (fun _ _ _ _ _ _ us hl => match us, hl with | [_, _], _ => rfl) fun A outer s H E C hr hT hE hk => ?_
  subst hT hE
  have hcm : (fnX P w K mg base ["house", "value"] "need_hall" (defScope (top 13)) f cdv A outer s H E).calm = true := rfl
  exact sSs_one (sS_if (sT_not (sT_tru (sE_call (F_is_number.mono (by decide)) hr rfl fnX_takes (by simp [agNd, posOf]) rfl (sAg_d (NameOk.dv ⟨rfl, (by first | exact Or.inl rfl | exact Or.inr (Or.inl rfl) | exact Or.inr (Or.inr rfl)), rfl, rfl⟩) (sAg_d (sD_int) (sAg_d (sE_frz (sE_bin od_sub (sE_frz (sE_ix (NameOk.dv ⟨rfl, (by first | exact Or.inl rfl | exact Or.inr (Or.inl rfl) | exact Or.inr (Or.inr rfl)), rfl, rfl⟩) (sD_int) (fun _ _ => rfl))) (sD_int))) (sAg_nil) (fun _ _ => rfl)) (fun _ _ => rfl)) (fun _ _ => rfl)) (fun _ _ => rfl) rfl rfl) (fun _ => rfl))) (sSs_one (sS_never)) (sSs_nil))

theorem d_doors_out {P : Program} {w : World} {K : PySem.W.Frag} {mg : Str → Option Value} {base : Heap} {T : List Addr} {ex : Str → Option Addr}  {f : Addr} {fd : FuncData} {cdv : Value} (Bl : Blt mg) (F_need_house : FnS P w K mg base T ex 6 "need_house" 1 f_need_house) (F_need_hall : FnS P w K mg base T ex 2 "need_hall" 2 f_need_hall)
    (F : FunC K "doors_out" "doors_out" (defArgs (top 14)) (defBody (top 14)) (defScope (top 14)) f fd cdv) (hx : mg "doors_out" = some (.ref f)) : FnS P w K mg base T ex 7 "doors_out" 2 f_doors_out := by
  have nd : (["house", "hall", "one", "other"] : List Str).Nodup := by decide
  refine FunC.fnS (N := ["house", "hall", "one", "other"]) (ps := ["house", "hall"]) (ow := []) (k := 6) (mb := b_doors_out) F hx ⟨rfl, rfl, rfl, nd, rfl, by decide, by decide⟩ rfl (by decide) (fun _ _ _ _ _ _ us hl => match us, hl with | [_, _], _ => rfl) fun A outer s H E C hr hT hE hk => ?_
  subst hT hE
  have hcm : (fnX P w K mg base ["house", "hall", "one", "other"] "doors_out" (defScope (top 14)) f cdv A outer s H E).calm = true := rfl
  exact sSs_cons (sS_expr (sE_call (F_need_house.mono (by decide)) hr rfl fnX_takes (by simp [agNd, posOf]) rfl (sAg_d (NameOk.dv ⟨rfl, (by first | exact Or.inl rfl | exact Or.inr (Or.inl rfl) | exact Or.inr (Or.inr rfl)), rfl, rfl⟩) (sAg_nil) (fun _ _ => rfl)) (fun _ _ => rfl) rfl rfl) rfl)
        (sSs_cons (sS_expr (sE_call (F_need_hall.mono (by decide)) hr rfl fnX_takes (by simp [agNd, posOf]) rfl (sAg_d (NameOk.dv ⟨rfl, (by first | exact Or.inl rfl | exact Or.inr (Or.inl rfl) | exact Or.inr (Or.inr rfl)), rfl, rfl⟩) (sAg_d (NameOk.dv ⟨rfl, (by first | exact Or.inl rfl | exact Or.inr (Or.inl rfl) | exact Or.inr (Or.inr rfl)), rfl, rfl⟩) (sAg_nil) (fun _ _ => rfl)) (fun _ _ => rfl)) (fun _ _ => rfl) rfl rfl) rfl)
        (sSs_one (sS_ret (sE_callTy cr_tuple rfl Bl.tuple boot_tuple (sE_lc (own := [("one", 2), ("other", 3)]) hcm nd (sI_seq (sE_frz (sE_ix (NameOk.dv ⟨rfl, (by first | exact Or.inl rfl | exact Or.inr (Or.inl rfl) | exact Or.inr (Or.inr rfl)), rfl, rfl⟩) (sD_int) (fun _ _ => rfl)))) (blkOk_by rfl) ⟨fun _ _ _ _ _ _ => sG_tup hcm (sGs_cons (sG_name ⟨nd, rfl, (by first | exact Or.inl rfl | exact Or.inr rfl), (by first | exact Or.inr rfl | exact Or.inl rfl), hk 2 rfl⟩ (by decide)) (sGs_cons (sG_name ⟨nd, rfl, (by first | exact Or.inl rfl | exact Or.inr rfl), (by first | exact Or.inr rfl | exact Or.inl rfl), hk 3 rfl⟩ (by decide)) (sGs_nil) rfl) rfl) rfl rfl, fun _ _ _ _ _ _ => sTs_one (sT_cmp (od_eq (Room.u hr)) (NameOk.dv ⟨rfl, (by first | exact Or.inl rfl | exact Or.inr (Or.inl rfl) | exact Or.inr (Or.inr rfl)), rfl, rfl⟩) (NameOk.dv ⟨rfl, (by first | exact Or.inl rfl | exact Or.inr (Or.inl rfl) | exact Or.inr (Or.inr rfl)), rfl, rfl⟩) rfl), fun _ _ _ _ _ _ => NameOk.dv ⟨rfl, (by first | exact Or.inl rfl | exact Or.inr (Or.inl rfl) | exact Or.inr (Or.inr rfl)), rfl, rfl⟩⟩ (gok_t (gsok_cons (gok_n) (gsok_cons (gok_n) (gsok_nil)))) (by intro i hi; exact hk i (by revert i; decide)) (fun _ => rfl)) (fun _ _ => rfl) (by decide) rfl))))

theorem d_far {P : Program} {w : World} {K : PySem.W.Frag} {mg : Str → Option Value} {base : Heap} {T : List Addr} {ex : Str → Option Addr}  {f : Addr} {fd : FuncData} {cdv : Value} (Bl : Blt mg) (F_need_house : FnS P w K mg base T ex 6 "need_house" 1 f_need_house) (F_need_hall : FnS P w K mg base T ex 2 "need_hall" 2 f_need_hall) (F_come_to : FnS P w K mg base T ex 1 "come_to" 3 f_come_to)
    (F : FunC K "far" "far" (defArgs (top 15)) (defBody (top 15)) (defScope (top 15)) f fd cdv) (hx : mg "far" = some (.ref f)) : FnS P w K mg base T ex 7 "far" 3 f_far := by
  have nd : (["house", "one", "other"] : List Str).Nodup := by decide
  refine FunC.fnS (N := ["house", "one", "other"]) (ps := ["house", "one", "other"]) (ow := []) (k := 6) (mb := b_far) F hx ⟨rfl, rfl, rfl, nd, rfl, by decide, by decide⟩ rfl (by decide) (fun _ _ _ _ _ _ us hl => match us, hl with | [_, _, _], _ => rfl) fun A outer s H E C hr hT hE hk => ?_
  subst hT hE
  have hcm : (fnX P w K mg base ["house", "one", "other"] "far" (defScope (top 15)) f cdv A outer s H E).calm = true := rfl
  exact sSs_cons (sS_expr (sE_call (F_need_house.mono (by decide)) hr rfl fnX_takes (by simp [agNd, posOf]) rfl (sAg_d (NameOk.dv ⟨rfl, (by first | exact Or.inl rfl | exact Or.inr (Or.inl rfl) | exact Or.inr (Or.inr rfl)), rfl, rfl⟩) (sAg_nil) (fun _ _ => rfl)) (fun _ _ => rfl) rfl rfl) rfl)
        (sSs_cons (sS_expr (sE_call (F_need_hall.mono (by decide)) hr rfl fnX_takes (by simp [agNd, posOf]) rfl (sAg_d (NameOk.dv ⟨rfl, (by first | exact Or.inl rfl | exact Or.inr (Or.inl rfl) | exact Or.inr (Or.inr rfl)), rfl, rfl⟩) (sAg_d (NameOk.dv ⟨rfl, (by first | exact Or.inl rfl | exact Or.inr (Or.inl rfl) | exact Or.inr (Or.inr rfl)), rfl, rfl⟩) (sAg_nil) (fun _ _ => rfl)) (fun _ _ => rfl)) (fun _ _ => rfl) rfl rfl) rfl)
        (sSs_cons (sS_expr (sE_call (F_need_hall.mono (by decide)) hr rfl fnX_takes (by simp [agNd, posOf]) rfl (sAg_d (NameOk.dv ⟨rfl, (by first | exact Or.inl rfl | exact Or.inr (Or.inl rfl) | exact Or.inr (Or.inr rfl)), rfl, rfl⟩) (sAg_d (NameOk.dv ⟨rfl, (by first | exact Or.inl rfl | exact Or.inr (Or.inl rfl) | exact Or.inr (Or.inr rfl)), rfl, rfl⟩) (sAg_nil) (fun _ _ => rfl)) (fun _ _ => rfl)) (fun _ _ => rfl) rfl rfl) rfl)
        (sSs_one (sS_ret (sE_ixT (Room.u hr) (sE_call (F_come_to.mono (by decide)) hr rfl fnX_takes (by simp [agNd, posOf]) rfl (sAg_d (sE_frz (sE_ix (NameOk.dv ⟨rfl, (by first | exact Or.inl rfl | exact Or.inr (Or.inl rfl) | exact Or.inr (Or.inr rfl)), rfl, rfl⟩) (sD_int) (fun _ _ => rfl))) (sAg_d (sE_frz (sE_ix (NameOk.dv ⟨rfl, (by first | exact Or.inl rfl | exact Or.inr (Or.inl rfl) | exact Or.inr (Or.inr rfl)), rfl, rfl⟩) (sD_int) (fun _ _ => rfl))) (sAg_d (NameOk.dv ⟨rfl, (by first | exact Or.inl rfl | exact Or.inr (Or.inl rfl) | exact Or.inr (Or.inr rfl)), rfl, rfl⟩) (sAg_nil) (fun _ _ => rfl)) (fun _ _ => rfl)) (fun _ _ => rfl)) (fun _ _ => rfl) rfl rfl) (⟨rfl, (by first | exact Or.inl rfl | exact Or.inr (Or.inl rfl) | exact Or.inr (Or.inr rfl)), rfl, rfl⟩))))))

theorem d_turned {P : Program} {w : World} {K : PySem.W.Frag} {mg : Str → Option Value} {base : Heap} {T : List Addr} {ex : Str → Option Addr}  {f : Addr} {fd : FuncData} {cdv : Value} (Bl : Blt mg) (F_need_house : FnS P w K mg base T ex 6 "need_house" 1 f_need_house)
    (F : FunC K "turned" "turned" (defArgs (top 16)) (defBody (top 16)) (defScope (top 16)) f fd cdv) (hx : mg "turned" = some (.ref f)) : FnS P w K mg base T ex 7 "turned" 1 f_turned := by
  have nd : (["house", "one", "other"] : List Str).Nodup := by decide
  refine FunC.fnS (N := ["house", "one", "other"]) (ps := ["house"]) (ow := []) (k := 6) (mb := b_turned) F hx ⟨rfl, rfl, rfl, nd, rfl, by decide, by decide⟩ rfl (by decide) (fun _ _ _ _ _ _ us hl => match us, hl with | [_], _ => rfl) fun A outer s H E C hr hT hE hk => ?_
  subst hT hE
  have hcm : (fnX P w K mg base ["house", "one", "other"] "turned" (defScope (top 16)) f cdv A outer s H E).calm = true := rfl
  exact sSs_cons (sS_expr (sE_call (F_need_house.mono (by decide)) hr rfl fnX_takes (by simp [agNd, posOf]) rfl (sAg_d (NameOk.dv ⟨rfl, (by first | exact Or.inl rfl | exact Or.inr (Or.inl rfl) | exact Or.inr (Or.inr rfl)), rfl, rfl⟩) (sAg_nil) (fun _ _ => rfl)) (fun _ _ => rfl) rfl rfl) rfl)
        (sSs_one (sS_ret (sE_tup (sA_cons (sE_frz (sE_ix (NameOk.dv ⟨rfl, (by first | exact Or.inl rfl | exact Or.inr (Or.inl rfl) | exact Or.inr (Or.inr rfl)), rfl, rfl⟩) (sD_int) (fun _ _ => rfl))) (sA_cons (sE_frz (sE_callTy cr_tuple rfl Bl.tuple boot_tuple (sE_callB (cr_sorted (Room.u hr)) rfl Bl.sorted boot_sorted (sE_lc (own := [("one", 1), ("other", 2)]) hcm nd (sI_seq (sE_frz (sE_ix (NameOk.dv ⟨rfl, (by first | exact Or.inl rfl | exact Or.inr (Or.inl rfl) | exact Or.inr (Or.inr rfl)), rfl, rfl⟩) (sD_int) (fun _ _ => rfl)))) (blkOk_by rfl) ⟨fun _ _ _ _ _ _ => sG_tup hcm (sGs_cons (sG_name ⟨nd, rfl, (by first | exact Or.inl rfl | exact Or.inr rfl), (by first | exact Or.inr rfl | exact Or.inl rfl), hk 1 rfl⟩ (by decide)) (sGs_cons (sG_name ⟨nd, rfl, (by first | exact Or.inl rfl | exact Or.inr rfl), (by first | exact Or.inr rfl | exact Or.inl rfl), hk 2 rfl⟩ (by decide)) (sGs_nil) rfl) rfl) rfl rfl, fun _ _ _ _ _ _ => sTs_nil, fun _ _ _ _ _ _ => sE_frz (sE_tup (sA_cons (NameOk.dv ⟨rfl, (by first | exact Or.inl rfl | exact Or.inr (Or.inl rfl) | exact Or.inr (Or.inr rfl)), rfl, rfl⟩) (sA_cons (NameOk.dv ⟨rfl, (by first | exact Or.inl rfl | exact Or.inr (Or.inl rfl) | exact Or.inr (Or.inr rfl)), rfl, rfl⟩) (sA_nil) (fun _ _ => rfl)) (fun _ _ => rfl)))⟩ (gok_t (gsok_cons (gok_n) (gsok_cons (gok_n) (gsok_nil)))) (by intro i hi; exact hk i (by revert i; decide)) (fun _ => rfl)) (fun _ _ => rfl) (by decide) rfl) (fun _ _ => rfl) (by decide) rfl)) (sA_nil) (fun _ _ => rfl)) (fun _ _ => rfl)))))

theorem d_is_two_way {P : Program} {w : World} {K : PySem.W.Frag} {mg : Str → Option Value} {base : Heap} {T : List Addr} {ex : Str → Option Addr}  {f : Addr} {fd : FuncData} {cdv : Value} (Bl : Blt mg) (F_need_house : FnS P w K mg base T ex 6 "need_house" 1 f_need_house) (F_turned : FnS P w K mg base T ex 7 "turned" 1 f_turned)
    (F : FunC K "is_two_way" "is_two_way" (defArgs (top 17)) (defBody (top 17)) (defScope (top 17)) f fd cdv) (hx : mg "is_two_way" = some (.ref f)) : FnS P w K mg base T ex 8 "is_two_way" 1 f_is_two_way := by
  have nd : (["house"] : List Str).Nodup := by decide
  refine FunC.fnS (N := ["house"]) (ps := ["house"]) (ow := []) (k := 7) (mb := b_is_two_way) F hx ⟨rfl, rfl, rfl, nd, rfl, by decide, by decide⟩ rfl (by decide) (fun _ _ _ _ _ _ us hl => match us, hl with | [_], _ => rfl) fun A outer s H E C hr hT hE hk => ?_
  subst hT hE
  have hcm : (fnX P w K mg base ["house"] "is_two_way" (defScope (top 17)) f cdv A outer s H E).calm = true := rfl
  exact sSs_cons (sS_expr (sE_call (F_need_house.mono (by decide)) hr rfl fnX_takes (by simp [agNd, posOf]) rfl (sAg_d (NameOk.dv ⟨rfl, (by first | exact Or.inl rfl | exact Or.inr (Or.inl rfl) | exact Or.inr (Or.inr rfl)), rfl, rfl⟩) (sAg_nil) (fun _ _ => rfl)) (fun _ _ => rfl) rfl rfl) rfl)
        (sSs_one (sS_ret (sE_cmp (od_eq (Room.u hr)) (sE_frz (sE_call (F_turned.mono (by decide)) hr rfl fnX_takes (by simp [agNd, posOf]) rfl (sAg_d (NameOk.dv ⟨rfl, (by first | exact Or.inl rfl | exact Or.inr (Or.inl rfl) | exact Or.inr (Or.inr rfl)), rfl, rfl⟩) (sAg_nil) (fun _ _ => rfl)) (fun _ _ => rfl) rfl rfl)) (NameOk.dv ⟨rfl, (by first | exact Or.inl rfl | exact Or.inr (Or.inl rfl) | exact Or.inr (Or.inr rfl)), rfl, rfl⟩) rfl)))

theorem d__law_taken {P : Program} {w : World} {K : PySem.W.Frag} {mg : Str → Option Value} {base : Heap} {T : List Addr} {ex : Str → Option Addr}  {f : Addr} {fd : FuncData} {cdv : Value} (Bl : Blt mg) 
    (F : FunC K "_law_taken" "_law_taken" (defArgs (top 19)) (defBody (top 19)) (defScope (top 19)) f fd cdv) (hx : mg "_law_taken" = some (.ref f)) : FnS P w K mg base T ex 1 "_law_taken" 2 f__law_taken := by
  have nd : (["_law_row", "_law_many", "_law_cell", "_law_found"] : List Str).Nodup := by decide
  refine FunC.fnS (N := ["_law_row", "_law_many", "_law_cell", "_law_found"]) (ps := ["_law_row", "_law_many"]) (ow := [0]) (k := 0) (mb := b__law_taken) F hx ⟨rfl, rfl, rfl, nd, rfl, by decide, by decide⟩ rfl (by decide) (fun _ _ _ _ _ _ us hl => match us, hl with | [_, _], _ => rfl) fun A outer s H E C hr hT hE hk => ?_
  subst hT hE
  have hcm : (fnX P w K mg base ["_law_row", "_law_many", "_law_cell", "_law_found"] "_law_taken" (defScope (top 19)) f cdv A outer s H E).calm = true := rfl
  exact sSs_cons (sS_if (sT_cmp (od_gt (Room.u hr)) (sE_frz (sE_ixL ⟨rfl, (by first | exact Or.inl rfl | exact Or.inr (Or.inl rfl) | exact Or.inr (Or.inr rfl)), rfl, rfl⟩ (sD_int) (fun _ _ => rfl))) (sD_int) rfl) (sSs_cons (LocOk.set ⟨nd, rfl, (by first | exact Or.inl rfl | exact Or.inr rfl), (by first | exact Or.inr rfl | exact Or.inl rfl), hk 3 rfl⟩ (sE_dt (sE_frz (sE_bin od_mod (sE_frz (sE_callTy cr_int rfl Bl.int boot_int (sE_ixL ⟨rfl, (by first | exact Or.inl rfl | exact Or.inr (Or.inl rfl) | exact Or.inr (Or.inr rfl)), rfl, rfl⟩ (sD_int) (fun _ _ => rfl)) (fun _ _ => rfl) (by decide) rfl)) (NameOk.dv ⟨rfl, (by first | exact Or.inl rfl | exact Or.inr (Or.inl rfl) | exact Or.inr (Or.inr rfl)), rfl, rfl⟩)))) rfl)
        (sSs_cons (sS_setL ⟨rfl, (by first | exact Or.inl rfl | exact Or.inr (Or.inl rfl) | exact Or.inr (Or.inr rfl)), rfl, rfl⟩ (sD_int) (sE_frz (sE_bin od_fdiv (sE_frz (sE_ixL ⟨rfl, (by first | exact Or.inl rfl | exact Or.inr (Or.inl rfl) | exact Or.inr (Or.inr rfl)), rfl, rfl⟩ (sD_int) (fun _ _ => rfl))) (NameOk.dv ⟨rfl, (by first | exact Or.inl rfl | exact Or.inr (Or.inl rfl) | exact Or.inr (Or.inr rfl)), rfl, rfl⟩))) (fun _ => rfl) rfl rfl)
        (sSs_one (sS_ret (NameOk.var ⟨rfl, (by first | exact Or.inl rfl | exact Or.inr (Or.inl rfl) | exact Or.inr (Or.inr rfl)), rfl, rfl⟩))))) (sSs_nil))
        (sSs_cons (sS_setL ⟨rfl, (by first | exact Or.inl rfl | exact Or.inr (Or.inl rfl) | exact Or.inr (Or.inr rfl)), rfl, rfl⟩ (sD_int) (sE_frz (sE_bin od_add (sE_frz (sE_ixL ⟨rfl, (by first | exact Or.inl rfl | exact Or.inr (Or.inl rfl) | exact Or.inr (Or.inr rfl)), rfl, rfl⟩ (sD_int) (fun _ _ => rfl))) (sD_int))) (fun _ => rfl) rfl rfl)
        (sSs_cons (sS_if (sT_cmp (od_gt (Room.u hr)) (sE_frz (sE_ixL ⟨rfl, (by first | exact Or.inl rfl | exact Or.inr (Or.inl rfl) | exact Or.inr (Or.inr rfl)), rfl, rfl⟩ (sD_int) (fun _ _ => rfl))) (sE_frz (sE_callB cr_len rfl Bl.len boot_len (sE_ixL ⟨rfl, (by first | exact Or.inl rfl | exact Or.inr (Or.inl rfl) | exact Or.inr (Or.inr rfl)), rfl, rfl⟩ (sD_int) (fun _ _ => rfl)) (fun _ _ => rfl) (by decide) rfl)) rfl) (sSs_cons (sS_setL ⟨rfl, (by first | exact Or.inl rfl | exact Or.inr (Or.inl rfl) | exact Or.inr (Or.inr rfl)), rfl, rfl⟩ (sD_int) (sE_frz (sE_bin od_mod (sE_frz (sE_callTy cr_int rfl Bl.int boot_int (sE_bin od_add (sE_frz (sE_bin od_mul (sE_frz (sE_ixL ⟨rfl, (by first | exact Or.inl rfl | exact Or.inr (Or.inl rfl) | exact Or.inr (Or.inr rfl)), rfl, rfl⟩ (sD_int) (fun _ _ => rfl))) (sD_int))) (sD_int)) (fun _ _ => rfl) (by decide) rfl)) (sD_int))) (fun _ => rfl) rfl rfl)
        (sSs_one (sS_ret (sE_bin od_mod (sE_frz (sE_callTy cr_int rfl Bl.int boot_int (sE_bin od_fdiv (sE_frz (sE_ixL ⟨rfl, (by first | exact Or.inl rfl | exact Or.inr (Or.inl rfl) | exact Or.inr (Or.inr rfl)), rfl, rfl⟩ (sD_int) (fun _ _ => rfl))) (sD_int)) (fun _ _ => rfl) (by decide) rfl)) (NameOk.dv ⟨rfl, (by first | exact Or.inl rfl | exact Or.inr (Or.inl rfl) | exact Or.inr (Or.inr rfl)), rfl, rfl⟩))))) (sSs_nil))
        (sSs_cons (LocOk.set ⟨nd, rfl, (by first | exact Or.inl rfl | exact Or.inr rfl), (by first | exact Or.inr rfl | exact Or.inl rfl), hk 2 rfl⟩ (sE_dt (sE_frz (sE_ix (sE_frz (sE_ixL ⟨rfl, (by first | exact Or.inl rfl | exact Or.inr (Or.inl rfl) | exact Or.inr (Or.inr rfl)), rfl, rfl⟩ (sD_int) (fun _ _ => rfl))) (sE_frz (sE_bin od_sub (sE_frz (sE_ixL ⟨rfl, (by first | exact Or.inl rfl | exact Or.inr (Or.inl rfl) | exact Or.inr (Or.inr rfl)), rfl, rfl⟩ (sD_int) (fun _ _ => rfl))) (sD_int))) (fun _ _ => rfl)))) rfl)
        (sSs_cons (sS_setL ⟨rfl, (by first | exact Or.inl rfl | exact Or.inr (Or.inl rfl) | exact Or.inr (Or.inr rfl)), rfl, rfl⟩ (sD_int) (sE_frz (sE_bin od_mod (sE_frz (sE_callTy cr_int rfl Bl.int boot_int (sE_bin od_add (sE_frz (sE_bin od_add (sE_frz (sE_bin od_mul (sE_frz (sE_ixL ⟨rfl, (by first | exact Or.inl rfl | exact Or.inr (Or.inl rfl) | exact Or.inr (Or.inr rfl)), rfl, rfl⟩ (sD_int) (fun _ _ => rfl))) (sD_int))) (NameOk.dv ⟨rfl, (by first | exact Or.inl rfl | exact Or.inr (Or.inl rfl) | exact Or.inr (Or.inr rfl)), rfl, rfl⟩))) (sD_int)) (fun _ _ => rfl) (by decide) rfl)) (sD_int))) (fun _ => rfl) rfl rfl)
        (sSs_cons (sS_if (sT_cmp (od_ge (Room.u hr)) (NameOk.dv ⟨rfl, (by first | exact Or.inl rfl | exact Or.inr (Or.inl rfl) | exact Or.inr (Or.inr rfl)), rfl, rfl⟩) (sE_frz (sE_bin od_pow (sD_int) (sD_int))) rfl) (sSs_one (sS_setL ⟨rfl, (by first | exact Or.inl rfl | exact Or.inr (Or.inl rfl) | exact Or.inr (Or.inr rfl)), rfl, rfl⟩ (sD_int) (sE_frz (sE_bin od_fdiv (NameOk.dv ⟨rfl, (by first | exact Or.inl rfl | exact Or.inr (Or.inl rfl) | exact Or.inr (Or.inr rfl)), rfl, rfl⟩) (NameOk.dv ⟨rfl, (by first | exact Or.inl rfl | exact Or.inr (Or.inl rfl) | exact Or.inr (Or.inr rfl)), rfl, rfl⟩))) (fun _ => rfl) rfl rfl)) (sSs_nil))
        (sSs_one (sS_ret (sE_bin od_mod (sE_frz (sE_callTy cr_int rfl Bl.int boot_int (NameOk.var ⟨rfl, (by first | exact Or.inl rfl | exact Or.inr (Or.inl rfl) | exact Or.inr (Or.inr rfl)), rfl, rfl⟩) (fun _ _ => rfl) (by decide) rfl)) (NameOk.dv ⟨rfl, (by first | exact Or.inl rfl | exact Or.inr (Or.inl rfl) | exact Or.inr (Or.inr rfl)), rfl, rfl⟩)))))))))

theorem d__law_pick {P : Program} {w : World} {K : PySem.W.Frag} {mg : Str → Option Value} {base : Heap} {T : List Addr} {ex : Str → Option Addr}  {f : Addr} {fd : FuncData} {cdv : Value} (Bl : Blt mg) (F__law_taken : FnS P w K mg base T ex 1 "_law_taken" 2 f__law_taken)
    (F : FunC K "_law_pick" "_law_pick" (defArgs (top 20)) (defBody (top 20)) (defScope (top 20)) f fd cdv) (hx : mg "_law_pick" = some (.ref f)) : FnS P w K mg base T ex 2 "_law_pick" 2 f__law_pick := by
  have nd : (["_law_row", "_law_things"] : List Str).Nodup := by decide
  refine FunC.fnS (N := ["_law_row", "_law_things"]) (ps := ["_law_row", "_law_things"]) (ow := [0]) (k := 1) (mb := b__law_pick) F hx ⟨rfl, rfl, rfl, nd, rfl, by decide, by decide⟩ rfl (by decide) (fun _ _ _ _ _ _ us hl => match us, hl with | [_, _], _ => rfl) fun A outer s H E C hr hT hE hk => ?_
  subst hT hE
  have hcm : (fnX P w K mg base ["_law_row", "_law_things"] "_law_pick" (defScope (top 20)) f cdv A outer s H E).calm = true := rfl
  exact sSs_one (sS_ret (sE_ix (NameOk.dv ⟨rfl, (by first | exact Or.inl rfl | exact Or.inr (Or.inl rfl) | exact Or.inr (Or.inr rfl)), rfl, rfl⟩) (sE_frz (sE_call (F__law_taken.mono (by decide)) hr rfl fnX_takes (by simp [agNd, posOf]) rfl (sAg_s ⟨rfl, (by first | exact Or.inl rfl | exact Or.inr (Or.inl rfl) | exact Or.inr (Or.inr rfl)), rfl, rfl⟩ (sAg_d (sE_frz (NameOk.len ⟨rfl, (by first | exact Or.inl rfl | exact Or.inr (Or.inl rfl) | exact Or.inr (Or.inr rfl)), rfl, rfl⟩ rfl Bl.len)) (sAg_nil) (fun _ _ => rfl))) (fun _ _ => rfl) rfl rfl)) (fun _ _ => rfl)))

theorem e__law_alike {P : Program} {w : World} {K : PySem.W.Frag} {mg : Str → Option Value} {base : Heap} {T : List Addr} {ex : Str → Option Addr}  {f : Addr} {fd : FuncData} {cdv : Value} (Bl : Blt mg) 
    (F : FunC K "_law_alike" "_law_alike" (defArgs (top 21)) (defBody (top 21)) (defScope (top 21)) f fd cdv) (hx : mg "_law_alike" = some (.ref f)) : ∀ n, FnS P w K mg base T ex (n + 0 + 1) "_law_alike" 2 (r__law_alike n) := by
  have nd : (["_law_found", "_law_due", "_law_k"] : List Str).Nodup := by decide
  intro n
  induction n with
  | zero =>
    refine FunC.fnS (N := ["_law_found", "_law_due", "_law_k"]) (ps := ["_law_found", "_law_due"]) (ow := []) (k := 0 + 0) (mb := mNo) F hx ⟨rfl, rfl, rfl, nd, rfl, by decide, by decide⟩ rfl (by decide) (fun _ _ _ _ _ _ us hl => match us, hl with | [_, _], _ => rfl) fun A outer s H E C hr hT hE hk => ?_
    exact sSs_never
  | succ n F__law_alike =>
    refine FunC.fnS (N := ["_law_found", "_law_due", "_law_k"]) (ps := ["_law_found", "_law_due"]) (ow := []) (k := n + 1 + 0) (mb := b__law_alike (r__law_alike n)) F hx ⟨rfl, rfl, rfl, nd, rfl, by decide, by decide⟩ rfl (by decide) (fun _ _ _ _ _ _ us hl => match us, hl with | [_, _], _ => rfl) fun A outer s H E C hr hT hE hk => ?_
    subst hT hE
    have hcm : (fnX P w K mg base ["_law_found", "_law_due", "_law_k"] "_law_alike" (defScope (top 21)) f cdv A outer s H E).calm = true := rfl
    exact sSs_cons (sS_if (sT_tru (sE_isi2 rfl Bl.isinstance (NameOk.dv ⟨rfl, (by first | exact Or.inl rfl | exact Or.inr (Or.inl rfl) | exact Or.inr (Or.inr rfl)), rfl, rfl⟩) (fun _ _ => rfl) rfl Bl.tuple boot_tuple (by decide) rfl rfl Bl.list boot_list (by decide) rfl) (fun _ => rfl)) (sSs_cons (sS_if (PW.pt (sW_or (sT_not (sT_tru (sE_isi2 rfl Bl.isinstance (NameOk.dv ⟨rfl, (by first | exact Or.inl rfl | exact Or.inr (Or.inl rfl) | exact Or.inr (Or.inr rfl)), rfl, rfl⟩) (fun _ _ => rfl) rfl Bl.tuple boot_tuple (by decide) rfl rfl Bl.list boot_list (by decide) rfl) (fun _ => rfl))) (sW_one (sT_cmp (od_ne (Room.u hr)) (sE_frz (sE_isi rfl Bl.isinstance (NameOk.dv ⟨rfl, (by first | exact Or.inl rfl | exact Or.inr (Or.inl rfl) | exact Or.inr (Or.inr rfl)), rfl, rfl⟩) (fun _ _ => rfl) rfl Bl.list boot_list (by decide) rfl)) (sE_frz (sE_isi rfl Bl.isinstance (NameOk.dv ⟨rfl, (by first | exact Or.inl rfl | exact Or.inr (Or.inl rfl) | exact Or.inr (Or.inr rfl)), rfl, rfl⟩) (fun _ _ => rfl) rfl Bl.list boot_list (by decide) rfl)) rfl)))) (sSs_one (sS_ret (sE_dt sD_bool))) (sSs_nil))
        (sSs_cons (sS_if (sT_cmp (od_ne (Room.u hr)) (sE_frz (NameOk.len ⟨rfl, (by first | exact Or.inl rfl | exact Or.inr (Or.inl rfl) | exact Or.inr (Or.inr rfl)), rfl, rfl⟩ rfl Bl.len)) (sE_frz (NameOk.len ⟨rfl, (by first | exact Or.inl rfl | exact Or.inr (Or.inl rfl) | exact Or.inr (Or.inr rfl)), rfl, rfl⟩ rfl Bl.len)) rfl) (sSs_one (sS_ret (sE_dt sD_bool))) (sSs_nil))
        (sSs_one (sS_ret (sE_cmp (od_eq (Room.u hr)) (sE_frz (sE_lc (own := [("_law_k", 2)]) hcm nd (sI_range1 rfl Bl.range (sE_frz (NameOk.len ⟨rfl, (by first | exact Or.inl rfl | exact Or.inr (Or.inl rfl) | exact Or.inr (Or.inr rfl)), rfl, rfl⟩ rfl Bl.len)) (fun _ _ => rfl)) (blkOk_by rfl) ⟨fun _ _ _ _ _ _ => sG_name ⟨nd, rfl, (by first | exact Or.inl rfl | exact Or.inr rfl), (by first | exact Or.inr rfl | exact Or.inl rfl), hk 2 rfl⟩ (by decide), fun _ _ _ _ _ _ => sTs_one (sT_not (sT_tru (sE_call (F__law_alike.mono (by omega)) hr rfl takesB (by simp [agNd, posOf]) rfl (sAg_d (sE_frz (sE_ix (NameOk.dv ⟨rfl, (by first | exact Or.inl rfl | exact Or.inr (Or.inl rfl) | exact Or.inr (Or.inr rfl)), rfl, rfl⟩) (NameOk.dv ⟨rfl, (by first | exact Or.inl rfl | exact Or.inr (Or.inl rfl) | exact Or.inr (Or.inr rfl)), rfl, rfl⟩) (fun _ _ => rfl))) (sAg_d (sE_frz (sE_ix (NameOk.dv ⟨rfl, (by first | exact Or.inl rfl | exact Or.inr (Or.inl rfl) | exact Or.inr (Or.inr rfl)), rfl, rfl⟩) (NameOk.dv ⟨rfl, (by first | exact Or.inl rfl | exact Or.inr (Or.inl rfl) | exact Or.inr (Or.inr rfl)), rfl, rfl⟩) (fun _ _ => rfl))) (sAg_nil) (fun _ _ => rfl)) (fun _ _ => rfl)) (fun _ _ => rfl) rfl rfl) (fun _ => rfl))), fun _ _ _ _ _ _ => NameOk.dv ⟨rfl, (by first | exact Or.inl rfl | exact Or.inr (Or.inl rfl) | exact Or.inr (Or.inr rfl)), rfl, rfl⟩⟩ (gok_n) (by intro i hi; exact hk i (by revert i; decide)) (fun _ => rfl))) (sE_frz (sE_lst (sA_nil))) rfl))))) (sSs_nil))
        (sSs_cons (sS_if (PW.pt (sW_or (sT_cmp od_is (NameOk.dv ⟨rfl, (by first | exact Or.inl rfl | exact Or.inr (Or.inl rfl) | exact Or.inr (Or.inr rfl)), rfl, rfl⟩) (sD_none) rfl) (sW_one (sT_tru (sE_isi rfl Bl.isinstance (NameOk.dv ⟨rfl, (by first | exact Or.inl rfl | exact Or.inr (Or.inl rfl) | exact Or.inr (Or.inr rfl)), rfl, rfl⟩) (fun _ _ => rfl) rfl Bl.str boot_str (by decide) rfl) (fun _ => rfl))))) (sSs_one (sS_ret (sE_and (sE_cmp (od_eq (Room.u hr)) (NameOk.dv ⟨rfl, (by first | exact Or.inl rfl | exact Or.inr (Or.inl rfl) | exact Or.inr (Or.inr rfl)), rfl, rfl⟩) (NameOk.dv ⟨rfl, (by first | exact Or.inl rfl | exact Or.inr (Or.inl rfl) | exact Or.inr (Or.inr rfl)), rfl, rfl⟩) rfl) (sE_one (sE_cmp (od_eq (Room.u hr)) (sE_frz (sE_isi rfl Bl.isinstance (NameOk.dv ⟨rfl, (by first | exact Or.inl rfl | exact Or.inr (Or.inl rfl) | exact Or.inr (Or.inr rfl)), rfl, rfl⟩) (fun _ _ => rfl) rfl Bl.str boot_str (by decide) rfl)) (sE_frz (sE_isi rfl Bl.isinstance (NameOk.dv ⟨rfl, (by first | exact Or.inl rfl | exact Or.inr (Or.inl rfl) | exact Or.inr (Or.inr rfl)), rfl, rfl⟩) (fun _ _ => rfl) rfl Bl.str boot_str (by decide) rfl)) rfl))))) (sSs_nil))
        (sSs_one (sS_ret (sE_and (sE_isi rfl Bl.isinstance (NameOk.dv ⟨rfl, (by first | exact Or.inl rfl | exact Or.inr (Or.inl rfl) | exact Or.inr (Or.inr rfl)), rfl, rfl⟩) (fun _ _ => rfl) rfl Bl.int boot_int (by decide) rfl) (sE_and (sE_cmp (od_eq (Room.u hr)) (sE_frz (sE_isi rfl Bl.isinstance (NameOk.dv ⟨rfl, (by first | exact Or.inl rfl | exact Or.inr (Or.inl rfl) | exact Or.inr (Or.inr rfl)), rfl, rfl⟩) (fun _ _ => rfl) rfl Bl.bool boot_bool (by decide) rfl)) (sE_frz (sE_isi rfl Bl.isinstance (NameOk.dv ⟨rfl, (by first | exact Or.inl rfl | exact Or.inr (Or.inl rfl) | exact Or.inr (Or.inr rfl)), rfl, rfl⟩) (fun _ _ => rfl) rfl Bl.bool boot_bool (by decide) rfl)) rfl) (sE_one (sE_cmp (od_eq (Room.u hr)) (NameOk.dv ⟨rfl, (by first | exact Or.inl rfl | exact Or.inr (Or.inl rfl) | exact Or.inr (Or.inr rfl)), rfl, rfl⟩) (NameOk.dv ⟨rfl, (by first | exact Or.inl rfl | exact Or.inr (Or.inl rfl) | exact Or.inr (Or.inr rfl)), rfl, rfl⟩) rfl)))))))
theorem d__law_alike {P : Program} {w : World} {K : PySem.W.Frag} {mg : Str → Option Value} {base : Heap} {T : List Addr} {ex : Str → Option Addr}  {f : Addr} {fd : FuncData} {cdv : Value} (Bl : Blt mg) 
    (F : FunC K "_law_alike" "_law_alike" (defArgs (top 21)) (defBody (top 21)) (defScope (top 21)) f fd cdv) (hx : mg "_law_alike" = some (.ref f)) : FnS P w K mg base T ex 9 "_law_alike" 2 f__law_alike := e__law_alike Bl  F hx 8

theorem d__law_circle {P : Program} {w : World} {K : PySem.W.Frag} {mg : Str → Option Value} {base : Heap} {T : List Addr} {ex : Str → Option Addr}  {f : Addr} {fd : FuncData} {cdv : Value} (Bl : Blt mg) 
    (F : FunC K "_law_circle" "_law_circle" (defArgs (top 22)) (defBody (top 22)) (defScope (top 22)) f fd cdv) (hx : mg "_law_circle" = some (.ref f)) : FnS P w K mg base T ex 1 "_law_circle" 2 f__law_circle := by
  have nd : (["_law_halls", "_law_steps", "_law_found", "_law_hall", "_law_step"] : List Str).Nodup := by decide
  refine FunC.fnS (N := ["_law_halls", "_law_steps", "_law_found", "_law_hall", "_law_step"]) (ps := ["_law_halls", "_law_steps"]) (ow := []) (k := 0) (mb := b__law_circle) F hx ⟨rfl, rfl, rfl, nd, rfl, by decide, by decide⟩ rfl (by decide) (fun _ _ _ _ _ _ us hl => match us, hl with | [_, _], _ => rfl) fun A outer s H E C hr hT hE hk => ?_
  subst hT hE
  have hcm : (fnX P w K mg base ["_law_halls", "_law_steps", "_law_found", "_law_hall", "_law_step"] "_law_circle" (defScope (top 22)) f cdv A outer s H E).calm = true := rfl
  exact sSs_cons (LocOk.set ⟨nd, rfl, (by first | exact Or.inl rfl | exact Or.inr rfl), (by first | exact Or.inr rfl | exact Or.inl rfl), hk 2 rfl⟩ (sE_dt (sE_frz (sE_lst (sA_nil)))) rfl)
        (sSs_cons (sS_for (vs := [3]) fnX_passes hcm (sI_range1 rfl Bl.range (NameOk.dv ⟨rfl, (by first | exact Or.inl rfl | exact Or.inr (Or.inl rfl) | exact Or.inr (Or.inr rfl)), rfl, rfl⟩) (fun _ _ => rfl)) (sG_name ⟨nd, rfl, (by first | exact Or.inl rfl | exact Or.inr rfl), (by first | exact Or.inr rfl | exact Or.inl rfl), hk 3 rfl⟩ (by decide)) (gok_n) (sSs_one (LocOk.set ⟨nd, rfl, (by first | exact Or.inl rfl | exact Or.inr rfl), (by first | exact Or.inr rfl | exact Or.inl rfl), hk 2 rfl⟩ (sE_dt (sE_frz (sE_bin od_add (NameOk.dv ⟨rfl, (by first | exact Or.inl rfl | exact Or.inr (Or.inl rfl) | exact Or.inr (Or.inr rfl)), rfl, rfl⟩) (sE_frz (sE_lc (own := [("_law_step", 4)]) hcm nd (sI_seq (NameOk.dv ⟨rfl, (by first | exact Or.inl rfl | exact Or.inr (Or.inl rfl) | exact Or.inr (Or.inr rfl)), rfl, rfl⟩)) (blkOk_by rfl) ⟨fun _ _ _ _ _ _ => sG_name ⟨nd, rfl, (by first | exact Or.inl rfl | exact Or.inr rfl), (by first | exact Or.inr rfl | exact Or.inl rfl), hk 4 rfl⟩ (by decide), fun _ _ _ _ _ _ => sTs_one (sT_cmp (od_ne (Room.u hr)) (sE_frz (sE_bin od_mod (NameOk.dv ⟨rfl, (by first | exact Or.inl rfl | exact Or.inr (Or.inl rfl) | exact Or.inr (Or.inr rfl)), rfl, rfl⟩) (NameOk.dv ⟨rfl, (by first | exact Or.inl rfl | exact Or.inr (Or.inl rfl) | exact Or.inr (Or.inr rfl)), rfl, rfl⟩))) (sD_int) rfl), fun _ _ _ _ _ _ => sE_frz (sE_tup (sA_cons (NameOk.dv ⟨rfl, (by first | exact Or.inl rfl | exact Or.inr (Or.inl rfl) | exact Or.inr (Or.inr rfl)), rfl, rfl⟩) (sA_cons (sE_frz (sE_bin od_mod (sE_frz (sE_bin od_add (NameOk.dv ⟨rfl, (by first | exact Or.inl rfl | exact Or.inr (Or.inl rfl) | exact Or.inr (Or.inr rfl)), rfl, rfl⟩) (NameOk.dv ⟨rfl, (by first | exact Or.inl rfl | exact Or.inr (Or.inl rfl) | exact Or.inr (Or.inr rfl)), rfl, rfl⟩))) (NameOk.dv ⟨rfl, (by first | exact Or.inl rfl | exact Or.inr (Or.inl rfl) | exact Or.inr (Or.inr rfl)), rfl, rfl⟩))) (sA_nil) (fun _ _ => rfl)) (fun _ _ => rfl)))⟩ (gok_n) (by intro i hi; exact hk i (by revert i; decide)) (fun _ => rfl)))))) rfl)) (fun _ => rfl))
        (sSs_one (sS_ret (sE_tup (sA_cons (NameOk.dv ⟨rfl, (by first | exact Or.inl rfl | exact Or.inr (Or.inl rfl) | exact Or.inr (Or.inr rfl)), rfl, rfl⟩) (sA_cons (sE_frz (sE_callTy cr_tuple rfl Bl.tuple boot_tuple (sE_sset hcm (Room.u hr) rfl Bl.sorted rfl Bl.set (NameOk.dv ⟨rfl, (by first | exact Or.inl rfl | exact Or.inr (Or.inl rfl) | exact Or.inr (Or.inr rfl)), rfl, rfl⟩) (fun _ _ => rfl)) (fun _ _ => rfl) (by decide) rfl)) (sA_nil) (fun _ _ => rfl)) (fun _ _ => rfl))))))

theorem d__law_known {P : Program} {w : World} {K : PySem.W.Frag} {mg : Str → Option Value} {base : Heap} {T : List Addr} {ex : Str → Option Addr}  {f : Addr} {fd : FuncData} {cdv : Value} (Bl : Blt mg) (F__law_circle : FnS P w K mg base T ex 1 "_law_circle" 2 f__law_circle)
    (F : FunC K "_law_known" "_law_known" (defArgs (top 23)) (defBody (top 23)) (defScope (top 23)) f fd cdv) (hx : mg "_law_known" = some (.ref f)) : FnS P w K mg base T ex 2 "_law_known" 1 f__law_known := by
  have nd : (["_law_most", "_law_rows", "_law_prism", "_law_house_here"] : List Str).Nodup := by decide
  refine FunC.fnS (N := ["_law_most", "_law_rows", "_law_prism", "_law_house_here"]) (ps := ["_law_most"]) (ow := []) (k := 1) (mb := b__law_known) F hx ⟨rfl, rfl, rfl, nd, rfl, by decide, by decide⟩ rfl (by decide) (fun _ _ _ _ _ _ us hl => match us, hl with | [_], _ => rfl) fun A outer s H E C hr hT hE hk => ?_
  subst hT hE
  have hcm : (fnX P w K mg base ["_law_most", "_law_rows", "_law_prism", "_law_house_here"] "_law_known" (defScope (top 23)) f cdv A outer s H E).calm = true := rfl
  exact sSs_cons (LocOk.set ⟨nd, rfl, (by first | exact Or.inl rfl | exact Or.inr rfl), (by first | exact Or.inr rfl | exact Or.inl rfl), hk 1 rfl⟩ (sE_dt (sE_frz (sE_lst (sA_cons (sE_frz (sE_tup (sA_cons (sD_int) (sA_cons (sE_frz (sE_tup (sA_nil))) (sA_nil) (fun _ _ => rfl)) (fun _ _ => rfl)))) (sA_cons (sE_frz (sE_call (F__law_circle.mono (by decide)) hr rfl fnX_takes (by simp [agNd, posOf]) rfl (sAg_d (sD_int) (sAg_d (sE_frz (sE_lst (sA_cons (sD_int) (sA_nil) (fun _ _ => rfl)))) (sAg_nil) (fun _ _ => rfl)) (fun _ _ => rfl)) (fun _ _ => rfl) rfl rfl)) (sA_cons (sE_frz (sE_call (F__law_circle.mono (by decide)) hr rfl fnX_takes (by simp [agNd, posOf]) rfl (sAg_d (sD_int) (sAg_d (sE_frz (sE_lst (sA_cons (sD_int) (sA_nil) (fun _ _ => rfl)))) (sAg_nil) (fun _ _ => rfl)) (fun _ _ => rfl)) (fun _ _ => rfl) rfl rfl)) (sA_cons (sE_frz (sE_call (F__law_circle.mono (by decide)) hr rfl fnX_takes (by simp [agNd, posOf]) rfl (sAg_d (sD_int) (sAg_d (sE_frz (sE_lst (sA_cons (sD_int) (sA_cons (sD_int) (sA_nil) (fun _ _ => rfl)) (fun _ _ => rfl)))) (sAg_nil) (fun _ _ => rfl)) (fun _ _ => rfl)) (fun _ _ => rfl) rfl rfl)) (sA_cons (sE_frz (sE_call (F__law_circle.mono (by decide)) hr rfl fnX_takes (by simp [agNd, posOf]) rfl (sAg_d (sD_int) (sAg_d (sE_frz (sE_lst (sA_cons (sD_int) (sA_nil) (fun _ _ => rfl)))) (sAg_nil) (fun _ _ => rfl)) (fun _ _ => rfl)) (fun _ _ => rfl) rfl rfl)) (sA_nil) (fun _ _ => rfl)) (fun _ _ => rfl)) (fun _ _ => rfl)) (fun _ _ => rfl)) (fun _ _ => rfl))))) rfl)
        (sSs_cons (LocOk.set ⟨nd, rfl, (by first | exact Or.inl rfl | exact Or.inr rfl), (by first | exact Or.inr rfl | exact Or.inl rfl), hk 1 rfl⟩ (sE_dt (sE_frz (sE_bin od_add (NameOk.dv ⟨rfl, (by first | exact Or.inl rfl | exact Or.inr (Or.inl rfl) | exact Or.inr (Or.inr rfl)), rfl, rfl⟩) (sE_frz (sE_lst (sA_cons (sE_frz (sE_call (F__law_circle.mono (by decide)) hr rfl fnX_takes (by simp [agNd, posOf]) rfl (sAg_d (sD_int) (sAg_d (sE_frz (sE_lst (sA_cons (sD_int) (sA_cons (sD_int) (sA_nil) (fun _ _ => rfl)) (fun _ _ => rfl)))) (sAg_nil) (fun _ _ => rfl)) (fun _ _ => rfl)) (fun _ _ => rfl) rfl rfl)) (sA_cons (sE_frz (sE_call (F__law_circle.mono (by decide)) hr rfl fnX_takes (by simp [agNd, posOf]) rfl (sAg_d (sD_int) (sAg_d (sE_frz (sE_lst (sA_cons (sD_int) (sA_cons (sD_int) (sA_cons (sD_int) (sA_nil) (fun _ _ => rfl)) (fun _ _ => rfl)) (fun _ _ => rfl)))) (sAg_nil) (fun _ _ => rfl)) (fun _ _ => rfl)) (fun _ _ => rfl) rfl rfl)) (sA_cons (sE_frz (sE_call (F__law_circle.mono (by decide)) hr rfl fnX_takes (by simp [agNd, posOf]) rfl (sAg_d (sD_int) (sAg_d (sE_frz (sE_lst (sA_cons (sD_int) (sA_cons (sD_int) (sA_nil) (fun _ _ => rfl)) (fun _ _ => rfl)))) (sAg_nil) (fun _ _ => rfl)) (fun _ _ => rfl)) (fun _ _ => rfl) rfl rfl)) (sA_cons (sE_frz (sE_call (F__law_circle.mono (by decide)) hr rfl fnX_takes (by simp [agNd, posOf]) rfl (sAg_d (sD_int) (sAg_d (sE_frz (sE_lst (sA_cons (sD_int) (sA_cons (sD_int) (sA_nil) (fun _ _ => rfl)) (fun _ _ => rfl)))) (sAg_nil) (fun _ _ => rfl)) (fun _ _ => rfl)) (fun _ _ => rfl) rfl rfl)) (sA_nil) (fun _ _ => rfl)) (fun _ _ => rfl)) (fun _ _ => rfl)) (fun _ _ => rfl))))))) rfl)
        (sSs_cons (LocOk.set ⟨nd, rfl, (by first | exact Or.inl rfl | exact Or.inr rfl), (by first | exact Or.inr rfl | exact Or.inl rfl), hk 1 rfl⟩ (sE_dt (sE_frz (sE_bin od_add (NameOk.dv ⟨rfl, (by first | exact Or.inl rfl | exact Or.inr (Or.inl rfl) | exact Or.inr (Or.inr rfl)), rfl, rfl⟩) (sE_frz (sE_lst (sA_cons (sE_frz (sE_call (F__law_circle.mono (by decide)) hr rfl fnX_takes (by simp [agNd, posOf]) rfl (sAg_d (sD_int) (sAg_d (sE_frz (sE_lst (sA_cons (sD_int) (sA_cons (sD_int) (sA_nil) (fun _ _ => rfl)) (fun _ _ => rfl)))) (sAg_nil) (fun _ _ => rfl)) (fun _ _ => rfl)) (fun _ _ => rfl) rfl rfl)) (sA_cons (sE_frz (sE_call (F__law_circle.mono (by decide)) hr rfl fnX_takes (by simp [agNd, posOf]) rfl (sAg_d (sD_int) (sAg_d (sE_frz (sE_lst (sA_cons (sD_int) (sA_nil) (fun _ _ => rfl)))) (sAg_nil) (fun _ _ => rfl)) (fun _ _ => rfl)) (fun _ _ => rfl) rfl rfl)) (sA_cons (sE_frz (sE_call (F__law_circle.mono (by decide)) hr rfl fnX_takes (by simp [agNd, posOf]) rfl (sAg_d (sD_int) (sAg_d (sE_frz (sE_lst (sA_cons (sD_int) (sA_cons (sD_int) (sA_nil) (fun _ _ => rfl)) (fun _ _ => rfl)))) (sAg_nil) (fun _ _ => rfl)) (fun _ _ => rfl)) (fun _ _ => rfl) rfl rfl)) (sA_cons (sE_frz (sE_call (F__law_circle.mono (by decide)) hr rfl fnX_takes (by simp [agNd, posOf]) rfl (sAg_d (sD_int) (sAg_d (sE_frz (sE_lst (sA_cons (sD_int) (sA_cons (sD_int) (sA_cons (sD_int) (sA_nil) (fun _ _ => rfl)) (fun _ _ => rfl)) (fun _ _ => rfl)))) (sAg_nil) (fun _ _ => rfl)) (fun _ _ => rfl)) (fun _ _ => rfl) rfl rfl)) (sA_nil) (fun _ _ => rfl)) (fun _ _ => rfl)) (fun _ _ => rfl)) (fun _ _ => rfl))))))) rfl)
        (sSs_cons (LocOk.set ⟨nd, rfl, (by first | exact Or.inl rfl | exact Or.inr rfl), (by first | exact Or.inr rfl | exact Or.inl rfl), hk 1 rfl⟩ (sE_dt (sE_frz (sE_bin od_add (NameOk.dv ⟨rfl, (by first | exact Or.inl rfl | exact Or.inr (Or.inl rfl) | exact Or.inr (Or.inr rfl)), rfl, rfl⟩) (sE_frz (sE_lst (sA_cons (sE_frz (sE_tup (sA_cons (sD_int) (sA_cons (sE_frz (sE_tup (sA_cons (sE_frz (sE_tup (sA_cons (sD_int) (sA_cons (sD_int) (sA_nil) (fun _ _ => rfl)) (fun _ _ => rfl)))) (sA_cons (sE_frz (sE_tup (sA_cons (sD_int) (sA_cons (sD_int) (sA_nil) (fun _ _ => rfl)) (fun _ _ => rfl)))) (sA_cons (sE_frz (sE_tup (sA_cons (sD_int) (sA_cons (sD_int) (sA_nil) (fun _ _ => rfl)) (fun _ _ => rfl)))) (sA_cons (sE_frz (sE_tup (sA_cons (sD_int) (sA_cons (sD_int) (sA_nil) (fun _ _ => rfl)) (fun _ _ => rfl)))) (sA_nil) (fun _ _ => rfl)) (fun _ _ => rfl)) (fun _ _ => rfl)) (fun _ _ => rfl)))) (sA_nil) (fun _ _ => rfl)) (fun _ _ => rfl)))) (sA_cons (sE_frz (sE_tup (sA_cons (sD_int) (sA_cons (sE_frz (sE_tup (sA_cons (sE_frz (sE_tup (sA_cons (sD_int) (sA_cons (sD_int) (sA_nil) (fun _ _ => rfl)) (fun _ _ => rfl)))) (sA_cons (sE_frz (sE_tup (sA_cons (sD_int) (sA_cons (sD_int) (sA_nil) (fun _ _ => rfl)) (fun _ _ => rfl)))) (sA_cons (sE_frz (sE_tup (sA_cons (sD_int) (sA_cons (sD_int) (sA_nil) (fun _ _ => rfl)) (fun _ _ => rfl)))) (sA_cons (sE_frz (sE_tup (sA_cons (sD_int) (sA_cons (sD_int) (sA_nil) (fun _ _ => rfl)) (fun _ _ => rfl)))) (sA_cons (sE_frz (sE_tup (sA_cons (sD_int) (sA_cons (sD_int) (sA_nil) (fun _ _ => rfl)) (fun _ _ => rfl)))) (sA_nil) (fun _ _ => rfl)) (fun _ _ => rfl)) (fun _ _ => rfl)) (fun _ _ => rfl)) (fun _ _ => rfl)))) (sA_nil) (fun _ _ => rfl)) (fun _ _ => rfl)))) (sA_nil) (fun _ _ => rfl)) (fun _ _ => rfl))))))) rfl)
        (sSs_cons (LocOk.set ⟨nd, rfl, (by first | exact Or.inl rfl | exact Or.inr rfl), (by first | exact Or.inr rfl | exact Or.inl rfl), hk 2 rfl⟩ (sE_dt (sE_frz (sE_lst (sA_cons (sE_frz (sE_tup (sA_cons (sD_int) (sA_cons (sD_int) (sA_nil) (fun _ _ => rfl)) (fun _ _ => rfl)))) (sA_cons (sE_frz (sE_tup (sA_cons (sD_int) (sA_cons (sD_int) (sA_nil) (fun _ _ => rfl)) (fun _ _ => rfl)))) (sA_cons (sE_frz (sE_tup (sA_cons (sD_int) (sA_cons (sD_int) (sA_nil) (fun _ _ => rfl)) (fun _ _ => rfl)))) (sA_cons (sE_frz (sE_tup (sA_cons (sD_int) (sA_cons (sD_int) (sA_nil) (fun _ _ => rfl)) (fun _ _ => rfl)))) (sA_cons (sE_frz (sE_tup (sA_cons (sD_int) (sA_cons (sD_int) (sA_nil) (fun _ _ => rfl)) (fun _ _ => rfl)))) (sA_cons (sE_frz (sE_tup (sA_cons (sD_int) (sA_cons (sD_int) (sA_nil) (fun _ _ => rfl)) (fun _ _ => rfl)))) (sA_cons (sE_frz (sE_tup (sA_cons (sD_int) (sA_cons (sD_int) (sA_nil) (fun _ _ => rfl)) (fun _ _ => rfl)))) (sA_cons (sE_frz (sE_tup (sA_cons (sD_int) (sA_cons (sD_int) (sA_nil) (fun _ _ => rfl)) (fun _ _ => rfl)))) (sA_cons (sE_frz (sE_tup (sA_cons (sD_int) (sA_cons (sD_int) (sA_nil) (fun _ _ => rfl)) (fun _ _ => rfl)))) (sA_cons (sE_frz (sE_tup (sA_cons (sD_int) (sA_cons (sD_int) (sA_nil) (fun _ _ => rfl)) (fun _ _ => rfl)))) (sA_cons (sE_frz (sE_tup (sA_cons (sD_int) (sA_cons (sD_int) (sA_nil) (fun _ _ => rfl)) (fun _ _ => rfl)))) (sA_cons (sE_frz (sE_tup (sA_cons (sD_int) (sA_cons (sD_int) (sA_nil) (fun _ _ => rfl)) (fun _ _ => rfl)))) (sA_nil) (fun _ _ => rfl)) (fun _ _ => rfl)) (fun _ _ => rfl)) (fun _ _ => rfl)) (fun _ _ => rfl)) (fun _ _ => rfl)) (fun _ _ => rfl)) (fun _ _ => rfl)) (fun _ _ => rfl)) (fun _ _ => rfl)) (fun _ _ => rfl)) (fun _ _ => rfl))))) rfl)
        (sSs_cons (LocOk.set ⟨nd, rfl, (by first | exact Or.inl rfl | exact Or.inr rfl), (by first | exact Or.inr rfl | exact Or.inl rfl), hk 1 rfl⟩ (sE_dt (sE_frz (sE_bin od_add (NameOk.dv ⟨rfl, (by first | exact Or.inl rfl | exact Or.inr (Or.inl rfl) | exact Or.inr (Or.inr rfl)), rfl, rfl⟩) (sE_frz (sE_lst (sA_cons (sE_frz (sE_tup (sA_cons (sD_int) (sA_cons (sE_frz (sE_callTy cr_tuple rfl Bl.tuple boot_tuple (sE_callB (cr_sorted (Room.u hr)) rfl Bl.sorted boot_sorted (NameOk.var ⟨rfl, (by first | exact Or.inl rfl | exact Or.inr (Or.inl rfl) | exact Or.inr (Or.inr rfl)), rfl, rfl⟩) (fun _ _ => rfl) (by decide) rfl) (fun _ _ => rfl) (by decide) rfl)) (sA_nil) (fun _ _ => rfl)) (fun _ _ => rfl)))) (sA_cons (sE_frz (sE_tup (sA_cons (sD_int) (sA_cons (sE_frz (sE_tup (sA_cons (sE_frz (sE_tup (sA_cons (sD_int) (sA_cons (sD_int) (sA_nil) (fun _ _ => rfl)) (fun _ _ => rfl)))) (sA_cons (sE_frz (sE_tup (sA_cons (sD_int) (sA_cons (sD_int) (sA_nil) (fun _ _ => rfl)) (fun _ _ => rfl)))) (sA_cons (sE_frz (sE_tup (sA_cons (sD_int) (sA_cons (sD_int) (sA_nil) (fun _ _ => rfl)) (fun _ _ => rfl)))) (sA_cons (sE_frz (sE_tup (sA_cons (sD_int) (sA_cons (sD_int) (sA_nil) (fun _ _ => rfl)) (fun _ _ => rfl)))) (sA_cons (sE_frz (sE_tup (sA_cons (sD_int) (sA_cons (sD_int) (sA_nil) (fun _ _ => rfl)) (fun _ _ => rfl)))) (sA_cons (sE_frz (sE_tup (sA_cons (sD_int) (sA_cons (sD_int) (sA_nil) (fun _ _ => rfl)) (fun _ _ => rfl)))) (sA_nil) (fun _ _ => rfl)) (fun _ _ => rfl)) (fun _ _ => rfl)) (fun _ _ => rfl)) (fun _ _ => rfl)) (fun _ _ => rfl)))) (sA_nil) (fun _ _ => rfl)) (fun _ _ => rfl)))) (sA_nil) (fun _ _ => rfl)) (fun _ _ => rfl))))))) rfl)
        (sSs_one (sS_ret (sE_lc (own := [("_law_house_here", 3)]) hcm nd (sI_seq (NameOk.dv ⟨rfl, (by first | exact Or.inl rfl | exact Or.inr (Or.inl rfl) | exact Or.inr (Or.inr rfl)), rfl, rfl⟩)) (blkOk_by rfl) ⟨fun _ _ _ _ _ _ => sG_name ⟨nd, rfl, (by first | exact Or.inl rfl | exact Or.inr rfl), (by first | exact Or.inr rfl | exact Or.inl rfl), hk 3 rfl⟩ (by decide), fun _ _ _ _ _ _ => sTs_one (sT_cmp (od_le (Room.u hr)) (sE_frz (sE_ix (NameOk.dv ⟨rfl, (by first | exact Or.inl rfl | exact Or.inr (Or.inl rfl) | exact Or.inr (Or.inr rfl)), rfl, rfl⟩) (sD_int) (fun _ _ => rfl))) (NameOk.dv ⟨rfl, (by first | exact Or.inl rfl | exact Or.inr (Or.inl rfl) | exact Or.inr (Or.inr rfl)), rfl, rfl⟩) rfl), fun _ _ _ _ _ _ => NameOk.dv ⟨rfl, (by first | exact Or.inl rfl | exact Or.inr (Or.inl rfl) | exact Or.inr (Or.inr rfl)), rfl, rfl⟩⟩ (gok_n) (by intro i hi; exact hk i (by revert i; decide)) (fun _ => rfl)))))))))

theorem d__law_moved {P : Program} {w : World} {K : PySem.W.Frag} {mg : Str → Option Value} {base : Heap} {T : List Addr} {ex : Str → Option Addr}  {f : Addr} {fd : FuncData} {cdv : Value} (Bl : Blt mg) 
    (F : FunC K "_law_moved" "_law_moved" (defArgs (top 24)) (defBody (top 24)) (defScope (top 24)) f fd cdv) (hx : mg "_law_moved" = some (.ref f)) : FnS P w K mg base T ex 1 "_law_moved" 2 f__law_moved := by
  have nd : (["_law_house_here", "_law_turn_here", "_law_one", "_law_other"] : List Str).Nodup := by decide
  refine FunC.fnS (N := ["_law_house_here", "_law_turn_here", "_law_one", "_law_other"]) (ps := ["_law_house_here", "_law_turn_here"]) (ow := []) (k := 0) (mb := b__law_moved) F hx ⟨rfl, rfl, rfl, nd, rfl, by decide, by decide⟩ rfl (by decide) (fun _ _ _ _ _ _ us hl => match us, hl with | [_, _], _ => rfl) fun A outer s H E C hr hT hE hk => ?_
  subst hT hE
  have hcm : (fnX P w K mg base ["_law_house_here", "_law_turn_here", "_law_one", "_law_other"] "_law_moved" (defScope (top 24)) f cdv A outer s H E).calm = true := rfl
  exact sSs_one (sS_ret (sE_tup (sA_cons (sE_frz (sE_ix (NameOk.dv ⟨rfl, (by first | exact Or.inl rfl | exact Or.inr (Or.inl rfl) | exact Or.inr (Or.inr rfl)), rfl, rfl⟩) (sD_int) (fun _ _ => rfl))) (sA_cons (sE_frz (sE_callTy cr_tuple rfl Bl.tuple boot_tuple (sE_callB (cr_sorted (Room.u hr)) rfl Bl.sorted boot_sorted (sE_lc (own := [("_law_one", 2), ("_law_other", 3)]) hcm nd (sI_seq (sE_frz (sE_ix (NameOk.dv ⟨rfl, (by first | exact Or.inl rfl | exact Or.inr (Or.inl rfl) | exact Or.inr (Or.inr rfl)), rfl, rfl⟩) (sD_int) (fun _ _ => rfl)))) (blkOk_by rfl) ⟨fun _ _ _ _ _ _ => sG_tup hcm (sGs_cons (sG_name ⟨nd, rfl, (by first | exact Or.inl rfl | exact Or.inr rfl), (by first | exact Or.inr rfl | exact Or.inl rfl), hk 2 rfl⟩ (by decide)) (sGs_cons (sG_name ⟨nd, rfl, (by first | exact Or.inl rfl | exact Or.inr rfl), (by first | exact Or.inr rfl | exact Or.inl rfl), hk 3 rfl⟩ (by decide)) (sGs_nil) rfl) rfl) rfl rfl, fun _ _ _ _ _ _ => sTs_nil, fun _ _ _ _ _ _ => sE_frz (sE_tup (sA_cons (sE_frz (sE_ix (NameOk.dv ⟨rfl, (by first | exact Or.inl rfl | exact Or.inr (Or.inl rfl) | exact Or.inr (Or.inr rfl)), rfl, rfl⟩) (NameOk.dv ⟨rfl, (by first | exact Or.inl rfl | exact Or.inr (Or.inl rfl) | exact Or.inr (Or.inr rfl)), rfl, rfl⟩) (fun _ _ => rfl))) (sA_cons (sE_frz (sE_ix (NameOk.dv ⟨rfl, (by first | exact Or.inl rfl | exact Or.inr (Or.inl rfl) | exact Or.inr (Or.inr rfl)), rfl, rfl⟩) (NameOk.dv ⟨rfl, (by first | exact Or.inl rfl | exact Or.inr (Or.inl rfl) | exact Or.inr (Or.inr rfl)), rfl, rfl⟩) (fun _ _ => rfl))) (sA_nil) (fun _ _ => rfl)) (fun _ _ => rfl)))⟩ (gok_t (gsok_cons (gok_n) (gsok_cons (gok_n) (gsok_nil)))) (by intro i hi; exact hk i (by revert i; decide)) (fun _ => rfl)) (fun _ _ => rfl) (by decide) rfl) (fun _ _ => rfl) (by decide) rfl)) (sA_nil) (fun _ _ => rfl)) (fun _ _ => rfl))))

theorem d__law_turn {P : Program} {w : World} {K : PySem.W.Frag} {mg : Str → Option Value} {base : Heap} {T : List Addr} {ex : Str → Option Addr}  {f : Addr} {fd : FuncData} {cdv : Value} (Bl : Blt mg) (F__law_taken : FnS P w K mg base T ex 1 "_law_taken" 2 f__law_taken)
    (F : FunC K "_law_turn" "_law_turn" (defArgs (top 25)) (defBody (top 25)) (defScope (top 25)) f fd cdv) (hx : mg "_law_turn" = some (.ref f)) : FnS P w K mg base T ex 2 "_law_turn" 2 f__law_turn := by
  have nd : (["_law_row", "_law_halls", "_law_found", "_law_left"] : List Str).Nodup := by decide
  refine FunC.fnS (N := ["_law_row", "_law_halls", "_law_found", "_law_left"]) (ps := ["_law_row", "_law_halls"]) (ow := [0]) (k := 1) (mb := b__law_turn) F hx ⟨rfl, rfl, rfl, nd, rfl, by decide, by decide⟩ rfl (by decide) (fun _ _ _ _ _ _ us hl => match us, hl with | [_, _], _ => rfl) fun A outer s H E C hr hT hE hk => ?_
  subst hT hE
  have hcm : (fnX P w K mg base ["_law_row", "_law_halls", "_law_found", "_law_left"] "_law_turn" (defScope (top 25)) f cdv A outer s H E).calm = true := rfl
  exact sSs_cons (sS_par hcm ⟨nd, rfl, (by first | exact Or.inl rfl | exact Or.inr rfl), (by first | exact Or.inr rfl | exact Or.inl rfl), hk 2 rfl⟩ ⟨nd, rfl, (by first | exact Or.inl rfl | exact Or.inr rfl), (by first | exact Or.inr rfl | exact Or.inl rfl), hk 3 rfl⟩ (by decide) rfl rfl (sE_dt (sE_frz (sE_tup (sA_nil)))) (fun _ => sE_listR1 hcm rfl Bl.list rfl Bl.range (NameOk.dv ⟨rfl, (by first | exact Or.inl rfl | exact Or.inr (Or.inl rfl) | exact Or.inr (Or.inr rfl)), rfl, rfl⟩) (fun _ _ => rfl)) (fun _ _ => rfl) (fun _ _ => rfl) rfl rfl)
        (sSs_cons (sS_while fnX_passes (sT_neS (Room.u hr) ⟨rfl, (by first | exact Or.inl rfl | exact Or.inr (Or.inl rfl) | exact Or.inr (Or.inr rfl)), rfl, rfl⟩ (sE_frz (sE_lst (sA_nil))) rfl) (sSs_one (LocOk.set ⟨nd, rfl, (by first | exact Or.inl rfl | exact Or.inr rfl), (by first | exact Or.inr rfl | exact Or.inl rfl), hk 2 rfl⟩ (sE_dt (sE_frz (sE_bin od_add (NameOk.dv ⟨rfl, (by first | exact Or.inl rfl | exact Or.inr (Or.inl rfl) | exact Or.inr (Or.inr rfl)), rfl, rfl⟩) (sE_frz (sE_tup (sA_cons (sE_frz (sE_popAt ⟨rfl, (by first | exact Or.inl rfl | exact Or.inr (Or.inl rfl) | exact Or.inr (Or.inr rfl)), rfl, rfl⟩ ⟨rfl, rfl⟩ (fun _ _ => rfl) (sE_frz (sE_call (F__law_taken.mono (by decide)) hr rfl fnX_takes (by simp [agNd, posOf]) rfl (sAg_s ⟨rfl, (by first | exact Or.inl rfl | exact Or.inr (Or.inl rfl) | exact Or.inr (Or.inr rfl)), rfl, rfl⟩ (sAg_d (sE_frz (NameOk.len ⟨rfl, (by first | exact Or.inl rfl | exact Or.inr (Or.inl rfl) | exact Or.inr (Or.inr rfl)), rfl, rfl⟩ rfl Bl.len)) (sAg_nil) (fun _ _ => rfl))) (fun _ _ => rfl) rfl rfl)))) (sA_nil) (fun _ _ => rfl))))))) rfl)))
        (sSs_one (sS_ret (NameOk.var ⟨rfl, (by first | exact Or.inl rfl | exact Or.inr (Or.inl rfl) | exact Or.inr (Or.inr rfl)), rfl, rfl⟩))))

theorem d__law_house {P : Program} {w : World} {K : PySem.W.Frag} {mg : Str → Option Value} {base : Heap} {T : List Addr} {ex : Str → Option Addr}  {f : Addr} {fd : FuncData} {cdv : Value} (Bl : Blt mg) (F__law_taken : FnS P w K mg base T ex 1 "_law_taken" 2 f__law_taken) (F__law_pick : FnS P w K mg base T ex 2 "_law_pick" 2 f__law_pick) (F__law_known : FnS P w K mg base T ex 2 "_law_known" 1 f__law_known) (F__law_moved : FnS P w K mg base T ex 1 "_law_moved" 2 f__law_moved) (F__law_turn : FnS P w K mg base T ex 2 "_law_turn" 2 f__law_turn) (F__law_circle : FnS P w K mg base T ex 1 "_law_circle" 2 f__law_circle)
    (F : FunC K "_law_house" "_law_house" (defArgs (top 26)) (defBody (top 26)) (defScope (top 26)) f fd cdv) (hx : mg "_law_house" = some (.ref f)) : FnS P w K mg base T ex 3 "_law_house" 2 f__law_house := by
  have nd : (["_law_row", "_law_most", "_law_halls", "_law_doors", "_law_turn_here", "_law_house_here", "_law_door"] : List Str).Nodup := by decide
  refine FunC.fnS (N := ["_law_row", "_law_most", "_law_halls", "_law_doors", "_law_turn_here", "_law_house_here", "_law_door"]) (ps := ["_law_row", "_law_most"]) (ow := [0]) (k := 2) (mb := b__law_house) F hx ⟨rfl, rfl, rfl, nd, rfl, by decide, by decide⟩ rfl (by decide) (fun _ _ _ _ _ _ us hl => match us, hl with | [_, _], _ => rfl) fun A outer s H E C hr hT hE hk => ?_
  subst hT hE
  have hcm : (fnX P w K mg base ["_law_row", "_law_most", "_law_halls", "_law_doors", "_law_turn_here", "_law_house_here", "_law_door"] "_law_house" (defScope (top 26)) f cdv A outer s H E).calm = true := rfl
  exact sSs_cons (sS_if (sT_cmp (od_gt (Room.u hr)) (sE_frz (sE_call (F__law_taken.mono (by decide)) hr rfl fnX_takes (by simp [agNd, posOf]) rfl (sAg_s ⟨rfl, (by first | exact Or.inl rfl | exact Or.inr (Or.inl rfl) | exact Or.inr (Or.inr rfl)), rfl, rfl⟩ (sAg_d (sD_int) (sAg_nil) (fun _ _ => rfl))) (fun _ _ => rfl) rfl rfl)) (sD_int) rfl) (sSs_cons (LocOk.set ⟨nd, rfl, (by first | exact Or.inl rfl | exact Or.inr rfl), (by first | exact Or.inr rfl | exact Or.inl rfl), hk 5 rfl⟩ (sE_dt (sE_frz (sE_call (F__law_pick.mono (by decide)) hr rfl fnX_takes (by simp [agNd, posOf]) rfl (sAg_s ⟨rfl, (by first | exact Or.inl rfl | exact Or.inr (Or.inl rfl) | exact Or.inr (Or.inr rfl)), rfl, rfl⟩ (sAg_d (sE_frz (sE_call (F__law_known.mono (by decide)) hr rfl fnX_takes (by simp [agNd, posOf]) rfl (sAg_d (NameOk.dv ⟨rfl, (by first | exact Or.inl rfl | exact Or.inr (Or.inl rfl) | exact Or.inr (Or.inr rfl)), rfl, rfl⟩) (sAg_nil) (fun _ _ => rfl)) (fun _ _ => rfl) rfl rfl)) (sAg_nil) (fun _ _ => rfl))) (fun _ _ => rfl) rfl rfl))) rfl)
        (sSs_one (sS_ret (sE_call (F__law_moved.mono (by decide)) hr rfl fnX_takes (by simp [agNd, posOf]) rfl (sAg_d (NameOk.dv ⟨rfl, (by first | exact Or.inl rfl | exact Or.inr (Or.inl rfl) | exact Or.inr (Or.inr rfl)), rfl, rfl⟩) (sAg_d (sE_frz (sE_call (F__law_turn.mono (by decide)) hr rfl fnX_takes (by simp [agNd, posOf]) rfl (sAg_s ⟨rfl, (by first | exact Or.inl rfl | exact Or.inr (Or.inl rfl) | exact Or.inr (Or.inr rfl)), rfl, rfl⟩ (sAg_d (sE_frz (sE_ix (NameOk.dv ⟨rfl, (by first | exact Or.inl rfl | exact Or.inr (Or.inl rfl) | exact Or.inr (Or.inr rfl)), rfl, rfl⟩) (sD_int) (fun _ _ => rfl))) (sAg_nil) (fun _ _ => rfl))) (fun _ _ => rfl) rfl rfl)) (sAg_nil) (fun _ _ => rfl)) (fun _ _ => rfl)) (fun _ _ => rfl) rfl rfl)))) (sSs_nil))
        (sSs_cons (LocOk.set ⟨nd, rfl, (by first | exact Or.inl rfl | exact Or.inr rfl), (by first | exact Or.inr rfl | exact Or.inl rfl), hk 2 rfl⟩ (sE_dt (sE_frz (sE_bin od_add (sD_int) (sE_frz (sE_call (F__law_taken.mono (by decide)) hr rfl fnX_takes (by simp [agNd, posOf]) rfl (sAg_s ⟨rfl, (by first | exact Or.inl rfl | exact Or.inr (Or.inl rfl) | exact Or.inr (Or.inr rfl)), rfl, rfl⟩ (sAg_d (sE_frz (sE_bin od_sub (NameOk.dv ⟨rfl, (by first | exact Or.inl rfl | exact Or.inr (Or.inl rfl) | exact Or.inr (Or.inr rfl)), rfl, rfl⟩) (sD_int))) (sAg_nil) (fun _ _ => rfl))) (fun _ _ => rfl) rfl rfl))))) rfl)
        (sSs_cons (LocOk.set ⟨nd, rfl, (by first | exact Or.inl rfl | exact Or.inr rfl), (by first | exact Or.inr rfl | exact Or.inl rfl), hk 3 rfl⟩ (sE_dt (sE_frz (sE_callTy cr_list rfl Bl.list boot_list (sE_ix (sE_frz (sE_call (F__law_circle.mono (by decide)) hr rfl fnX_takes (by simp [agNd, posOf]) rfl (sAg_d (NameOk.dv ⟨rfl, (by first | exact Or.inl rfl | exact Or.inr (Or.inl rfl) | exact Or.inr (Or.inr rfl)), rfl, rfl⟩) (sAg_d (sE_frz (sE_lst (sA_cons (sD_int) (sA_nil) (fun _ _ => rfl)))) (sAg_nil) (fun _ _ => rfl)) (fun _ _ => rfl)) (fun _ _ => rfl) rfl rfl)) (sD_int) (fun _ _ => rfl)) (fun _ _ => rfl) (by decide) rfl))) rfl)
        (sSs_cons (sS_for (vs := [4]) fnX_passes hcm (sI_range1 rfl Bl.range (sE_frz (sE_call (F__law_taken.mono (by decide)) hr rfl fnX_takes (by simp [agNd, posOf]) rfl (sAg_s ⟨rfl, (by first | exact Or.inl rfl | exact Or.inr (Or.inl rfl) | exact Or.inr (Or.inr rfl)), rfl, rfl⟩ (sAg_d (sE_frz (sE_bin od_add (NameOk.dv ⟨rfl, (by first | exact Or.inl rfl | exact Or.inr (Or.inl rfl) | exact Or.inr (Or.inr rfl)), rfl, rfl⟩) (sD_int))) (sAg_nil) (fun _ _ => rfl))) (fun _ _ => rfl) rfl rfl)) (fun _ _ => rfl)) (sG_name ⟨nd, rfl, (by first | exact Or.inl rfl | exact Or.inr rfl), (by first | exact Or.inr rfl | exact Or.inl rfl), hk 4 rfl⟩ (by decide)) (gok_n) (sSs_cons (LocOk.set ⟨nd, rfl, (by first | exact Or.inl rfl | exact Or.inr rfl), (by first | exact Or.inr rfl | exact Or.inl rfl), hk 6 rfl⟩ (sE_dt (sE_frz (sE_tup (sA_cons (sE_frz (sE_call (F__law_taken.mono (by decide)) hr rfl fnX_takes (by simp [agNd, posOf]) rfl (sAg_s ⟨rfl, (by first | exact Or.inl rfl | exact Or.inr (Or.inl rfl) | exact Or.inr (Or.inr rfl)), rfl, rfl⟩ (sAg_d (NameOk.dv ⟨rfl, (by first | exact Or.inl rfl | exact Or.inr (Or.inl rfl) | exact Or.inr (Or.inr rfl)), rfl, rfl⟩) (sAg_nil) (fun _ _ => rfl))) (fun _ _ => rfl) rfl rfl)) (sA_cons (sE_frz (sE_call (F__law_taken.mono (by decide)) hr rfl fnX_takes (by simp [agNd, posOf]) rfl (sAg_s ⟨rfl, (by first | exact Or.inl rfl | exact Or.inr (Or.inl rfl) | exact Or.inr (Or.inr rfl)), rfl, rfl⟩ (sAg_d (NameOk.dv ⟨rfl, (by first | exact Or.inl rfl | exact Or.inr (Or.inl rfl) | exact Or.inr (Or.inr rfl)), rfl, rfl⟩) (sAg_nil) (fun _ _ => rfl))) (fun _ _ => rfl) rfl rfl)) (sA_nil) (fun _ _ => rfl)) (fun _ _ => rfl))))) rfl)
        (sSs_one (LocOk.set ⟨nd, rfl, (by first | exact Or.inl rfl | exact Or.inr rfl), (by first | exact Or.inr rfl | exact Or.inl rfl), hk 3 rfl⟩ (sE_dt (sE_frz (sE_bin od_add (NameOk.dv ⟨rfl, (by first | exact Or.inl rfl | exact Or.inr (Or.inl rfl) | exact Or.inr (Or.inr rfl)), rfl, rfl⟩) (sE_frz (sE_bin od_mul (sE_frz (sE_lst (sA_cons (NameOk.dv ⟨rfl, (by first | exact Or.inl rfl | exact Or.inr (Or.inl rfl) | exact Or.inr (Or.inr rfl)), rfl, rfl⟩) (sA_nil) (fun _ _ => rfl)))) (sE_frz (sE_callTy cr_int rfl Bl.int boot_int (sE_cmp (od_ne (Room.u hr)) (sE_frz (sE_ix (NameOk.dv ⟨rfl, (by first | exact Or.inl rfl | exact Or.inr (Or.inl rfl) | exact Or.inr (Or.inr rfl)), rfl, rfl⟩) (sD_int) (fun _ _ => rfl))) (sE_frz (sE_ix (NameOk.dv ⟨rfl, (by first | exact Or.inl rfl | exact Or.inr (Or.inl rfl) | exact Or.inr (Or.inr rfl)), rfl, rfl⟩) (sD_int) (fun _ _ => rfl))) rfl) (fun _ _ => rfl) (by decide) rfl))))))) rfl))) (fun _ => rfl))
        (sSs_one (sS_ret (sE_call (F__law_moved.mono (by decide)) hr rfl fnX_takes (by simp [agNd, posOf]) rfl (sAg_d (sE_frz (sE_tup (sA_cons (NameOk.dv ⟨rfl, (by first | exact Or.inl rfl | exact Or.inr (Or.inl rfl) | exact Or.inr (Or.inr rfl)), rfl, rfl⟩) (sA_cons (sE_frz (sE_callTy cr_tuple rfl Bl.tuple boot_tuple (sE_sset hcm (Room.u hr) rfl Bl.sorted rfl Bl.set (NameOk.dv ⟨rfl, (by first | exact Or.inl rfl | exact Or.inr (Or.inl rfl) | exact Or.inr (Or.inr rfl)), rfl, rfl⟩) (fun _ _ => rfl)) (fun _ _ => rfl) (by decide) rfl)) (sA_nil) (fun _ _ => rfl)) (fun _ _ => rfl)))) (sAg_d (sE_frz (sE_call (F__law_turn.mono (by decide)) hr rfl fnX_takes (by simp [agNd, posOf]) rfl (sAg_s ⟨rfl, (by first | exact Or.inl rfl | exact Or.inr (Or.inl rfl) | exact Or.inr (Or.inr rfl)), rfl, rfl⟩ (sAg_d (NameOk.dv ⟨rfl, (by first | exact Or.inl rfl | exact Or.inr (Or.inl rfl) | exact Or.inr (Or.inr rfl)), rfl, rfl⟩) (sAg_nil) (fun _ _ => rfl))) (fun _ _ => rfl) rfl rfl)) (sAg_nil) (fun _ _ => rfl)) (fun _ _ => rfl)) (fun _ _ => rfl) rfl rfl))))))

theorem d_law {P : Program} {w : World} {K : PySem.W.Frag} {mg : Str → Option Value} {base : Heap} {T : List Addr} {ex : Str → Option Addr}  {f : Addr} {fd : FuncData} {cdv : Value} (Bl : Blt mg) (F__law_house : FnS P w K mg base T ex 3 "_law_house" 2 f__law_house) (F__law_taken : FnS P w K mg base T ex 1 "_law_taken" 2 f__law_taken) (F__law_alike : FnS P w K mg base T ex 9 "_law_alike" 2 f__law_alike) (F_doors_out : FnS P w K mg base T ex 7 "doors_out" 2 f_doors_out) (F_far : FnS P w K mg base T ex 7 "far" 3 f_far) (F_is_two_way : FnS P w K mg base T ex 8 "is_two_way" 1 f_is_two_way) (F_turned : FnS P w K mg base T ex 7 "turned" 1 f_turned) (F_is_house : FnS P w K mg base T ex 6 "is_house" 1 f_is_house)
    (F : FunC K "law" "law" (defArgs (top 27)) (defBody (top 27)) (defScope (top 27)) f fd cdv) (hx : mg "law" = some (.ref f)) : FnOk P w K mg base (L2.CX P w) 10 f fd ["_law_script"] (fnSp 1 T ex f_law) := by
  have nd : (["_law_script", "_law_row", "_law_house_here", "_law_halls", "_law_doors", "_law_one", "_law_other", "_law_here", "_law_many", "_law_back", "_law_some", "_law_fine", "_law_first", "_law_last", "_law_start", "_law_end", "_law_turn_here"] : List Str).Nodup := by decide
  refine FunC.fnOk (N := ["_law_script", "_law_row", "_law_house_here", "_law_halls", "_law_doors", "_law_one", "_law_other", "_law_here", "_law_many", "_law_back", "_law_some", "_law_fine", "_law_first", "_law_last", "_law_start", "_law_end", "_law_turn_here"]) (ps := ["_law_script"]) (k := 9) (mb := b_law) F ⟨rfl, rfl, rfl, nd, rfl, by decide, by decide⟩ rfl (by decide) fun A outer s H E C hr hT hE hk => ?_
  subst hT hE
  have hcm : (fnX P w K mg base ["_law_script", "_law_row", "_law_house_here", "_law_halls", "_law_doors", "_law_one", "_law_other", "_law_here", "_law_many", "_law_back", "_law_some", "_law_fine", "_law_first", "_law_last", "_law_start", "_law_end", "_law_turn_here"] "law" (defScope (top 27)) f cdv A outer s H E).calm = true := rfl
  exact sSs_cons (LocOk.set ⟨nd, rfl, (by first | exact Or.inl rfl | exact Or.inr rfl), (by first | exact Or.inr rfl | exact Or.inl rfl), hk 1 rfl⟩ (sE_lst (sA_cons (NameOk.dv ⟨rfl, (by first | exact Or.inl rfl | exact Or.inr (Or.inl rfl) | exact Or.inr (Or.inr rfl)), rfl, rfl⟩) (sA_cons (sD_int) (sA_cons (sD_int) (sA_cons (sD_int) (sA_nil) (fun _ _ => rfl)) (fun _ _ => rfl)) (fun _ _ => rfl)) (fun _ _ => rfl))) rfl)
        (sSs_cons (LocOk.set ⟨nd, rfl, (by first | exact Or.inl rfl | exact Or.inr rfl), (by first | exact Or.inr rfl | exact Or.inl rfl), hk 2 rfl⟩ (sE_dt (sE_frz (sE_call (F__law_house.mono (by decide)) hr rfl fnX_takes (by simp [agNd, posOf]) rfl (sAg_s ⟨rfl, (by first | exact Or.inl rfl | exact Or.inr (Or.inl rfl) | exact Or.inr (Or.inr rfl)), rfl, rfl⟩ (sAg_d (sD_int) (sAg_nil) (fun _ _ => rfl))) (fun _ _ => rfl) rfl rfl))) rfl)
        (sSs_cons (sS_asg (vs := [3, 4]) (sG_tup hcm (sGs_cons (sG_name ⟨nd, rfl, (by first | exact Or.inl rfl | exact Or.inr rfl), (by first | exact Or.inr rfl | exact Or.inl rfl), hk 3 rfl⟩ (by decide)) (sGs_cons (sG_name ⟨nd, rfl, (by first | exact Or.inl rfl | exact Or.inr rfl), (by first | exact Or.inr rfl | exact Or.inl rfl), hk 4 rfl⟩ (by decide)) (sGs_nil) rfl) rfl) rfl rfl) (NameOk.dv ⟨rfl, (by first | exact Or.inl rfl | exact Or.inr (Or.inl rfl) | exact Or.inr (Or.inr rfl)), rfl, rfl⟩) (gok_t (gsok_cons (gok_n) (gsok_cons (gok_n) (gsok_nil)))) rfl rfl rfl)
        (sSs_cons (sS_asg (vs := [5, 6]) (sG_tup hcm (sGs_cons (sG_name ⟨nd, rfl, (by first | exact Or.inl rfl | exact Or.inr rfl), (by first | exact Or.inr rfl | exact Or.inl rfl), hk 5 rfl⟩ (by decide)) (sGs_cons (sG_name ⟨nd, rfl, (by first | exact Or.inl rfl | exact Or.inr rfl), (by first | exact Or.inr rfl | exact Or.inl rfl), hk 6 rfl⟩ (by decide)) (sGs_nil) rfl) rfl) rfl rfl) (sE_frz (sE_tup (sA_cons (sE_frz (sE_call (F__law_taken.mono (by decide)) hr rfl fnX_takes (by simp [agNd, posOf]) rfl (sAg_s ⟨rfl, (by first | exact Or.inl rfl | exact Or.inr (Or.inl rfl) | exact Or.inr (Or.inr rfl)), rfl, rfl⟩ (sAg_d (NameOk.dv ⟨rfl, (by first | exact Or.inl rfl | exact Or.inr (Or.inl rfl) | exact Or.inr (Or.inr rfl)), rfl, rfl⟩) (sAg_nil) (fun _ _ => rfl))) (fun _ _ => rfl) rfl rfl)) (sA_cons (sE_frz (sE_call (F__law_taken.mono (by decide)) hr rfl fnX_takes (by simp [agNd, posOf]) rfl (sAg_s ⟨rfl, (by first | exact Or.inl rfl | exact Or.inr (Or.inl rfl) | exact Or.inr (Or.inr rfl)), rfl, rfl⟩ (sAg_d (NameOk.dv ⟨rfl, (by first | exact Or.inl rfl | exact Or.inr (Or.inl rfl) | exact Or.inr (Or.inr rfl)), rfl, rfl⟩) (sAg_nil) (fun _ _ => rfl))) (fun _ _ => rfl) rfl rfl)) (sA_nil) (fun _ _ => rfl)) (fun _ _ => rfl)))) (gok_t (gsok_cons (gok_n) (gsok_cons (gok_n) (gsok_nil)))) rfl rfl rfl)
        (sSs_cons (sS_if (sT_not (sT_tru (sE_call (F__law_alike.mono (by decide)) hr rfl fnX_takes (by simp [agNd, posOf]) rfl (sAg_d (sE_frz (sE_call (F_doors_out.mono (by decide)) hr rfl fnX_takes (by simp [agNd, posOf]) rfl (sAg_d (NameOk.dv ⟨rfl, (by first | exact Or.inl rfl | exact Or.inr (Or.inl rfl) | exact Or.inr (Or.inr rfl)), rfl, rfl⟩) (sAg_d (NameOk.dv ⟨rfl, (by first | exact Or.inl rfl | exact Or.inr (Or.inl rfl) | exact Or.inr (Or.inr rfl)), rfl, rfl⟩) (sAg_nil) (fun _ _ => rfl)) (fun _ _ => rfl)) (fun _ _ => rfl) rfl rfl)) (sAg_d (sE_frz (sE_callTy cr_tuple rfl Bl.tuple boot_tuple (sE_lc (own := [("_law_start", 14), ("_law_end", 15)]) hcm nd (sI_seq (NameOk.dv ⟨rfl, (by first | exact Or.inl rfl | exact Or.inr (Or.inl rfl) | exact Or.inr (Or.inr rfl)), rfl, rfl⟩)) (blkOk_by rfl) ⟨fun _ _ _ _ _ _ => sG_tup hcm (sGs_cons (sG_name ⟨nd, rfl, (by first | exact Or.inl rfl | exact Or.inr rfl), (by first | exact Or.inr rfl | exact Or.inl rfl), hk 14 rfl⟩ (by decide)) (sGs_cons (sG_name ⟨nd, rfl, (by first | exact Or.inl rfl | exact Or.inr rfl), (by first | exact Or.inr rfl | exact Or.inl rfl), hk 15 rfl⟩ (by decide)) (sGs_nil) rfl) rfl) rfl rfl, fun _ _ _ _ _ _ => sTs_one (sT_cmp (od_eq (Room.u hr)) (NameOk.dv ⟨rfl, (by first | exact Or.inl rfl | exact Or.inr (Or.inl rfl) | exact Or.inr (Or.inr rfl)), rfl, rfl⟩) (NameOk.dv ⟨rfl, (by first | exact Or.inl rfl | exact Or.inr (Or.inl rfl) | exact Or.inr (Or.inr rfl)), rfl, rfl⟩) rfl), fun _ _ _ _ _ _ => NameOk.dv ⟨rfl, (by first | exact Or.inl rfl | exact Or.inr (Or.inl rfl) | exact Or.inr (Or.inr rfl)), rfl, rfl⟩⟩ (gok_t (gsok_cons (gok_n) (gsok_cons (gok_n) (gsok_nil)))) (by intro i hi; exact hk i (by revert i; decide)) (fun _ => rfl)) (fun _ _ => rfl) (by decide) rfl)) (sAg_nil) (fun _ _ => rfl)) (fun _ _ => rfl)) (fun _ _ => rfl) rfl rfl) (fun _ => rfl))) (sSs_one (sS_ret (sE_dt sD_bool))) (sSs_nil))
        (sSs_cons (sS_asg (vs := [7, 8]) (sG_tup hcm (sGs_cons (sG_name ⟨nd, rfl, (by first | exact Or.inl rfl | exact Or.inr rfl), (by first | exact Or.inr rfl | exact Or.inl rfl), hk 7 rfl⟩ (by decide)) (sGs_cons (sG_name ⟨nd, rfl, (by first | exact Or.inl rfl | exact Or.inr rfl), (by first | exact Or.inr rfl | exact Or.inl rfl), hk 8 rfl⟩ (by decide)) (sGs_nil) rfl) rfl) rfl rfl) (sE_frz (sE_tup (sA_cons (sE_frz (sE_lst (sA_cons (NameOk.dv ⟨rfl, (by first | exact Or.inl rfl | exact Or.inr (Or.inl rfl) | exact Or.inr (Or.inr rfl)), rfl, rfl⟩) (sA_nil) (fun _ _ => rfl)))) (sA_cons (sD_int) (sA_nil) (fun _ _ => rfl)) (fun _ _ => rfl)))) (gok_t (gsok_cons (gok_n) (gsok_cons (gok_n) (gsok_nil)))) rfl rfl rfl)
        (sSs_cons (sS_while fnX_passes (sT_cmp (od_notIn (Room.u hr)) (NameOk.dv ⟨rfl, (by first | exact Or.inl rfl | exact Or.inr (Or.inl rfl) | exact Or.inr (Or.inr rfl)), rfl, rfl⟩) (NameOk.dv ⟨rfl, (by first | exact Or.inl rfl | exact Or.inr (Or.inl rfl) | exact Or.inr (Or.inr rfl)), rfl, rfl⟩) rfl) (sSs_one (sS_asg (vs := [7, 8]) (sG_tup hcm (sGs_cons (sG_name ⟨nd, rfl, (by first | exact Or.inl rfl | exact Or.inr rfl), (by first | exact Or.inr rfl | exact Or.inl rfl), hk 7 rfl⟩ (by decide)) (sGs_cons (sG_name ⟨nd, rfl, (by first | exact Or.inl rfl | exact Or.inr rfl), (by first | exact Or.inr rfl | exact Or.inl rfl), hk 8 rfl⟩ (by decide)) (sGs_nil) rfl) rfl) rfl rfl) (sE_frz (sE_tup (sA_cons (sE_frz (sE_sset hcm (Room.u hr) rfl Bl.sorted rfl Bl.set (sE_frz (sE_bin od_add (NameOk.dv ⟨rfl, (by first | exact Or.inl rfl | exact Or.inr (Or.inl rfl) | exact Or.inr (Or.inr rfl)), rfl, rfl⟩) (sE_frz (sE_lc (own := [("_law_start", 14), ("_law_end", 15)]) hcm nd (sI_seq (NameOk.dv ⟨rfl, (by first | exact Or.inl rfl | exact Or.inr (Or.inl rfl) | exact Or.inr (Or.inr rfl)), rfl, rfl⟩)) (blkOk_by rfl) ⟨fun _ _ _ _ _ _ => sG_tup hcm (sGs_cons (sG_name ⟨nd, rfl, (by first | exact Or.inl rfl | exact Or.inr rfl), (by first | exact Or.inr rfl | exact Or.inl rfl), hk 14 rfl⟩ (by decide)) (sGs_cons (sG_name ⟨nd, rfl, (by first | exact Or.inl rfl | exact Or.inr rfl), (by first | exact Or.inr rfl | exact Or.inl rfl), hk 15 rfl⟩ (by decide)) (sGs_nil) rfl) rfl) rfl rfl, fun _ _ _ _ _ _ => sTs_one (sT_cmp (od_in (Room.u hr)) (NameOk.dv ⟨rfl, (by first | exact Or.inl rfl | exact Or.inr (Or.inl rfl) | exact Or.inr (Or.inr rfl)), rfl, rfl⟩) (NameOk.dv ⟨rfl, (by first | exact Or.inl rfl | exact Or.inr (Or.inl rfl) | exact Or.inr (Or.inr rfl)), rfl, rfl⟩) rfl), fun _ _ _ _ _ _ => NameOk.dv ⟨rfl, (by first | exact Or.inl rfl | exact Or.inr (Or.inl rfl) | exact Or.inr (Or.inr rfl)), rfl, rfl⟩⟩ (gok_t (gsok_cons (gok_n) (gsok_cons (gok_n) (gsok_nil)))) (by intro i hi; exact hk i (by revert i; decide)) (fun _ => rfl))))) (fun _ _ => rfl))) (sA_cons (sE_frz (sE_bin od_add (NameOk.dv ⟨rfl, (by first | exact Or.inl rfl | exact Or.inr (Or.inl rfl) | exact Or.inr (Or.inr rfl)), rfl, rfl⟩) (sD_int))) (sA_nil) (fun _ _ => rfl)) (fun _ _ => rfl)))) (gok_t (gsok_cons (gok_n) (gsok_cons (gok_n) (gsok_nil)))) rfl rfl rfl)))
        (sSs_cons (sS_if (sT_not (sT_tru (sE_call (F__law_alike.mono (by decide)) hr rfl fnX_takes (by simp [agNd, posOf]) rfl (sAg_d (sE_frz (sE_call (F_far.mono (by decide)) hr rfl fnX_takes (by simp [agNd, posOf]) rfl (sAg_d (NameOk.dv ⟨rfl, (by first | exact Or.inl rfl | exact Or.inr (Or.inl rfl) | exact Or.inr (Or.inr rfl)), rfl, rfl⟩) (sAg_d (NameOk.dv ⟨rfl, (by first | exact Or.inl rfl | exact Or.inr (Or.inl rfl) | exact Or.inr (Or.inr rfl)), rfl, rfl⟩) (sAg_d (NameOk.dv ⟨rfl, (by first | exact Or.inl rfl | exact Or.inr (Or.inl rfl) | exact Or.inr (Or.inr rfl)), rfl, rfl⟩) (sAg_nil) (fun _ _ => rfl)) (fun _ _ => rfl)) (fun _ _ => rfl)) (fun _ _ => rfl) rfl rfl)) (sAg_d (NameOk.dv ⟨rfl, (by first | exact Or.inl rfl | exact Or.inr (Or.inl rfl) | exact Or.inr (Or.inr rfl)), rfl, rfl⟩) (sAg_nil) (fun _ _ => rfl)) (fun _ _ => rfl)) (fun _ _ => rfl) rfl rfl) (fun _ => rfl))) (sSs_one (sS_ret (sE_dt sD_bool))) (sSs_nil))
        (sSs_cons (LocOk.set ⟨nd, rfl, (by first | exact Or.inl rfl | exact Or.inr rfl), (by first | exact Or.inr rfl | exact Or.inl rfl), hk 9 rfl⟩ (sE_dt (sE_frz (sE_tup (sA_cons (NameOk.dv ⟨rfl, (by first | exact Or.inl rfl | exact Or.inr (Or.inl rfl) | exact Or.inr (Or.inr rfl)), rfl, rfl⟩) (sA_cons (sE_frz (sE_callTy cr_tuple rfl Bl.tuple boot_tuple (sE_callB (cr_sorted (Room.u hr)) rfl Bl.sorted boot_sorted (sE_lc (own := [("_law_start", 14), ("_law_end", 15)]) hcm nd (sI_seq (NameOk.dv ⟨rfl, (by first | exact Or.inl rfl | exact Or.inr (Or.inl rfl) | exact Or.inr (Or.inr rfl)), rfl, rfl⟩)) (blkOk_by rfl) ⟨fun _ _ _ _ _ _ => sG_tup hcm (sGs_cons (sG_name ⟨nd, rfl, (by first | exact Or.inl rfl | exact Or.inr rfl), (by first | exact Or.inr rfl | exact Or.inl rfl), hk 14 rfl⟩ (by decide)) (sGs_cons (sG_name ⟨nd, rfl, (by first | exact Or.inl rfl | exact Or.inr rfl), (by first | exact Or.inr rfl | exact Or.inl rfl), hk 15 rfl⟩ (by decide)) (sGs_nil) rfl) rfl) rfl rfl, fun _ _ _ _ _ _ => sTs_nil, fun _ _ _ _ _ _ => sE_frz (sE_tup (sA_cons (NameOk.dv ⟨rfl, (by first | exact Or.inl rfl | exact Or.inr (Or.inl rfl) | exact Or.inr (Or.inr rfl)), rfl, rfl⟩) (sA_cons (NameOk.dv ⟨rfl, (by first | exact Or.inl rfl | exact Or.inr (Or.inl rfl) | exact Or.inr (Or.inr rfl)), rfl, rfl⟩) (sA_nil) (fun _ _ => rfl)) (fun _ _ => rfl)))⟩ (gok_t (gsok_cons (gok_n) (gsok_cons (gok_n) (gsok_nil)))) (by intro i hi; exact hk i (by revert i; decide)) (fun _ => rfl)) (fun _ _ => rfl) (by decide) rfl) (fun _ _ => rfl) (by decide) rfl)) (sA_nil) (fun _ _ => rfl)) (fun _ _ => rfl))))) rfl)
        (sSs_cons (sS_if (sT_not (sT_tru (sE_call (F__law_alike.mono (by decide)) hr rfl fnX_takes (by simp [agNd, posOf]) rfl (sAg_d (sE_frz (sE_lst (sA_cons (sE_frz (sE_call (F_turned.mono (by decide)) hr rfl fnX_takes (by simp [agNd, posOf]) rfl (sAg_d (NameOk.dv ⟨rfl, (by first | exact Or.inl rfl | exact Or.inr (Or.inl rfl) | exact Or.inr (Or.inr rfl)), rfl, rfl⟩) (sAg_nil) (fun _ _ => rfl)) (fun _ _ => rfl) rfl rfl)) (sA_cons (sE_frz (sE_call (F_is_two_way.mono (by decide)) hr rfl fnX_takes (by simp [agNd, posOf]) rfl (sAg_d (NameOk.dv ⟨rfl, (by first | exact Or.inl rfl | exact Or.inr (Or.inl rfl) | exact Or.inr (Or.inr rfl)), rfl, rfl⟩) (sAg_nil) (fun _ _ => rfl)) (fun _ _ => rfl) rfl rfl)) (sA_nil) (fun _ _ => rfl)) (fun _ _ => rfl)))) (sAg_d (sE_frz (sE_lst (sA_cons (NameOk.dv ⟨rfl, (by first | exact Or.inl rfl | exact Or.inr (Or.inl rfl) | exact Or.inr (Or.inr rfl)), rfl, rfl⟩) (sA_cons (sE_frz (sE_cmp (od_eq (Room.u hr)) (NameOk.dv ⟨rfl, (by first | exact Or.inl rfl | exact Or.inr (Or.inl rfl) | exact Or.inr (Or.inr rfl)), rfl, rfl⟩) (NameOk.dv ⟨rfl, (by first | exact Or.inl rfl | exact Or.inr (Or.inl rfl) | exact Or.inr (Or.inr rfl)), rfl, rfl⟩) rfl)) (sA_nil) (fun _ _ => rfl)) (fun _ _ => rfl)))) (sAg_nil) (fun _ _ => rfl)) (fun _ _ => rfl)) (fun _ _ => rfl) rfl rfl) (fun _ => rfl))) (sSs_one (sS_ret (sE_dt sD_bool))) (sSs_nil))
        (sSs_cons (LocOk.set ⟨nd, rfl, (by first | exact Or.inl rfl | exact Or.inr rfl), (by first | exact Or.inr rfl | exact Or.inl rfl), hk 8 rfl⟩ (sE_dt (sE_frz (sE_bin od_add (sD_int) (sE_frz (sE_call (F__law_taken.mono (by decide)) hr rfl fnX_takes (by simp [agNd, posOf]) rfl (sAg_s ⟨rfl, (by first | exact Or.inl rfl | exact Or.inr (Or.inl rfl) | exact Or.inr (Or.inr rfl)), rfl, rfl⟩ (sAg_d (sE_frz (sE_bin od_mul (sD_int) (NameOk.dv ⟨rfl, (by first | exact Or.inl rfl | exact Or.inr (Or.inl rfl) | exact Or.inr (Or.inr rfl)), rfl, rfl⟩))) (sAg_nil) (fun _ _ => rfl))) (fun _ _ => rfl) rfl rfl))))) rfl)
        (sSs_cons (LocOk.set ⟨nd, rfl, (by first | exact Or.inl rfl | exact Or.inr rfl), (by first | exact Or.inr rfl | exact Or.inl rfl), hk 10 rfl⟩ (sE_dt (sE_frz (sE_sset hcm (Room.u hr) rfl Bl.sorted rfl Bl.set (sE_frz (sE_lc (own := [("_law_turn_here", 16)]) hcm nd (sI_range1 rfl Bl.range (NameOk.dv ⟨rfl, (by first | exact Or.inl rfl | exact Or.inr (Or.inl rfl) | exact Or.inr (Or.inr rfl)), rfl, rfl⟩) (fun _ _ => rfl)) (blkOk_by rfl) ⟨fun _ _ _ _ _ _ => sG_name ⟨nd, rfl, (by first | exact Or.inl rfl | exact Or.inr rfl), (by first | exact Or.inr rfl | exact Or.inl rfl), hk 16 rfl⟩ (by decide), fun _ _ _ _ _ _ => sTs_nil, fun _ _ _ _ _ _ => sE_frz (sE_tup (sA_cons (sE_frz (sE_call (F__law_taken.mono (by decide)) hr rfl takesB (by simp [agNd, posOf]) rfl (sAg_s ⟨rfl, (by first | exact Or.inl rfl | exact Or.inr (Or.inl rfl) | exact Or.inr (Or.inr rfl)), rfl, rfl⟩ (sAg_d (NameOk.dv ⟨rfl, (by first | exact Or.inl rfl | exact Or.inr (Or.inl rfl) | exact Or.inr (Or.inr rfl)), rfl, rfl⟩) (sAg_nil) (fun _ _ => rfl))) (fun _ _ => rfl) rfl rfl)) (sA_cons (sE_frz (sE_call (F__law_taken.mono (by decide)) hr rfl takesB (by simp [agNd, posOf]) rfl (sAg_s ⟨rfl, (by first | exact Or.inl rfl | exact Or.inr (Or.inl rfl) | exact Or.inr (Or.inr rfl)), rfl, rfl⟩ (sAg_d (NameOk.dv ⟨rfl, (by first | exact Or.inl rfl | exact Or.inr (Or.inl rfl) | exact Or.inr (Or.inr rfl)), rfl, rfl⟩) (sAg_nil) (fun _ _ => rfl))) (fun _ _ => rfl) rfl rfl)) (sA_nil) (fun _ _ => rfl)) (fun _ _ => rfl)))⟩ (gok_n) (by intro i hi; exact hk i (by revert i; decide)) (fun _ => rfl))) (fun _ _ => rfl)))) rfl)
        (sSs_cons (LocOk.set ⟨nd, rfl, (by first | exact Or.inl rfl | exact Or.inr rfl), (by first | exact Or.inr rfl | exact Or.inl rfl), hk 11 rfl⟩ (sE_dt (sE_frz (sE_cmp (od_eq (Room.u hr)) (sE_frz (sE_lc (own := [("_law_start", 14), ("_law_end", 15)]) hcm nd (sI_seq (NameOk.dv ⟨rfl, (by first | exact Or.inl rfl | exact Or.inr (Or.inl rfl) | exact Or.inr (Or.inr rfl)), rfl, rfl⟩)) (blkOk_by rfl) ⟨fun _ _ _ _ _ _ => sG_tup hcm (sGs_cons (sG_name ⟨nd, rfl, (by first | exact Or.inl rfl | exact Or.inr rfl), (by first | exact Or.inr rfl | exact Or.inl rfl), hk 14 rfl⟩ (by decide)) (sGs_cons (sG_name ⟨nd, rfl, (by first | exact Or.inl rfl | exact Or.inr rfl), (by first | exact Or.inr rfl | exact Or.inl rfl), hk 15 rfl⟩ (by decide)) (sGs_nil) rfl) rfl) rfl rfl, fun _ _ _ _ _ _ => sTs_one (sT_cmp (od_eq (Room.u hr)) (NameOk.dv ⟨rfl, (by first | exact Or.inl rfl | exact Or.inr (Or.inl rfl) | exact Or.inr (Or.inr rfl)), rfl, rfl⟩) (NameOk.dv ⟨rfl, (by first | exact Or.inl rfl | exact Or.inr (Or.inl rfl) | exact Or.inr (Or.inr rfl)), rfl, rfl⟩) rfl), fun _ _ _ _ _ _ => sD_int⟩ (gok_t (gsok_cons (gok_n) (gsok_cons (gok_n) (gsok_nil)))) (by intro i hi; exact hk i (by revert i; decide)) (fun _ => rfl))) (sE_frz (sE_lst (sA_nil))) rfl))) rfl)
        (sSs_cons (sS_for (vs := [12]) fnX_passes hcm (sI_range1 rfl Bl.range (NameOk.dv ⟨rfl, (by first | exact Or.inl rfl | exact Or.inr (Or.inl rfl) | exact Or.inr (Or.inr rfl)), rfl, rfl⟩) (fun _ _ => rfl)) (sG_name ⟨nd, rfl, (by first | exact Or.inl rfl | exact Or.inr rfl), (by first | exact Or.inr rfl | exact Or.inl rfl), hk 12 rfl⟩ (by decide)) (gok_n) (sSs_cons (sS_asg (vs := [7, 13]) (sG_tup hcm (sGs_cons (sG_name ⟨nd, rfl, (by first | exact Or.inl rfl | exact Or.inr rfl), (by first | exact Or.inr rfl | exact Or.inl rfl), hk 7 rfl⟩ (by decide)) (sGs_cons (sG_name ⟨nd, rfl, (by first | exact Or.inl rfl | exact Or.inr rfl), (by first | exact Or.inr rfl | exact Or.inl rfl), hk 13 rfl⟩ (by decide)) (sGs_nil) rfl) rfl) rfl rfl) (sE_frz (sE_tup (sA_cons (sE_frz (sE_lst (sA_nil))) (sA_cons (sE_frz (sE_lst (sA_cons (NameOk.dv ⟨rfl, (by first | exact Or.inl rfl | exact Or.inr (Or.inl rfl) | exact Or.inr (Or.inr rfl)), rfl, rfl⟩) (sA_nil) (fun _ _ => rfl)))) (sA_nil) (fun _ _ => rfl)) (fun _ _ => rfl)))) (gok_t (gsok_cons (gok_n) (gsok_cons (gok_n) (gsok_nil)))) rfl rfl rfl)
        (sSs_cons (sS_while fnX_passes (sT_cmp (od_ne (Room.u hr)) (NameOk.dv ⟨rfl, (by first | exact Or.inl rfl | exact Or.inr (Or.inl rfl) | exact Or.inr (Or.inr rfl)), rfl, rfl⟩) (NameOk.dv ⟨rfl, (by first | exact Or.inl rfl | exact Or.inr (Or.inl rfl) | exact Or.inr (Or.inr rfl)), rfl, rfl⟩) rfl) (sSs_one (sS_asg (vs := [7, 13]) (sG_tup hcm (sGs_cons (sG_name ⟨nd, rfl, (by first | exact Or.inl rfl | exact Or.inr rfl), (by first | exact Or.inr rfl | exact Or.inl rfl), hk 7 rfl⟩ (by decide)) (sGs_cons (sG_name ⟨nd, rfl, (by first | exact Or.inl rfl | exact Or.inr rfl), (by first | exact Or.inr rfl | exact Or.inl rfl), hk 13 rfl⟩ (by decide)) (sGs_nil) rfl) rfl) rfl rfl) (sE_frz (sE_tup (sA_cons (NameOk.dv ⟨rfl, (by first | exact Or.inl rfl | exact Or.inr (Or.inl rfl) | exact Or.inr (Or.inr rfl)), rfl, rfl⟩) (sA_cons (sE_frz (sE_sset hcm (Room.u hr) rfl Bl.sorted rfl Bl.set (sE_frz (sE_bin od_add (NameOk.dv ⟨rfl, (by first | exact Or.inl rfl | exact Or.inr (Or.inl rfl) | exact Or.inr (Or.inr rfl)), rfl, rfl⟩) (sE_frz (sE_lc (own := [("_law_start", 14), ("_law_end", 15)]) hcm nd (sI_seq (NameOk.dv ⟨rfl, (by first | exact Or.inl rfl | exact Or.inr (Or.inl rfl) | exact Or.inr (Or.inr rfl)), rfl, rfl⟩)) (blkOk_by rfl) ⟨fun _ _ _ _ _ _ => sG_tup hcm (sGs_cons (sG_name ⟨nd, rfl, (by first | exact Or.inl rfl | exact Or.inr rfl), (by first | exact Or.inr rfl | exact Or.inl rfl), hk 14 rfl⟩ (by decide)) (sGs_cons (sG_name ⟨nd, rfl, (by first | exact Or.inl rfl | exact Or.inr rfl), (by first | exact Or.inr rfl | exact Or.inl rfl), hk 15 rfl⟩ (by decide)) (sGs_nil) rfl) rfl) rfl rfl, fun _ _ _ _ _ _ => sTs_one (sT_cmp (od_in (Room.u hr)) (NameOk.dv ⟨rfl, (by first | exact Or.inl rfl | exact Or.inr (Or.inl rfl) | exact Or.inr (Or.inr rfl)), rfl, rfl⟩) (NameOk.dv ⟨rfl, (by first | exact Or.inl rfl | exact Or.inr (Or.inl rfl) | exact Or.inr (Or.inr rfl)), rfl, rfl⟩) rfl), fun _ _ _ _ _ _ => NameOk.dv ⟨rfl, (by first | exact Or.inl rfl | exact Or.inr (Or.inl rfl) | exact Or.inr (Or.inr rfl)), rfl, rfl⟩⟩ (gok_t (gsok_cons (gok_n) (gsok_cons (gok_n) (gsok_nil)))) (by intro i hi; exact hk i (by revert i; decide)) (fun _ => rfl))))) (fun _ _ => rfl))) (sA_nil) (fun _ _ => rfl)) (fun _ _ => rfl)))) (gok_t (gsok_cons (gok_n) (gsok_cons (gok_n) (gsok_nil)))) rfl rfl rfl)))
        (sSs_one (LocOk.set ⟨nd, rfl, (by first | exact Or.inl rfl | exact Or.inr rfl), (by first | exact Or.inr rfl | exact Or.inl rfl), hk 11 rfl⟩ (sE_dt (sE_frz (sE_and (NameOk.var ⟨rfl, (by first | exact Or.inl rfl | exact Or.inr (Or.inl rfl) | exact Or.inr (Or.inr rfl)), rfl, rfl⟩) (sE_one (sE_cmp (od_eq (Room.u hr)) (sE_frz (NameOk.len ⟨rfl, (by first | exact Or.inl rfl | exact Or.inr (Or.inl rfl) | exact Or.inr (Or.inr rfl)), rfl, rfl⟩ rfl Bl.len)) (NameOk.dv ⟨rfl, (by first | exact Or.inl rfl | exact Or.inr (Or.inl rfl) | exact Or.inr (Or.inr rfl)), rfl, rfl⟩) rfl))))) rfl)))) (fun _ => rfl))
        (sSs_one (sS_ret (sE_and (sE_call (F__law_alike.mono (by decide)) hr rfl fnX_takes (by simp [agNd, posOf]) rfl (sAg_d (sE_frz (sE_call (F_is_house.mono (by decide)) hr rfl fnX_takes (by simp [agNd, posOf]) rfl (sAg_d (sE_frz (sE_tup (sA_cons (NameOk.dv ⟨rfl, (by first | exact Or.inl rfl | exact Or.inr (Or.inl rfl) | exact Or.inr (Or.inr rfl)), rfl, rfl⟩) (sA_cons (sE_frz (sE_callTy cr_tuple rfl Bl.tuple boot_tuple (NameOk.var ⟨rfl, (by first | exact Or.inl rfl | exact Or.inr (Or.inl rfl) | exact Or.inr (Or.inr rfl)), rfl, rfl⟩) (fun _ _ => rfl) (by decide) rfl)) (sA_nil) (fun _ _ => rfl)) (fun _ _ => rfl)))) (sAg_nil) (fun _ _ => rfl)) (fun _ _ => rfl) rfl rfl)) (sAg_d (NameOk.dv ⟨rfl, (by first | exact Or.inl rfl | exact Or.inr (Or.inl rfl) | exact Or.inr (Or.inr rfl)), rfl, rfl⟩) (sAg_nil) (fun _ _ => rfl)) (fun _ _ => rfl)) (fun _ _ => rfl) rfl rfl) (sE_one (sE_cmp od_isB (sE_frz (sE_call (F_is_house.mono (by decide)) hr rfl fnX_takes (by simp [agNd, posOf]) rfl (sAg_d (NameOk.dv ⟨rfl, (by first | exact Or.inl rfl | exact Or.inr (Or.inl rfl) | exact Or.inr (Or.inr rfl)), rfl, rfl⟩) (sAg_nil) (fun _ _ => rfl)) (fun _ _ => rfl) rfl rfl)) (sD_bool) rfl))))))))))))))))))

end TL
set_option Elab.async false
set_option linter.all false
set_option maxRecDepth 100000
set_option maxHeartbeats 0
namespace TL
open PySem PySem.Spec PyProof.Rows L2 GxR
def h_is_number : He.DefD := ⟨("is_number", none), "is_number", "is_number", defArgs (top 6), defBody (top 6), defScope (top 6), [], []⟩
def h_is_door : He.DefD := ⟨("is_door", none), "is_door", "is_door", defArgs (top 7), defBody (top 7), defScope (top 7), [], []⟩
def h_come_to : He.DefD := ⟨("come_to", none), "come_to", "come_to", defArgs (top 8), defBody (top 8), defScope (top 8), [], []⟩
def h_is_joined : He.DefD := ⟨("is_joined", none), "is_joined", "is_joined", defArgs (top 9), defBody (top 9), defScope (top 9), [], []⟩
def h_wrong_part : He.DefD := ⟨("wrong_part", none), "wrong_part", "wrong_part", defArgs (top 10), defBody (top 10), defScope (top 10), [], []⟩
def h_is_house : He.DefD := ⟨("is_house", none), "is_house", "is_house", defArgs (top 11), defBody (top 11), defScope (top 11), [], []⟩
def h_need_house : He.DefD := ⟨("need_house", none), "need_house", "need_house", defArgs (top 12), defBody (top 12), defScope (top 12), [], []⟩
def h_need_hall : He.DefD := ⟨("need_hall", none), "need_hall", "need_hall", defArgs (top 13), defBody (top 13), defScope (top 13), [], []⟩
def h_doors_out : He.DefD := ⟨("doors_out", none), "doors_out", "doors_out", defArgs (top 14), defBody (top 14), defScope (top 14), [], []⟩
def h_far : He.DefD := ⟨("far", none), "far", "far", defArgs (top 15), defBody (top 15), defScope (top 15), [], []⟩
def h_turned : He.DefD := ⟨("turned", none), "turned", "turned", defArgs (top 16), defBody (top 16), defScope (top 16), [], []⟩
def h_is_two_way : He.DefD := ⟨("is_two_way", none), "is_two_way", "is_two_way", defArgs (top 17), defBody (top 17), defScope (top 17), [], []⟩
def h__law_taken : He.DefD := ⟨("_law_taken", none), "_law_taken", "_law_taken", defArgs (top 19), defBody (top 19), defScope (top 19), [], []⟩
def h__law_pick : He.DefD := ⟨("_law_pick", none), "_law_pick", "_law_pick", defArgs (top 20), defBody (top 20), defScope (top 20), [], []⟩
def h__law_alike : He.DefD := ⟨("_law_alike", none), "_law_alike", "_law_alike", defArgs (top 21), defBody (top 21), defScope (top 21), [], []⟩
def h__law_circle : He.DefD := ⟨("_law_circle", none), "_law_circle", "_law_circle", defArgs (top 22), defBody (top 22), defScope (top 22), [], []⟩
def h__law_known : He.DefD := ⟨("_law_known", none), "_law_known", "_law_known", defArgs (top 23), defBody (top 23), defScope (top 23), [], []⟩
def h__law_moved : He.DefD := ⟨("_law_moved", none), "_law_moved", "_law_moved", defArgs (top 24), defBody (top 24), defScope (top 24), [], []⟩
def h__law_turn : He.DefD := ⟨("_law_turn", none), "_law_turn", "_law_turn", defArgs (top 25), defBody (top 25), defScope (top 25), [], []⟩
def h__law_house : He.DefD := ⟨("_law_house", none), "_law_house", "_law_house", defArgs (top 26), defBody (top 26), defScope (top 26), [], []⟩
def h_law : He.DefD := ⟨("law", none), "law", "law", defArgs (top 27), defBody (top 27), defScope (top 27), [], []⟩
def hfn : List He.DefD := [h_is_number, h_is_door, h_come_to, h_is_joined, h_wrong_part, h_is_house, h_need_house, h_need_hall, h_doors_out, h_far, h_turned, h_is_two_way, h__law_taken, h__law_pick, h__law_alike, h__law_circle, h__law_known, h__law_moved, h__law_turn, h__law_house, h_law]
def hblt : List Str := ["len", "isinstance", "int", "bool", "str", "tuple", "list", "dict", "set", "range", "zip", "enumerate", "sorted", "all", "min", "max", "sum"]
def hfa0 : List He.Fa := [.glo "is_number", .glo "is_door", .glo "come_to", .glo "is_joined", .glo "wrong_part", .glo "is_house", .glo "need_house", .glo "need_hall", .glo "doors_out", .glo "far", .glo "turned", .glo "is_two_way", .glo "_law_taken", .glo "_law_pick", .glo "_law_alike", .glo "_law_circle", .glo "_law_known", .glo "_law_moved", .glo "_law_turn", .glo "_law_house", .glo "law", .int "MOST_HALLS" 10]
def hfa : List He.Fa := hfa0 ++ hblt.map He.Fa.free
def htf : List He.Defn := [("is_door", none), ("wrong_part", none)]
def hnames : List Str := ["HallError", "BadHouse", "BadHall", "MOST_HALLS", "is_number", "is_door", "come_to", "is_joined", "wrong_part", "is_house", "need_house", "need_hall", "doors_out", "far", "turned", "is_two_way", "_law_taken", "_law_pick", "_law_alike", "_law_circle", "_law_known", "_law_moved", "_law_turn", "_law_house"]
abbrev R0 : PySem.W.OpenRow := PySem.W.OpenLaw.row PySem.Challenge.rw_letterhalls_k14_whole_basics
abbrev hk0 : PySem.W.Hook := He.hookX 4 hfa hfn [] htf noLists
def ob0 (s : PySem.W.SharedT) : He.AlX := He.obsX 4 hfa hfn [] htf noLists (HandSHeadRun.getT s)
theorem ob0_eq (s : PySem.W.SharedT) : ob0 s = hk0.obs s.abs := He.obsX_eq (HandSHeadRun.getT_eq s)
theorem run0 (w : World) : HandSHeadRun.RunEq R0 (PySem.W.view R0.prog [27]) hk0 ob0 4000 hnames w := by
  intro os
  kernel_rfl
theorem facts0 (w : World) (mg : Str → Option Value) (h : Heap) (K : PySem.W.Frag) (X : K.In h) (G : h.Ns mainGlobals mg) (c : He.SaysX hfa hfn [] htf noLists w h K) : ∃ fd ex, mg "law" = some (.ref (He.ga K "law")) ∧ (∀ (s : Shared) (u : Value), BindsTo s fd ⟨[u], []⟩ [("_law_script", u)]) ∧
    ∀ base : Heap, K.In base → base.Ns mainGlobals mg → (∀ p ∈ htf, TabB base mg (He.cT K p).1 (He.cT K p).2) → FnOk R0.prog w K mg base (L2.CX R0.prog w) 10 (He.ga K "law") fd ["_law_script"] (fnSp 1 (htf.map fun p => (He.cT K p).2) ex f_law) := by
  have cd := c.t.d
  have Bl : Blt mg := blt_of X G cd fun x hx => List.mem_append_right _ (List.mem_map.mpr ⟨x, hx, rfl⟩)
  have g_is_number := glo_of X G cd (x := "is_number") (List.mem_append_left _ (List.mem_of_getElem? (i := 0) rfl))
  obtain ⟨fd_is_number, C_is_number⟩ := funC_of cd (d := h_is_number) (List.mem_of_getElem? (i := 0) rfl) rfl
  have g_is_door := glo_of X G cd (x := "is_door") (List.mem_append_left _ (List.mem_of_getElem? (i := 1) rfl))
  obtain ⟨fd_is_door, C_is_door⟩ := funC_of cd (d := h_is_door) (List.mem_of_getElem? (i := 1) rfl) rfl
  have g_come_to := glo_of X G cd (x := "come_to") (List.mem_append_left _ (List.mem_of_getElem? (i := 2) rfl))
  obtain ⟨fd_come_to, C_come_to⟩ := funC_of cd (d := h_come_to) (List.mem_of_getElem? (i := 2) rfl) rfl
  have g_is_joined := glo_of X G cd (x := "is_joined") (List.mem_append_left _ (List.mem_of_getElem? (i := 3) rfl))
  obtain ⟨fd_is_joined, C_is_joined⟩ := funC_of cd (d := h_is_joined) (List.mem_of_getElem? (i := 3) rfl) rfl
  have g_wrong_part := glo_of X G cd (x := "wrong_part") (List.mem_append_left _ (List.mem_of_getElem? (i := 4) rfl))
  obtain ⟨fd_wrong_part, C_wrong_part⟩ := funC_of cd (d := h_wrong_part) (List.mem_of_getElem? (i := 4) rfl) rfl
  have g_is_house := glo_of X G cd (x := "is_house") (List.mem_append_left _ (List.mem_of_getElem? (i := 5) rfl))
  obtain ⟨fd_is_house, C_is_house⟩ := funC_of cd (d := h_is_house) (List.mem_of_getElem? (i := 5) rfl) rfl
  have g_need_house := glo_of X G cd (x := "need_house") (List.mem_append_left _ (List.mem_of_getElem? (i := 6) rfl))
  obtain ⟨fd_need_house, C_need_house⟩ := funC_of cd (d := h_need_house) (List.mem_of_getElem? (i := 6) rfl) rfl
  have g_need_hall := glo_of X G cd (x := "need_hall") (List.mem_append_left _ (List.mem_of_getElem? (i := 7) rfl))
  obtain ⟨fd_need_hall, C_need_hall⟩ := funC_of cd (d := h_need_hall) (List.mem_of_getElem? (i := 7) rfl) rfl
  have g_doors_out := glo_of X G cd (x := "doors_out") (List.mem_append_left _ (List.mem_of_getElem? (i := 8) rfl))
  obtain ⟨fd_doors_out, C_doors_out⟩ := funC_of cd (d := h_doors_out) (List.mem_of_getElem? (i := 8) rfl) rfl
  have g_far := glo_of X G cd (x := "far") (List.mem_append_left _ (List.mem_of_getElem? (i := 9) rfl))
  obtain ⟨fd_far, C_far⟩ := funC_of cd (d := h_far) (List.mem_of_getElem? (i := 9) rfl) rfl
  have g_turned := glo_of X G cd (x := "turned") (List.mem_append_left _ (List.mem_of_getElem? (i := 10) rfl))
  obtain ⟨fd_turned, C_turned⟩ := funC_of cd (d := h_turned) (List.mem_of_getElem? (i := 10) rfl) rfl
  have g_is_two_way := glo_of X G cd (x := "is_two_way") (List.mem_append_left _ (List.mem_of_getElem? (i := 11) rfl))
  obtain ⟨fd_is_two_way, C_is_two_way⟩ := funC_of cd (d := h_is_two_way) (List.mem_of_getElem? (i := 11) rfl) rfl
  have g__law_taken := glo_of X G cd (x := "_law_taken") (List.mem_append_left _ (List.mem_of_getElem? (i := 12) rfl))
  obtain ⟨fd__law_taken, C__law_taken⟩ := funC_of cd (d := h__law_taken) (List.mem_of_getElem? (i := 12) rfl) rfl
  have g__law_pick := glo_of X G cd (x := "_law_pick") (List.mem_append_left _ (List.mem_of_getElem? (i := 13) rfl))
  obtain ⟨fd__law_pick, C__law_pick⟩ := funC_of cd (d := h__law_pick) (List.mem_of_getElem? (i := 13) rfl) rfl
  have g__law_alike := glo_of X G cd (x := "_law_alike") (List.mem_append_left _ (List.mem_of_getElem? (i := 14) rfl))
  obtain ⟨fd__law_alike, C__law_alike⟩ := funC_of cd (d := h__law_alike) (List.mem_of_getElem? (i := 14) rfl) rfl
  have g__law_circle := glo_of X G cd (x := "_law_circle") (List.mem_append_left _ (List.mem_of_getElem? (i := 15) rfl))
  obtain ⟨fd__law_circle, C__law_circle⟩ := funC_of cd (d := h__law_circle) (List.mem_of_getElem? (i := 15) rfl) rfl
  have g__law_known := glo_of X G cd (x := "_law_known") (List.mem_append_left _ (List.mem_of_getElem? (i := 16) rfl))
  obtain ⟨fd__law_known, C__law_known⟩ := funC_of cd (d := h__law_known) (List.mem_of_getElem? (i := 16) rfl) rfl
  have g__law_moved := glo_of X G cd (x := "_law_moved") (List.mem_append_left _ (List.mem_of_getElem? (i := 17) rfl))
  obtain ⟨fd__law_moved, C__law_moved⟩ := funC_of cd (d := h__law_moved) (List.mem_of_getElem? (i := 17) rfl) rfl
  have g__law_turn := glo_of X G cd (x := "_law_turn") (List.mem_append_left _ (List.mem_of_getElem? (i := 18) rfl))
  obtain ⟨fd__law_turn, C__law_turn⟩ := funC_of cd (d := h__law_turn) (List.mem_of_getElem? (i := 18) rfl) rfl
  have g__law_house := glo_of X G cd (x := "_law_house") (List.mem_append_left _ (List.mem_of_getElem? (i := 19) rfl))
  obtain ⟨fd__law_house, C__law_house⟩ := funC_of cd (d := h__law_house) (List.mem_of_getElem? (i := 19) rfl) rfl
  have g_law := glo_of X G cd (x := "law") (List.mem_append_left _ (List.mem_of_getElem? (i := 20) rfl))
  obtain ⟨fd_law, C_law⟩ := funC_of cd (d := h_law) (List.mem_of_getElem? (i := 20) rfl) rfl
  obtain ⟨t_MOST_HALLS, hc_MOST_HALLS⟩ := He.int_ok X G (cd.facts (f := .int "MOST_HALLS" 10) (List.mem_append_left _ (List.mem_of_getElem? (i := 21) rfl)))
  refine ⟨fd_law, fun _ => none, g_law, fun s u => C_law.bindsA (ps := ["_law_script"]) (fun _ _ _ _ _ _ us hl => match us, hl with | [_], _ => rfl) s [u] rfl, fun base hKb hns TB => ?_⟩
  have F_is_number := d_is_number (P := R0.prog) (w := w) (base := base) (T := htf.map fun p => (He.cT K p).2) (ex := fun _ => none) Bl C_is_number g_is_number
  have F_is_door := d_is_door (P := R0.prog) (w := w) (base := base) (T := htf.map fun p => (He.cT K p).2) (ex := fun _ => none) Bl F_is_number (TB ("is_door", none) (List.mem_of_getElem? (i := 0) rfl)) (List.mem_map.mpr ⟨("is_door", none), List.mem_of_getElem? (i := 0) rfl, rfl⟩) C_is_door g_is_door
  have F_come_to := d_come_to (P := R0.prog) (w := w) (base := base) (T := htf.map fun p => (He.cT K p).2) (ex := fun _ => none) Bl C_come_to g_come_to
  have F_is_joined := d_is_joined (P := R0.prog) (w := w) (base := base) (T := htf.map fun p => (He.cT K p).2) (ex := fun _ => none) Bl F_come_to C_is_joined g_is_joined
  have F_wrong_part := d_wrong_part (P := R0.prog) (w := w) (base := base) (T := htf.map fun p => (He.cT K p).2) (ex := fun _ => none) Bl hc_MOST_HALLS F_is_number F_is_door F_is_joined (TB ("wrong_part", none) (List.mem_of_getElem? (i := 1) rfl)) (List.mem_map.mpr ⟨("wrong_part", none), List.mem_of_getElem? (i := 1) rfl, rfl⟩) C_wrong_part g_wrong_part
  have F_is_house := d_is_house (P := R0.prog) (w := w) (base := base) (T := htf.map fun p => (He.cT K p).2) (ex := fun _ => none) Bl F_wrong_part C_is_house g_is_house
  have F_need_house := d_need_house (P := R0.prog) (w := w) (base := base) (T := htf.map fun p => (He.cT K p).2) (ex := fun _ => none) Bl F_wrong_part C_need_house g_need_house
  have F_need_hall := d_need_hall (P := R0.prog) (w := w) (base := base) (T := htf.map fun p => (He.cT K p).2) (ex := fun _ => none) Bl F_is_number C_need_hall g_need_hall
  have F_doors_out := d_doors_out (P := R0.prog) (w := w) (base := base) (T := htf.map fun p => (He.cT K p).2) (ex := fun _ => none) Bl F_need_house F_need_hall C_doors_out g_doors_out
  have F_far := d_far (P := R0.prog) (w := w) (base := base) (T := htf.map fun p => (He.cT K p).2) (ex := fun _ => none) Bl F_need_house F_need_hall F_come_to C_far g_far
  have F_turned := d_turned (P := R0.prog) (w := w) (base := base) (T := htf.map fun p => (He.cT K p).2) (ex := fun _ => none) Bl F_need_house C_turned g_turned
  have F_is_two_way := d_is_two_way (P := R0.prog) (w := w) (base := base) (T := htf.map fun p => (He.cT K p).2) (ex := fun _ => none) Bl F_need_house F_turned C_is_two_way g_is_two_way
  have F__law_taken := d__law_taken (P := R0.prog) (w := w) (base := base) (T := htf.map fun p => (He.cT K p).2) (ex := fun _ => none) Bl C__law_taken g__law_taken
  have F__law_pick := d__law_pick (P := R0.prog) (w := w) (base := base) (T := htf.map fun p => (He.cT K p).2) (ex := fun _ => none) Bl F__law_taken C__law_pick g__law_pick
  have F__law_alike := d__law_alike (P := R0.prog) (w := w) (base := base) (T := htf.map fun p => (He.cT K p).2) (ex := fun _ => none) Bl C__law_alike g__law_alike
  have F__law_circle := d__law_circle (P := R0.prog) (w := w) (base := base) (T := htf.map fun p => (He.cT K p).2) (ex := fun _ => none) Bl C__law_circle g__law_circle
  have F__law_known := d__law_known (P := R0.prog) (w := w) (base := base) (T := htf.map fun p => (He.cT K p).2) (ex := fun _ => none) Bl F__law_circle C__law_known g__law_known
  have F__law_moved := d__law_moved (P := R0.prog) (w := w) (base := base) (T := htf.map fun p => (He.cT K p).2) (ex := fun _ => none) Bl C__law_moved g__law_moved
  have F__law_turn := d__law_turn (P := R0.prog) (w := w) (base := base) (T := htf.map fun p => (He.cT K p).2) (ex := fun _ => none) Bl F__law_taken C__law_turn g__law_turn
  have F__law_house := d__law_house (P := R0.prog) (w := w) (base := base) (T := htf.map fun p => (He.cT K p).2) (ex := fun _ => none) Bl F__law_taken F__law_pick F__law_known F__law_moved F__law_turn F__law_circle C__law_house g__law_house
  exact d_law (P := R0.prog) (w := w) (base := base) Bl F__law_house F__law_taken F__law_alike F_doors_out F_far F_is_two_way F_turned F_is_house C_law g_law
end TL
open PySem PySem.W PySem.Calls PyProof.Rows
theorem PySem.Challenge.holds0 (hm : TL.Says TL.f_law) : PySem.Challenge.rw_letterhalls_k14_whole_basics.Holds := by
  w_on; o_law
  refine HandSHeadRun.head_any (r := OpenLaw.row PySem.Challenge.rw_letterhalls_k14_whole_basics) (q := view (OpenLaw.row PySem.Challenge.rw_letterhalls_k14_whole_basics).prog [27]) (H := TL.hk0) (ob := TL.ob0) (M := 4000) (loose := TL.hnames) (d := HandSHeadRun.topDef (OpenLaw.row PySem.Challenge.rw_letterhalls_k14_whole_basics).prog 27) (kwd := []) TL.ob0_eq
    (by kernel_rfl) (fun s => by kernel_rfl) TL.run0 (by kernel_rfl) (by kernel_rfl) (by kernel_rfl) (by rfl) (by first | assumption | decide +kernel) (by decide +kernel) ⟨rfl, rfl, rfl, rfl, rfl, by decide +kernel⟩ ?hw ?hc
  case hw => w_witness2
  case hc => exact TL.walk_tl (x := "_law_script") (k := 10) (ex := fun _ => none) rfl (by kernel_rfl) (by kernel_rfl) ⟨rfl, by decide, by decide⟩ TL.facts0 hm
theorem PySem.Challenge.cw_letterhalls_k14_whole_basics_holds : PySem.Challenge.rw_letterhalls_k14_whole_basics.Holds :=
  PySem.Challenge.holds0 TL.law_says
