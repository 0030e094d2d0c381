import PyProof.Rows.All
import Wide.All
import OpenK.AllK
import Wide.FinOn
import HandS.ForMost
import HandS.IsInst
import HandS.Exc
import HandS.Flt
import KE.DatumMoreOrd
import HandS.Wide
import HandS.ExcCtx
import HandS.Style
import HandS.Conv
import HandS.Deep
import HandS.StrMore
import HandS.Text
import PyProof.NeKinds
import KE.SortData
import HandS.TupAny
import HandS.RevTup
import HandS.Rev
import HandS.Dict
import HandS.More
import KE.KeyNested
import HandS.TupSets
import KE.KDictCopyH
import KE.KDictSum
import HandS.SetKeys
import HandS.TryOnly
import HandS.Iter
import HandS.WordsExc
import HandS.ExcInit
import HandS.RaiseMore
import KE.KExcIs
import KE.KIsAll
import HandS.Spec
import HandS.ReplaceLit
import HandS.ClsMeth
import KE.DatumOrd
import HandS.SortKw
import HandS.DictTup
import HandS.TupLen
import HandS.SetFor
import PyProof.SetRoads
import HandS.SuiteRaise
import HandS.ExcInitHot
import PyProof.Rows.StrCut
import KE.KStrOpen
import HandS.Codes
import HandS.ReplaceList
import KE.KIntText
import KE.KSort
import PySem.Challenge.RW_folk_k22_rules_refused
set_option Elab.async false
set_option linter.all false
set_option maxRecDepth 100000
set_option maxHeartbeats 4000000
namespace FK
open PySem PySem.Spec PyProof.Rows L2

/-! ### heaps: R what is frozen, H all that is known -/
def Ex (H H' : Hp) : Prop := ∀ a o, H a = some o → H' a = some o
theorem Ex.refl (H : Hp) : Ex H H := fun _ _ h => h
theorem Ex.trans {H H1 H2 : Hp} (a : Ex H H1) (b : Ex H1 H2) : Ex H H2 := fun x o h => b x o (a x o h)
theorem Ex.new {H : Hp} {p : Addr} {o : HO} (h : H p = none) : Ex H (upd H p o) := fun a u e => by
  rw [upd_ne (ne_of_none e h)]
  exact e
theorem Ex.up {R H : Hp} {p : Addr} {o : HO} (e : Ex R H) : Ex (upd R p o) (upd H p o) := fun a u h => by
  by_cases q : a = p
  · subst q
    rw [upd_same] at h ⊢
    exact h
  · rw [upd_ne q] at h ⊢
    exact e a u h
theorem Ex.put {R H : Hp} {p : Addr} {o : HO} (e : Ex R H) (h : H p = some o) : Ex (upd R p o) H := fun a u q => by
  by_cases z : a = p
  · subst z
    rw [upd_same] at q
    rw [← q]
    exact h
  · rw [upd_ne z] at q
    exact e a u q
theorem Ex.none {H H' : Hp} {p : Addr} (e : Ex H H') (h : H' p = none) : H p = none := by
  cases q : H p with
  | none => rfl
  | some o =>
    rw [e p o q] at h
    cases h
theorem Ex.mut {H H' : Hp} {p : Addr} {o : HO} (e : Ex H H') (h : H p = Option.none) : Ex H (upd H' p o) := fun a u q => by
  rw [upd_ne (ne_of_none q h)]
  exact e a u q
/-- a tuple: never changed, so it may be frozen at any time -/
def isT : HO → Bool
  | .tup _ => true
  | _ => false
structure Ext (R H R' H' : Hp) : Prop where
  r : Ex R R'
  h : Ex H H'
  i : Ex R' H'
  n : ∀ a o, isT o = false → H a = some o → R a = none → R' a = none
theorem Ext.refl {R H : Hp} (i : Ex R H) : Ext R H R H := ⟨.refl R, .refl H, i, fun _ _ _ _ h => h⟩
theorem Ext.trans {R H R1 H1 R2 H2 : Hp} (a : Ext R H R1 H1) (b : Ext R1 H1 R2 H2) : Ext R H R2 H2 :=
  ⟨a.r.trans b.r, a.h.trans b.h, b.i, fun x o t h q => b.n x o t (a.h x o h) (a.n x o t h q)⟩
/-- a new thing, not frozen | frozen -/
theorem Ext.own {R H : Hp} {p : Addr} {o : HO} (i : Ex R H) (h : H p = none) : Ext R H R (upd H p o) :=
  ⟨.refl R, .new h, i.trans (.new h), fun _ _ _ _ q => q⟩
theorem Ext.new {R H : Hp} {p : Addr} {o : HO} (i : Ex R H) (h : H p = none) : Ext R H (upd R p o) (upd H p o) :=
  ⟨.new (i.none h), .new h, i.up, fun a u _ q z => by
    rw [upd_ne (ne_of_none q h)]
    exact z⟩

/-! ### what a value stands for -/
class Py (α : Type) where
  rep : PySem.W.Frag → Hp → V → α → Prop
  bor : PySem.W.Frag → Hp → Hp → V → α → Prop
  mono : ∀ {K : PySem.W.Frag} {R R' : Hp} {v : V} {a : α}, Ex R R' → rep K R v a → rep K R' v a
  bmono : ∀ {K : PySem.W.Frag} {R R' H H' : Hp} {v : V} {a : α}, Ex R R' → Ex H H' → bor K R H v a → bor K R' H' v a
  lend : ∀ {K : PySem.W.Frag} {R H : Hp} {v : V} {a : α}, Ex R H → rep K R v a → bor K R H v a
/-- what is changed in place: told by its record -/
class Ob (α : Type) where
  ho : PySem.W.Frag → Hp → HO → α → Prop
  mono : ∀ {K : PySem.W.Frag} {R R' : Hp} {o : HO} {a : α}, Ex R R' → ho K R o a → ho K R' o a
  nt : ∀ {K : PySem.W.Frag} {R : Hp} {o : HO} {a : α}, ho K R o a → isT o = false
abbrev rep {α : Type} [Py α] (K : PySem.W.Frag) (R : Hp) (v : V) (a : α) : Prop := Py.rep K R v a
abbrev bor {α : Type} [Py α] (K : PySem.W.Frag) (R H : Hp) (v : V) (a : α) : Prop := Py.bor K R H v a
abbrev ho {α : Type} [Ob α] (K : PySem.W.Frag) (R : Hp) (o : HO) (a : α) : Prop := Ob.ho K R o a
theorem rd_ex {H H' : Hp} {a : Addr} {u : HO} (e : Ex H H') (h : Rd H a u) : Rd H' a u := by
  rcases h with h | ⟨o, h⟩
  · exact .inl (e a _ h)
  · exact .inr ⟨o, e a _ h⟩
/-- what may be read -/
abbrev RdK (_ : PySem.W.Frag) (H : Hp) (p : Addr) (o : HO) : Prop := Rd H p o
theorem sql_ex {K : PySem.W.Frag} {H H' : Hp} {p : Addr} {xs : List V} (e : Ex H H') (h : SqL K H p xs) : SqL K H' p xs := h.elim (fun z => .inl (rd_ex e z)) .inr
instance instPyOb {α : Type} [Ob α] : Py α where
  rep := fun K R v a => ∃ p o, v = .ref p ∧ RdK K R p o ∧ Ob.ho K R o a
  bor := fun K R H v a => ∃ p o, v = .ref p ∧ RdK K H p o ∧ Ob.ho K R o a
  mono := fun e ⟨p, o, h, r, q⟩ => ⟨p, o, h, rd_ex e r, Ob.mono e q⟩
  bmono := fun e e2 ⟨p, o, h, r, q⟩ => ⟨p, o, h, rd_ex e2 r, Ob.mono e q⟩
  lend := fun e ⟨p, o, h, r, q⟩ => ⟨p, o, h, rd_ex e r, q⟩
@[reducible] def flatPy {α : Type} (f : α → V) : Py α where
  rep := fun _ _ v a => v = f a
  bor := fun _ _ _ v a => v = f a
  mono := fun _ h => h
  bmono := fun _ _ h => h
  lend := fun _ h => h
instance instPyInt : Py Int := flatPy V.int
instance instPyBool : Py Bool := flatPy V.bl
instance instPyStr : Py Str := flatPy V.str
instance instPyUnit : Py Unit := flatPy fun _ => V.non
inductive AllR {α : Type} [Py α] (K : PySem.W.Frag) (R : Hp) : List V → List α → Prop
  | nil : AllR K R [] []
  | cons {v : V} {vs : List V} {a : α} {as : List α} : rep K R v a → AllR K R vs as → AllR K R (v :: vs) (a :: as)
section
variable {α : Type} [Py α] {K : PySem.W.Frag} {R R' : Hp}
theorem AllR.mono (e : Ex R R') : ∀ {vs : List V} {as : List α}, AllR K R vs as → AllR K R' vs as
  | _, _, .nil => .nil
  | _, _, .cons h t => .cons (Py.mono e h) (t.mono e)
theorem AllR.len : ∀ {vs : List V} {as : List α}, AllR K R vs as → vs.length = as.length
  | _, _, .nil => rfl
  | _, _, .cons _ t => congrArg (· + 1) t.len
theorem AllR.get : ∀ {vs : List V} {as : List α} {i : Nat} {a : α}, AllR K R vs as → as[i]? = some a → ∃ v, vs[i]? = some v ∧ rep K R v a
  | _, _, i, a, .nil, e => by simp at e
  | _, _, 0, a, .cons (v := v) h _, e => by
    have e' := Option.some.inj e
    subst e'
    exact ⟨v, rfl, h⟩
  | _, _, i + 1, a, .cons _ t, e => t.get (i := i) (a := a) e
theorem AllR.app : ∀ {vs ws : List V} {as bs : List α}, AllR K R vs as → AllR K R ws bs → AllR K R (vs ++ ws) (as ++ bs)
  | _, _, _, _, .nil, q => q
  | _, _, _, _, .cons h t, q => .cons h (t.app q)
theorem AllR.drop : ∀ {vs : List V} {as : List α} (n : Nat), AllR K R vs as → AllR K R (vs.drop n) (as.drop n)
  | _, _, 0, q => q
  | _, _, _ + 1, .nil => .nil
  | _, _, n + 1, .cons _ t => t.drop n
theorem AllR.take : ∀ {vs : List V} {as : List α} (n : Nat), AllR K R vs as → AllR K R (vs.take n) (as.take n)
  | _, _, 0, _ => .nil
  | _, _, _ + 1, .nil => .nil
  | _, _, n + 1, .cons h t => .cons h (t.take n)
theorem AllR.rev : ∀ {vs : List V} {as : List α}, AllR K R vs as → AllR K R vs.reverse as.reverse
  | _, _, .nil => .nil
  | _, _, .cons h t => by
    rw [List.reverse_cons, List.reverse_cons]
    exact t.rev.app (.cons h .nil)
theorem AllR.map_eq {f : α → V} (h : ∀ v a, rep K R v a → v = f a) : ∀ {vs : List V} {as : List α}, AllR K R vs as → vs = as.map f
  | _, _, .nil => rfl
  | _, _, .cons q t => by
    rw [List.map_cons, ← t.map_eq h, h _ _ q]
theorem AllR.of_map {f : α → V} (h : ∀ a, rep K R (f a) a) : ∀ as : List α, AllR K R (as.map f) as
  | [] => .nil
  | a :: as => .cons (h a) (AllR.of_map h as)
end
instance instObList {α : Type} [Py α] : Ob (List α) where
  ho := fun K R o as => ∃ vs, o = .lst vs ∧ AllR K R vs as
  mono := fun e ⟨vs, h, q⟩ => ⟨vs, h, q.mono e⟩
  nt := fun ⟨vs, h, _⟩ => by rw [h]; rfl
@[reducible] def tupPy {α : Type} (f : PySem.W.Frag → Hp → List V → α → Prop) (m : ∀ {K : PySem.W.Frag} {R R' : Hp} {vs : List V} {a : α}, Ex R R' → f K R vs a → f K R' vs a) : Py α where
  rep := fun K R v a => ∃ p vs, v = .ref p ∧ SqT K R p vs ∧ f K R vs a
  bor := fun K R _ v a => ∃ p vs, v = .ref p ∧ SqT K R p vs ∧ f K R vs a
  mono := fun e ⟨p, vs, h, q, z⟩ => ⟨p, vs, h, q.elim (fun r => .inl (rd_ex e r)) .inr, m e z⟩
  bmono := fun e _ ⟨p, vs, h, q, z⟩ => ⟨p, vs, h, q.elim (fun r => .inl (rd_ex e r)) .inr, m e z⟩
  lend := fun _ h => h
/-- a tuple made here -/
@[reducible] def dirPy {α : Type} (f : PySem.W.Frag → Hp → List V → α → Prop) (m : ∀ {K : PySem.W.Frag} {R R' : Hp} {vs : List V} {a : α}, Ex R R' → f K R vs a → f K R' vs a) : Py α where
  rep := fun K R v a => ∃ p vs, v = .ref p ∧ R p = some (.tup vs) ∧ f K R vs a
  bor := fun K R _ v a => ∃ p vs, v = .ref p ∧ R p = some (.tup vs) ∧ f K R vs a
  mono := fun e ⟨p, vs, h, q, z⟩ => ⟨p, vs, h, e _ _ q, m e z⟩
  bmono := fun e _ ⟨p, vs, h, q, z⟩ => ⟨p, vs, h, e _ _ q, m e z⟩
  lend := fun _ h => h
theorem dsq {K : PySem.W.Frag} {R : Hp} {p : Addr} {vs : List V} (h : R p = some (.tup vs)) : SqT K R p vs := .inl (.inl h)
instance instPy2 {α β : Type} [Py α] [Py β] : Py (α × β) := dirPy (fun K R vs a => ∃ x y, vs = [x, y] ∧ rep K R x a.1 ∧ rep K R y a.2)
  fun e ⟨x, y, h, p, q⟩ => ⟨x, y, h, Py.mono e p, Py.mono e q⟩
abbrev T3 := PySem.W.T3
instance instPy3 {α β γ : Type} [Py α] [Py β] [Py γ] : Py (T3 α β γ) := dirPy (fun K R vs a => ∃ x y z, vs = [x, y, z] ∧ rep K R x a.a ∧ rep K R y a.b ∧ rep K R z a.c)
  fun e ⟨x, y, z, h, p, q, r⟩ => ⟨x, y, z, h, Py.mono e p, Py.mono e q, Py.mono e r⟩
/-- the script: a list of ints that the law is handed -/
structure Scr where
  l : List Int
instance instPyScr : Py Scr where
  rep := fun K R v a => ∃ p, v = .ref p ∧ SqL K R p (a.l.map V.int)
  bor := fun K _ H v a => ∃ p, v = .ref p ∧ SqL K H p (a.l.map V.int)
  mono := fun e ⟨p, h, q⟩ => ⟨p, h, sql_ex e q⟩
  bmono := fun _ e ⟨p, h, q⟩ => ⟨p, h, sql_ex e q⟩
  lend := fun e ⟨p, h, q⟩ => ⟨p, h, sql_ex e q⟩
theorem seq_rd {K : PySem.W.Frag} {H : Hp} {p : Addr} {vs : List V} (h : Rd H p (.lst vs)) : SqL K H p vs := .inl h

/-- a thing of one's own, with things of one's own in it (at ps) -/
class Od (α : Type) where
  dh : PySem.W.Frag → Hp → Hp → HO → List Addr → α → Prop
  mono : ∀ {K : PySem.W.Frag} {R R' H H' : Hp} {o : HO} {ps : List Addr} {a : α}, Ex R R' → (∀ c ∈ ps, ∀ u, H c = some u → H' c = some u) → dh K R H o ps a → dh K R' H' o ps a
  there : ∀ {K : PySem.W.Frag} {R H : Hp} {o : HO} {ps : List Addr} {a : α}, dh K R H o ps a → ∀ c ∈ ps, ∃ u, H c = some u ∧ isT u = false
  nt : ∀ {K : PySem.W.Frag} {R H : Hp} {o : HO} {ps : List Addr} {a : α}, dh K R H o ps a → isT o = false
/-! ### slots -/
inductive Slot : Type 1
  | any
  | v {α : Type} [Py α] (a : α)
  | b {α : Type} [Py α] (a : α)
  | own {α : Type} [Ob α] (a : α)
  | deep {α : Type} [Od α] (a : α)
def SlotOk (K : PySem.W.Frag) (R0 H0 R H : Hp) (x : Option V) (s : Slot) (os : List Addr) : Prop :=
  match s with
  | .any => os = []
  | @Slot.v _ i a => os = [] ∧ ∃ v, x = some v ∧ @Py.rep _ i K R v a
  | @Slot.b _ i a => os = [] ∧ ∃ v, x = some v ∧ @Py.bor _ i K R0 H0 v a
  | @Slot.own _ i a => ∃ p o, os = [p] ∧ x = some (.ref p) ∧ H p = some o ∧ @Ob.ho _ i K R o a
  | @Slot.deep _ i a => ∃ p o ps, os = p :: ps ∧ x = some (.ref p) ∧ H p = some o ∧ @Od.dh _ i K R H o ps a
def SlotsOk (K : PySem.W.Frag) (R0 H0 R H : Hp) : List Slot → L2.St → List Addr → Prop
  | [], [], os => os = []
  | s :: Γ, x :: σ, os => ∃ o1 o2, os = o1 ++ o2 ∧ SlotOk K R0 H0 R H x s o1 ∧ SlotsOk K R0 H0 R H Γ σ o2
  | _, _, _ => False
structure Sat (K : PySem.W.Frag) (R0 H0 : Hp) (Γ : List Slot) (σ : L2.St) (R H : Hp) : Prop where
  sl : ∃ os, SlotsOk K R0 H0 R H Γ σ os ∧ os.Nodup ∧ ∀ p ∈ os, R p = none ∧ H0 p = none
  e0 : Ext R0 H0 R H
section
variable {K : PySem.W.Frag} {R0 H0 R H R' H' : Hp} {Γ : List Slot} {σ : L2.St} {os : List Addr}
theorem SlotOk.ext {x : Option V} {s : Slot} (er : Ex R R') (eh : ∀ p ∈ os, ∀ o, H p = some o → H' p = some o) (h : SlotOk K R0 H0 R H x s os) : SlotOk K R0 H0 R' H' x s os := by
  cases s with
  | any => exact h
  | v a =>
    obtain ⟨e, v, e2, q⟩ := h
    exact ⟨e, v, e2, Py.mono er q⟩
  | b a => exact h
  | own a =>
    obtain ⟨p, o, e, e2, h, q⟩ := h
    exact ⟨p, o, e, e2, eh p (by rw [e]; exact List.mem_singleton.mpr rfl) o h, Ob.mono er q⟩
  | deep a =>
    obtain ⟨p, o, ps, e, e2, h, q⟩ := h
    subst e
    exact ⟨p, o, ps, rfl, e2, eh p List.mem_cons_self o h, Od.mono er (fun c hc u hu => eh c (List.mem_cons_of_mem _ hc) u hu) q⟩
theorem SlotsOk.ext (er : Ex R R') : ∀ {Γ : List Slot} {σ : L2.St} {os : List Addr}, (∀ p ∈ os, ∀ o, H p = some o → H' p = some o) → SlotsOk K R0 H0 R H Γ σ os → SlotsOk K R0 H0 R' H' Γ σ os
  | [], [], _, _, h => h
  | [], _ :: _, _, _, h => h.elim
  | _ :: _, [], _, _, h => h.elim
  | s :: Γ, x :: σ, os, eh, h => by
    obtain ⟨o1, o2, e, h1, h2⟩ := h
    subst e
    exact ⟨o1, o2, rfl, h1.ext er fun p hp => eh p (List.mem_append_left _ hp), h2.ext er fun p hp => eh p (List.mem_append_right _ hp)⟩
theorem SlotsOk.there : ∀ {Γ : List Slot} {σ : L2.St} {os : List Addr}, SlotsOk K R0 H0 R H Γ σ os → ∀ p ∈ os, ∃ o, H p = some o ∧ isT o = false
  | [], [], os, h, p, hp => by
    have h : os = [] := h
    subst h
    cases hp
  | [], _ :: _, _, h, _, _ => h.elim
  | _ :: _, [], _, h, _, _ => h.elim
  | s :: Γ, x :: σ, os, h, p, hp => by
    obtain ⟨o1, o2, e, h1, h2⟩ := h
    subst e
    rcases List.mem_append.mp hp with hp | hp
    · cases s with
      | any =>
        have h1 : o1 = [] := h1
        subst h1
        cases hp
      | v a =>
        obtain ⟨e, _⟩ := h1
        subst e
        cases hp
      | b a =>
        obtain ⟨e, _⟩ := h1
        subst e
        cases hp
      | own a =>
        obtain ⟨q, o, e, _, h, g⟩ := h1
        subst e
        cases List.mem_singleton.mp hp
        exact ⟨o, h, Ob.nt g⟩
      | deep a =>
        obtain ⟨q, o, ps, e, _, h, g⟩ := h1
        subst e
        rcases List.mem_cons.mp hp with hp | hp
        · subst hp
          exact ⟨o, h, Od.nt g⟩
        · exact Od.there g p hp
    · exact h2.there p hp
theorem Sat.ext (S : Sat K R0 H0 Γ σ R H) (e : Ext R H R' H') : Sat K R0 H0 Γ σ R' H' := by
  obtain ⟨⟨os, s, nd, fr⟩, e0⟩ := S
  refine ⟨⟨os, s.ext e.r (fun p _ o h => e.h p o h), nd, fun p hp => ?_⟩, e0.trans e⟩
  obtain ⟨o, ho, t⟩ := s.there p hp
  exact ⟨e.n p o t ho (fr p hp).1, (fr p hp).2⟩
theorem Sat.i (S : Sat K R0 H0 Γ σ R H) : Ex R H := S.e0.i
/-- the slot at i, and the rest with another one in its place -/
theorem SlotsOk.at : ∀ {Γ : List Slot} {σ : L2.St} {os : List Addr} {i : Nat} {s : Slot}, SlotsOk K R0 H0 R H Γ σ os → Γ[i]? = some s → ∃ x o1 oa ob, σ[i]? = some x ∧ os = oa ++ (o1 ++ ob) ∧ SlotOk K R0 H0 R H x s o1 ∧
    ∀ (R' H' : Hp) (s' : Slot) (x' : Option V) (o1' : List Addr), Ex R R' → (∀ p ∈ oa ++ ob, ∀ o, H p = some o → H' p = some o) → SlotOk K R0 H0 R' H' x' s' o1' → SlotsOk K R0 H0 R' H' (Γ.set i s') (σ.set i x') (oa ++ (o1' ++ ob))
  | [], [], _, i, s, _, e => by simp at e
  | [], _ :: _, _, _, _, h, _ => h.elim
  | _ :: _, [], _, _, _, h, _ => h.elim
  | s0 :: Γ, x :: σ, os, 0, s, h, e => by
    obtain ⟨o1, o2, e1, h1, h2⟩ := h
    have e : s0 = s := Option.some.inj e
    subst e
    refine ⟨x, o1, [], o2, rfl, e1, h1, fun R' H' s' x' o1' er k q => ⟨o1', o2, rfl, q, h2.ext er fun p hp => k p hp⟩⟩
  | s0 :: Γ, x :: σ, os, i + 1, s, h, e => by
    obtain ⟨o1, o2, e1, h1, h2⟩ := h
    obtain ⟨y, p1, pa, pb, g1, g2, g3, g4⟩ := SlotsOk.at (i := i) (s := s) h2 e
    refine ⟨y, p1, o1 ++ pa, pb, g1, by rw [e1, g2, List.append_assoc], g3, fun R' H' s' x' o1' er k q => ?_⟩
    refine ⟨o1, pa ++ (o1' ++ pb), by rw [List.append_assoc], h1.ext er fun p hp => k p (List.mem_append_left _ (List.mem_append_left _ hp)), g4 R' H' s' x' o1' er (fun p hp => k p ?_) q⟩
    rw [List.append_assoc]
    exact List.mem_append_right _ hp
variable (S : Sat K R0 H0 Γ σ R H)
include S
theorem Sat.get_v {α : Type} [Py α] {a : α} {i : Nat} (e : Γ[i]? = some (.v a)) : ∃ v, σ[i]? = some (some v) ∧ rep K R v a := by
  obtain ⟨⟨os, s, nd, fr⟩, e0⟩ := S
  obtain ⟨x, o1, oa, ob, h1, h2, ⟨_, v, hx, hr⟩, h4⟩ := s.at e
  subst hx
  exact ⟨v, h1, hr⟩
theorem Sat.get_b {α : Type} [Py α] {a : α} {i : Nat} (e : Γ[i]? = some (.b a)) : ∃ v, σ[i]? = some (some v) ∧ bor K R0 H0 v a := by
  obtain ⟨⟨os, s, nd, fr⟩, e0⟩ := S
  obtain ⟨x, o1, oa, ob, h1, h2, ⟨_, v, hx, hr⟩, h4⟩ := s.at e
  subst hx
  exact ⟨v, h1, hr⟩
/-- what is owned may be changed; or given away, frozen -/
theorem Sat.get_own {α : Type} [Ob α] {a : α} {i : Nat} (e : Γ[i]? = some (.own a)) : ∃ p o, σ[i]? = some (some (.ref p)) ∧ H p = some o ∧ ho K R o a ∧ R p = none ∧ H0 p = none ∧
    ∀ (R' H' : Hp) {β : Type} [Ob β] (o' : HO) (b : β), Ext R H R' H' → ho K R' o' b → Sat K R0 H0 (Γ.set i (.own b)) σ R' (upd H' p o') := by
  obtain ⟨⟨os, s, nd, fr⟩, e0⟩ := S
  obtain ⟨x, o1, oa, ob, h1, h2, ⟨p, o, e1, hx, hp, hr⟩, h4⟩ := s.at e
  subst hx e1 h2
  have hm : p ∈ oa ++ ([p] ++ ob) := List.mem_append_right _ (List.mem_append_left _ (List.mem_singleton.mpr rfl))
  obtain ⟨f1, f2⟩ := fr p hm
  refine ⟨p, o, h1, hp, hr, f1, f2, fun R' H' β _ o' b ex q => ?_⟩
  have f3 : R' p = none := ex.n p o (Ob.nt hr) hp f1
  have hset : σ.set i (some (.ref p)) = σ := by
    refine List.ext_getElem? fun j => ?_
    rw [List.getElem?_set]
    split
    · rename_i hij
      subst hij
      split
      · exact h1.symm
      · rename_i hj
        exact (List.getElem?_eq_none_iff.mpr (Nat.le_of_not_lt hj)).symm
    · rfl
  refine ⟨⟨oa ++ ([p] ++ ob), ?_, nd, fun z hz => ?_⟩, ?_⟩
  · have g := h4 R' (upd H' p o') (.own b) (some (.ref p)) [p] ex.r (fun z hz u hu => ?_) ⟨p, o', rfl, rfl, upd_same, q⟩
    · rw [hset] at g
      exact g
    · have hne : z ≠ p := fun hzp => by
        subst hzp
        have hc := List.nodup_append.mp nd
        rcases List.mem_append.mp hz with hz | hz
        · exact hc.2.2 z hz z (List.mem_append_left _ (List.mem_singleton.mpr rfl)) rfl
        · have := (List.nodup_append.mp hc.2.1).2.2 z (List.mem_singleton.mpr rfl) z hz
          exact this rfl
      rw [upd_ne hne]
      exact ex.h z u hu
  · obtain ⟨u, hu, t⟩ := s.there z hz
    exact ⟨ex.n z u t hu (fr z hz).1, (fr z hz).2⟩
  · refine ⟨e0.r.trans ex.r, (e0.h.trans ex.h).mut f2, fun z u hz => ?_, fun z u t hz hn => ex.n z u t (e0.h z u hz) (e0.n z u t hz hn)⟩
    rw [upd_ne (ne_of_none hz f3)]
    exact ex.i z u hz
/-- a slot forgotten -/
theorem Sat.set_any {i : Nat} (x : Option V) (hi : i < Γ.length) : Sat K R0 H0 (Γ.set i .any) (σ.set i x) R H := by
  obtain ⟨⟨os, s, nd, fr⟩, e0⟩ := S
  obtain ⟨y, o1, oa, ob, h1, h2, _, h4⟩ := s.at (s := Γ[i]) (List.getElem?_eq_getElem hi)
  subst h2
  refine ⟨⟨oa ++ ([] ++ ob), h4 R H .any x [] (.refl _) (fun _ _ _ q => q) rfl, ?_, fun p hp => fr p ?_⟩, e0⟩
  · exact nd.sublist (List.Sublist.append (List.Sublist.refl _) (List.Sublist.append (List.nil_sublist _) (List.Sublist.refl _)))
  · exact (List.Sublist.append (List.Sublist.refl _) (List.Sublist.append (List.nil_sublist _) (List.Sublist.refl _))).mem hp
theorem Sat.set_v {α : Type} [Py α] {a : α} {v : V} {i : Nat} (hi : i < Γ.length) (h : rep K R v a) : Sat K R0 H0 (Γ.set i (.v a)) (σ.set i (some v)) R H := by
  obtain ⟨⟨os, s, nd, fr⟩, e0⟩ := S
  obtain ⟨y, o1, oa, ob, h1, h2, _, h4⟩ := s.at (s := Γ[i]) (List.getElem?_eq_getElem hi)
  subst h2
  refine ⟨⟨oa ++ ([] ++ ob), h4 R H (.v a) (some v) [] (.refl _) (fun _ _ _ q => q) ⟨rfl, v, rfl, h⟩, ?_, fun p hp => fr p ?_⟩, e0⟩
  · exact nd.sublist (List.Sublist.append (List.Sublist.refl _) (List.Sublist.append (List.nil_sublist _) (List.Sublist.refl _)))
  · exact (List.Sublist.append (List.Sublist.refl _) (List.Sublist.append (List.nil_sublist _) (List.Sublist.refl _))).mem hp
/-- a new thing of one's own into a slot -/
theorem Sat.set_own {α : Type} [Ob α] {a : α} {p : Addr} {o : HO} {i : Nat} {R' H' : Hp} (hi : i < Γ.length) (ex : Ext R H R' H') (hn : H p = none) (hp : H' p = some o) (hR : R' p = none) (h : ho K R' o a) : Sat K R0 H0 (Γ.set i (.own a)) (σ.set i (some (.ref p))) R' H' := by
  have S2 := S.ext ex
  obtain ⟨⟨os, s, nd, fr⟩, e0⟩ := S
  have th := s.there
  obtain ⟨y, o1, oa, ob, h1, h2, _, h4⟩ := s.at (s := Γ[i]) (List.getElem?_eq_getElem hi)
  subst h2
  have sub : (oa ++ ob).Sublist (oa ++ (o1 ++ ob)) := List.Sublist.append (List.Sublist.refl _) (List.sublist_append_right _ _)
  have npm : p ∉ oa ++ ob := fun hm => by
    obtain ⟨u, hu, _⟩ := th p (sub.mem hm)
    rw [hn] at hu
    cases hu
  refine ⟨⟨oa ++ ([p] ++ ob), h4 R' H' (.own a) (some (.ref p)) [p] ex.r (fun z _ u q => ex.h z u q) ⟨p, o, rfl, rfl, hp, h⟩, ?_, fun z hz => ?_⟩, S2.e0⟩
  · have pm : (p :: (oa ++ ob)).Perm (oa ++ ([p] ++ ob)) := List.perm_middle.symm
    exact pm.nodup_iff.mp (List.nodup_cons.mpr ⟨npm, nd.sublist sub⟩)
  · rcases List.mem_append.mp hz with hz | hz
    · obtain ⟨u, hu, t⟩ := th z (List.mem_append_left _ hz)
      exact ⟨ex.n z u t hu (fr z (List.mem_append_left _ hz)).1, (fr z (List.mem_append_left _ hz)).2⟩
    · rcases List.mem_cons.mp hz with hz | hz
      · subst hz
        exact ⟨hR, e0.h.none hn⟩
      · have hm : z ∈ oa ++ (o1 ++ ob) := List.mem_append_right _ (List.mem_append_right _ hz)
        obtain ⟨u, hu, t⟩ := th z hm
        exact ⟨ex.n z u t hu (fr z hm).1, (fr z hm).2⟩
/-- what is one's own is frozen -/
theorem Sat.freeze {α : Type} [Ob α] {a : α} {i : Nat} (e : Γ[i]? = some (.own a)) : ∃ R', Ex R R' ∧ Sat K R0 H0 (Γ.set i (.v a)) σ R' H := by
  obtain ⟨⟨os, s, nd, fr⟩, e0⟩ := S
  have th := s.there
  obtain ⟨x, o1, oa, ob, h1, h2, ⟨p, o, e1, hx, hp, hr⟩, h4⟩ := s.at e
  subst hx e1 h2
  have hm : p ∈ oa ++ ([p] ++ ob) := List.mem_append_right _ (List.mem_append_left _ (List.mem_singleton.mpr rfl))
  obtain ⟨f1, f2⟩ := fr p hm
  have er : Ex R (upd R p o) := .new f1
  have hset : σ.set i (some (.ref p)) = σ := by
    refine List.ext_getElem? fun j => ?_
    rw [List.getElem?_set]
    split
    · rename_i hij
      subst hij
      split
      · exact h1.symm
      · rename_i hj
        exact (List.getElem?_eq_none_iff.mpr (Nat.le_of_not_lt hj)).symm
    · rfl
  have sub : (oa ++ ([] ++ ob)).Sublist (oa ++ ([p] ++ ob)) := List.Sublist.append (List.Sublist.refl _) (List.Sublist.append (List.nil_sublist _) (List.Sublist.refl _))
  have hne : ∀ z ∈ oa ++ ob, z ≠ p := fun z hz hzp => by
    subst hzp
    have hc := List.nodup_append.mp nd
    rcases List.mem_append.mp hz with hz | hz
    · exact hc.2.2 z hz z (List.mem_append_left _ (List.mem_singleton.mpr rfl)) rfl
    · have := (List.nodup_append.mp hc.2.1).2.2 z (List.mem_singleton.mpr rfl) z hz
      exact this rfl
  refine ⟨upd R p o, er, ⟨oa ++ ([] ++ ob), ?_, nd.sublist sub, fun z hz => ?_⟩, ?_⟩
  · have g := h4 (upd R p o) H (.v a) (some (.ref p)) [] er (fun z _ u hu => hu) ⟨rfl, .ref p, rfl, p, o, rfl, .inl upd_same, Ob.mono er hr⟩
    rw [hset] at g
    exact g
  · obtain ⟨g1, g2⟩ := fr z (sub.mem hz)
    exact ⟨by rw [upd_ne (hne z hz)]; exact g1, g2⟩
  · refine ⟨e0.r.trans er, e0.h, e0.i.put hp, fun z u t hz hn => ?_⟩
    rw [upd_ne (ne_of_none hz f2)]
    exact e0.n z u t hz hn
omit S
end
end FK

namespace FK
open PySem PySem.Spec PyProof.Rows L2

/-! ### the text's own transformers -/
def eSem (X : Cx) (e : Expr) : TE := fun σ H Q => ∀ pins s, Inv X pins σ H s → wpAny (model X.prog X.w) X.A (eval e X.env) (EP X pins σ Q) X.xe s
def tSem (X : Cx) (e : Expr) : TT := fun σ H Q => ∀ pins s, Inv X pins σ H s → wpAny (model X.prog X.w) X.A (isTrue e X.env (eval e X.env)) (TP X pins σ Q) X.xe s
def wSem (X : Cx) (e : Expr) : TT := fun σ H Q => ∀ whole pins s, Inv X pins σ H s → wpAny (model X.prog X.w) X.A (isTrue e X.env whole) (TP X pins σ Q) X.xe s
def aSem (X : Cx) (es : List Expr) : TA := fun σ H Q => ∀ (pos : Pos) pins s, Inv X pins σ H s → wpAny (model X.prog X.w) X.A (spliced (backTo pos (starEach es X.env))) (AP X pins σ Q) X.xe s
def sSem (X : Cx) (st : List Stmt) : TS := fun D σ H => ∀ pins s, Inv X pins σ H s → wpAny (model X.prog X.w) X.A (execs st X.env) (SP X pins D) X.xe s
def s1Sem (X : Cx) (st : Stmt) : TS := fun D σ H => ∀ pins s, Inv X pins σ H s → wpAny (model X.prog X.w) X.A (exec st X.env) (SP X pins D) X.xe s
def iSem (X : Cx) (tg iter : Expr) : TI := fun σ H R => ∀ pins s, Inv X pins σ H s →
    wpAny (model X.prog X.w) X.A (eval iter X.env) (fun v s1 => wpAny (model X.prog X.w) X.A (pyIter v) (PIE X pins σ tg R) X.xe s1) X.xe s
def gSem (X : Cx) (tg : Expr) : TG := fun v σ H Q => ∀ pins s (u : Value), Inv X pins σ H s → RelV v u → wpAny (model X.prog X.w) X.A (assign tg X.env u) (fun _ s' => ∃ σ' H', Inv X pins σ' H' s' ∧ Q σ' H') X.xe s
def oSem (X : Cx) (e : Option Expr) : TO := fun σ H Q => ∀ pins s, Inv X pins σ H s → wpAny (model X.prog X.w) X.A (evalPart e X.env) (fun u s' => ∃ o H', Inv X pins σ H' s' ∧ IsPart u o ∧ Q o H') X.xe s
section
variable {X : Cx}
theorem eS {e : Expr} : PE X e (eSem X e) := ⟨fun pins s σ H Q I h => h pins s I⟩
theorem tS {e : Expr} : PT X e (tSem X e) := ⟨fun pins s σ H Q I h => h pins s I⟩
theorem wS {e : Expr} : PW X e (wSem X e) := ⟨fun wh pins s σ H Q I h => h wh pins s I⟩
theorem aS {es : List Expr} : PA X es (aSem X es) := ⟨fun pos pins s σ H Q I h => h pos pins s I⟩
theorem sS {st : List Stmt} : PSs X st (sSem X st) := ⟨fun pins s σ H D I h => h pins s I⟩
theorem s1S {st : Stmt} : PS X st (s1Sem X st) := ⟨fun pins s σ H D I h => h pins s I⟩
theorem iS {tg e : Expr} : PI X tg e (iSem X tg e) := ⟨fun pins s σ H R I h => h pins s I⟩
theorem gS {tg : Expr} : PG X tg (gSem X tg) := ⟨fun pins s σ H v u Q I r h => h pins s u I r⟩
theorem oS {e : Option Expr} : PO X e (oSem X e) := ⟨fun pins s σ H Q I h => h pins s I⟩
theorem PE_to {e : Expr} {t : TE} (h : PE X e t) {σ : L2.St} {H : Hp} {Q : VK} (q : t σ H Q) : eSem X e σ H Q := fun pins s I => h.run pins s σ H Q I q
theorem PT_to {e : Expr} {t : TT} (h : PT X e t) {σ : L2.St} {H : Hp} {Q : Bool → Hp → Prop} (q : t σ H Q) : tSem X e σ H Q := fun pins s I => h.run pins s σ H Q I q
theorem PW_to {e : Expr} {t : TT} (h : PW X e t) {σ : L2.St} {H : Hp} {Q : Bool → Hp → Prop} (q : t σ H Q) : wSem X e σ H Q := fun wh pins s I => h.run wh pins s σ H Q I q
theorem PA_to {es : List Expr} {t : TA} (h : PA X es t) {σ : L2.St} {H : Hp} {Q : List V → Hp → Prop} (q : t σ H Q) : aSem X es σ H Q := fun pos pins s I => h.run pos pins s σ H Q I q
theorem PSs_to {st : List Stmt} {t : TS} (h : PSs X st t) {σ : L2.St} {H : Hp} {D : Ends} (q : t D σ H) : sSem X st D σ H := fun pins s I => h.run pins s σ H D I q
theorem PS_to {st : Stmt} {t : TS} (h : PS X st t) {σ : L2.St} {H : Hp} {D : Ends} (q : t D σ H) : s1Sem X st D σ H := fun pins s I => h.run pins s σ H D I q
theorem PI_to {tg e : Expr} {t : TI} (h : PI X tg e t) {σ : L2.St} {H : Hp} {R : It → Hp → Prop} (q : t σ H R) : iSem X tg e σ H R := fun pins s I => h.run pins s σ H R I q
end

/-! ### the judgements: e gives what m says, in any state that Γ tells -/
/-- a frozen value | one that may be read | a new thing of one's own | a test | arguments -/
structure JE (X : Cx) (R0 H0 : Hp) (Γ : List Slot) (e : Expr) {α : Type} [Py α] (m : Option α) : Prop where
  run : ∀ σ R H, Sat X.K R0 H0 Γ σ R H → ∀ a, m = some a → ∀ Q : VK, (∀ v R' H', Ext R H R' H' → rep X.K R' v a → Q v H') → eSem X e σ H Q
instance {X : Cx} {R0 H0 : Hp} {Γ : List Slot} {e : Expr} {α : Type} [Py α] {m : Option α} : CoeFun (JE X R0 H0 Γ e m) fun _ => ∀ σ R H, Sat X.K R0 H0 Γ σ R H → ∀ a, m = some a → ∀ Q : VK, (∀ v R' H', Ext R H R' H' → rep X.K R' v a → Q v H') → eSem X e σ H Q := ⟨JE.run⟩
structure JB (X : Cx) (R0 H0 : Hp) (Γ : List Slot) (e : Expr) {α : Type} [Py α] (m : Option α) : Prop where
  run : ∀ σ R H, Sat X.K R0 H0 Γ σ R H → ∀ a, m = some a → ∀ Q : VK, (∀ v R' H', Ext R H R' H' → bor X.K R' H' v a → Q v H') → eSem X e σ H Q
instance {X : Cx} {R0 H0 : Hp} {Γ : List Slot} {e : Expr} {α : Type} [Py α] {m : Option α} : CoeFun (JB X R0 H0 Γ e m) fun _ => ∀ σ R H, Sat X.K R0 H0 Γ σ R H → ∀ a, m = some a → ∀ Q : VK, (∀ v R' H', Ext R H R' H' → bor X.K R' H' v a → Q v H') → eSem X e σ H Q := ⟨JB.run⟩
structure JO (X : Cx) (R0 H0 : Hp) (Γ : List Slot) (e : Expr) {α : Type} [Ob α] (m : Option α) : Prop where
  run : ∀ σ R H, Sat X.K R0 H0 Γ σ R H → ∀ a, m = some a → ∀ Q : VK, (∀ p o R' H', Ext R H R' H' → H p = none → H' p = some o → R' p = none → ho X.K R' o a → Q (.ref p) H') → eSem X e σ H Q
instance {X : Cx} {R0 H0 : Hp} {Γ : List Slot} {e : Expr} {α : Type} [Ob α] {m : Option α} : CoeFun (JO X R0 H0 Γ e m) fun _ => ∀ σ R H, Sat X.K R0 H0 Γ σ R H → ∀ a, m = some a → ∀ Q : VK, (∀ p o R' H', Ext R H R' H' → H p = none → H' p = some o → R' p = none → ho X.K R' o a → Q (.ref p) H') → eSem X e σ H Q := ⟨JO.run⟩
structure JT (X : Cx) (R0 H0 : Hp) (Γ : List Slot) (e : Expr) (m : Option Bool) : Prop where
  run : ∀ σ R H, Sat X.K R0 H0 Γ σ R H → ∀ a, m = some a → ∀ Q : Bool → Hp → Prop, (∀ R' H', Ext R H R' H' → Q a H') → tSem X e σ H Q
instance {X : Cx} {R0 H0 : Hp} {Γ : List Slot} {e : Expr} {m : Option Bool} : CoeFun (JT X R0 H0 Γ e m) fun _ => ∀ σ R H, Sat X.K R0 H0 Γ σ R H → ∀ a, m = some a → ∀ Q : Bool → Hp → Prop, (∀ R' H', Ext R H R' H' → Q a H') → tSem X e σ H Q := ⟨JT.run⟩
structure JW (X : Cx) (R0 H0 : Hp) (Γ : List Slot) (e : Expr) (m : Option Bool) : Prop where
  run : ∀ σ R H, Sat X.K R0 H0 Γ σ R H → ∀ a, m = some a → ∀ Q : Bool → Hp → Prop, (∀ R' H', Ext R H R' H' → Q a H') → wSem X e σ H Q
instance {X : Cx} {R0 H0 : Hp} {Γ : List Slot} {e : Expr} {m : Option Bool} : CoeFun (JW X R0 H0 Γ e m) fun _ => ∀ σ R H, Sat X.K R0 H0 Γ σ R H → ∀ a, m = some a → ∀ Q : Bool → Hp → Prop, (∀ R' H', Ext R H R' H' → Q a H') → wSem X e σ H Q := ⟨JW.run⟩
structure JP (X : Cx) (R0 H0 : Hp) (Γ : List Slot) (e : Option Expr) (m : Option (Option Int)) : Prop where
  run : ∀ σ R H, Sat X.K R0 H0 Γ σ R H → ∀ a, m = some a → ∀ Q : Option Int → Hp → Prop, (∀ R' H', Ext R H R' H' → Q a H') → oSem X e σ H Q
instance {X : Cx} {R0 H0 : Hp} {Γ : List Slot} {e : Option Expr} {m : Option (Option Int)} : CoeFun (JP X R0 H0 Γ e m) fun _ => ∀ σ R H, Sat X.K R0 H0 Γ σ R H → ∀ a, m = some a → ∀ Q : Option Int → Hp → Prop, (∀ R' H', Ext R H R' H' → Q a H') → oSem X e σ H Q := ⟨JP.run⟩
class Ar (γ : Type) where
  ok : PySem.W.Frag → Hp → Hp → List V → γ → Prop
  mono : ∀ {K : PySem.W.Frag} {R R' H H' : Hp} {vs : List V} {g : γ}, Ex R R' → Ex H H' → ok K R H vs g → ok K R' H' vs g
  slots : γ → List Slot
  sl : ∀ {K : PySem.W.Frag} {R H R' H' : Hp} {vs : List V} {g : γ}, ok K R H vs g → ∀ {Γ : List Slot} {σ : L2.St} {os : List Addr}, SlotsOk K R H R' H' Γ σ os → SlotsOk K R H R' H' (slots g ++ Γ) (vs.map some ++ σ) os
instance instArU : Ar Unit where
  ok := fun _ _ _ vs _ => vs = []
  mono := fun _ _ h => h
  slots := fun _ => []
  sl := fun {K R H R' H' vs g} h {Γ σ os} s => by
    subst h
    exact s
instance instArC {α γ : Type} [Py α] [Ar γ] : Ar (α × γ) where
  ok := fun K R H vs g => ∃ v r, vs = v :: r ∧ bor K R H v g.1 ∧ Ar.ok K R H r g.2
  mono := fun e1 e2 ⟨v, r, h, b, q⟩ => ⟨v, r, h, Py.bmono e1 e2 b, Ar.mono e1 e2 q⟩
  slots := fun g => .b g.1 :: Ar.slots g.2
  sl := fun {K R H R' H' vs g} h {Γ σ os} s => by
    obtain ⟨v, r, rfl, b, q⟩ := h
    exact ⟨[], os, rfl, ⟨rfl, v, rfl, b⟩, Ar.sl q s⟩
structure JA (X : Cx) (R0 H0 : Hp) (Γ : List Slot) (es : List Expr) {γ : Type} [Ar γ] (m : Option γ) : Prop where
  run : ∀ σ R H, Sat X.K R0 H0 Γ σ R H → ∀ g, m = some g → ∀ Q : List V → Hp → Prop, (∀ vs R' H', Ext R H R' H' → Ar.ok X.K R' H' vs g → Q vs H') → aSem X es σ H Q
instance {X : Cx} {R0 H0 : Hp} {Γ : List Slot} {es : List Expr} {γ : Type} [Ar γ] {m : Option γ} : CoeFun (JA X R0 H0 Γ es m) fun _ => ∀ σ R H, Sat X.K R0 H0 Γ σ R H → ∀ g, m = some g → ∀ Q : List V → Hp → Prop, (∀ vs R' H', Ext R H R' H' → Ar.ok X.K R' H' vs g → Q vs H') → aSem X es σ H Q := ⟨JA.run⟩
/-- an exception of the program: its class's name, what it carries -/
inductive Pl
  | no
  | int (f : Str) (x : Int)
  | str (f : Str) (x : Str)
  | txts (f : Str) (x : List Str)
structure Xv where
  c : Str
  p : Pl
def PlOk (K : PySem.W.Frag) (R : Hp) (d : Option Addr) : Pl → Prop
  | .no => d = none
  | .int f x => ∃ dd, d = some dd ∧ R dd = some (.xd [(f, .int x)])
  | .str f x => ∃ dd, d = some dd ∧ R dd = some (.xd [(f, .str x)])
  | .txts f x => ∃ dd v, d = some dd ∧ R dd = some (.xd [(f, v)]) ∧ rep K R v x
def XOk (K : PySem.W.Frag) (R : Hp) (cls : Value) (d : Option Addr) (x : Xv) : Prop := ∃ C, PySem.W.nsIn K mainGlobals x.c = some (some (.ref C)) ∧ cls = .ref C ∧ PlOk K R d x.p
theorem XOk.mono {K : PySem.W.Frag} {R R' : Hp} {cls : Value} {d : Option Addr} {x : Xv} (e : Ex R R') (h : XOk K R cls d x) : XOk K R' cls d x := by
  obtain ⟨c, p⟩ := x
  obtain ⟨C, h1, h2, h3⟩ := h
  refine ⟨C, h1, h2, ?_⟩
  cases p with
  | no => exact h3
  | int f i =>
    obtain ⟨dd, a, b⟩ := h3
    exact ⟨dd, a, e _ _ b⟩
  | str f i =>
    obtain ⟨dd, a, b⟩ := h3
    exact ⟨dd, a, e _ _ b⟩
  | txts f l =>
    obtain ⟨dd, v, a, b, r⟩ := h3
    exact ⟨dd, v, a, e _ _ b, Py.mono e r⟩
/-- rt, ro, rd: what is given back; ex, et: an exception, in a def | in the body of a try; exn: one without a context -/
inductive Out : Type 1
  | nx (Γ : List Slot)
  | rt {α : Type} [Py α] (a : α)
  | ro {α : Type} [Ob α] (a : α)
  | rd {α : Type} [Od α] (a : α)
  | bk (Γ : List Slot)
  | ct (Γ : List Slot)
  | ex (x : Xv)
  | et (Γ : List Slot) (x : Xv)
  | exn (x : Xv)
def Req (X : Cx) (R0 H0 Rb : Hp) (D : Ends) (o : Out) : Prop := match o with
  | .nx Γ => ∀ σ R H, Ex Rb R → Sat X.K R0 H0 Γ σ R H → D.nx σ H
  | @Out.rt _ i a => ∀ v R H, Ext R0 H0 R H → @Py.rep _ i X.K R v a → D.rt v H
  | @Out.ro _ i a => ∀ p o R H, Ext R0 H0 R H → H0 p = none → H p = some o → R p = none → @Ob.ho _ i X.K R o a → D.rt (.ref p) H
  | @Out.rd _ i a => ∀ p o ps R H, Ext R0 H0 R H → (∀ c ∈ p :: ps, H0 c = none) → (p :: ps).Nodup → H p = some o → (∀ c ∈ p :: ps, R c = none) → @Od.dh _ i X.K R H o ps a → D.rt (.ref p) H
  | .bk Γ => ∀ σ R H, Ex Rb R → Sat X.K R0 H0 Γ σ R H → D.bk σ H
  | .ct Γ => ∀ σ R H, Ex Rb R → Sat X.K R0 H0 Γ σ R H → D.ct σ H
  | .ex x => Takes X fun cls d _ H => ∃ R, Ext R0 H0 R H ∧ XOk X.K R cls d x
  | .et Γ x => Takes X fun cls d σ H => ∃ R, Ex Rb R ∧ Sat X.K R0 H0 Γ σ R H ∧ XOk X.K R cls d x
  | .exn x => L2N.Takes X fun cls d _ H => ∃ R, Ext R0 H0 R H ∧ XOk X.K R cls d x
theorem Req.mono {X : Cx} {R0 H0 R R' : Hp} {D : Ends} {o : Out} (e : Ex R R') (h : Req X R0 H0 R D o) : Req X R0 H0 R' D o := by
  cases o with
  | nx Γ => exact fun σ R2 H e2 S => h σ R2 H (e.trans e2) S
  | rt a => exact h
  | ro a => exact h
  | rd a => exact h
  | bk Γ => exact fun σ R2 H e2 S => h σ R2 H (e.trans e2) S
  | ct Γ => exact fun σ R2 H e2 S => h σ R2 H (e.trans e2) S
  | ex x => exact h
  | et Γ x => exact Takes.imp h fun cls d σ H ⟨R2, e2, q⟩ => ⟨R2, e.trans e2, q⟩
  | exn x => exact h
/-- statements: the outcome that m says -/
structure JS (X : Cx) (R0 H0 : Hp) (Γ : List Slot) (st : List Stmt) {β : Type} (m : Option β) (out : β → Out) : Prop where
  run : ∀ σ R H, Sat X.K R0 H0 Γ σ R H → ∀ b, m = some b → ∀ D : Ends, Req X R0 H0 R D (out b) → sSem X st D σ H
instance {X : Cx} {R0 H0 : Hp} {Γ : List Slot} {st : List Stmt} {β : Type} {m : Option β} {out : β → Out} : CoeFun (JS X R0 H0 Γ st m out) fun _ => ∀ σ R H, Sat X.K R0 H0 Γ σ R H → ∀ b, m = some b → ∀ D : Ends, Req X R0 H0 R D (out b) → sSem X st D σ H := ⟨JS.run⟩
structure J1 (X : Cx) (R0 H0 : Hp) (Γ : List Slot) (st : Stmt) {β : Type} (m : Option β) (out : β → Out) : Prop where
  run : ∀ σ R H, Sat X.K R0 H0 Γ σ R H → ∀ b, m = some b → ∀ D : Ends, Req X R0 H0 R D (out b) → s1Sem X st D σ H
instance {X : Cx} {R0 H0 : Hp} {Γ : List Slot} {st : Stmt} {β : Type} {m : Option β} {out : β → Out} : CoeFun (J1 X R0 H0 Γ st m out) fun _ => ∀ σ R H, Sat X.K R0 H0 Γ σ R H → ∀ b, m = some b → ∀ D : Ends, Req X R0 H0 R D (out b) → s1Sem X st D σ H := ⟨J1.run⟩

theorem bind_some' {α β : Type} {m : Option α} {f : α → Option β} {b : β} (h : m.bind f = some b) : ∃ a, m = some a ∧ f a = some b := by
  cases m with
  | none => cases h
  | some a => exact ⟨a, rfl, h⟩
class Flat (α : Type) [Py α] : Prop where
  flat : ∀ {K : PySem.W.Frag} {R H : Hp} {v : V} {a : α}, bor K R H v a → rep K R v a
instance : Flat Int := ⟨fun h => h⟩
instance : Flat Bool := ⟨fun h => h⟩
instance : Flat Str := ⟨fun h => h⟩
instance : Flat Unit := ⟨fun h => h⟩
instance {α β : Type} [Py α] [Py β] : Flat (α × β) := ⟨fun h => h⟩
instance {α β γ : Type} [Py α] [Py β] [Py γ] : Flat (T3 α β γ) := ⟨fun h => h⟩

def imod (x y : Int) : Option Int := if 0 < y then some (x % y) else none
def ifdiv (x y : Int) : Option Int := if 0 < y ∧ y < 2 ^ 64 then some (x / y) else none
def imul (x y : Int) : Option Int := if (-(2 ^ 64) < x ∧ x < 2 ^ 64) ∨ (-(2 ^ 64) < y ∧ y < 2 ^ 64) then some (x * y) else none
section
variable {X : Cx} {R0 H0 : Hp} {Γ : List Slot} {e a b : Expr} {pos : Pos}
/-! ### between the judgements -/
theorem jb_e {α : Type} [Py α] {m : Option α} (h : JE X R0 H0 Γ e m) : JB X R0 H0 Γ e m := .mk fun σ R H S a ea Q q => h σ R H S a ea Q fun v R' H' x r => q v R' H' x (Py.lend x.i r)
theorem je_f {α : Type} [Py α] [Flat α] {m : Option α} (h : JB X R0 H0 Γ e m) : JE X R0 H0 Γ e m := .mk fun σ R H S a ea Q q => h σ R H S a ea Q fun v R' H' x r => q v R' H' x (Flat.flat r)
theorem je_o {α : Type} [Ob α] {m : Option α} (h : JO X R0 H0 Γ e m) : JE X R0 H0 Γ e m := .mk fun σ R H S a ea Q q => h σ R H S a ea Q fun p o R' H' x np hp hr hh => by
  refine q (.ref p) (upd R' p o) H' ⟨x.r.trans (.new hr), x.h, x.i.put hp, fun z u t hz hn => ?_⟩ ⟨p, o, rfl, .inl upd_same, Ob.mono (.new hr) hh⟩
  rw [upd_ne (ne_of_none hz np)]
  exact x.n z u t hz hn
theorem jb_o {α : Type} [Ob α] {m : Option α} (h : JO X R0 H0 Γ e m) : JB X R0 H0 Γ e m := jb_e (je_o h)
/-! ### names and constants -/
theorem je_var (i : Nat) {x : Str} {α : Type} [Py α] {c : α} (hΓ : Γ[i]? = some (.v c) := by rfl) (hN : X.N[i]? = some x := by rfl) (hv : Vis X.env.scope x := by first | exact Or.inl rfl | exact Or.inr (Or.inl rfl) | exact Or.inr (Or.inr rfl)) (hd : (x == ("__debug__" : Str)) = false := by decide)
    (hcd : (x == ("__classdict__" : Str)) = false := by decide) : JE X R0 H0 Γ (.Name x pos) (some c) := .mk fun σ R H S a ea Q q => by
  cases ea
  obtain ⟨v, hs, r⟩ := S.get_v hΓ
  exact PE_to (pv i hN hv hd hcd) ⟨v, hs, q v R H (.refl S.i) r⟩
theorem jb_var (i : Nat) {x : Str} {α : Type} [Py α] {c : α} (hΓ : Γ[i]? = some (.b c) := by rfl) (hN : X.N[i]? = some x := by rfl) (hv : Vis X.env.scope x := by first | exact Or.inl rfl | exact Or.inr (Or.inl rfl) | exact Or.inr (Or.inr rfl)) (hd : (x == ("__debug__" : Str)) = false := by decide)
    (hcd : (x == ("__classdict__" : Str)) = false := by decide) : JB X R0 H0 Γ (.Name x pos) (some c) := .mk fun σ R H S a ea Q q => by
  cases ea
  obtain ⟨v, hs, r⟩ := S.get_b hΓ
  exact PE_to (pv i hN hv hd hcd) ⟨v, hs, q v R H (.refl S.i) (Py.bmono S.e0.r S.e0.h r)⟩
theorem jb_own (i : Nat) {x : Str} {α : Type} [Ob α] {c : α} (hΓ : Γ[i]? = some (.own c) := by rfl) (hN : X.N[i]? = some x := by rfl) (hv : Vis X.env.scope x := by first | exact Or.inl rfl | exact Or.inr (Or.inl rfl) | exact Or.inr (Or.inr rfl)) (hd : (x == ("__debug__" : Str)) = false := by decide)
    (hcd : (x == ("__classdict__" : Str)) = false := by decide) : JB X R0 H0 Γ (.Name x pos) (some c) := .mk fun σ R H S a ea Q q => by
  cases ea
  obtain ⟨p, o, hs, hp, hh, _⟩ := S.get_own hΓ
  exact PE_to (pv i hN hv hd hcd) ⟨.ref p, hs, q (.ref p) R H (.refl S.i) ⟨p, o, rfl, .inl hp, hh⟩⟩
theorem je_int {i : Int} {j : Nat} : JE X R0 H0 Γ (.Constant (.int i) j pos) (some i) := .mk fun σ R H S a ea Q q => by
  cases ea
  exact PE_to pe_int (q _ R H (.refl S.i) rfl)
theorem je_str {i : Str} {j : Nat} : JE X R0 H0 Γ (.Constant (.str i) j pos) (some i) := .mk fun σ R H S a ea Q q => by
  cases ea
  exact PE_to pe_str (q _ R H (.refl S.i) rfl)
theorem je_bl {i : Bool} {j : Nat} : JE X R0 H0 Γ (.Constant (.bool i) j pos) (some i) := .mk fun σ R H S a ea Q q => by
  cases ea
  exact PE_to pe_bl (q _ R H (.refl S.i) rfl)
/-! ### two operands -/
theorem je_op2 {α β γ : Type} [Py α] [Py β] [Py γ] {op : Operator} {r : R2} {ma : Option α} {mb : Option β} {f : α → β → Option γ} (ho : OpR X (binaryOp op) r)
    (hr : ∀ (R H : Hp) (v w : V) (x : α) (y : β) (z : γ), Ex R H → bor X.K R H v x → bor X.K R H w y → f x y = some z → ∀ Q : VK, (∀ u R' H', Ext R H R' H' → rep X.K R' u z → Q u H') → r v w H Q)
    (ha : JB X R0 H0 Γ a ma) (hb : JB X R0 H0 Γ b mb) : JE X R0 H0 Γ (.BinOp a op b pos) (ma.bind fun x => mb.bind fun y => f x y) := .mk fun σ R H S z ez Q q => by
  obtain ⟨x, ex, ez⟩ := bind_some' ez
  obtain ⟨y, ey, ez⟩ := bind_some' ez
  refine PE_to (pe_op ho eS eS) (ha σ R H S x ex _ fun v R1 H1 e1 r1 => hb σ R1 H1 (S.ext e1) y ey _ fun w R2 H2 e2 r2 => ?_)
  exact hr R2 H2 v w x y z e2.i (Py.bmono e2.r e2.h r1) r2 ez Q fun u R3 H3 e3 r3 => q u R3 H3 ((e1.trans e2).trans e3) r3
theorem je_cmp2 {α β γ : Type} [Py α] [Py β] [Py γ] {op : CmpOp} {r : R2} {ma : Option α} {mb : Option β} {f : α → β → Option γ} (ho : OpR X (compareOp op) r) (hm : behindInMarks op b = false)
    (hr : ∀ (R H : Hp) (v w : V) (x : α) (y : β) (z : γ), Ex R H → bor X.K R H v x → bor X.K R H w y → f x y = some z → ∀ Q : VK, (∀ u R' H', Ext R H R' H' → rep X.K R' u z → Q u H') → r v w H Q)
    (ha : JB X R0 H0 Γ a ma) (hb : JB X R0 H0 Γ b mb) : JE X R0 H0 Γ (.Compare a [op] [b] pos) (ma.bind fun x => mb.bind fun y => f x y) := .mk fun σ R H S z ez Q q => by
  obtain ⟨x, ex, ez⟩ := bind_some' ez
  obtain ⟨y, ey, ez⟩ := bind_some' ez
  refine PE_to (pe_cmpR ho eS eS hm) (ha σ R H S x ex _ fun v R1 H1 e1 r1 => hb σ R1 H1 (S.ext e1) y ey _ fun w R2 H2 e2 r2 => ?_)
  exact hr R2 H2 v w x y z e2.i (Py.bmono e2.r e2.h r1) r2 ez Q fun u R3 H3 e3 r3 => q u R3 H3 ((e1.trans e2).trans e3) r3
theorem jt_cmp2 {α β : Type} [Py α] [Py β] {op : CmpOp} {r : R2} {ma : Option α} {mb : Option β} {f : α → β → Option Bool} (ho : OpR X (compareOp op) r) (hm : behindInMarks op b = false)
    (hr : ∀ (R H : Hp) (v w : V) (x : α) (y : β) (z : Bool), Ex R H → bor X.K R H v x → bor X.K R H w y → f x y = some z → ∀ Q : VK, (∀ u R' H', Ext R H R' H' → rep X.K R' u z → Q u H') → r v w H Q)
    (ha : JB X R0 H0 Γ a ma) (hb : JB X R0 H0 Γ b mb) : JT X R0 H0 Γ (.Compare a [op] [b] pos) (ma.bind fun x => mb.bind fun y => f x y) := .mk fun σ R H S z ez Q q => by
  obtain ⟨x, ex, ez⟩ := bind_some' ez
  obtain ⟨y, ey, ez⟩ := bind_some' ez
  refine PT_to (pt_cmpR ho eS eS hm) (ha σ R H S x ex _ fun v R1 H1 e1 r1 => hb σ R1 H1 (S.ext e1) y ey _ fun w R2 H2 e2 r2 => ?_)
  exact hr R2 H2 v w x y z e2.i (Py.bmono e2.r e2.h r1) r2 ez _ fun u R3 H3 e3 r3 => ⟨z, r3, q R3 H3 ((e1.trans e2).trans e3)⟩
/-! ### whole numbers -/
theorem ri0 {g : Int → Int → Int} {K : PySem.W.Frag} (R H : Hp) (v w : V) (x y z : Int) (i : Ex R H) (h1 : bor K R H v x) (h2 : bor K R H w y) (h3 : some (g x y) = some z) (Q : VK) (q : ∀ u R' H', Ext R H R' H' → rep K R' u z → Q u H') : rI0 (fun i j => .int (g i j)) v w H Q := by
  cases h3
  exact ⟨x, y, h1, h2, q _ R H (.refl i) rfl⟩
theorem rib0 {g : Int → Int → Bool} {K : PySem.W.Frag} (R H : Hp) (v w : V) (x y : Int) (z : Bool) (i : Ex R H) (h1 : bor K R H v x) (h2 : bor K R H w y) (h3 : some (g x y) = some z) (Q : VK) (q : ∀ u R' H', Ext R H R' H' → rep K R' u z → Q u H') : rI0 (fun i j => .bl (g i j)) v w H Q := by
  cases h3
  exact ⟨x, y, h1, h2, q _ R H (.refl i) rfl⟩
variable {ma mb : Option Int} {x y : Int}
theorem je_add (ha : JB X R0 H0 Γ a ma) (hb : JB X R0 H0 Γ b mb) : JE X R0 H0 Γ (.BinOp a .Add b pos) (ma.bind fun x => mb.bind fun y => some (x + y)) := je_op2 op_add ri0 ha hb
theorem je_add_t (ha : JB X R0 H0 Γ a (some x)) (hb : JB X R0 H0 Γ b (some y)) : JE X R0 H0 Γ (.BinOp a .Add b pos) (some (x + y)) := je_add ha hb
theorem je_sub (ha : JB X R0 H0 Γ a ma) (hb : JB X R0 H0 Γ b mb) : JE X R0 H0 Γ (.BinOp a .Sub b pos) (ma.bind fun x => mb.bind fun y => some (x - y)) := je_op2 op_sub ri0 ha hb
theorem je_sub_t (ha : JB X R0 H0 Γ a (some x)) (hb : JB X R0 H0 Γ b (some y)) : JE X R0 H0 Γ (.BinOp a .Sub b pos) (some (x - y)) := je_sub ha hb
theorem JE.eq {α : Type} [Py α] {m m' : Option α} (h : JE X R0 H0 Γ e m) (q : m = m') : JE X R0 H0 Γ e m' := by
  rw [← q]
  exact h
theorem je_mod (ha : JB X R0 H0 Γ a ma) (hb : JB X R0 H0 Γ b mb) : JE X R0 H0 Γ (.BinOp a .Mod b pos) (ma.bind fun x => mb.bind fun y => imod x y) := je_op2 op_mod (fun R H v w x y z i h1 h2 h3 Q q => by
  unfold imod at h3
  by_cases hy : 0 < y
  · rw [if_pos hy] at h3
    cases h3
    exact ⟨x, y, h1, h2, hy, q _ R H (.refl i) rfl⟩
  · rw [if_neg hy] at h3
    cases h3) ha hb
theorem je_mod_t (ha : JB X R0 H0 Γ a (some x)) (hb : JB X R0 H0 Γ b (some y)) : JE X R0 H0 Γ (.BinOp a .Mod b pos) (imod x y) := je_mod ha hb
/-- by a written positive number -/
theorem je_modc_t {c : Int} {j : Nat} {p2 : Pos} (ha : JB X R0 H0 Γ a (some x)) (hc : 0 < c := by decide) : JE X R0 H0 Γ (.BinOp a .Mod (.Constant (.int c) j p2) pos) (some (x % c)) := (je_mod_t ha (jb_e je_int)).eq (if_pos hc)
theorem cdivw {y : Int} (h : 0 < y) (h2 : y < 2 ^ 64) : y.natAbs.log2 < 9000 := by
  have : y.natAbs.log2 < 64 := (Nat.log2_lt (by omega)).mpr (by omega)
  omega
theorem je_fdiv (ha : JB X R0 H0 Γ a ma) (hb : JB X R0 H0 Γ b mb) : JE X R0 H0 Γ (.BinOp a .FloorDiv b pos) (ma.bind fun x => mb.bind fun y => ifdiv x y) := je_op2 op_fdivW (fun R H v w x y z i h1 h2 h3 Q q => by
  unfold ifdiv at h3
  by_cases hy : 0 < y ∧ y < 2 ^ 64
  · rw [if_pos hy] at h3
    cases h3
    exact ⟨x, y, h1, h2, ⟨hy.1, cdivw hy.1 hy.2⟩, q _ R H (.refl i) rfl⟩
  · rw [if_neg hy] at h3
    cases h3) ha hb
theorem je_fdivc_t {c : Int} {j : Nat} {p2 : Pos} (ha : JB X R0 H0 Γ a (some x)) (hc : 0 < c ∧ c < 2 ^ 64 := by decide) : JE X R0 H0 Γ (.BinOp a .FloorDiv (.Constant (.int c) j p2) pos) (some (x / c)) := (je_fdiv ha (jb_e je_int)).eq (if_pos hc)
end
end FK

namespace FK
open PySem PySem.Spec PyProof.Rows L2

inductive Fl (S ρ : Type) where
  | nx (s : S) | rt (r : ρ) | bk (s : S) | ct (s : S)
def outF {S ρ : Type} (Γ : S → List Slot) (ret : ρ → Out) : Fl S ρ → Out
  | .nx s => .nx (Γ s)
  | .rt r => ret r
  | .bk s => .bk (Γ s)
  | .ct s => .ct (Γ s)
/-- a block that never falls through -/
structure JN (X : Cx) (R0 H0 : Hp) (Γ : List Slot) (st : List Stmt) {β : Type} (m : Option β) (out : β → Out) : Prop where
  run : ∀ σ R H, Sat X.K R0 H0 Γ σ R H → ∀ b, m = some b → ∀ (D : Ends) (n : L2.St → Hp → Prop), Req X R0 H0 R D (out b) → sSem X st { D with nx := n } σ H
instance {X : Cx} {R0 H0 : Hp} {Γ : List Slot} {st : List Stmt} {β : Type} {m : Option β} {out : β → Out} : CoeFun (JN X R0 H0 Γ st m out) fun _ => ∀ σ R H, Sat X.K R0 H0 Γ σ R H → ∀ b, m = some b → ∀ (D : Ends) (n : L2.St → Hp → Prop), Req X R0 H0 R D (out b) → sSem X st { D with nx := n } σ H := ⟨JN.run⟩
def Sub (Γ Γ' : List Slot) : Prop := ∀ K R0 H0 σ R H, Sat K R0 H0 Γ σ R H → ∃ R', Ex R R' ∧ Sat K R0 H0 Γ' σ R' H
theorem sub_rfl {Γ : List Slot} : Sub Γ Γ := fun K R0 H0 σ R H S => ⟨R, .refl R, S⟩
theorem set_same {σ : L2.St} {i : Nat} {x : Option V} (h : σ[i]? = some x) : σ.set i x = σ := by
  refine List.ext_getElem? fun j => ?_
  rw [List.getElem?_set]
  split
  · rename_i hij
    subst hij
    split
    · exact h.symm
    · rename_i hj
      exact (List.getElem?_eq_none_iff.mpr (Nat.le_of_not_lt hj)).symm
  · rfl
theorem Sat.slot {K : PySem.W.Frag} {R0 H0 R H : Hp} {Γ : List Slot} {σ : L2.St} (S : Sat K R0 H0 Γ σ R H) {i : Nat} (hi : i < Γ.length) : ∃ x, σ[i]? = some x := by
  obtain ⟨⟨os, s, nd, fr⟩, e0⟩ := S
  obtain ⟨y, o1, oa, ob, h1, _⟩ := s.at (s := Γ[i]) (List.getElem?_eq_getElem hi)
  exact ⟨y, h1⟩
theorem sub_drop {Γ Γ' : List Slot} (i : Nat) (hi : i < Γ.length := by exact Nat.le_of_ble_eq_true rfl) (h : Sub (Γ.set i .any) Γ') : Sub Γ Γ' := fun K R0 H0 σ R H S => by
  obtain ⟨x, hx⟩ := S.slot hi
  have g := S.set_any x hi
  rw [set_same hx] at g
  exact h K R0 H0 σ R H g
theorem sub_fz {Γ Γ' : List Slot} (i : Nat) {α : Type} [Ob α] {a : α} (hi : Γ[i]? = some (.own a) := by rfl) (h : Sub (Γ.set i (.v a)) Γ') : Sub Γ Γ' := fun K R0 H0 σ R H S => by
  obtain ⟨R', e, S'⟩ := S.freeze hi
  obtain ⟨R2, e2, S2⟩ := h K R0 H0 σ R' H S'
  exact ⟨R2, e.trans e2, S2⟩
section
variable {X : Cx} {R0 H0 : Hp} {Γ : List Slot} {e a b : Expr} {pos : Pos} {st : Stmt} {rest : List Stmt} {β : Type} {out : β → Out} {ret : β → Out}
theorem js_nil {Γ' : List Slot} {x : β} (hs : Sub Γ Γ') (ho : out x = .nx Γ' := by rfl) : JS X R0 H0 Γ [] (some x) out := .mk fun σ R H S b eb D q => by
  cases eb
  rw [ho] at q
  obtain ⟨R', e', S'⟩ := hs X.K R0 H0 σ R H S
  exact PSs_to pss_nil (q σ R' H e' S')
theorem jn_sub {Γ' : List Slot} {m : Option β} (hs : Sub Γ Γ') (h : JN X R0 H0 Γ' rest m out) : JN X R0 H0 Γ rest m out := .mk fun σ R H S b eb D n q => by
  obtain ⟨R', e', S'⟩ := hs X.K R0 H0 σ R H S
  exact h σ R' H S' b eb D n (q.mono e')
theorem Req.nx {D : Ends} {Rb : Hp} {n : L2.St → Hp → Prop} {o : Out} (h : Req X R0 H0 Rb D o) (hn : ∀ Γ, o ≠ .nx Γ) : Req X R0 H0 Rb { D with nx := n } o := by
  cases o with
  | nx Γ => exact absurd rfl (hn Γ)
  | rt a => exact h
  | ro a => exact h
  | rd a => exact h
  | ex x => exact h
  | et Γ x => exact h
  | exn x => exact h
  | bk Γ => exact h
  | ct Γ => exact h
/-- a statement that always goes on, then the rest -/
theorem js_c {S : Type} {Γ1 : S → List Slot} {m1 : Option S} {m2 : S → Option β} (h1 : J1 X R0 H0 Γ st m1 fun s => .nx (Γ1 s)) (h2 : ∀ s, JS X R0 H0 (Γ1 s) rest (m2 s) out) : JS X R0 H0 Γ (st :: rest) (m1.bind m2) out := .mk fun σ R H S b eb D q => by
  obtain ⟨s, es, eb⟩ := bind_some' eb
  exact PSs_to (pss_cons s1S sS) (h1 σ R H S s es _ fun σ' R' H' e' S' => h2 s σ' R' H' S' b eb D (q.mono e'))
theorem jn_c {S : Type} {Γ1 : S → List Slot} {m1 : Option S} {m2 : S → Option β} (h1 : J1 X R0 H0 Γ st m1 fun s => .nx (Γ1 s)) (h2 : ∀ s, JN X R0 H0 (Γ1 s) rest (m2 s) out) : JN X R0 H0 Γ (st :: rest) (m1.bind m2) out := .mk fun σ R H S b eb D n q => by
  obtain ⟨s, es, eb⟩ := bind_some' eb
  exact PSs_to (pss_cons s1S sS) (h1 σ R H S s es _ fun σ' R' H' e' S' => h2 s σ' R' H' S' b eb D n (q.mono e'))
/-- a statement that may return (or leave the loop), then the rest -/
def thenF {S ρ : Type} (m : Option (Fl S ρ)) (k : S → Option β) (r : ρ → Option β) (bk ct : S → Option β) : Option β := m.bind fun f => match f with
  | .nx s => k s
  | .rt v => r v
  | .bk s => bk s
  | .ct s => ct s
theorem js_f {S ρ : Type} {Γ1 : S → List Slot} {m1 : Option (Fl S ρ)} {m2 : S → Option β} {ret : ρ → Out} {r : ρ → β} (h1 : J1 X R0 H0 Γ st m1 (outF Γ1 ret)) (h2 : ∀ s, JS X R0 H0 (Γ1 s) rest (m2 s) out) (hr : ∀ v, out (r v) = ret v := by intro _; rfl) (hn : ∀ v Γ, ret v ≠ .nx Γ := by intro _ _ h; cases h) :
    JS X R0 H0 Γ (st :: rest) (thenF m1 m2 (fun v => some (r v)) (fun _ => none) (fun _ => none)) out := .mk fun σ R H S b eb D q => by
  obtain ⟨f, ef, eb⟩ := bind_some' eb
  refine PSs_to (pss_cons s1S sS) (h1 σ R H S f ef _ ?_)
  cases f with
  | nx s => exact fun σ' R' H' e' S' => h2 s σ' R' H' S' b eb D (q.mono e')
  | rt v =>
    have eb : some (r v) = some b := eb
    cases eb
    rw [hr v] at q
    exact q.nx (hn v)
  | bk s => cases eb
  | ct s => cases eb
theorem jn_f {S ρ : Type} {Γ1 : S → List Slot} {m1 : Option (Fl S ρ)} {m2 : S → Option β} {ret : ρ → Out} {r : ρ → β} (h1 : J1 X R0 H0 Γ st m1 (outF Γ1 ret)) (h2 : ∀ s, JN X R0 H0 (Γ1 s) rest (m2 s) out) (hr : ∀ v, out (r v) = ret v := by intro _; rfl) (hn : ∀ v Γ, ret v ≠ .nx Γ := by intro _ _ h; cases h) :
    JN X R0 H0 Γ (st :: rest) (thenF m1 m2 (fun v => some (r v)) (fun _ => none) (fun _ => none)) out := .mk fun σ R H S b eb D n q => by
  obtain ⟨f, ef, eb⟩ := bind_some' eb
  refine PSs_to (pss_cons s1S sS) (h1 σ R H S f ef _ ?_)
  cases f with
  | nx s => exact fun σ' R' H' e' S' => h2 s σ' R' H' S' b eb D n (q.mono e')
  | rt v =>
    have eb : some (r v) = some b := eb
    cases eb
    rw [hr v] at q
    exact q.nx (hn v)
  | bk s => cases eb
  | ct s => cases eb
/-! ### if -/
def ifM (c : Option Bool) (x y : Option β) : Option β := c.bind fun b => if b then x else y
/-- one branch never falls through -/
theorem js_ifr {mc : Option Bool} {A : List Stmt} {m1 m2 : Option β} (hc : JT X R0 H0 Γ e mc) (h1 : JN X R0 H0 Γ A m1 out) (h2 : JS X R0 H0 Γ rest m2 out) : JS X R0 H0 Γ (.If e A [] pos :: rest) (ifM mc m1 m2) out := .mk fun σ R H S b eb D q => by
  obtain ⟨c, ec, eb⟩ := bind_some' eb
  refine PSs_to (pss_cons (ps_if tS sS pss_nil) sS) (hc σ R H S c ec _ fun R' H' x => ?_)
  cases c with
  | true => exact h1 σ R' H' (S.ext x) b eb D _ (q.mono x.r)
  | false => exact h2 σ R' H' (S.ext x) b eb D (q.mono x.r)
theorem jn_ifr {mc : Option Bool} {A : List Stmt} {m1 m2 : Option β} (hc : JT X R0 H0 Γ e mc) (h1 : JN X R0 H0 Γ A m1 out) (h2 : JN X R0 H0 Γ rest m2 out) : JN X R0 H0 Γ (.If e A [] pos :: rest) (ifM mc m1 m2) out := .mk fun σ R H S b eb D n q => by
  obtain ⟨c, ec, eb⟩ := bind_some' eb
  refine PSs_to (pss_cons (ps_if tS sS pss_nil) sS) (hc σ R H S c ec _ fun R' H' x => ?_)
  cases c with
  | true => exact h1 σ R' H' (S.ext x) b eb D _ (q.mono x.r)
  | false => exact h2 σ R' H' (S.ext x) b eb D n (q.mono x.r)
/-- both go on (or any outcome): the outcomes' one type -/
theorem j1_if {mc : Option Bool} {A B : List Stmt} {m1 m2 : Option β} (hc : JT X R0 H0 Γ e mc) (h1 : JS X R0 H0 Γ A m1 out) (h2 : JS X R0 H0 Γ B m2 out) : J1 X R0 H0 Γ (.If e A B pos) (ifM mc m1 m2) out := .mk fun σ R H S b eb D q => by
  obtain ⟨c, ec, eb⟩ := bind_some' eb
  refine PS_to (ps_if tS sS sS) (hc σ R H S c ec _ fun R' H' x => ?_)
  cases c with
  | true => exact h1 σ R' H' (S.ext x) b eb D (q.mono x.r)
  | false => exact h2 σ R' H' (S.ext x) b eb D (q.mono x.r)
/-! ### return, break, continue -/
theorem jn_ret {α : Type} [Py α] {m : Option α} (h : JE X R0 H0 Γ e m) : JN X R0 H0 Γ (.Return (some e) pos :: rest) m fun a => .rt a := .mk fun σ R H S b eb D n q =>
  PSs_to (pss_cons (ps_ret eS) sS) (h σ R H S b eb _ fun v R' H' x r => q v R' H' (S.e0.trans x) r)
theorem jn_reto {α : Type} [Ob α] {m : Option α} (h : JO X R0 H0 Γ e m) : JN X R0 H0 Γ (.Return (some e) pos :: rest) m fun a => .ro a := .mk fun σ R H S b eb D n q =>
  PSs_to (pss_cons (ps_ret eS) sS) (h σ R H S b eb _ fun p o R' H' x np hp hr r => q p o R' H' (S.e0.trans x) (S.e0.h.none np) hp hr r)
theorem jn_retv (i : Nat) {x : Str} {p1 : Pos} {α : Type} [Ob α] {c : α} (hΓ : Γ[i]? = some (.own c) := by rfl) (hN : X.N[i]? = some x := by rfl) (hv : Vis X.env.scope x := by first | exact Or.inl rfl | exact Or.inr (Or.inl rfl) | exact Or.inr (Or.inr rfl)) (hd : (x == ("__debug__" : Str)) = false := by decide)
    (hcd : (x == ("__classdict__" : Str)) = false := by decide) : JN X R0 H0 Γ (.Return (some (.Name x p1)) pos :: rest) (some c) fun a => .ro a := .mk fun σ R H S b eb D n q => by
  cases eb
  obtain ⟨p, o, hs, hp, hh, h1, h2, _⟩ := S.get_own hΓ
  exact PSs_to (pss_cons (ps_ret (pv i hN hv hd hcd)) sS) ⟨.ref p, hs, q p o R H S.e0 h2 hp h1 hh⟩
/-- an outcome told in another type -/
theorem jn_map {β' : Type} {out' : β' → Out} {m : Option β} (f : β → β') (h : JN X R0 H0 Γ rest m out) (hf : ∀ b, out' (f b) = out b := by intro _; rfl) : JN X R0 H0 Γ rest (m.bind fun b => some (f b)) out' := .mk fun σ R H S b eb D n q => by
  obtain ⟨c, ec, eb⟩ := bind_some' eb
  cases eb
  rw [hf] at q
  exact h σ R H S c ec D n q
theorem jn_map_t {β' : Type} {out' : β' → Out} {x : β} (f : β → β') (h : JN X R0 H0 Γ rest (some x) out) (hf : ∀ b, out' (f b) = out b := by intro _; rfl) : JN X R0 H0 Γ rest (some (f x)) out' := jn_map f h hf
/-! ### name = value -/
theorem j1_set (i : Nat) {x : Str} {p1 : Pos} {α : Type} [Py α] {m : Option α} (Γ' : α → List Slot) (he : JE X R0 H0 Γ e m) (hN : X.N.Nodup) (hΓ : ∀ a, Γ' a = Γ.set i (.v a) := by intro _; rfl) (hi : X.N[i]? = some x := by rfl) (hl : i < Γ.length := by exact Nat.le_of_ble_eq_true rfl) (hx : Loc X.env.scope x := by first | exact Or.inl rfl | exact Or.inr rfl)
    (hs : swapsWith e (some (.Name x p1)) pos.line X.env = pure false := by rfl) (hf : X.fn x = true ∨ X.env.scope.names.lookup x = some .local := by first | exact .inl rfl | exact .inr rfl) : J1 X R0 H0 Γ (.Assign [.Name x p1] e pos) m fun a => .nx (Γ' a) := .mk fun σ R H S b eb D q => by
  have q : ∀ σ R' H, Ex R R' → Sat X.K R0 H0 (Γ' b) σ R' H → D.nx σ H := q
  rw [hΓ b] at q
  exact PS_to (ps_set hN hi hx eS hs hf) (he σ R H S b eb _ fun v R' H' z r => q _ R' H' z.r ((S.ext z).set_v hl r))
theorem j1_seto (i : Nat) {x : Str} {p1 : Pos} {α : Type} [Ob α] {m : Option α} (Γ' : α → List Slot) (he : JO X R0 H0 Γ e m) (hN : X.N.Nodup) (hΓ : ∀ a, Γ' a = Γ.set i (.own a) := by intro _; rfl) (hi : X.N[i]? = some x := by rfl) (hl : i < Γ.length := by exact Nat.le_of_ble_eq_true rfl) (hx : Loc X.env.scope x := by first | exact Or.inl rfl | exact Or.inr rfl)
    (hs : swapsWith e (some (.Name x p1)) pos.line X.env = pure false := by rfl) (hf : X.fn x = true ∨ X.env.scope.names.lookup x = some .local := by first | exact .inl rfl | exact .inr rfl) : J1 X R0 H0 Γ (.Assign [.Name x p1] e pos) m fun a => .nx (Γ' a) := .mk fun σ R H S b eb D q => by
  have q : ∀ σ R' H, Ex R R' → Sat X.K R0 H0 (Γ' b) σ R' H → D.nx σ H := q
  rw [hΓ b] at q
  exact PS_to (ps_set hN hi hx eS hs hf) (he σ R H S b eb _ fun p o R' H' z np hp hr r => q _ R' H' z.r (S.set_own hl z np hp hr r))
/-! ### tests -/
theorem jt_e {m : Option Bool} (h : JB X R0 H0 Γ e m) (he : ∀ whole, isTrue e X.env whole = (do let v ← whole; standAt e.pos; holding [v] (truthy v)) := by intro _; rfl) : JT X R0 H0 Γ e m := .mk fun σ R H S b eb Q q =>
  PT_to (pt_val eS he) (h σ R H S b eb _ fun v R' H' x r => ⟨b, r, q R' H' x⟩)
def bAnd (x y : Option Bool) : Option Bool := x.bind fun b => if b then y else some false
def bOr (x y : Option Bool) : Option Bool := x.bind fun b => if b then some true else y
theorem jt_w {m : Option Bool} {op : BoolOp} {es : List Expr} (h : JW X R0 H0 Γ (.BoolOp op es pos) m) : JT X R0 H0 Γ (.BoolOp op es pos) m := .mk fun σ R H S b eb Q q =>
  PT_to (PW.pt wS) (h σ R H S b eb Q q)
theorem jw_and1 {m : Option Bool} (h : JT X R0 H0 Γ a m) : JW X R0 H0 Γ (.BoolOp .And [a] pos) m := .mk fun σ R H S b eb Q q => PW_to (pw_and1 tS) (h σ R H S b eb Q q)
theorem jw_or1 {m : Option Bool} (h : JT X R0 H0 Γ a m) : JW X R0 H0 Γ (.BoolOp .Or [a] pos) m := .mk fun σ R H S b eb Q q => PW_to (pw_or1 tS) (h σ R H S b eb Q q)
theorem jw_and {es : List Expr} {m1 m2 : Option Bool} (h1 : JT X R0 H0 Γ a m1) (h2 : JW X R0 H0 Γ (.BoolOp .And (b :: es) pos) m2) : JW X R0 H0 Γ (.BoolOp .And (a :: b :: es) pos) (bAnd m1 m2) := .mk fun σ R H S z ez Q q => by
  obtain ⟨c, ec, ez⟩ := bind_some' ez
  refine PW_to (pw_and tS wS) (h1 σ R H S c ec _ fun R' H' x => ?_)
  cases c with
  | true => exact h2 σ R' H' (S.ext x) z ez Q fun R2 H2 x2 => q R2 H2 (x.trans x2)
  | false =>
    cases ez
    exact q R' H' x
theorem jw_or {es : List Expr} {m1 m2 : Option Bool} (h1 : JT X R0 H0 Γ a m1) (h2 : JW X R0 H0 Γ (.BoolOp .Or (b :: es) pos) m2) : JW X R0 H0 Γ (.BoolOp .Or (a :: b :: es) pos) (bOr m1 m2) := .mk fun σ R H S z ez Q q => by
  obtain ⟨c, ec, ez⟩ := bind_some' ez
  refine PW_to (pw_or tS wS) (h1 σ R H S c ec _ fun R' H' x => ?_)
  cases c with
  | false => exact h2 σ R' H' (S.ext x) z ez Q fun R2 H2 x2 => q R2 H2 (x.trans x2)
  | true =>
    cases ez
    exact q R' H' x
theorem jt_not {m : Option Bool} (h : JT X R0 H0 Γ a m) : JT X R0 H0 Γ (.UnaryOp .Not a pos) (m.bind fun b => some (!b)) := .mk fun σ R H S z ez Q q => by
  obtain ⟨c, ec, ez⟩ := bind_some' ez
  cases ez
  exact PT_to (pt_not tS) (h σ R H S c ec _ fun R' H' x => q R' H' x)
/-- as values -/
theorem je_one {m : Option Bool} {op : BoolOp} (h : JB X R0 H0 Γ a m) : JE X R0 H0 Γ (.BoolOp op [a] pos) m := .mk fun σ R H S z ez Q q => PE_to (pe_one eS) (h σ R H S z ez Q q)
theorem je_and {es : List Expr} {m1 m2 : Option Bool} (h1 : JB X R0 H0 Γ a m1) (h2 : JE X R0 H0 Γ (.BoolOp .And (b :: es) pos) m2) : JE X R0 H0 Γ (.BoolOp .And (a :: b :: es) pos) (bAnd m1 m2) := .mk fun σ R H S z ez Q q => by
  obtain ⟨c, ec, ez⟩ := bind_some' ez
  refine PE_to (pe_and eS eS) (h1 σ R H S c ec _ fun v R' H' x r => ⟨c, r, ?_⟩)
  cases c with
  | true => exact h2 σ R' H' (S.ext x) z ez Q fun v R2 H2 x2 => q v R2 H2 (x.trans x2)
  | false =>
    cases ez
    exact q _ R' H' x rfl
theorem je_or {es : List Expr} {m1 m2 : Option Bool} (h1 : JB X R0 H0 Γ a m1) (h2 : JE X R0 H0 Γ (.BoolOp .Or (b :: es) pos) m2) : JE X R0 H0 Γ (.BoolOp .Or (a :: b :: es) pos) (bOr m1 m2) := .mk fun σ R H S z ez Q q => by
  obtain ⟨c, ec, ez⟩ := bind_some' ez
  refine PE_to (pe_or eS eS) (h1 σ R H S c ec _ fun v R' H' x r => ⟨c, r, ?_⟩)
  cases c with
  | false => exact h2 σ R' H' (S.ext x) z ez Q fun v R2 H2 x2 => q v R2 H2 (x.trans x2)
  | true =>
    cases ez
    exact q _ R' H' x rfl
theorem je_not {m : Option Bool} (h : JB X R0 H0 Γ a m) : JE X R0 H0 Γ (.UnaryOp .Not a pos) (m.bind fun b => some (!b)) := .mk fun σ R H S z ez Q q => by
  obtain ⟨c, ec, ez⟩ := bind_some' ez
  cases ez
  exact PE_to (pe_not eS) (h σ R H S c ec _ fun v R' H' x r => ⟨c, r, q _ R' H' x rfl⟩)
theorem je_not_t {x : Bool} (h : JB X R0 H0 Γ a (some x)) : JE X R0 H0 Γ (.UnaryOp .Not a pos) (some (!x)) := je_not h
end
end FK

namespace FK
open PySem PySem.Spec PyProof.Rows L2

/-! ### targets -/
structure JG (X : Cx) (R0 H0 : Hp) (Γ : List Slot) (tg : Expr) (ts : List Nat) {α : Type} [Py α] (up : α → List Slot) : Prop where
  run : ∀ σ R H, Sat X.K R0 H0 Γ σ R H → ∀ v a, rep X.K R v a → ∀ Q : L2.St → Hp → Prop, (∀ σ', (∀ vs, (∀ t ∈ ts, t ∈ vs) → wipe σ' vs = wipe σ vs) → Sat X.K R0 H0 (up a) σ' R H → Q σ' H) → gSem X tg v σ H Q
instance {X : Cx} {R0 H0 : Hp} {Γ : List Slot} {tg : Expr} {ts : List Nat} {α : Type} [Py α] {up : α → List Slot} : CoeFun (JG X R0 H0 Γ tg ts up) fun _ => ∀ σ R H, Sat X.K R0 H0 Γ σ R H → ∀ v a, rep X.K R v a → ∀ Q : L2.St → Hp → Prop, (∀ σ', (∀ vs, (∀ t ∈ ts, t ∈ vs) → wipe σ' vs = wipe σ vs) → Sat X.K R0 H0 (up a) σ' R H → Q σ' H) → gSem X tg v σ H Q := ⟨JG.run⟩
theorem wipe_at (σ : L2.St) (j : Nat) : ∀ vs : List Nat, (wipe σ vs)[j]? = if j ∈ vs then (if j < σ.length then some none else none) else σ[j]?
  | [] => by rw [if_neg (by simp)]; rfl
  | v :: vs => by
    show ((wipe σ vs).set v none)[j]? = _
    rw [List.getElem?_set, wipe_length, wipe_at σ j vs]
    by_cases h : v = j
    · subst h
      rw [if_pos rfl, if_pos (show v ∈ v :: vs from List.mem_cons_self)]
    · rw [if_neg h]
      by_cases h2 : j ∈ vs
      · rw [if_pos h2, if_pos (List.mem_cons_of_mem _ h2)]
      · rw [if_neg h2, if_neg (by simp [h2]; exact fun z => h z.symm)]
theorem wipe_set {σ : L2.St} {i : Nat} {x : Option V} {vs : List Nat} (h : i ∈ vs) : wipe (σ.set i x) vs = wipe σ vs := by
  refine List.ext_getElem? fun j => ?_
  rw [wipe_at, wipe_at, List.length_set, List.getElem?_set]
  by_cases h2 : j ∈ vs
  · rw [if_pos h2, if_pos h2]
  · rw [if_neg h2, if_neg h2, if_neg (fun z => h2 (by rw [← z]; exact h))]
theorem PG_to {X : Cx} {tg : Expr} {g : TG} (h : PG X tg g) {v : V} {σ : L2.St} {H : Hp} {Q : L2.St → Hp → Prop} (q : g v σ H Q) : gSem X tg v σ H Q := fun pins s u I r => h.run pins s σ H v u Q I r q
section
variable {X : Cx} {R0 H0 : Hp} {Γ : List Slot} {e a b : Expr} {pos : Pos} {st : Stmt} {rest : List Stmt} {β : Type} {out : β → Out}
theorem jg_name (i : Nat) {x : Str} {α : Type} [Py α] (hN : X.N.Nodup) {up : α → List Slot} (hu : ∀ a, up a = Γ.set i (.v a) := by intro _; rfl) (hi : X.N[i]? = some x := by rfl) (hl : i < Γ.length := by exact Nat.le_of_ble_eq_true rfl) (hx : Loc X.env.scope x := by first | exact Or.inl rfl | exact Or.inr rfl)
    (hf : X.fn x = true ∨ X.env.scope.names.lookup x = some .local := by first | exact .inl rfl | exact .inr rfl) : JG X R0 H0 Γ (.Name x pos) [i] up := .mk fun σ R H S v a r Q q => by
  rw [hu] at q
  exact PG_to (pg_name hN hi hx hf) (q _ (fun vs h => wipe_set (h i (by simp))) (S.set_v hl r))
theorem jg_2 {t1 t2 : Expr} {k : Nat} {s1 s2 : List Nat} {α β : Type} [Py α] [Py β] {u1 : α → List Slot} {u2 : α × β → List Slot} (hc : X.calm = true) (h1 : JG X R0 H0 Γ t1 s1 u1) (h2 : ∀ a, JG X R0 H0 (u1 a) t2 s2 (fun b => u2 (a, b)))
    (hn : (assignEach [t1, t2] X.env).length = 2 := by rfl) (hst : (assignEach [t1, t2] X.env).findIdx? (·.1) = none := by rfl) (hs : (assignEach [t1, t2] X.env).map (·.2) = assign t1 X.env :: (assignEach [t2] X.env).map (·.2) := by rfl) (hs2 : (assignEach [t2] X.env).map (·.2) = assign t2 X.env :: (assignEach [] X.env).map (·.2) := by rfl) :
    JG X R0 H0 Γ (.Tuple [t1, t2] k pos) (s1 ++ s2) u2 := .mk fun σ R H S v a r Q q => by
  obtain ⟨p, vs, rfl, hp, x, y, rfl, r1, r2⟩ := r
  refine PG_to (pg_tup hc (pgs_cons gS (pgs_cons gS pgs_nil hs2) hs) hn hst) ⟨p, [x, y], rfl, ?_, rfl, x, [y], rfl, h1 σ R H S x a.1 r1 _ fun σ1 w1 S1 => ⟨y, [], rfl, h2 a.1 σ1 R H S1 y a.2 r2 _ fun σ2 w2 S2 => ⟨rfl, q σ2 (fun vs h => (w2 vs fun t ht => h t (List.mem_append_right _ ht)).trans (w1 vs fun t ht => h t (List.mem_append_left _ ht))) S2⟩⟩⟩
  exact dsq (S.i _ _ hp)
end

/-! ### what is walked -/
def ItOk (K : PySem.W.Frag) (H0 : Hp) {α : Type} [Py α] (J : It) (xs : List α) (R1 : Hp) : Prop := ∀ i R2 H2, Ex R1 R2 → Ex H0 H2 → Ex R2 H2 →
  (∀ x, xs[i]? = some x → J.go i H2 ∧ ∀ v H3, J.yld i H2 v H3 → ∃ R3, Ext R2 H2 R3 H3 ∧ rep K R3 v x) ∧ (xs.length ≤ i → J.stop i H2)
structure JI (X : Cx) (R0 H0 : Hp) (Γ : List Slot) (tg iter : Expr) {α : Type} [Py α] (m : Option (List α)) : Prop where
  run : ∀ σ R H, Sat X.K R0 H0 Γ σ R H → ∀ xs, m = some xs → ∀ Q : It → Hp → Prop, (∀ J R' H', Ext R H R' H' → ItOk X.K H0 J xs R' → Q J H') → iSem X tg iter σ H Q
instance {X : Cx} {R0 H0 : Hp} {Γ : List Slot} {tg iter : Expr} {α : Type} [Py α] {m : Option (List α)} : CoeFun (JI X R0 H0 Γ tg iter m) fun _ => ∀ σ R H, Sat X.K R0 H0 Γ σ R H → ∀ xs, m = some xs → ∀ Q : It → Hp → Prop, (∀ J R' H', Ext R H R' H' → ItOk X.K H0 J xs R' → Q J H') → iSem X tg iter σ H Q := ⟨JI.run⟩
theorem itl_ok {K : PySem.W.Frag} {H0 R1 : Hp} {α : Type} [Py α] {p : Addr} {vs : List V} {xs : List α} (h : ∀ R2 H2, Ex R1 R2 → Ex H0 H2 → Ex R2 H2 → SqL K H2 p vs) (hr : AllR K R1 vs xs) : ItOk K H0 (Itl K p) xs R1 := fun i R2 H2 e1 e2 e3 => by
  have q := h R2 H2 e1 e2 e3
  refine ⟨fun x hx => ?_, fun hi => ⟨vs, q, by rw [hr.len]; exact hi⟩⟩
  obtain ⟨v, hv, r⟩ := hr.get hx
  refine ⟨⟨vs, v, q, hv⟩, fun w H3 hy => ?_⟩
  obtain ⟨rfl, hy⟩ := hy
  have e := hy vs q
  rw [hv] at e
  cases e
  exact ⟨R2, .refl e3, Py.mono e1 r⟩
section
variable {X : Cx} {R0 H0 : Hp} {Γ : List Slot} {e a b tg : Expr} {pos : Pos} {st : Stmt} {rest : List Stmt} {β : Type} {out : β → Out}
/-- a list: frozen | handed in -/
theorem ji_list {α : Type} [Py α] {m : Option (List α)} (h : JE X R0 H0 Γ e m) : JI X R0 H0 Γ tg e m := .mk fun σ R H S xs ex Q q =>
  PI_to (pi_list eS) (h σ R H S xs ex _ fun v R' H' x r => by
    obtain ⟨p, o, rfl, hp, vs, rfl, hv⟩ := r
    exact ⟨p, rfl, ⟨vs, sql_ex x.i (seq_rd hp)⟩, q _ R' H' x (itl_ok (fun R2 H2 e1 _ e3 => sql_ex (e1.trans e3) (seq_rd hp)) hv)⟩)
/-- a text, sign by sign -/
def sgn (x : Str) : List Str := x.cps.toList.map fun c => ⟨#[c]⟩
theorem ji_str {m : Option Str} (h : JE X R0 H0 Γ e m) : JI X R0 H0 Γ tg e (m.bind fun x => some (sgn x)) := .mk fun σ R H S xs ex Q q => by
  obtain ⟨x, em, ex⟩ := bind_some' ex
  cases ex
  refine PI_to (pi_str eS) (h σ R H S x em _ fun v R' H' z r => ⟨x, r, q _ R' H' z fun i R2 H2 e1 e2 e3 => ⟨fun y hy => ?_, fun hi => ?_⟩⟩)
  · unfold sgn at hy
    rw [List.getElem?_map] at hy
    cases hc : x.cps.toList[i]? with
    | none =>
      rw [hc] at hy
      cases hy
    | some c =>
      rw [hc] at hy
      have hc' : x.cps[i]? = some c := by
        rw [← hc]
        exact Array.getElem?_toList.symm
      refine ⟨?_, fun w H3 hw => ?_⟩
      · exact (Array.getElem?_eq_some_iff.mp hc').1
      · obtain ⟨rfl, c', h1, rfl⟩ := hw
        rw [hc'] at h1
        cases h1
        cases hy
        exact ⟨R2, .refl e3, rfl⟩
  · unfold sgn at hi
    rw [List.length_map, Array.length_toList] at hi
    exact hi
theorem ji_str_t {x : Str} (h : JE X R0 H0 Γ e (some x)) : JI X R0 H0 Γ tg e (some (sgn x)) := ji_str h
/-- range(n) | range(a, b) -/
def rng (lo : Int) (n : Nat) : List Int := (List.range n).map fun (k : Nat) => lo + k
def range1 (j : Int) : Option (List Int) := if -(2 ^ 62) ≤ j ∧ j < 2 ^ 62 then some (rng 0 j.toNat) else none
def range2 (i j : Int) : Option (List Int) := if -(2 ^ 62) ≤ i ∧ i < 2 ^ 62 ∧ -(2 ^ 62) ≤ j ∧ j < 2 ^ 62 then some (rng i (j - i).toNat) else none
/-! ### for -/
def forS {S α : Type} (f : S → α → Option S) : List α → S → Option S
  | [], s => some s
  | x :: r, s => (f s x).bind (forS f r)
def forF {S α ρ : Type} (f : S → α → Option (Fl S ρ)) : List α → S → Option (Fl S ρ)
  | [], s => some (.nx s)
  | x :: r, s => (f s x).bind fun z => match z with
    | .nx s => forF f r s
    | .ct s => forF f r s
    | .bk s => some (.nx s)
    | .rt v => some (.rt v)
theorem drop_cons {α : Type} {xs : List α} {i : Nat} {x : α} (h : xs[i]? = some x) : xs.drop i = x :: xs.drop (i + 1) := by
  obtain ⟨hi, e⟩ := List.getElem?_eq_some_iff.mp h
  rw [List.drop_eq_getElem_cons hi, e]
theorem Req.loop {X : Cx} {R0 H0 Ra Rb : Hp} {D D' : Ends} {o : Out} (h : Req X R0 H0 Ra D o) (h1 : ∀ Γ, o ≠ .nx Γ) (h2 : ∀ Γ, o ≠ .bk Γ) (h3 : ∀ Γ, o ≠ .ct Γ) (h4 : ∀ Γ x, o ≠ .et Γ x) (e : D'.rt = D.rt := by rfl) : Req X R0 H0 Rb D' o := by
  cases o with
  | nx Γ => exact absurd rfl (h1 Γ)
  | rt a =>
    intro v R H x r
    rw [e]
    exact h v R H x r
  | ro a =>
    intro p o R H x np hp hr r
    rw [e]
    exact h p o R H x np hp hr r
  | rd a =>
    intro p o ps R H x nn nd hp hr r
    rw [e]
    exact h p o ps R H x nn nd hp hr r
  | bk Γ => exact absurd rfl (h2 Γ)
  | ct Γ => exact absurd rfl (h3 Γ)
  | ex x => exact h
  | exn x => exact h
  | et Γ x => exact absurd rfl (h4 Γ x)
theorem j1_forF {iter : Expr} {body : List Stmt} {S ρ α : Type} [Py α] {mi : Option (List α)} {f : S → α → Option (Fl S ρ)} (s0 : S) (Γh : S → List Slot) (up : S → α → List Slot) {ts : List Nat} {ret : ρ → Out} (hp : PassesOwn (model X.prog X.w) X.A X.env X.xe) (hc : X.calm = true) (h0 : Sub Γ (Γh s0))
    (hi : JI X R0 H0 Γ tg iter mi) (hg : ∀ s, JG X R0 H0 (Γh s) tg ts (up s)) (hb : ∀ s x, JS X R0 H0 (up s x) body (f s x) (outF Γh ret)) (hr : ∀ v Γ, ret v ≠ .nx Γ := by intro _ _ h; cases h) (hr2 : ∀ v Γ, ret v ≠ .bk Γ := by intro _ _ h; cases h) (hr3 : ∀ v Γ, ret v ≠ .ct Γ := by intro _ _ h; cases h) (hr4 : ∀ v Γ x, ret v ≠ .et Γ x := by intro _ _ _ h; cases h)
    (hs : ∀ x, foldedSetIterable iter X.env x = pure x := by intro _; rfl) : J1 X R0 H0 Γ (.For tg iter body [] pos) (mi.bind fun xs => forF f xs s0) (outF Γh ret) := .mk fun σ R H Sa b eb D q => by
  obtain ⟨xs, ex, eb⟩ := bind_some' eb
  refine PS_to (ps_for hp hc iS gS sS hs) (hi σ R H Sa xs ex _ fun J R1 H1 x1 hJ => ?_)
  obtain ⟨Rz, ez, Sz⟩ := h0 X.K R0 H0 σ R1 H1 (Sa.ext x1)
  refine ⟨fun i m σ H => m = xs.length - i ∧ i ≤ xs.length ∧ ∃ R s, Sat X.K R0 H0 (Γh s) σ R H ∧ Ex R1 R ∧ forF f (xs.drop i) s = some b, ⟨xs.length, by simp, Nat.zero_le _, Rz, s0, Sz, ez, eb⟩, ?_⟩
  rintro i m σ2 H2 ⟨rfl, hi, R2, s, S2, e2, ef⟩
  obtain ⟨g1, g2⟩ := hJ i R2 H2 e2 S2.e0.h S2.i
  by_cases hlt : i < xs.length
  · refine .inr ?_
    have hx : xs[i]? = some xs[i] := List.getElem?_eq_getElem hlt
    obtain ⟨go, yl⟩ := g1 _ hx
    rw [drop_cons hx] at ef
    obtain ⟨z, e3, ef⟩ := bind_some' ef
    refine ⟨go, fun σ' H' => ∃ R s, Sat X.K R0 H0 (Γh s) σ' R H' ∧ Ex R1 R ∧ forF f (xs.drop (i + 1)) s = some b, fun σ' H' p' => ⟨xs.length - (i + 1), by omega, rfl, hlt, p'⟩, fun v H3 hy => ?_⟩
    obtain ⟨R3, x3, r3⟩ := yl v H3 hy
    refine hg s σ2 R3 H3 (S2.ext x3) v xs[i] r3 _ fun σ4 _ S4 => ?_
    refine hb s xs[i] σ4 R3 H3 S4 z e3 _ ?_
    have w : ∀ {σ' : L2.St} {R' H' : Hp} {s' : S}, forF f (xs.drop (i + 1)) s' = some b → Ex R3 R' → Sat X.K R0 H0 (Γh s') σ' R' H' → ∃ R s, Sat X.K R0 H0 (Γh s) σ' R H' ∧ Ex R1 R ∧ forF f (xs.drop (i + 1)) s = some b :=
      fun {σ' R' H' s'} h e' S' => ⟨R', s', S', (e2.trans x3.r).trans e', h⟩
    cases z with
    | nx s' => exact fun σ' R' H' e' S' => w ef e' S'
    | ct s' => exact fun σ' R' H' e' S' => w ef e' S'
    | bk s' =>
      cases ef
      exact fun σ' R' H' e' S' => q σ' R' H' (((x1.r.trans e2).trans x3.r).trans e') S'
    | rt v =>
      cases ef
      exact Req.loop (show Req X R0 H0 R D (ret v) from q) (hr v) (hr2 v) (hr3 v) (hr4 v)
  · have e : i = xs.length := by omega
    subst e
    rw [List.drop_length] at ef
    cases ef
    exact .inl ⟨g2 (Nat.le_refl _), q σ2 R2 H2 (x1.r.trans e2) S2⟩

/-! ### while -/
def whileS {S : Type} (c : S → Option Bool) (f : S → Option S) : Nat → S → Option S
  | 0, _ => none
  | n + 1, s => (c s).bind fun b => if b then (f s).bind (whileS c f n) else some s
def whileF {S ρ : Type} (c : S → Option Bool) (f : S → Option (Fl S ρ)) : Nat → S → Option (Fl S ρ)
  | 0, _ => none
  | n + 1, s => (c s).bind fun b => if b then (f s).bind fun z => match z with
    | .nx s => whileF c f n s
    | .ct s => whileF c f n s
    | .bk s => some (.nx s)
    | .rt v => some (.rt v) else some (.nx s)
end
end FK

namespace FK
open PySem PySem.Spec PyProof.Rows L2

/-! ### comprehensions -/
def wipeG (Γ : List Slot) : List Nat → List Slot
  | [] => Γ
  | v :: vs => (wipeG Γ vs).set v .any
theorem wipeG_len (Γ : List Slot) : ∀ vs : List Nat, (wipeG Γ vs).length = Γ.length
  | [] => rfl
  | v :: vs => by
    show ((wipeG Γ vs).set v .any).length = _
    rw [List.length_set, wipeG_len Γ vs]
theorem Sat.wipe {K : PySem.W.Frag} {R0 H0 R H : Hp} {Γ : List Slot} {σ : L2.St} (S : Sat K R0 H0 Γ σ R H) : ∀ vs : List Nat, (∀ v ∈ vs, v < Γ.length) → Sat K R0 H0 (wipeG Γ vs) (L2.wipe σ vs) R H
  | [], _ => S
  | v :: vs, h => (S.wipe vs fun x hx => h x (List.mem_cons_of_mem _ hx)).set_any none (by rw [wipeG_len]; exact h v List.mem_cons_self)
theorem wipe_idem (σ : L2.St) (vs : List Nat) : L2.wipe (L2.wipe σ vs) vs = L2.wipe σ vs := by
  refine List.ext_getElem? fun j => ?_
  rw [wipe_at, wipe_at, wipe_length]
  by_cases h : j ∈ vs
  · rw [if_pos h, if_pos h]
  · rw [if_neg h, if_neg h]
def lcM {α β : Type} (t : α → Option Bool) (f : α → Option β) : List α → Option (List β)
  | [] => some []
  | x :: r => (t x).bind fun b => if b then (f x).bind fun y => (lcM t f r).bind fun ys => some (y :: ys) else lcM t f r
def lcG {α β : Type} (t : α → Option Bool) (f : α → Option β) (xs : List α) : Option (List β) := if xs.length < 1000000 then lcM t f xs else none
def mapM' {α β : Type} (f : α → Option β) (xs : List α) : Option (List β) := lcG (fun _ => some true) f xs
structure JTs (X : Cx) (R0 H0 : Hp) (Γ : List Slot) (ifs : List Expr) (m : Option Bool) : Prop where
  run : ∀ σ R H, Sat X.K R0 H0 Γ σ R H → ∀ a, m = some a → ∀ Q : Bool → Hp → Prop, (∀ R' H', Ext R H R' H' → Q a H') → ∀ pins s, Inv X pins σ H s →
    wpAny (model X.prog X.w) X.A (forIn ifs true fun c r => if r = true then do let ok ← isTrue c X.env (eval c X.env); pure (ForInStep.yield ok) else pure (ForInStep.yield r)) (TP X pins σ Q) X.xe s
instance {X : Cx} {R0 H0 : Hp} {Γ : List Slot} {ifs : List Expr} {m : Option Bool} : CoeFun (JTs X R0 H0 Γ ifs m) fun _ => ∀ σ R H, Sat X.K R0 H0 Γ σ R H → ∀ a, m = some a → ∀ Q : Bool → Hp → Prop, (∀ R' H', Ext R H R' H' → Q a H') → ∀ pins s, Inv X pins σ H s →
    wpAny (model X.prog X.w) X.A (forIn ifs true fun c r => if r = true then do let ok ← isTrue c X.env (eval c X.env); pure (ForInStep.yield ok) else pure (ForInStep.yield r)) (TP X pins σ Q) X.xe s := ⟨JTs.run⟩
abbrev Blk (X : Cx) (scope : Scope) : Type := Shared × Hp × Addr × List (Str × Addr) × List Addr
abbrev blk (X : Cx) (scope : Scope) (q : Blk X scope) : Cx := X.blk q.1 q.2.1 scope (compEnvC scope q.2.2.2.1 q.2.2.1 X.env) q.2.2.2.2
section
variable {X : Cx} {R0 H0 : Hp} {Γ : List Slot} {e a b tg : Expr} {pos : Pos}
theorem jts_one {m : Option Bool} (h : JT X R0 H0 Γ e m) : JTs X R0 H0 Γ [e] m := .mk fun σ R H S z ez Q q pins s I => (pts_one tS).run pins s σ H Q I (h σ R H S z ez Q q)
abbrev gB (X : Cx) (scope : Scope) (tg : Expr) : TG := fun v σ H Q => ∀ q : Blk X scope, gSem (blk X scope q) tg v σ H Q
abbrev tB (X : Cx) (scope : Scope) (ifs : List Expr) : TT := fun σ H Q => ∀ (q : Blk X scope) pins s, Inv (blk X scope q) pins σ H s →
      wpAny (model X.prog X.w) X.A (forIn ifs true fun c r => if r = true then do let ok ← isTrue c (blk X scope q).env (eval c (blk X scope q).env); pure (ForInStep.yield ok) else pure (ForInStep.yield r)) (TP (blk X scope q) pins σ Q) (blk X scope q).xe s
abbrev eB (X : Cx) (scope : Scope) (elt : Expr) : TE := fun σ H Q => ∀ q : Blk X scope, eSem (blk X scope q) elt σ H Q
theorem lc_tr {elt iter : Expr} {ifs : List Expr} {scope : Scope} {own : List (Str × Nat)} {ts : List Nat} {α β : Type} [Py α] [Py β] {mi : Option (List α)} {mt : α → Option Bool} {me : α → Option β} {Γb : List Slot} {up : α → List Slot}
    (hi : JI X R0 H0 Γ tg iter mi) (hw : wipeG Γ (own.map (·.2)) = Γb) (hg : ∀ q : Blk X scope, JG (blk X scope q) R0 H0 Γb tg ts up) (ht : ∀ (q : Blk X scope) x, JTs (blk X scope q) R0 H0 (up x) ifs (mt x))
    (he : ∀ (q : Blk X scope) x, JE (blk X scope q) R0 H0 (up x) elt (me x)) (hts : ∀ t ∈ ts, t ∈ own.map (·.2)) (hlt : (own.map (·.2)).all (fun v => decide (v < Γ.length)) = true)
    {σ : L2.St} {R H : Hp} (S : Sat X.K R0 H0 Γ σ R H) {r : List β} (er : (mi.bind fun xs => lcG mt me xs) = some r) (Q : VK) (q : ∀ p o R' H', Ext R H R' H' → H p = none → H' p = some o → R' p = none → ho X.K R' o r → Q (.ref p) H') :
    tLc (iSem X tg iter) (gB X scope tg) (tB X scope ifs) (eB X scope elt) (own.map (·.2)) σ H Q := by
  obtain ⟨xs, ex, er⟩ := bind_some' er
  unfold lcG at er
  by_cases hlen : xs.length < 1000000
  · rw [if_pos hlen] at er
    refine (hi σ R H S xs ex _ fun J R1 H1 x1 hJ D hD => ?_)
    refine ⟨fun i m H' => m = xs.length - i ∧ i ≤ xs.length ∧ ∃ R' acc as, Ext R1 H1 R' H' ∧ H' D = some (.lst acc) ∧ R' D = none ∧ AllR X.K R' acc as ∧ acc.length ≤ i ∧ ∃ r', lcM mt me (xs.drop i) = some r' ∧ r = as ++ r',
      ⟨xs.length, by simp, Nat.zero_le _, R1, [], [], .own x1.i hD, upd_same, x1.i.none hD, .nil, Nat.le_refl _, r, er, rfl⟩, ?_⟩
    rintro i m H2 ⟨rfl, hi', R2, acc, as, x2, hD2, hR2, hA, hal, r', er', hr'⟩
    have S2 : Sat X.K R0 H0 Γ σ R2 H2 := (S.ext x1).ext x2
    obtain ⟨g1, g2⟩ := hJ i R2 H2 x2.r S2.e0.h S2.i
    by_cases hlt' : i < xs.length
    · refine .inr ?_
      have hx : xs[i]? = some xs[i] := List.getElem?_eq_getElem hlt'
      obtain ⟨go, yl⟩ := g1 _ hx
      rw [drop_cons hx] at er'
      obtain ⟨k, ek, er'⟩ := bind_some' er'
      refine ⟨go, fun H' => ∃ R' acc as, Ext R1 H1 R' H' ∧ H' D = some (.lst acc) ∧ R' D = none ∧ AllR X.K R' acc as ∧ acc.length ≤ i + 1 ∧ ∃ r', lcM mt me (xs.drop (i + 1)) = some r' ∧ r = as ++ r', fun H' p' => ⟨xs.length - (i + 1), by omega, rfl, hlt', p'⟩, fun v H3 hy => ?_⟩
      obtain ⟨R3, x3, r3⟩ := yl v H3 hy
      intro qb
      have S3 := (S2.ext x3).wipe (own.map (·.2)) (fun v hv => of_decide_eq_true (List.all_eq_true.mp hlt v hv))
      rw [hw] at S3
      refine hg qb _ R3 H3 S3 v xs[i] r3 _ fun σ4 w4 S4 => ⟨(w4 _ hts).trans (wipe_idem σ _), ?_⟩
      intro qb
      refine ht qb xs[i] σ4 R3 H3 S4 k ek _ fun R5 H5 x5 => ?_
      have hD5 : H5 D = some (.lst acc) := x5.h _ _ (x3.h _ _ hD2)
      have hR5 : R5 D = none := x5.n _ _ rfl (x3.h _ _ hD2) (x3.n _ _ rfl hD2 hR2)
      cases k with
      | false => exact ⟨R5, acc, as, (x2.trans x3).trans x5, hD5, hR5, (hA.mono x3.r).mono x5.r, Nat.le_succ_of_le hal, r', er', hr'⟩
      | true =>
        obtain ⟨y, ey, er'⟩ := bind_some' er'
        obtain ⟨ys, eys, er'⟩ := bind_some' er'
        cases er'
        intro qb
        refine he qb xs[i] σ4 R5 H5 (S4.ext x5) y ey _ fun w R6 H6 x6 r6 => ?_
        have hD6 : H6 D = some (.lst acc) := x6.h _ _ hD5
        have hR6 : R6 D = none := x6.n _ _ rfl hD5 hR5
        refine ⟨acc, hD6, Nat.lt_of_lt_of_le (Nat.lt_of_le_of_lt hal (Nat.lt_trans hlt' hlen)) (by decide), R6, acc ++ [w], as ++ [y], ?_, upd_same, hR6, (((hA.mono x3.r).mono x5.r).mono x6.r).app (.cons r6 .nil), ?_, ys, eys, by rw [hr', List.append_assoc]; rfl⟩
        · have z := (((x2.trans x3).trans x5).trans x6)
          refine ⟨z.r, z.h.mut hD, fun p u hp => ?_, z.n⟩
          rw [upd_ne (ne_of_none hp hR6)]
          exact z.i p u hp
        · rw [List.length_append]
          exact Nat.add_le_add_right hal 1
    · have e : i = xs.length := by omega
      subst e
      rw [List.drop_length] at er'
      cases er'
      refine .inl ⟨g2 (Nat.le_refl _), q D _ R2 H2 (x1.trans x2) (x1.h.none hD) hD2 hR2 ?_⟩
      rw [hr', List.append_nil]
      exact ⟨acc, rfl, hA⟩
  · rw [if_neg hlen] at er
    cases er
theorem jo_lc {elt iter : Expr} {ifs : List Expr} {scope : Scope} {own : List (Str × Nat)} {ts : List Nat} {α β : Type} [Py α] [Py β] {mi : Option (List α)} {mt : α → Option Bool} {me : α → Option β} (Γb : List Slot) (up : α → List Slot) (hc : X.calm = true) (hN : X.N.Nodup)
    (hi : JI X R0 H0 Γ tg iter mi) (ok : BlkOk X.N X.env.scope scope own) (hw : wipeG Γ (own.map (·.2)) = Γb) (hg : ∀ q : Blk X scope, JG (blk X scope q) R0 H0 Γb tg ts up) (ht : ∀ (q : Blk X scope) x, JTs (blk X scope q) R0 H0 (up x) ifs (mt x))
    (he : ∀ (q : Blk X scope) x, JE (blk X scope q) R0 H0 (up x) elt (me x)) (hts : (∀ t ∈ ts, t ∈ own.map (·.2)) := by decide) (hlt : (own.map (·.2)).all (fun v => decide (v < Γ.length)) = true := by rfl) (hs : ∀ x, foldedSetIterable iter X.env x = pure x := by intro _; rfl) :
    JO X R0 H0 Γ (.ListComp elt [⟨tg, iter, ifs, 0⟩] scope pos) (mi.bind fun xs => lcG mt me xs) := .mk fun σ R H S r er Q q =>
  PE_to (pe_lc hc hN iS ok (g := gB X scope tg) (tt := tB X scope ifs) (te := eB X scope elt) (fun s H' C cl fp => ⟨fun pins s' σ H v u Q I r h => h ⟨s, H', C, cl, fp⟩ pins s' u I r⟩) (fun s H' C cl fp => ⟨fun pins s' σ H Q I h => h ⟨s, H', C, cl, fp⟩ pins s' I⟩)
    (fun s H' C cl fp => ⟨fun pins s' σ H Q I h => h ⟨s, H', C, cl, fp⟩ pins s' I⟩) hs) (lc_tr hi hw hg ht he hts hlt S er Q q)
/-! ### arguments and calls -/
theorem ja_nil : JA X R0 H0 Γ [] (some ()) := .mk fun σ R H S g eg Q q => PA_to pa_nil (q [] R H (.refl S.i) rfl)
theorem ja_cons {es : List Expr} {α γ : Type} [Py α] [Ar γ] {m : Option α} {mr : Option γ} (h : JB X R0 H0 Γ e m) (hr : JA X R0 H0 Γ es mr) (hs : starEach (e :: es) X.env = (false, eval e X.env) :: starEach es X.env := by rfl) :
    JA X R0 H0 Γ (e :: es) (m.bind fun x => mr.bind fun r => some (x, r)) := .mk fun σ R H S g eg Q q => by
  obtain ⟨x, ex, eg⟩ := bind_some' eg
  obtain ⟨r, er, eg⟩ := bind_some' eg
  cases eg
  exact PA_to (pa_cons eS aS hs) (h σ R H S x ex _ fun v R1 H1 x1 r1 => hr σ R1 H1 (S.ext x1) r er _ fun vs R2 H2 x2 r2 => q (v :: vs) R2 H2 (x1.trans x2) ⟨v, vs, rfl, Py.bmono x2.r x2.h r1, r2⟩)
theorem ja_cons_t {es : List Expr} {α γ : Type} [Py α] [Ar γ] {x : α} {r : γ} (h : JB X R0 H0 Γ e (some x)) (hr : JA X R0 H0 Γ es (some r)) (hs : starEach (e :: es) X.env = (false, eval e X.env) :: starEach es X.env := by rfl) :
    JA X R0 H0 Γ (e :: es) (some (x, r)) := ja_cons h hr hs
end
def spV {γ β : Type} [Ar γ] [Py β] (K : PySem.W.Frag) (m : γ → Option β) : Sp := fun vs H Q _ => ∃ R g b, Ex R H ∧ Ar.ok K R H vs g ∧ m g = some b ∧ ∀ v R' H', Ext R H R' H' → rep K R' v b → Q v H'
def spO {γ β : Type} [Ar γ] [Ob β] (K : PySem.W.Frag) (m : γ → Option β) : Sp := fun vs H Q _ => ∃ R g b, Ex R H ∧ Ar.ok K R H vs g ∧ m g = some b ∧ ∀ p o R' H', Ext R H R' H' → H p = none → H' p = some o → R' p = none → ho K R' o b → Q (.ref p) H'
/-- a def that may be called by its name -/
def Cal (P : Program) (w : World) (K : PySem.W.Frag) (mg : Str → Option Value) (base : Heap) (CX : CXT) (k : Nat) (x : Str) (ps : List Str) (sp : Sp) : Prop :=
  ∃ f fd, mg x = some (.ref f) ∧ PySem.W.keepIn K (.ref f) = true ∧ Binds K fd ps [] ∧ FnOk P w K mg base CX k f fd ps sp
theorem Cal.mono {P : Program} {w : World} {K : PySem.W.Frag} {mg : Str → Option Value} {base : Heap} {CX : CXT} {k j : Nat} {x : Str} {ps : List Str} {sp : Sp} (h : Cal P w K mg base CX k x ps sp) (l : k ≤ j) : Cal P w K mg base CX j x ps sp := by
  obtain ⟨f, fd, h1, h2, h3, h4⟩ := h
  exact ⟨f, fd, h1, h2, h3, h4.mono l⟩
section
variable {X : Cx} {R0 H0 : Hp} {Γ : List Slot} {e : Expr} {es : List Expr} {pos p : Pos} {γ β : Type} [Ar γ]
theorem je_call [Py β] {k : Nat} {x : Str} {ps : List Str} {m : γ → Option β} {ma : Option γ} (C : Cal X.prog X.w X.K X.mg X.base CX0 k x ps (spV X.K m)) (hr : Room k X.A) (ha : JA X R0 H0 Γ (e :: es) ma) (hg : Gl X x := by rfl)
    (hdb : (x == ("__debug__" : Str)) = false := by decide) (he : starEach (e :: es) X.env = (false, eval e X.env) :: starEach es X.env := by rfl) (hpl : (backTo pos (starEach es X.env)).any (·.1) = false := by rfl) :
    JE X R0 H0 Γ (.Call (.Name x p) (e :: es) [] pos) (ma.bind m) := .mk fun σ R H S b eb Q q => by
  obtain ⟨g, eg, eb⟩ := bind_some' eb
  obtain ⟨f, fd, h1, h2, h3, h4⟩ := C
  refine PE_to (pe_call h4 hr hg h1 h2 h3 .nil pass0 aS hdb he hpl) (ha σ R H S g eg _ fun vs R1 H1 x1 r1 => ?_)
  rw [List.append_nil]
  exact ⟨R1, g, b, x1.i, r1, eb, fun v R2 H2 x2 r2 => q v R2 H2 (x1.trans x2) r2⟩
theorem je_call_t [Py β] {k : Nat} {x : Str} {ps : List Str} {m : γ → Option β} {g : γ} (C : Cal X.prog X.w X.K X.mg X.base CX0 k x ps (spV X.K m)) (hr : Room k X.A) (ha : JA X R0 H0 Γ (e :: es) (some g)) (hg : Gl X x := by rfl)
    (hdb : (x == ("__debug__" : Str)) = false := by decide) (he : starEach (e :: es) X.env = (false, eval e X.env) :: starEach es X.env := by rfl) (hpl : (backTo pos (starEach es X.env)).any (·.1) = false := by rfl) :
    JE X R0 H0 Γ (.Call (.Name x p) (e :: es) [] pos) (m g) := je_call C hr ha hg hdb he hpl
theorem jo_call [Ob β] {k : Nat} {x : Str} {ps : List Str} {m : γ → Option β} {ma : Option γ} (C : Cal X.prog X.w X.K X.mg X.base CX0 k x ps (spO X.K m)) (hr : Room k X.A) (ha : JA X R0 H0 Γ (e :: es) ma) (hg : Gl X x := by rfl)
    (hdb : (x == ("__debug__" : Str)) = false := by decide) (he : starEach (e :: es) X.env = (false, eval e X.env) :: starEach es X.env := by rfl) (hpl : (backTo pos (starEach es X.env)).any (·.1) = false := by rfl) :
    JO X R0 H0 Γ (.Call (.Name x p) (e :: es) [] pos) (ma.bind m) := .mk fun σ R H S b eb Q q => by
  obtain ⟨g, eg, eb⟩ := bind_some' eb
  obtain ⟨f, fd, h1, h2, h3, h4⟩ := C
  refine PE_to (pe_call h4 hr hg h1 h2 h3 .nil pass0 aS hdb he hpl) (ha σ R H S g eg _ fun vs R1 H1 x1 r1 => ?_)
  rw [List.append_nil]
  exact ⟨R1, g, b, x1.i, r1, eb, fun p o R2 H2 x2 np hp hr r2 => q p o R2 H2 (x1.trans x2) (x1.h.none np) hp hr r2⟩
end
/-! ### a def -/
theorem slots_any (K : PySem.W.Frag) (R0 H0 R H : Hp) : ∀ n : Nat, SlotsOk K R0 H0 R H (List.replicate n Slot.any) (List.replicate n none) []
  | 0 => rfl
  | n + 1 => ⟨[], [], rfl, rfl, slots_any K R0 H0 R H n⟩
theorem sat_start {γ : Type} [Ar γ] {K : PySem.W.Frag} {R H : Hp} {vs : List V} {g : γ} {N ps : List Str} (i : Ex R H) (h : Ar.ok K R H vs g) (hl : vs.length = ps.length) : Sat K R H (Ar.slots g ++ List.replicate (N.length - ps.length) .any) (L2.start N vs) R H := by
  refine ⟨⟨[], ?_, List.nodup_nil, fun p hp => by cases hp⟩, .refl i⟩
  unfold L2.start
  rw [hl]
  exact Ar.sl h (slots_any K R H R H _)
section
variable {P : Program} {w : World} {K : PySem.W.Frag} {mg : Str → Option Value} {base : Heap} {x qual : Str} {st : Stmt} {f : Addr} {fd : FuncData} {N ps : List Str} {k : Nat} {γ β : Type} [Ar γ]
abbrev bodyX (P : Program) (w : World) (K : PySem.W.Frag) (mg : Str → Option Value) (base : Heap) (N : List Str) (qual : Str) (st : Stmt) (f : Addr) (cdv : Value) (A : Around) (outer : List Env) (s : Shared) (H : Hp) (E : XK) : Cx := (cxOf CX0 P w K mg base N qual (defScope st) f cdv A outer s H E).nox
theorem fn_v [Py β] {m : γ → Option β} (F : Fun K x qual st f fd) (S : FnScope N ps (defScope st)) (hl : ∀ R H vs (g : γ), Ar.ok K R H vs g → vs.length = ps.length)
    (hb : ∀ (cdv : Value) (A : Around) (outer : List Env) (s : Shared) (H R : Hp) (E : XK) (g : γ), Room k (A.deeper (envOfC qual (defScope st) s.heap.objs.size f cdv)) →
      JN (bodyX P w K mg base N qual st f cdv A outer s H E) R H (Ar.slots g ++ List.replicate (N.length - ps.length) .any) (defBody st) (m g) fun b => .rt b) : FnOk P w K mg base CX0 (k + 1) f fd ps (spV K m) := by
  refine F.ok S (fun vs H Q E h => ?_) (fun cdv A outer s H vs Q E hr h => ?_)
  · obtain ⟨R, g, b, i, h, _⟩ := h
    exact hl R H vs g h
  · obtain ⟨R, g, b, i, h, e, q⟩ := h
    exact ⟨_, sS, hb cdv A outer s H R E g hr _ R H (sat_start i h (hl R H vs g h)) b e { nx := fun _ H' => Q .non H', rt := Q } (fun _ H' => Q .non H') fun v R' H' x r => q v R' H' x r⟩
theorem fn_o [Ob β] {m : γ → Option β} (F : Fun K x qual st f fd) (S : FnScope N ps (defScope st)) (hl : ∀ R H vs (g : γ), Ar.ok K R H vs g → vs.length = ps.length)
    (hb : ∀ (cdv : Value) (A : Around) (outer : List Env) (s : Shared) (H R : Hp) (E : XK) (g : γ), Room k (A.deeper (envOfC qual (defScope st) s.heap.objs.size f cdv)) →
      JN (bodyX P w K mg base N qual st f cdv A outer s H E) R H (Ar.slots g ++ List.replicate (N.length - ps.length) .any) (defBody st) (m g) fun b => .ro b) : FnOk P w K mg base CX0 (k + 1) f fd ps (spO K m) := by
  refine F.ok S (fun vs H Q E h => ?_) (fun cdv A outer s H vs Q E hr h => ?_)
  · obtain ⟨R, g, b, i, h, _⟩ := h
    exact hl R H vs g h
  · obtain ⟨R, g, b, i, h, e, q⟩ := h
    exact ⟨_, sS, hb cdv A outer s H R E g hr _ R H (sat_start i h (hl R H vs g h)) b e { nx := fun _ H' => Q .non H', rt := Q } (fun _ H' => Q .non H') fun p o R' H' x np hp hr r => q p o R' H' x np hp hr r⟩
end
theorem ar1 {α : Type} [Py α] {x1 : Str} : ∀ (K : PySem.W.Frag) R H vs (g : α × Unit), Ar.ok K R H vs g → vs.length = [x1].length := fun K R H vs g ⟨v, r, h, _, q⟩ => by
  have q : r = [] := q
  rw [h, q]
  rfl
theorem ar2 {α β : Type} [Py α] [Py β] {x1 x2 : Str} : ∀ (K : PySem.W.Frag) R H vs (g : α × β × Unit), Ar.ok K R H vs g → vs.length = [x1, x2].length := fun K R H vs g ⟨v, r, h, _, v2, r2, h2, _, q⟩ => by
  have q : r2 = [] := q
  rw [h, h2, q]
  rfl
theorem ar3 {α β γ : Type} [Py α] [Py β] [Py γ] {x1 x2 x3 : Str} : ∀ (K : PySem.W.Frag) R H vs (g : α × β × γ × Unit), Ar.ok K R H vs g → vs.length = [x1, x2, x3].length := fun K R H vs g ⟨v, r, h, _, v2, r2, h2, _, v3, r3, h3, _, q⟩ => by
  have q : r3 = [] := q
  rw [h, h2, h3, q]
  rfl
end FK

namespace FK
open PySem PySem.Spec PyProof.Rows L2
theorem size_ok {n : Nat} (h : n ≤ 16000000) : n ≤ sizeLine := Nat.le_trans h (by rw [sizeLine_eq]; decide)
/-! ### scalars compared -/
class Sc (α : Type) [Py α] where
  to : α → V
  bor_eq : ∀ {K : PySem.W.Frag} {R H : Hp} {v : V} {a : α}, bor K R H v a → v = to a
  inj : ∀ {a b : α}, to a = to b → a = b
  sc : ∀ a b : α, scal (to a) (to b) = true
instance instScInt : Sc Int := ⟨V.int, fun h => h, fun h => V.int.inj h, fun _ _ => rfl⟩
instance instScBool : Sc Bool := ⟨V.bl, fun h => h, fun h => V.bl.inj h, fun _ _ => rfl⟩
instance instScStr : Sc Str := ⟨V.str, fun h => h, fun h => V.str.inj h, fun _ _ => rfl⟩
section
variable {X : Cx} {R0 H0 : Hp} {Γ : List Slot} {e a b o : Expr} {pos : Pos} {lo hi : Option Expr}
theorem sc_eq {α : Type} [Py α] [Sc α] [DecidableEq α] {K : PySem.W.Frag} (R H : Hp) (v w : V) (x y : α) (z : Bool) (i : Ex R H) (h1 : bor K R H v x) (h2 : bor K R H w y) (h3 : some (decide (x = y)) = some z) (Q : VK) (q : ∀ u R' H', Ext R H R' H' → rep K R' u z → Q u H') : rEq v w H Q := by
  cases h3
  have e1 := Sc.bor_eq h1
  have e2 := Sc.bor_eq h2
  subst e1 e2
  refine ⟨Sc.sc x y, ?_⟩
  have e : decide (Sc.to x = Sc.to y) = decide (x = y) := by
    by_cases h : x = y
    · subst h
      rw [decide_eq_true rfl, decide_eq_true rfl]
    · rw [decide_eq_false h, decide_eq_false fun z => h (Sc.inj z)]
  rw [e]
  exact q _ R H (.refl i) rfl
theorem sc_ne {α : Type} [Py α] [Sc α] [DecidableEq α] {K : PySem.W.Frag} (R H : Hp) (v w : V) (x y : α) (z : Bool) (i : Ex R H) (h1 : bor K R H v x) (h2 : bor K R H w y) (h3 : some (!decide (x = y)) = some z) (Q : VK) (q : ∀ u R' H', Ext R H R' H' → rep K R' u z → Q u H') : rNe v w H Q := by
  cases h3
  have e1 := Sc.bor_eq h1
  have e2 := Sc.bor_eq h2
  subst e1 e2
  refine ⟨Sc.sc x y, ?_⟩
  have e : decide (Sc.to x = Sc.to y) = decide (x = y) := by
    by_cases h : x = y
    · subst h
      rw [decide_eq_true rfl, decide_eq_true rfl]
    · rw [decide_eq_false h, decide_eq_false fun z => h (Sc.inj z)]
  rw [e]
  exact q _ R H (.refl i) rfl
section
variable {α : Type} [Py α] [Sc α] [DecidableEq α] {ma mb : Option α} {x y : α}
theorem je_eq (ha : JB X R0 H0 Γ a ma) (hb : JB X R0 H0 Γ b mb) : JE X R0 H0 Γ (.Compare a [.Eq] [b] pos) (ma.bind fun x => mb.bind fun y => some (decide (x = y))) := je_cmp2 op_eq (nomark _) sc_eq ha hb
theorem jt_eq (ha : JB X R0 H0 Γ a ma) (hb : JB X R0 H0 Γ b mb) : JT X R0 H0 Γ (.Compare a [.Eq] [b] pos) (ma.bind fun x => mb.bind fun y => some (decide (x = y))) := jt_cmp2 op_eq (nomark _) sc_eq ha hb
theorem jt_eq_t (ha : JB X R0 H0 Γ a (some x)) (hb : JB X R0 H0 Γ b (some y)) : JT X R0 H0 Γ (.Compare a [.Eq] [b] pos) (some (decide (x = y))) := jt_eq ha hb
theorem jt_ne (ha : JB X R0 H0 Γ a ma) (hb : JB X R0 H0 Γ b mb) : JT X R0 H0 Γ (.Compare a [.NotEq] [b] pos) (ma.bind fun x => mb.bind fun y => some (!decide (x = y))) := jt_cmp2 op_ne (nomark _) sc_ne ha hb
theorem jt_ne_t (ha : JB X R0 H0 Γ a (some x)) (hb : JB X R0 H0 Γ b (some y)) : JT X R0 H0 Γ (.Compare a [.NotEq] [b] pos) (some (!decide (x = y))) := jt_ne ha hb
end
section
variable {ma mb : Option Int} {x y : Int}
theorem jt_lt (ha : JB X R0 H0 Γ a ma) (hb : JB X R0 H0 Γ b mb) : JT X R0 H0 Γ (.Compare a [.Lt] [b] pos) (ma.bind fun x => mb.bind fun y => some (decide (x < y))) := jt_cmp2 op_lt (nomark _) rib0 ha hb
theorem jt_lt_t (ha : JB X R0 H0 Γ a (some x)) (hb : JB X R0 H0 Γ b (some y)) : JT X R0 H0 Γ (.Compare a [.Lt] [b] pos) (some (decide (x < y))) := jt_lt ha hb
theorem jt_gt (ha : JB X R0 H0 Γ a ma) (hb : JB X R0 H0 Γ b mb) : JT X R0 H0 Γ (.Compare a [.Gt] [b] pos) (ma.bind fun x => mb.bind fun y => some (decide (y < x))) := jt_cmp2 op_gt (nomark _) rib0 ha hb
theorem je_neg {m : Option Int} (h : JB X R0 H0 Γ a m) : JE X R0 H0 Γ (.UnaryOp .USub a pos) (m.bind fun x => some (-x)) := .mk fun σ R H S z ez Q q => by
  obtain ⟨x, ex, ez⟩ := bind_some' ez
  cases ez
  exact PE_to (pe_un un_neg eS) (h σ R H S x ex _ fun v R' H' z r => ⟨x, r, q _ R' H' z rfl⟩)
theorem je_neg_t (h : JB X R0 H0 Γ a (some x)) : JE X R0 H0 Γ (.UnaryOp .USub a pos) (some (-x)) := je_neg h
end
/-! ### texts -/
def sAdd (x y : Str) : Option Str := if x.length + y.length ≤ 16000000 then some (x ++ y) else none
theorem je_cat {ma mb : Option Str} (ha : JB X R0 H0 Γ a ma) (hb : JB X R0 H0 Γ b mb) : JE X R0 H0 Γ (.BinOp a .Add b pos) (ma.bind fun x => mb.bind fun y => sAdd x y) := je_op2 op_add_str (fun R H v w x y z i h1 h2 h3 Q q => by
  unfold sAdd at h3
  by_cases h : x.length + y.length ≤ 16000000
  · rw [if_pos h] at h3
    cases h3
    exact ⟨x, y, h1, h2, size_ok h, q _ R H (.refl i) rfl⟩
  · rw [if_neg h] at h3
    cases h3) ha hb
theorem je_cat_t {x y : Str} (ha : JB X R0 H0 Γ a (some x)) (hb : JB X R0 H0 Γ b (some y)) : JE X R0 H0 Γ (.BinOp a .Add b pos) (sAdd x y) := je_cat ha hb
def sAt (z : Str) (i : Int) : Option Str := if z.length ≤ 16000000 then (atI z.cps.toList i).bind fun c => some ⟨#[c]⟩ else none
theorem je_ixs {ma : Option Str} {mb : Option Int} (ha : JB X R0 H0 Γ a ma) (hb : JB X R0 H0 Γ b mb) (hs : PlainIx b) : JE X R0 H0 Γ (.Subscript a b pos) (ma.bind fun x => mb.bind fun y => sAt x y) := .mk fun σ R H S z ez Q q => by
  obtain ⟨x, ex, ez⟩ := bind_some' ez
  obtain ⟨y, ey, ez⟩ := bind_some' ez
  unfold sAt at ez
  by_cases h : x.length ≤ 16000000
  · rw [if_pos h] at ez
    obtain ⟨c, ec, ez⟩ := bind_some' ez
    cases ez
    refine PE_to (pe_ix ix_str eS eS hs) (ha σ R H S x ex _ fun v R1 H1 e1 r1 => hb σ R1 H1 (S.ext e1) y ey _ fun w R2 H2 e2 r2 => ?_)
    exact ⟨x, y, c, r1, r2, size_ok h, ec, q _ R2 H2 (e1.trans e2) rfl⟩
  · rw [if_neg h] at ez
    cases ez
theorem je_ixs_t {x : Str} {y : Int} (ha : JB X R0 H0 Γ a (some x)) (hb : JB X R0 H0 Γ b (some y)) (hs : PlainIx b) : JE X R0 H0 Γ (.Subscript a b pos) (sAt x y) := je_ixs ha hb hs
theorem jp_none : JP X R0 H0 Γ none (some none) := .mk fun σ R H S z ez Q q pins s I => by
  cases ez
  exact po_none.run pins s σ H Q I (q R H (.refl S.i))
theorem jp_some {m : Option Int} (h : JB X R0 H0 Γ e m) : JP X R0 H0 Γ (some e) (m.bind fun x => some (some x)) := .mk fun σ R H S z ez Q q pins s I => by
  obtain ⟨x, ex, ez⟩ := bind_some' ez
  cases ez
  exact (po_some eS).run pins s σ H Q I (h σ R H S x ex _ fun v R' H' z r => ⟨x, r, q R' H' z⟩)
theorem jp_some_t {x : Int} (h : JB X R0 H0 Γ e (some x)) : JP X R0 H0 Γ (some e) (some (some x)) := jp_some h
def sCut (z : Str) (lo hi : Option Int) : Option Str := if z.length ≤ 16000000 then some (cutS z lo hi) else none
/-- a text's methods -/
theorem je_m1 {id : String} {name : Str} {apos : Pos} {r : V → List V → Hp → VK → Prop} {α β : Type} [Py α] [Py β] {mo : Option Str} {me : Option α} {f : Str → α → Option β} (slot : PySem.Slot "str" name id) (ty : typeOf (.builtin id) = pure (.type "method_descriptor")) (rule : MtR X id r)
    (hr : ∀ (R H : Hp) (w : V) (x : Str) (y : α) (z : β), Ex R H → bor X.K R H w y → f x y = some z → ∀ Q : VK, (∀ u R' H', Ext R H R' H' → rep X.K R' u z → Q u H') → r (.str x) [w] H Q) (ho : JB X R0 H0 Γ o mo) (he : JB X R0 H0 Γ e me)
    (hs : starEach [e] X.env = [(false, eval e X.env)] := by rfl) (hbase : attributeBase o name X.env (eval o X.env) = eval o X.env := by rfl) (hline : (apos.endLine == pos.line) = true := by rfl) :
    JE X R0 H0 Γ (.Call (.Attribute o name apos) [e] [] pos) (mo.bind fun x => me.bind fun y => f x y) := .mk fun σ R H S z ez Q q => by
  obtain ⟨x, ex, ez⟩ := bind_some' ez
  obtain ⟨y, ey, ez⟩ := bind_some' ez
  refine PE_to (pe_m1 slot ty rule eS eS hs hbase hline) (ho σ R H S x ex _ fun v R1 H1 x1 r1 => ?_)
  have r1 : v = .str x := r1
  subst r1
  exact ⟨⟨x, rfl⟩, he σ R1 H1 (S.ext x1) y ey _ fun w R2 H2 x2 r2 => hr R2 H2 w x y z x2.i r2 ez Q fun u R3 H3 x3 r3 => q u R3 H3 ((x1.trans x2).trans x3) r3⟩
theorem jo_m1 {id : String} {name : Str} {apos : Pos} {r : V → List V → Hp → VK → Prop} {α β : Type} [Py α] [Ob β] {mo : Option Str} {me : Option α} {f : Str → α → Option β} (slot : PySem.Slot "str" name id) (ty : typeOf (.builtin id) = pure (.type "method_descriptor")) (rule : MtR X id r)
    (hr : ∀ (R H : Hp) (w : V) (x : Str) (y : α) (z : β), Ex R H → bor X.K R H w y → f x y = some z → ∀ Q : VK, (∀ p o R' H', Ext R H R' H' → H p = none → H' p = some o → R' p = none → ho X.K R' o z → Q (.ref p) H') → r (.str x) [w] H Q) (hho : JB X R0 H0 Γ o mo) (he : JB X R0 H0 Γ e me)
    (hs : starEach [e] X.env = [(false, eval e X.env)] := by rfl) (hbase : attributeBase o name X.env (eval o X.env) = eval o X.env := by rfl) (hline : (apos.endLine == pos.line) = true := by rfl) :
    JO X R0 H0 Γ (.Call (.Attribute o name apos) [e] [] pos) (mo.bind fun x => me.bind fun y => f x y) := .mk fun σ R H S z ez Q q => by
  obtain ⟨x, ex, ez⟩ := bind_some' ez
  obtain ⟨y, ey, ez⟩ := bind_some' ez
  refine PE_to (pe_m1 slot ty rule eS eS hs hbase hline) (hho σ R H S x ex _ fun v R1 H1 x1 r1 => ?_)
  have r1 : v = .str x := r1
  subst r1
  exact ⟨⟨x, rfl⟩, he σ R1 H1 (S.ext x1) y ey _ fun w R2 H2 x2 r2 => hr R2 H2 w x y z x2.i r2 ez Q fun p o R3 H3 x3 np hp hr' r3 => q p o R3 H3 ((x1.trans x2).trans x3) ((x1.trans x2).h.none np) hp hr' r3⟩
/-- a new list of texts -/
theorem new_strs {K : PySem.W.Frag} {R H : Hp} {ys : List Str} {Q : VK} (i : Ex R H) (q : ∀ p o R' H', Ext R H R' H' → H p = none → H' p = some o → R' p = none → ho K R' o ys → Q (.ref p) H') : rNewStrs ys H Q := fun p hp =>
  q p _ R _ (.own i hp) hp upd_same (i.none hp) ⟨ys.map V.str, rfl, AllR.of_map (fun a => rfl) ys⟩
def sSplit (x y : Str) : Option (List Str) := if (y.length == 0) = false ∧ x.length ≤ 15000000 then some (Txt.split x y) else none
theorem jo_split {apos : Pos} {mo me : Option Str} (hho : JB X R0 H0 Γ o mo) (he : JB X R0 H0 Γ e me)
    (hs : starEach [e] X.env = [(false, eval e X.env)] := by rfl) (hbase : attributeBase o "split" X.env (eval o X.env) = eval o X.env := by rfl) (hline : (apos.endLine == pos.line) = true := by rfl) :
    JO X R0 H0 Γ (.Call (.Attribute o "split" apos) [e] [] pos) (mo.bind fun x => me.bind fun y => sSplit x y) := jo_m1 F.slot_str_split F.type_str_split mt_split (fun R H w x y z i h h3 Q q => by
  unfold sSplit at h3
  by_cases g : (y.length == 0) = false ∧ x.length ≤ 15000000
  · rw [if_pos g] at h3
    cases h3
    have h : w = .str y := h
    subst h
    exact ⟨x, y, rfl, rfl, g.1, size_ok (by omega), new_strs i q⟩
  · rw [if_neg g] at h3
    cases h3) hho he hs hbase hline
theorem jo_split_t {apos : Pos} {x y : Str} (hho : JB X R0 H0 Γ o (some x)) (he : JB X R0 H0 Γ e (some y))
    (hs : starEach [e] X.env = [(false, eval e X.env)] := by rfl) (hbase : attributeBase o "split" X.env (eval o X.env) = eval o X.env := by rfl) (hline : (apos.endLine == pos.line) = true := by rfl) :
    JO X R0 H0 Γ (.Call (.Attribute o "split" apos) [e] [] pos) (sSplit x y) := jo_split hho he hs hbase hline
def sJoin (x : Str) (ys : List Str) : Option Str := if (ys.map (·.length)).sum + ys.length * x.length ≤ 16000000 then some (Txt.join x ys) else none
theorem bor_strs {K : PySem.W.Frag} {R H : Hp} {v : V} {ys : List Str} (h : bor K R H v ys) : ∃ p, v = .ref p ∧ SqL K H p (ys.map V.str) := by
  obtain ⟨p, o, rfl, hp, vs, rfl, hv⟩ := h
  have e := hv.map_eq (f := V.str) (fun v a r => r)
  subst e
  exact ⟨p, rfl, (seq_rd hp)⟩
theorem je_join {apos : Pos} {mo : Option Str} {me : Option (List Str)} (ho : JB X R0 H0 Γ o mo) (he : JB X R0 H0 Γ e me)
    (hs : starEach [e] X.env = [(false, eval e X.env)] := by rfl) (hbase : attributeBase o "join" X.env (eval o X.env) = eval o X.env := by rfl) (hline : (apos.endLine == pos.line) = true := by rfl) :
    JE X R0 H0 Γ (.Call (.Attribute o "join" apos) [e] [] pos) (mo.bind fun x => me.bind fun y => sJoin x y) := je_m1 F.slot_str_join F.type_str_join mt_join (fun R H w x y z i h h3 Q q => by
  unfold sJoin at h3
  by_cases g : (y.map (·.length)).sum + y.length * x.length ≤ 16000000
  · rw [if_pos g] at h3
    cases h3
    obtain ⟨p, rfl, hp⟩ := bor_strs h
    exact ⟨x, p, y, rfl, rfl, .inl hp, Nat.le_trans g (by decide), q _ R H (.refl i) rfl⟩
  · rw [if_neg g] at h3
    cases h3) ho he hs hbase hline
theorem je_join_t {apos : Pos} {x : Str} {y : List Str} (ho : JB X R0 H0 Γ o (some x)) (he : JB X R0 H0 Γ e (some y))
    (hs : starEach [e] X.env = [(false, eval e X.env)] := by rfl) (hbase : attributeBase o "join" X.env (eval o X.env) = eval o X.env := by rfl) (hline : (apos.endLine == pos.line) = true := by rfl) :
    JE X R0 H0 Γ (.Call (.Attribute o "join" apos) [e] [] pos) (sJoin x y) := je_join ho he hs hbase hline
/-! ### lists -/
def cutA {α : Type} (xs : List α) (lo hi : Option Int) : List α := (xs.drop (HT.sIx xs.length 0 lo)).take (HT.sIx xs.length xs.length hi - HT.sIx xs.length 0 lo)
theorem jo_cutl {p2 : Pos} {α : Type} [Py α] {m : Option (List α)} {ml mh : Option (Option Int)} (h : JB X R0 H0 Γ e m) (hl : JP X R0 H0 Γ lo ml) (hh : JP X R0 H0 Γ hi mh) : JO X R0 H0 Γ (.Subscript e (.Slice lo hi none p2) pos) (m.bind fun x => ml.bind fun l => mh.bind fun u => some (cutA x l u)) := .mk fun σ R H S z ez Q q => by
  obtain ⟨x, ex, ez⟩ := bind_some' ez
  obtain ⟨l, el, ez⟩ := bind_some' ez
  obtain ⟨u, eu, ez⟩ := bind_some' ez
  cases ez
  refine PE_to (pe_slice sl_list eS oS oS) (h σ R H S x ex _ fun v R1 H1 x1 r1 => hl σ R1 H1 (S.ext x1) l el _ fun R2 H2 x2 => hh σ R2 H2 ((S.ext x1).ext x2) u eu _ fun R3 H3 x3 => ?_)
  obtain ⟨p, o, rfl, hp, vs, rfl, hv⟩ := Py.bmono (x2.trans x3).r (x2.trans x3).h r1
  refine ⟨p, vs, rfl, (seq_rd hp), fun d hd => q d _ R3 _ (((x1.trans x2).trans x3).trans (.own x3.i hd)) (((x1.trans x2).trans x3).h.none hd) upd_same (x3.i.none hd) ⟨_, rfl, ?_⟩⟩
  unfold cutV cutA
  rw [← hv.len]
  exact (hv.drop _).take _
theorem jo_cutl_t {p2 : Pos} {α : Type} [Py α] {x : List α} {l u : Option Int} (h : JB X R0 H0 Γ e (some x)) (hl : JP X R0 H0 Γ lo (some l)) (hh : JP X R0 H0 Γ hi (some u)) : JO X R0 H0 Γ (.Subscript e (.Slice lo hi none p2) pos) (some (cutA x l u)) := jo_cutl h hl hh
theorem AllR.at' {α : Type} [Py α] {K : PySem.W.Frag} {R : Hp} {vs : List V} {as : List α} (h : AllR K R vs as) {i : Int} {a : α} (e : atI as i = some a) : ∃ v, atI vs i = some v ∧ rep K R v a := by
  unfold atI at e ⊢
  rw [h.len]
  obtain ⟨j, ej, e⟩ := bind_some' e
  rw [ej]
  exact h.get e
theorem je_ixl {α : Type} [Py α] {ma : Option (List α)} {mb : Option Int} (ha : JB X R0 H0 Γ a ma) (hb : JB X R0 H0 Γ b mb) (hs : PlainIx b) : JE X R0 H0 Γ (.Subscript a b pos) (ma.bind fun x => mb.bind fun y => atI x y) := .mk fun σ R H S z ez Q q => by
  obtain ⟨x, ex, ez⟩ := bind_some' ez
  obtain ⟨y, ey, ez⟩ := bind_some' ez
  refine PE_to (pe_ix ix_list eS eS hs) (ha σ R H S x ex _ fun v R1 H1 e1 r1 => hb σ R1 H1 (S.ext e1) y ey _ fun w R2 H2 e2 r2 => ?_)
  obtain ⟨p, o, rfl, hp, vs, rfl, hv⟩ := Py.bmono e2.r e2.h r1
  obtain ⟨u, hu, ru⟩ := hv.at' ez
  exact ⟨p, vs, y, u, rfl, r2, (seq_rd hp), hu, q _ R2 H2 (e1.trans e2) ru⟩
theorem je_ixl_t {α : Type} [Py α] {x : List α} {y : Int} (ha : JB X R0 H0 Γ a (some x)) (hb : JB X R0 H0 Γ b (some y)) (hs : PlainIx b) : JE X R0 H0 Γ (.Subscript a b pos) (atI x y) := je_ixl ha hb hs
theorem je_lenl {p : Pos} {α : Type} [Py α] {m : Option (List α)} (hm : X.mg "len" = none) (h : JB X R0 H0 Γ a m) (hg : Gl X "len" := by rfl) (hs : starEach (a :: []) X.env = (false, eval a X.env) :: starEach [] X.env := by rfl) (hpl : (backTo pos (starEach ([] : List Expr) X.env)).any (·.1) = false := by rfl) :
    JE X R0 H0 Γ (.Call (.Name "len" p) [a] [] pos) (m.bind fun x => some (x.length : Int)) := .mk fun σ R H S z ez Q q => by
  obtain ⟨x, ex, ez⟩ := bind_some' ez
  cases ez
  refine PE_to (pe_callB call_len_seq hg hm PySem.boot_len (pa_cons eS pa_nil hs) (he := hs) (hpl := hpl)) (h σ R H S x ex _ fun v R1 H1 x1 r1 => ?_)
  obtain ⟨p, o, rfl, hp, vs, rfl, hv⟩ := r1
  exact ⟨p, vs, rfl, .inl (seq_rd hp), q _ R1 H1 x1 (by rw [hv.len]; rfl)⟩
theorem je_lenl_t {p : Pos} {α : Type} [Py α] {x : List α} (hm : X.mg "len" = none) (h : JB X R0 H0 Γ a (some x)) (hg : Gl X "len" := by rfl) (hs : starEach (a :: []) X.env = (false, eval a X.env) :: starEach [] X.env := by rfl) (hpl : (backTo pos (starEach ([] : List Expr) X.env)).any (·.1) = false := by rfl) :
    JE X R0 H0 Γ (.Call (.Name "len" p) [a] [] pos) (some (x.length : Int)) := je_lenl hm h hg hs hpl
/-! ### isinstance by a built-in class -/
class Ty (α : Type) [Py α] where
  nm : String
  ty : ∀ {K : PySem.W.Frag} {R H : Hp} {v : V} {a : α}, Ex R H → bor K R H v a → TyX K H v (.type nm)
instance : Ty Int := ⟨"int", fun {K R H v a} _ h => by cases (show v = .int a from h); exact .base (.int a)⟩
instance : Ty Bool := ⟨"bool", fun {K R H v a} _ h => by cases (show v = .bl a from h); exact .base (.bl a)⟩
instance : Ty Str := ⟨"str", fun {K R H v a} _ h => by cases (show v = .str a from h); exact .base (.str a)⟩
instance {α : Type} [Py α] : Ty (List α) := ⟨"list", fun {K R H v a} _ h => by
  obtain ⟨p, o, rfl, hp, vs, rfl, hv⟩ := h
  rcases (seq_rd (K := K) hp) with (hp | ⟨ob, hp⟩) | ⟨ob, its, n, hp, hc, _⟩
  · exact .base (.lst hp)
  · exact .base (.frz hp)
  · exact .kList hp hc⟩
theorem je_isi {p p2 : Pos} {α : Type} [Py α] [Ty α] {m : Option α} {T : Str} {Tn nm0 : String} (r : Bool) (hm : X.mg "isinstance" = none) (hT : X.mg T = none) (h : JB X R0 H0 Γ a m) (hb : bootBuiltins T = some (.type Tn) := by decide +kernel) (hk : kitB nm0 Tn = some r := by decide +kernel) (hnm : Ty.nm α = nm0 := by rfl) (hg : Gl X "isinstance" := by rfl) (hg2 : Gl X T := by rfl)
    (hs : starEach [a, .Name T p2] X.env = (false, eval a X.env) :: starEach [.Name T p2] X.env := by rfl) (hs2 : starEach [.Name T p2] X.env = (false, eval (.Name T p2) X.env) :: starEach [] X.env := by rfl) (hn : T ≠ "__name__" := by decide) (hd : (T == ("__debug__" : Str)) = false := by decide) (hpl : (backTo pos (starEach [.Name T p2] X.env)).any (·.1) = false := by rfl) :
    JE X R0 H0 Γ (.Call (.Name "isinstance" p) [a, .Name T p2] [] pos) (m.bind fun _ => some r) := .mk fun σ R H S z ez Q q => by
  obtain ⟨x, ex, ez⟩ := bind_some' ez
  cases ez
  refine PE_to (pe_callB call_isi hg hm PyProof.Rows.boot_isinstance (pa_cons eS (pa_cons (pe_bltn (v := .ty Tn) hg2 hT hb rfl hn hd) pa_nil hs2) hs) (he := hs) (hpl := hpl)) (h σ R H S x ex _ fun v R1 H1 x1 r1 => ?_)
  subst hnm
  exact ⟨v, .ty Tn, .type (Ty.nm α), .type Tn, r, rfl, .ty Tn, Ty.ty x1.i r1, kit_ty hk, q _ R1 H1 x1 rfl⟩
theorem je_isi_t {p p2 : Pos} {α : Type} [Py α] [Ty α] {x : α} {T : Str} {Tn nm0 : String} (r : Bool) (hm : X.mg "isinstance" = none) (hT : X.mg T = none) (h : JB X R0 H0 Γ a (some x)) (hb : bootBuiltins T = some (.type Tn) := by decide +kernel) (hk : kitB nm0 Tn = some r := by decide +kernel) (hnm : Ty.nm α = nm0 := by rfl) (hg : Gl X "isinstance" := by rfl) (hg2 : Gl X T := by rfl)
    (hs : starEach [a, .Name T p2] X.env = (false, eval a X.env) :: starEach [.Name T p2] X.env := by rfl) (hs2 : starEach [.Name T p2] X.env = (false, eval (.Name T p2) X.env) :: starEach [] X.env := by rfl) (hn : T ≠ "__name__" := by decide) (hd : (T == ("__debug__" : Str)) = false := by decide) (hpl : (backTo pos (starEach [.Name T p2] X.env)).any (·.1) = false := by rfl) :
    JE X R0 H0 Γ (.Call (.Name "isinstance" p) [a, .Name T p2] [] pos) (some r) := je_isi r hm hT h hb hk hnm hg hg2 hs hs2 hn hd hpl
end
end FK

namespace FK
open PySem PySem.Spec PyProof.Rows L2
section
variable {X : Cx} {R0 H0 : Hp} {Γ : List Slot} {e a b c o tg : Expr} {pos : Pos} {lo hi : Option Expr} {st : Stmt}
def sLen (x : Str) : Option Int := if x.length ≤ 16000000 then some (x.length : Int) else none
theorem js_last {β : Type} {m : Option β} {out : β → Out} (h : J1 X R0 H0 Γ st m out) : JS X R0 H0 Γ [st] m out := .mk fun σ R H S b eb D q => PSs_to (pss_one s1S) (h σ R H S b eb D q)
theorem je_globi {x : Str} {z : Int} {t : Tok} (hm : X.mg x = some (.int z t)) (hg : Gl X x := by rfl) (hd : (x == ("__debug__" : Str)) = false := by decide) : JE X R0 H0 Γ (.Name x pos) (some z) := .mk fun σ R H S a ea Q q => by
  cases ea
  exact PE_to (pe_glob (v := .int z) hg hm ⟨t, rfl⟩ hd) (q _ R H (.refl S.i) rfl)
/-! ### the script -/
theorem je_ixscr {ma : Option Scr} {mb : Option Int} (ha : JB X R0 H0 Γ a ma) (hb : JB X R0 H0 Γ b mb) (hs : PlainIx b) : JE X R0 H0 Γ (.Subscript a b pos) (ma.bind fun x => mb.bind fun y => atI x.l y) := .mk fun σ R H S z ez Q q => by
  obtain ⟨x, ex, ez⟩ := bind_some' ez
  obtain ⟨y, ey, ez⟩ := bind_some' ez
  refine PE_to (pe_ix ix_list eS eS hs) (ha σ R H S x ex _ fun v R1 H1 e1 r1 => hb σ R1 H1 (S.ext e1) y ey _ fun w R2 H2 e2 r2 => ?_)
  obtain ⟨p, rfl, hp⟩ := Py.bmono e2.r e2.h r1
  have hv : AllR X.K R2 (x.l.map V.int) x.l := AllR.of_map (fun a => rfl) x.l
  obtain ⟨u, hu, ru⟩ := hv.at' ez
  exact ⟨p, _, y, u, rfl, r2, hp, hu, q _ R2 H2 (e1.trans e2) ru⟩
theorem je_ixscr_t {x : Scr} {y : Int} (ha : JB X R0 H0 Γ a (some x)) (hb : JB X R0 H0 Γ b (some y)) (hs : PlainIx b) : JE X R0 H0 Γ (.Subscript a b pos) (atI x.l y) := je_ixscr ha hb hs
theorem je_lenscr {p : Pos} {m : Option Scr} (hm : X.mg "len" = none) (h : JB X R0 H0 Γ a m) (hg : Gl X "len" := by rfl) (hs : starEach (a :: []) X.env = (false, eval a X.env) :: starEach [] X.env := by rfl) (hpl : (backTo pos (starEach ([] : List Expr) X.env)).any (·.1) = false := by rfl) :
    JE X R0 H0 Γ (.Call (.Name "len" p) [a] [] pos) (m.bind fun x => some (x.l.length : Int)) := .mk fun σ R H S z ez Q q => by
  obtain ⟨x, ex, ez⟩ := bind_some' ez
  cases ez
  refine PE_to (pe_callB call_len_seq hg hm PySem.boot_len (pa_cons eS pa_nil hs) (he := hs) (hpl := hpl)) (h σ R H S x ex _ fun v R1 H1 x1 r1 => ?_)
  obtain ⟨p, rfl, hp⟩ := r1
  exact ⟨p, _, rfl, .inl hp, q _ R1 H1 x1 (by rw [List.length_map]; rfl)⟩
theorem je_lenscr_t {p : Pos} {x : Scr} (hm : X.mg "len" = none) (h : JB X R0 H0 Γ a (some x)) (hg : Gl X "len" := by rfl) (hs : starEach (a :: []) X.env = (false, eval a X.env) :: starEach [] X.env := by rfl) (hpl : (backTo pos (starEach ([] : List Expr) X.env)).any (·.1) = false := by rfl) :
    JE X R0 H0 Γ (.Call (.Name "len" p) [a] [] pos) (some (x.l.length : Int)) := je_lenscr hm h hg hs hpl
/-! ### one argument, two, three: built-ins -/
theorem je_b1 {p : Pos} {f : Str} {id : String} {r : List V → Hp → VK → Prop} {α β : Type} [Py α] [Py β] {m : Option α} {g : α → Option β} (hc : CallR X (.builtin id) r) (hb : bootBuiltins f = some (.builtin id)) (hm : X.mg f = none)
    (hr : ∀ (R H : Hp) (v : V) (x : α) (z : β), Ex R H → bor X.K R H v x → g x = some z → ∀ Q : VK, (∀ u R' H', Ext R H R' H' → rep X.K R' u z → Q u H') → r [v] H Q) (h : JB X R0 H0 Γ a m) (hg : Gl X f)
    (hs : starEach (a :: []) X.env = (false, eval a X.env) :: starEach [] X.env) (hpl : (backTo pos (starEach ([] : List Expr) X.env)).any (·.1) = false) (hn : f ≠ "__name__") (hd : (f == ("__debug__" : Str)) = false) :
    JE X R0 H0 Γ (.Call (.Name f p) [a] [] pos) (m.bind g) := .mk fun σ R H S z ez Q q => by
  obtain ⟨x, ex, ez⟩ := bind_some' ez
  exact PE_to (pe_callB hc hg hm hb (pa_cons eS pa_nil hs) hn hd (he := hs) (hpl := hpl)) (h σ R H S x ex _ fun v R1 H1 x1 r1 => hr R1 H1 v x z x1.i r1 ez Q fun u R2 H2 x2 r2 => q u R2 H2 (x1.trans x2) r2)
def iabs (i : Int) : Int := if i < 0 then -i else i
def bint (k : Bool) : Int := if k then 1 else 0
def imax2 (i j : Int) : Int := if j > i then j else i
def imin2 (i j : Int) : Int := if j < i then j else i
def imin3 (i j k : Int) : Int := imin2 (imin2 i j) k
theorem je_b2 {p : Pos} {f : Str} {id : String} {r : List V → Hp → VK → Prop} {g : Int → Int → Int} {m m2 : Option Int} (hc : CallR X (.builtin id) r) (hb : bootBuiltins f = some (.builtin id)) (hm : X.mg f = none)
    (hr : ∀ (H : Hp) (x y : Int) (Q : VK), Q (.int (g x y)) H → r [.int x, .int y] H Q) (h : JB X R0 H0 Γ a m) (h2 : JB X R0 H0 Γ b m2) (hg : Gl X f)
    (hs : starEach [a, b] X.env = (false, eval a X.env) :: starEach [b] X.env) (hs2 : starEach [b] X.env = (false, eval b X.env) :: starEach [] X.env) (hpl : (backTo pos (starEach [b] X.env)).any (·.1) = false) (hn : f ≠ "__name__") (hd : (f == ("__debug__" : Str)) = false) :
    JE X R0 H0 Γ (.Call (.Name f p) [a, b] [] pos) (m.bind fun x => m2.bind fun y => some (g x y)) := .mk fun σ R H S z ez Q q => by
  obtain ⟨x, ex, ez⟩ := bind_some' ez
  obtain ⟨y, ey, ez⟩ := bind_some' ez
  cases ez
  refine PE_to (pe_callB hc hg hm hb (pa_cons eS (pa_cons eS pa_nil hs2) hs) hn hd (he := hs) (hpl := hpl)) (h σ R H S x ex _ fun v R1 H1 x1 r1 => h2 σ R1 H1 (S.ext x1) y ey _ fun w R2 H2 x2 r2 => ?_)
  have r1 : v = .int x := r1
  have r2 : w = .int y := r2
  subst r1 r2
  exact hr H2 x y Q (q _ R2 H2 (x1.trans x2) rfl)
theorem je_max2 {p : Pos} {m m2 : Option Int} (hm : X.mg "max" = none) (h : JB X R0 H0 Γ a m) (h2 : JB X R0 H0 Γ b m2) (hc : X.calm = true := by rfl) (hg : Gl X "max" := by rfl) (hs : starEach [a, b] X.env = (false, eval a X.env) :: starEach [b] X.env := by rfl) (hs2 : starEach [b] X.env = (false, eval b X.env) :: starEach [] X.env := by rfl) (hpl : (backTo pos (starEach [b] X.env)).any (·.1) = false := by rfl) :
    JE X R0 H0 Γ (.Call (.Name "max" p) [a, b] [] pos) (m.bind fun x => m2.bind fun y => some (imax2 x y)) := je_b2 (call_max2 hc) (by decide +kernel) hm (fun H x y Q q => ⟨x, y, rfl, q⟩) h h2 hg hs hs2 hpl (by decide) (by decide)
theorem je_max2_t {p : Pos} {m m2 : Int} (hm : X.mg "max" = none) (h : JB X R0 H0 Γ a (some m)) (h2 : JB X R0 H0 Γ b (some m2)) (hc : X.calm = true := by rfl) (hg : Gl X "max" := by rfl) (hs : starEach [a, b] X.env = (false, eval a X.env) :: starEach [b] X.env := by rfl) (hs2 : starEach [b] X.env = (false, eval b X.env) :: starEach [] X.env := by rfl) (hpl : (backTo pos (starEach [b] X.env)).any (·.1) = false := by rfl) :
    JE X R0 H0 Γ (.Call (.Name "max" p) [a, b] [] pos) (some (imax2 m m2)) := je_max2 hm h h2 hc hg hs hs2 hpl
theorem je_min2 {p : Pos} {m m2 : Option Int} (hm : X.mg "min" = none) (h : JB X R0 H0 Γ a m) (h2 : JB X R0 H0 Γ b m2) (hc : X.calm = true := by rfl) (hg : Gl X "min" := by rfl) (hs : starEach [a, b] X.env = (false, eval a X.env) :: starEach [b] X.env := by rfl) (hs2 : starEach [b] X.env = (false, eval b X.env) :: starEach [] X.env := by rfl) (hpl : (backTo pos (starEach [b] X.env)).any (·.1) = false := by rfl) :
    JE X R0 H0 Γ (.Call (.Name "min" p) [a, b] [] pos) (m.bind fun x => m2.bind fun y => some (imin2 x y)) := je_b2 (call_min2 hc) (by decide +kernel) hm (fun H x y Q q => ⟨x, y, rfl, q⟩) h h2 hg hs hs2 hpl (by decide) (by decide)
theorem je_min2_t {p : Pos} {m m2 : Int} (hm : X.mg "min" = none) (h : JB X R0 H0 Γ a (some m)) (h2 : JB X R0 H0 Γ b (some m2)) (hc : X.calm = true := by rfl) (hg : Gl X "min" := by rfl) (hs : starEach [a, b] X.env = (false, eval a X.env) :: starEach [b] X.env := by rfl) (hs2 : starEach [b] X.env = (false, eval b X.env) :: starEach [] X.env := by rfl) (hpl : (backTo pos (starEach [b] X.env)).any (·.1) = false := by rfl) :
    JE X R0 H0 Γ (.Call (.Name "min" p) [a, b] [] pos) (some (imin2 m m2)) := je_min2 hm h h2 hc hg hs hs2 hpl
theorem je_lens {p : Pos} {m : Option Str} (hm : X.mg "len" = none) (h : JB X R0 H0 Γ a m) (hg : Gl X "len" := by rfl) (hs : starEach (a :: []) X.env = (false, eval a X.env) :: starEach [] X.env := by rfl) (hpl : (backTo pos (starEach ([] : List Expr) X.env)).any (·.1) = false := by rfl) :
    JE X R0 H0 Γ (.Call (.Name "len" p) [a] [] pos) (m.bind fun x => sLen x) := je_b1 call_len PySem.boot_len hm (fun R H v x z i h1 h2 Q q => by
  unfold sLen at h2
  by_cases hz : x.length ≤ 16000000
  · rw [if_pos hz] at h2
    cases h2
    have h1 : v = .str x := h1
    exact ⟨.str x, x.length, by rw [h1], ⟨size_ok hz, rfl⟩, q _ R H (.refl i) rfl⟩
  · rw [if_neg hz] at h2
    cases h2) h hg hs hpl (by decide) (by decide)
theorem je_lens_t {p : Pos} {x : Str} (hm : X.mg "len" = none) (h : JB X R0 H0 Γ a (some x)) (hg : Gl X "len" := by rfl) (hs : starEach (a :: []) X.env = (false, eval a X.env) :: starEach [] X.env := by rfl) (hpl : (backTo pos (starEach ([] : List Expr) X.env)).any (·.1) = false := by rfl) : JE X R0 H0 Γ (.Call (.Name "len" p) [a] [] pos) (sLen x) := je_lens hm h hg hs hpl
/-! ### displays -/
structure JLs (X : Cx) (R0 H0 : Hp) (Γ : List Slot) (es : List Expr) {α : Type} [Py α] (m : Option (List α)) : Prop where
  run : ∀ σ R H, Sat X.K R0 H0 Γ σ R H → ∀ xs, m = some xs → ∀ Q : List V → Hp → Prop, (∀ vs R' H', Ext R H R' H' → vs.length = es.length → AllR X.K R' vs xs → Q vs H') → aSem X es σ H Q
theorem ll_nil {α : Type} [Py α] : JLs X R0 H0 Γ [] (some ([] : List α)) := ⟨fun σ R H S xs ex Q q => by
  cases ex
  exact PA_to pa_nil (q [] R H (.refl S.i) rfl .nil)⟩
theorem ll_cons {α : Type} [Py α] {es : List Expr} {m : Option α} {mr : Option (List α)} (h : JE X R0 H0 Γ e m) (hr : JLs X R0 H0 Γ es mr) (hs : starEach (e :: es) X.env = (false, eval e X.env) :: starEach es X.env := by rfl) :
    JLs X R0 H0 Γ (e :: es) (m.bind fun x => mr.bind fun r => some (x :: r)) := ⟨fun σ R H S xs eg Q q => by
  obtain ⟨x, ex, eg⟩ := bind_some' eg
  obtain ⟨r, er, eg⟩ := bind_some' eg
  cases eg
  exact PA_to (pa_cons eS aS hs) (h σ R H S x ex _ fun v R1 H1 x1 r1 => hr.run σ R1 H1 (S.ext x1) r er _ fun vs R2 H2 x2 l2 r2 => q (v :: vs) R2 H2 (x1.trans x2) (congrArg (· + 1) l2) (.cons (Py.mono x2.r r1) r2))⟩
theorem ll_cons_t {α : Type} [Py α] {es : List Expr} {x : α} {r : List α} (h : JE X R0 H0 Γ e (some x)) (hr : JLs X R0 H0 Γ es (some r)) (hs : starEach (e :: es) X.env = (false, eval e X.env) :: starEach es X.env := by rfl) : JLs X R0 H0 Γ (e :: es) (some (x :: r)) := ll_cons h hr hs
theorem jo_lst {α : Type} [Py α] {es : List Expr} {m : Option (List α)} (h : JLs X R0 H0 Γ es m) (hn : es.length ≤ 100 := by exact Nat.le_of_ble_eq_true rfl) : JO X R0 H0 Γ (.List es pos) m := .mk fun σ R H S xs ex Q q =>
  PE_to (pe_lst aS) (h.run σ R H S xs ex _ fun vs R1 H1 x1 l1 r1 => ⟨size_ok (by rw [l1]; exact Nat.le_trans hn (by decide)), fun p hp => q p _ R1 _ (x1.trans (.own x1.i hp)) (x1.h.none hp) upd_same (x1.i.none hp) ⟨vs, rfl, r1⟩⟩)
theorem jo_nil {α : Type} [Py α] : JO X R0 H0 Γ (.List [] pos) (some ([] : List α)) := jo_lst ll_nil (by decide)
/-! ### lists: a new one of two, a copy; what is one's own changed -/
def lCat {α : Type} (x y : List α) : Option (List α) := if x.length + y.length ≤ 16000000 then some (x ++ y) else none
theorem op_catR : OpR X (binaryOp .Add) (fun x y H Q => ∃ l b xs zs, x = .ref l ∧ y = .ref b ∧ Rd H l (.lst xs) ∧ Rd H b (.lst zs) ∧ xs.length + zs.length ≤ sizeLine ∧ ∀ p, H p = none → Q (.ref p) (upd H p (.lst (xs ++ zs)))) := by
  intro pins s σ H x y v u Q I rx ry h
  obtain ⟨l, b, xs, zs, rfl, rfl, hH, hB, hz, q⟩ := h
  cases rx
  cases ry
  have o1 := hH.ok I.hok
  have o2 := hB.ok I.hok
  obtain ⟨z1, its1, n1, r1, e1⟩ := o1
  obtain ⟨z2, its2, n2, r2, e2⟩ := o2
  refine PySem.P.add_list e1 e2 ?_ (by rw [List.size_toArray, List.size_toArray, ← r1.length, ← r2.length]; exact hz)
  have ea : its1.toArray ++ its2.toArray = (its1 ++ its2).toArray := by simp
  rw [ea]
  exact ⟨.ref _, _, I.lnew (t' := s.toks) (r1.append r2) (by rw [List.length_append]; omega), rfl, q _ I.fresh⟩
theorem jo_op2 {α β γ : Type} [Py α] [Py β] [Ob γ] {op : Operator} {r : R2} {ma : Option α} {mb : Option β} {f : α → β → Option γ} (hop : OpR X (binaryOp op) r)
    (hr : ∀ (R H : Hp) (v w : V) (x : α) (y : β) (z : γ), Ex R H → bor X.K R H v x → bor X.K R H w y → f x y = some z → ∀ Q : VK, (∀ p o R' H', Ext R H R' H' → H p = none → H' p = some o → R' p = none → ho X.K R' o z → Q (.ref p) H') → r v w H Q)
    (ha : JB X R0 H0 Γ a ma) (hb : JB X R0 H0 Γ b mb) : JO X R0 H0 Γ (.BinOp a op b pos) (ma.bind fun x => mb.bind fun y => f x y) := .mk fun σ R H S z ez Q q => by
  obtain ⟨x, ex, ez⟩ := bind_some' ez
  obtain ⟨y, ey, ez⟩ := bind_some' ez
  refine PE_to (pe_op hop eS eS) (ha σ R H S x ex _ fun v R1 H1 e1 r1 => hb σ R1 H1 (S.ext e1) y ey _ fun w R2 H2 e2 r2 => ?_)
  exact hr R2 H2 v w x y z e2.i (Py.bmono e2.r e2.h r1) r2 ez Q fun p o R3 H3 e3 np hp hr' r3 => q p o R3 H3 ((e1.trans e2).trans e3) ((e1.trans e2).h.none np) hp hr' r3
theorem jo_catl {α : Type} [Py α] {ma mb : Option (List α)} (ha : JB X R0 H0 Γ a ma) (hb : JB X R0 H0 Γ b mb) : JO X R0 H0 Γ (.BinOp a .Add b pos) (ma.bind fun x => mb.bind fun y => lCat x y) := jo_op2 op_catR (fun R H v w x y z i h1 h2 h3 Q q => by
  unfold lCat at h3
  by_cases h : x.length + y.length ≤ 16000000
  · rw [if_pos h] at h3
    cases h3
    obtain ⟨p1, o1, rfl, g1, vs1, rfl, k1⟩ := h1
    obtain ⟨p2, o2, rfl, g2, vs2, rfl, k2⟩ := h2
    exact ⟨p1, p2, vs1, vs2, rfl, rfl, g1, g2, size_ok (by rw [k1.len, k2.len]; exact h), fun p hp => q p _ R _ (.own i hp) hp upd_same (i.none hp) ⟨_, rfl, k1.app k2⟩⟩
  · rw [if_neg h] at h3
    cases h3) ha hb
theorem jo_catl_t {α : Type} [Py α] {x y : List α} (ha : JB X R0 H0 Γ a (some x)) (hb : JB X R0 H0 Γ b (some y)) : JO X R0 H0 Γ (.BinOp a .Add b pos) (lCat x y) := jo_catl ha hb
def lApp {α : Type} (xs : List α) (x : α) : Option (List α) := if xs.length < 16000000 then some (xs ++ [x]) else none
theorem j1_app (i : Nat) {x : Str} {px apos p : Pos} {α : Type} [Py α] {xs : List α} {m : Option α} (Γ' : List α → List Slot) (h : JE X R0 H0 Γ e m) (hΓ : Γ[i]? = some (.own xs) := by rfl) (hu : ∀ ys, Γ' ys = Γ.set i (.own ys) := by intro _; rfl) (hN : X.N[i]? = some x := by rfl)
    (hv : Vis X.env.scope x := by first | exact Or.inl rfl | exact Or.inr (Or.inl rfl) | exact Or.inr (Or.inr rfl)) (hd : (x == ("__debug__" : Str)) = false := by decide) (hcd : (x == ("__classdict__" : Str)) = false := by decide)
    (he : starEach (e :: []) X.env = (false, eval e X.env) :: starEach [] X.env := by rfl) (hpl : (backTo p (starEach ([] : List Expr) X.env)).any (·.1) = false := by rfl) (hfew : ((backTo p (starEach (e :: []) X.env)).all (fun x => !x.1) && (backToKw p (keywordEach [] X.env)).all (fun x => x.1.isSome) && decide ((e :: []).length + ([] : List Keyword).length + (if ([] : List Keyword).isEmpty then 0 else 1) < 30)) = true := by rfl) (hb : attributeBase (.Name x px) "append" X.env (eval (.Name x px) X.env) = eval (.Name x px) X.env := by rfl) (hln : (apos.endLine == p.line) = true := by rfl)
    (hsw : swapsWith (.Call (.Attribute (.Name x px) "append" apos) [e] [] p) none pos.line X.env = pure false := by rfl) :
    J1 X R0 H0 Γ (.Expr (.Call (.Attribute (.Name x px) "append" apos) [e] [] p) pos) (m.bind fun y => lApp xs y) fun ys => .nx (Γ' ys) := .mk fun σ R H S b eb D q => by
  obtain ⟨y, ey, eb⟩ := bind_some' eb
  unfold lApp at eb
  by_cases hz : xs.length < 16000000
  · rw [if_pos hz] at eb
    cases eb
    obtain ⟨l, o, hs, hp, ⟨vs, rfl, hv0⟩, hR, hH, _⟩ := S.get_own hΓ
    have q : ∀ σ R' H, Ex R R' → Sat X.K R0 H0 (Γ' (xs ++ [y])) σ R' H → D.nx σ H := q
    rw [hu] at q
    refine PS_to (ps_expr (pe_bm PySem.F.plainAttrs_list PySem.F.slot_list_append PySem.F.type_list_append mt_append (pv i hN hv hd hcd) (pa_cons eS pa_nil he) (hbase := hb) (hfew := hfew) (hline := hln) (hs := he) (hplain := hpl)) hsw) ⟨.ref l, hs, .inl ⟨rfl, _, .inl (.inl hp)⟩, h σ R H S y ey _ fun v R1 H1 x1 r1 => ?_⟩
    refine ⟨l, vs, v, rfl, rfl, x1.h _ _ hp, ?_, ?_⟩
    · rw [hv0.len]
      exact Nat.lt_of_lt_of_le hz (by rw [sizeLine_eq]; decide)
    · obtain ⟨_, _, hs', _, _, _, _, up⟩ := S.get_own hΓ
      rw [hs] at hs'
      cases hs'
      exact q _ _ _ x1.r (up R1 H1 _ (xs ++ [y]) x1 ⟨_, rfl, (hv0.mono x1.r).app (.cons r1 .nil)⟩)
  · rw [if_neg hz] at eb
    cases eb
end
theorem law_in {K : PySem.W.Frag} {H : Hp} {a : Addr} {ns : List Int} {m : Scr × Unit → Option Bool} {E : XK} (hS : SqL K H a (ns.map V.int)) (h : m (⟨ns⟩, ()) = some true) : spV K m [.ref a] H (fun v _ => v = .bl true) E :=
  ⟨H, (⟨ns⟩, ()), true, .refl H, ⟨.ref a, [], rfl, ⟨a, rfl, hS⟩, rfl⟩, h, fun v R' H' _ r => r⟩
end FK

namespace FK
open PySem PySem.Spec PyProof.Rows L2
section
variable {X : Cx} {R0 H0 : Hp} {Γ : List Slot} {e a b c o tg : Expr} {pos : Pos} {lo hi : Option Expr} {st : Stmt}
/-! ### truths: is -/
def sLt (x y : Str) : Bool := decide (x.cps.toList < y.cps.toList)
def sLe (x y : Str) : Bool := decide (x.cps.toList ≤ y.cps.toList)
abbrev T4 := PySem.W.T4
instance instPy4 {α β γ δ : Type} [Py α] [Py β] [Py γ] [Py δ] : Py (T4 α β γ δ) := dirPy (fun K R vs a => ∃ x y z u, vs = [x, y, z, u] ∧ rep K R x a.a ∧ rep K R y a.b ∧ rep K R z a.c ∧ rep K R u a.d)
  fun e ⟨x, y, z, u, h, p, q, r, s⟩ => ⟨x, y, z, u, h, Py.mono e p, Py.mono e q, Py.mono e r, Py.mono e s⟩
instance {α β γ δ : Type} [Py α] [Py β] [Py γ] [Py δ] : Flat (T4 α β γ δ) := ⟨fun h => h⟩
theorem tup_lay {K : PySem.W.Frag} {α : Type} {f : PySem.W.Frag → Hp → List V → α → Prop} {R H R' H' : Hp} {vs : List V} (x : Ext R H R' H') {Q : VK} (q : ∀ v R2 H2, Ext R H R2 H2 → (∃ p, v = .ref p ∧ R2 p = some (.tup vs) ∧ Ex R' R2) → Q v H2) : ∀ p, H' p = none → Q (.ref p) (upd H' p (.tup vs)) := fun p hp =>
  q (.ref p) (upd R' p (.tup vs)) _ (x.trans (.new x.i hp)) ⟨p, rfl, upd_same, .new (x.i.none hp)⟩
def lSet {α : Type} (xs : List α) (k : Int) (x : α) : Option (List α) := (ixN xs.length k).bind fun j => some (xs.set j x)
theorem AllR.set {α : Type} [Py α] {K : PySem.W.Frag} {R : Hp} {v : V} {x : α} (r : rep K R v x) : ∀ {vs : List V} {as : List α} (j : Nat), AllR K R vs as → AllR K R (vs.set j v) (as.set j x)
  | _, _, _, .nil => .nil
  | _, _, 0, .cons _ t => .cons r t
  | _, _, j + 1, .cons h t => .cons h (t.set r j)
/-! ### a list that stays, walked otherwise -/
structure JL (X : Cx) (R0 H0 : Hp) (Γ : List Slot) (e : Expr) {α : Type} [Py α] (m : Option (List α)) : Prop where
  run : ∀ σ R H, Sat X.K R0 H0 Γ σ R H → ∀ xs, m = some xs → ∀ Q : VK, (∀ p vs R' H', Ext R H R' H' → (∀ R2 H2, Ex R' R2 → Ex H0 H2 → Ex R2 H2 → SqL X.K H2 p vs) → AllR X.K R' vs xs → Q (.ref p) H') → eSem X e σ H Q
theorem jl_e {α : Type} [Py α] {m : Option (List α)} (h : JE X R0 H0 Γ e m) : JL X R0 H0 Γ e m := ⟨fun σ R H S xs ex Q q => h σ R H S xs ex Q fun v R' H' x r => by
  obtain ⟨p, o, rfl, hp, vs, rfl, hv⟩ := r
  exact q p vs R' H' x (fun R2 H2 e1 _ e3 => .inl (rd_ex (e1.trans e3) hp)) hv⟩
def enumF {α : Type} : Nat → List α → List (Int × α)
  | _, [] => []
  | k, x :: r => ((k : Int), x) :: enumF (k + 1) r
def enumL {α : Type} (xs : List α) : List (Int × α) := enumF 0 xs
theorem enumF_get {α : Type} : ∀ (xs : List α) (k i : Nat), (enumF k xs)[i]? = xs[i]?.map fun x => (((k + i : Nat) : Int), x)
  | [], k, i => by simp [enumF]
  | x :: r, k, 0 => by simp [enumF]
  | x :: r, k, i + 1 => by
    show (enumF (k + 1) r)[i]? = r[i]?.map _
    rw [enumF_get r (k + 1) i, show k + 1 + i = k + (i + 1) by omega]
theorem enumF_len {α : Type} : ∀ (xs : List α) (k : Nat), (enumF k xs).length = xs.length
  | [], _ => rfl
  | x :: r, k => congrArg (· + 1) (enumF_len r (k + 1))
theorem ji_enum {p tpos : Pos} {elts : List Expr} {kk : Nat} {α : Type} [Py α] {m : Option (List α)} (hm : X.mg "enumerate" = none) (h : JL X R0 H0 Γ a m) (hg : Gl X "enumerate" := by rfl) (hs : starEach [a] X.env = [(false, eval a X.env)] := by rfl) (hs2 : starEach (a :: []) X.env = (false, eval a X.env) :: starEach [] X.env := by rfl) :
    JI X R0 H0 Γ (.Tuple elts kk tpos) (.Call (.Name "enumerate" p) [a] [] pos) (m.bind fun xs => some (enumL xs)) := .mk fun σ R H S zs ez Q q => by
  obtain ⟨xs, ex, ez⟩ := bind_some' ez
  cases ez
  refine PI_to (pi_enum hg hm (pa_cons eS pa_nil hs2) hs) (h.run σ R H S xs ex _ fun p vs R' H' x st hv => ⟨p, vs, rfl, st R' H' (.refl R') (S.e0.h.trans x.h) x.i, q _ R' H' x fun i R2 H2 e1 e2 e3 => ?_⟩)
  have sq := st R2 H2 e1 e2 e3
  refine ⟨fun y hy => ?_, fun hi => ⟨vs, sq, by rw [hv.len]; unfold enumL at hi; rw [enumF_len] at hi; exact hi⟩⟩
  unfold enumL at hy
  rw [enumF_get] at hy
  cases hx : xs[i]? with
  | none =>
    rw [hx] at hy
    cases hy
  | some x0 =>
    rw [hx] at hy
    cases hy
    obtain ⟨v, hv1, r⟩ := hv.get hx
    refine ⟨⟨vs, v, sq, hv1⟩, fun w H3 hy => ?_⟩
    obtain ⟨T, x', rfl, hT, rfl, f⟩ := hy
    have e := f vs sq
    rw [hv1] at e
    cases e
    refine ⟨_, .new e3 hT, T, _, rfl, upd_same, .int (i : Nat), v, rfl, ?_, Py.mono (e1.trans (.new (e3.none hT))) r⟩
    show V.int (i : Nat) = V.int ((0 + i : Nat) : Int)
    rw [Nat.zero_add]
/-- range(a, b, -1) -/
def range3 (i j c : Int) : Option (List Int) := if c = -1 ∧ -(2 ^ 62) ≤ i ∧ i < 2 ^ 62 ∧ -(2 ^ 62) ≤ j ∧ j < 2 ^ 62 then some ((List.range (i - j).toNat).map fun (k : Nat) => i - k) else none
end
end FK

namespace FK
open PySem PySem.Spec PyProof.Rows L2
section
variable {K : PySem.W.Frag} {R0 H0 R H : Hp} {Γ : List Slot} {σ : L2.St}
end
section
variable {X : Cx} {R0 H0 : Hp} {Γ : List Slot} {pos : Pos}
/-! ### list(range(..)) -/
variable {a b c : Expr}
def lrange1 (j : Int) : Option (List Int) := if -(2 ^ 62) ≤ j ∧ j ≤ 16000000 then some (rng 0 j.toNat) else none
def lrange2 (i j : Int) : Option (List Int) := if -(2 ^ 62) ≤ i ∧ i < 2 ^ 62 ∧ -(2 ^ 62) ≤ j ∧ j < 2 ^ 62 ∧ (j - i).toNat ≤ 16000000 then some (rng i (j - i).toNat) else none
/-- range(a, b, c) as an argument, any step that is not 0 -/
def PRg3 (X : Cx) (e : Expr) (t : L2.St → Hp → (Int → Int → Int → Hp → Prop) → Prop) : Prop :=
  ∀ (pins : List (Addr × Obj)) (s : Shared) (σ : L2.St) (H : Hp) (Q : Int → Int → Int → Hp → Prop), Inv X pins σ H s → t σ H Q →
    wpAny (model X.prog X.w) X.A (eval e X.env) (fun x s' => ∃ r a b c t u v H', x = .ref r ∧ IsRange s'.heap r a b c t u v ∧ Inv X pins σ H' s' ∧ Q a b c H') X.xe s
def lrange3 (i j c : Int) : Option (List Int) := if c = -1 ∧ -(2 ^ 62) ≤ i ∧ i < 2 ^ 62 ∧ -(2 ^ 62) ≤ j ∧ j < 2 ^ 62 ∧ (i - j).toNat ≤ 16000000 then some ((List.range (i - j).toNat).map fun (k : Nat) => i - k) else none
end
end FK

namespace FK
open PySem PySem.Spec PyProof.Rows L2
open PySem.SeqAt (EqAt RcAt RcNeAt)
/-! ### == of data -/
noncomputable def dec (p : Prop) : Bool := @decide p (Classical.propDecidable p)
theorem dec_t {p : Prop} (h : p) : dec p = true := @decide_eq_true p (Classical.propDecidable p) h
theorem dec_f {p : Prop} (h : ¬ p) : dec p = false := @decide_eq_false p (Classical.propDecidable p) h
theorem dec_eq (p : Prop) [Decidable p] : dec p = decide p := by
  by_cases h : p
  · rw [dec_t h, decide_eq_true h]
  · rw [dec_f h, decide_eq_false h]
theorem dec_iff {p q : Prop} (h : p ↔ q) : dec p = dec q := by
  by_cases hp : p
  · rw [dec_t hp, dec_t (h.mp hp)]
  · rw [dec_f hp, dec_f fun z => hp (h.mpr z)]
theorem dec_and (p q : Prop) : dec (p ∧ q) = (dec p && dec q) := by
  by_cases hp : p
  · by_cases hq : q
    · rw [dec_t hp, dec_t hq, dec_t (⟨hp, hq⟩ : p ∧ q)]
      rfl
    · rw [dec_t hp, dec_f hq, dec_f fun z : p ∧ q => hq z.2]
      rfl
  · rw [dec_f hp, dec_f fun z : p ∧ q => hp z.1]
    rfl
class Dq (α : Type) [Py α] where
  dep : Nat
  rp : ∀ {K : PySem.W.Frag} {R H : Hp} {v : V} {a : α}, Ex R H → bor K R H v a → rep K H v a
  uq : ∀ {X : Cx} {pins : List (Addr × Obj)} {σ : L2.St} {H : Hp} {s : Shared}, Inv X pins σ H s → ∀ {v w : V} {u : Value} {a b : α}, RelV v u → RelV w u → rep X.K H v a → rep X.K H w b → a = b
  eq : ∀ {X : Cx} {pins : List (Addr × Obj)} {σ : L2.St} {H : Hp} {s : Shared}, Inv X pins σ H s → ∀ {A : Around} {v w : V} {u u' : Value} {a b : α}, A.units + dep < cLine → RelV v u → RelV w u' → rep X.K H v a → rep X.K H w b → EqAt A s u u' (dec (a = b))
/-- lists and tuples -/
class Dc (α : Type) [Py α] [Dq α] where
  rc : ∀ {X : Cx} {pins : List (Addr × Obj)} {σ : L2.St} {H : Hp} {s : Shared}, Inv X pins σ H s → ∀ {A : Around} {v w : V} {u u' : Value} {a b : α}, A.units + Dq.dep α < cLine → RelV v u → RelV w u' → rep X.K H v a → rep X.K H w b → RcAt A s u u' (dec (a = b)) ∧ RcNeAt A s u u' (!dec (a = b))
instance instDqInt : Dq Int where
  dep := 0
  rp := fun _ h => h
  uq := fun {X pins σ H s} _ {v w u a b} r1 r2 h1 h2 => by
    cases (show v = V.int a from h1)
    cases (show w = V.int b from h2)
    obtain ⟨t, e⟩ := r1
    obtain ⟨t2, e2⟩ := r2
    rw [e] at e2
    injection e2
  eq := fun {X pins σ H s} _ {A v w u u' a b} _ r1 r2 h1 h2 => by
    cases (show v = V.int a from h1)
    cases (show w = V.int b from h2)
    obtain ⟨t, rfl⟩ := r1
    obtain ⟨t2, rfl⟩ := r2
    rw [dec_eq]
    exact SeqAt.EqAt.int_int a t b t2
instance instDqStr : Dq Str where
  dep := 0
  rp := fun _ h => h
  uq := fun {X pins σ H s} _ {v w u a b} r1 r2 h1 h2 => by
    cases (show v = V.str a from h1)
    cases (show w = V.str b from h2)
    obtain ⟨t, e⟩ := r1
    obtain ⟨t2, e2⟩ := r2
    rw [e] at e2
    injection e2
  eq := fun {X pins σ H s} _ {A v w u u' a b} _ r1 r2 h1 h2 => by
    cases (show v = V.str a from h1)
    cases (show w = V.str b from h2)
    obtain ⟨t, rfl⟩ := r1
    obtain ⟨t2, rfl⟩ := r2
    have e : dec (a = b) = (a == b) := by
      by_cases h : a = b
      · rw [dec_t h, beq_iff_eq.mpr h]
      · rw [dec_f h, beq_eq_false_iff_ne.mpr h]
    rw [e]
    exact SeqAt.EqAt.str_str a t b t2
instance instDqBool : Dq Bool where
  dep := 0
  rp := fun _ h => h
  uq := fun {X pins σ H s} _ {v w u a b} r1 r2 h1 h2 => by
    cases (show v = V.bl a from h1)
    cases (show w = V.bl b from h2)
    have e : u = .bool a := r1
    have e2 : u = .bool b := r2
    rw [e] at e2
    injection e2
  eq := fun {X pins σ H s} _ {A v w u u' a b} _ r1 r2 h1 h2 => by
    cases (show v = V.bl a from h1)
    cases (show w = V.bl b from h2)
    cases (show u = .bool a from r1)
    cases (show u' = .bool b from r2)
    have e : dec (a = b) = (a == b) := by
      by_cases h : a = b
      · rw [dec_t h, beq_iff_eq.mpr h]
      · rw [dec_f h, beq_eq_false_iff_ne.mpr h]
    rw [e]
    exact SeqAt.EqAt.bool_bool a b
section
variable {α : Type} [Py α] [Dq α] {X : Cx} {pins : List (Addr × Obj)} {σ : L2.St} {H : Hp} {s : Shared}
theorem allr_uq (I : Inv X pins σ H s) : ∀ {vs ws : List V} {us : List Value} {as bs : List α}, Vals vs us → Vals ws us → AllR X.K H vs as → AllR X.K H ws bs → as = bs
  | [], ws, us, as, bs, r1, r2, h1, h2 => by
    cases r1
    cases r2
    cases h1
    cases h2
    rfl
  | v :: vs, ws, us, as, bs, r1, r2, h1, h2 => by
    cases r1 with
    | cons a1 t1 =>
      cases r2 with
      | cons a2 t2 =>
        cases h1 with
        | cons p1 q1 =>
          cases h2 with
          | cons p2 q2 => rw [Dq.uq I a1 a2 p1 p2, allr_uq I t1 t2 q1 q2]
theorem allr_eq (I : Inv X pins σ H s) {A : Around} (hu : A.units + Dq.dep α < cLine) : ∀ {vs ws : List V} {us us' : List Value} {as bs : List α}, Vals vs us → Vals ws us' → AllR X.K H vs as → AllR X.K H ws bs → ∀ j (h1 : j < us.length) (h2 : j < us'.length), EqAt A s us[j] us'[j] (dec (as[j]? = bs[j]?))
  | [], ws, us, us', as, bs, r1, r2, k1, k2, j, h1, h2 => by
    cases r1
    exact absurd h1 (Nat.not_lt_zero j)
  | v :: vs, [], us, us', as, bs, r1, r2, k1, k2, j, h1, h2 => by
    cases r2
    exact absurd h2 (Nat.not_lt_zero j)
  | v :: vs, w :: ws, us, us', as, bs, r1, r2, k1, k2, j, h1, h2 => by
    cases r1 with
    | cons a1 t1 =>
      cases r2 with
      | cons a2 t2 =>
        cases k1 with
        | @cons _ _ a as p1 q1 =>
          cases k2 with
          | @cons _ _ b bs p2 q2 =>
            cases j with
            | zero =>
              rw [dec_iff (show ((a :: as)[0]? = (b :: bs)[0]?) ↔ a = b from ⟨fun z => Option.some.inj z, fun z => by rw [z]; rfl⟩)]
              exact Dq.eq I hu a1 a2 p1 p2
            | succ j => exact allr_eq I hu t1 t2 q1 q2 j (Nat.lt_of_succ_lt_succ h1) (Nat.lt_of_succ_lt_succ h2)
theorem all_ext {as bs : List α} {n : Nat} (h1 : as.length = n) (h2 : bs.length = n) : ((List.range n).all fun j => dec (as[j]? = bs[j]?)) = dec (as = bs) := by
  by_cases h : as = bs
  · rw [dec_t h, h]
    exact List.all_eq_true.mpr fun j _ => dec_t rfl
  · rw [dec_f h]
    cases e : (List.range n).all fun j => dec (as[j]? = bs[j]?) with
    | false => rfl
    | true =>
      refine absurd (List.ext_getElem? fun j => ?_) h
      by_cases hj : j < n
      · have := List.all_eq_true.mp e j (List.mem_range.mpr hj)
        by_cases q : as[j]? = bs[j]?
        · exact q
        · rw [dec_f q] at this
          cases this
      · rw [List.getElem?_eq_none (by omega), List.getElem?_eq_none (by omega)]
theorem list_rc (I : Inv X pins σ H s) {A : Around} {v w : V} {u u' : Value} {a b : List α} (hu : A.units + (Dq.dep α + 1) < cLine) (r1 : RelV v u) (r2 : RelV w u') (h1 : rep X.K H v a) (h2 : rep X.K H w b) : RcAt A s u u' (dec (a = b)) ∧ RcNeAt A s u u' (!dec (a = b)) := by
  obtain ⟨p, o, rfl, hp, vs, rfl, q1⟩ := h1
  obtain ⟨p', o', rfl, hp', ws, rfl, q2⟩ := h2
  cases r1
  cases r2
  obtain ⟨us, t1, l1, _⟩ := I.list (.inl hp)
  obtain ⟨us', t2, l2, _⟩ := I.list (.inl hp')
  have n1 : us.length = a.length := by rw [← t1.length, q1.len]
  have n2 : us'.length = b.length := by rw [← t2.length, q2.len]
  have hu0 : A.units < cLine := by omega
  have he : ∀ j (h1 : j < us.toArray.size) (h2 : j < us'.toArray.size), EqAt A.in1 s us.toArray[j] us'.toArray[j] (dec (a[j]? = b[j]?)) := fun j h1 h2 => by
    have := allr_eq I (A := A.in1) (show A.units + 1 + Dq.dep α < cLine by omega) t1 t2 q1 q2 j (by simpa using h1) (by simpa using h2)
    simpa using this
  by_cases hz : us.length = us'.length
  · have hsz : us.toArray.size = us'.toArray.size := by simpa using hz
    have e1 := RcAt.lists l1.isList l2.isList hsz hu0 he
    have e2 := RcNeAt.lists l1.isList l2.isList hsz hu0 he
    rw [show us.toArray.size = a.length by simpa using n1, all_ext rfl (by omega)] at e1 e2
    exact ⟨e1, e2⟩
  · have hsz : (us.toArray.size != us'.toArray.size) = true := by simpa using hz
    rw [dec_f fun z => hz (by rw [n1, n2, z])]
    exact ⟨RcAt.lists_lengths l1.isList l2.isList hsz hu0, RcNeAt.lists_lengths l1.isList l2.isList hsz hu0⟩
theorem arr_inj {us us' : List Value} (h : us.toArray = us'.toArray) : us = us' := by
  have := congrArg Array.toList h
  exact this
theorem islist_uq {h : Heap} {a : Addr} {us us' : List Value} (p : PlainL h a us.toArray) (q : PlainL h a us'.toArray) : us = us' := by
  obtain ⟨o, n, e, _, _, d⟩ := p
  obtain ⟨o', n', e', _, _, d'⟩ := q
  rw [e] at e'
  cases e'
  rw [d] at d'
  injection d' with d'
  exact arr_inj d'
theorem istup_uq {h : Heap} {a : Addr} {us us' : List Value} (p : IsTup h a us.toArray) (q : IsTup h a us'.toArray) : us = us' := by
  obtain ⟨o, e, _, n, d⟩ := p
  obtain ⟨o', e', _, n', d'⟩ := q
  rw [e] at e'
  cases e'
  rw [d] at d'
  injection d' with d'
  exact arr_inj d'
instance instDqList : Dq (List α) where
  dep := Dq.dep α + 1
  rp := fun e ⟨p, o, h, r, q⟩ => ⟨p, o, h, r, Ob.mono e q⟩
  uq := fun {X pins σ H s} I {v w u a b} r1 r2 h1 h2 => by
    obtain ⟨p, o, rfl, hp, vs, rfl, q1⟩ := h1
    obtain ⟨p', o', rfl, hp', ws, rfl, q2⟩ := h2
    cases r1
    cases r2
    obtain ⟨us, t1, l1, _⟩ := I.list (.inl hp)
    obtain ⟨us', t2, l2, _⟩ := I.list (.inl hp')
    have e := islist_uq l1 l2
    subst e
    exact allr_uq I t1 t2 q1 q2
  eq := fun {X pins σ H s} I {A v w u u' a b} hu r1 r2 h1 h2 => by
    have k := list_rc I hu r1 r2 h1 h2
    have hh1 := h1
    have hh2 := h2
    obtain ⟨p, o, rfl, hp, vs, rfl, q1⟩ := h1
    obtain ⟨p', o', rfl, hp', ws, rfl, q2⟩ := h2
    cases r1
    cases r2
    by_cases e : p = p'
    · subst e
      obtain ⟨us, t1, l1, _⟩ := I.list (.inl hp)
      obtain ⟨us', t2, l2, _⟩ := I.list (.inl hp')
      have e := islist_uq l1 l2
      subst e
      rw [dec_t (allr_uq I t1 t2 q1 q2)]
      exact SeqAt.EqAt.same _
    · exact SeqAt.EqAt.of_refs e k.1
instance instDcList : Dc (List α) := ⟨fun {X pins σ H s} I {A v w u u' a b} hu r1 r2 h1 h2 => list_rc I hu r1 r2 h1 h2⟩
end
section
variable {α : Type} {β : Type} [Py α] [Dq α] [Py β] [Dq β]
theorem tup2_ext (a b : (α × β)) : (a = b) ↔ (a.1 = b.1 ∧ a.2 = b.2) := by
  refine ⟨fun h => by rw [h]; exact ⟨rfl, rfl⟩, fun h => ?_⟩
  obtain ⟨h0, h1⟩ := h
  cases a
  cases b
  simp only at h0 h1
  subst h0 h1
  rfl
theorem tup2_rd {X : Cx} {pins : List (Addr × Obj)} {σ : L2.St} {H : Hp} {s : Shared} (I : Inv X pins σ H s) {v : V} {u : Value} {a : (α × β)} (r : RelV v u) (h : rep X.K H v a) : ∃ p x0 x1 z0 z1, v = .ref p ∧ u = .ref p ∧ IsTup s.heap p [z0, z1].toArray ∧ RelV x0 z0 ∧ RelV x1 z1 ∧ rep X.K H x0 a.1 ∧ rep X.K H x1 a.2 := by
  obtain ⟨p, vs, rfl, hp, x0, x1, rfl, q0, q1⟩ := h
  cases r
  obtain ⟨us, t, l, _⟩ := I.tuple (dsq hp)
  cases t with
  | cons r0 t0 =>
  cases t0 with
  | cons r1 t1 =>
  cases t1
  exact ⟨p, _, _, _, _, rfl, rfl, l, r0, r1, q0, q1⟩
theorem tup2_rc {X : Cx} {pins : List (Addr × Obj)} {σ : L2.St} {H : Hp} {s : Shared} (I : Inv X pins σ H s) {A : Around} {v w : V} {u u' : Value} {a b : (α × β)} (hu : A.units + (Dq.dep α + Dq.dep β + 1) < cLine) (r1 : RelV v u) (r2 : RelV w u') (h1 : rep X.K H v a) (h2 : rep X.K H w b) : RcAt A s u u' (dec (a = b)) ∧ RcNeAt A s u u' (!dec (a = b)) := by
  obtain ⟨pm, x0m, x1m, z0m, z1m, rfl, rfl, lm, r0m, r1m, q0m, q1m⟩ := tup2_rd I r1 h1
  obtain ⟨pn, x0n, x1n, z0n, z1n, rfl, rfl, ln, r0n, r1n, q0n, q1n⟩ := tup2_rd I r2 h2
  have hu0 : A.units < cLine := by omega
  have he : ∀ j (h1 : j < [z0m, z1m].toArray.size) (h2 : j < [z0n, z1n].toArray.size), EqAt A.in1 s [z0m, z1m].toArray[j] [z0n, z1n].toArray[j] ((fun j => match j with | 0 => dec (a.1 = b.1) | _ => dec (a.2 = b.2) : Nat → Bool) j) := fun j h1 h2 => by
    match j, h1, h2 with
    | 0, _, _ => exact Dq.eq I (A := A.in1) (show A.units + 1 + Dq.dep α < cLine by omega) r0m r0n q0m q0n
    | 1, _, _ => exact Dq.eq I (A := A.in1) (show A.units + 1 + Dq.dep β < cLine by omega) r1m r1n q1m q1n
    | j + 2, h1, _ => exact absurd h1 (by simp)
  have e1 := RcAt.tuples lm ln hu0 he
  have e2 := RcNeAt.tuples lm ln hu0 he
  have e : ((List.range (min [z0m, z1m].toArray.size [z0n, z1n].toArray.size)).all (fun j => match j with | 0 => dec (a.1 = b.1) | _ => dec (a.2 = b.2) : Nat → Bool) && [z0m, z1m].toArray.size == [z0n, z1n].toArray.size) = dec (a = b) := by
    rw [dec_iff (tup2_ext a b)]
    rw [dec_and]
    show ((dec (a.1 = b.1) && (dec (a.2 = b.2) && true)) && true) = _
    simp only [Bool.and_true]
  rw [e] at e1 e2
  exact ⟨e1, e2⟩
instance instDq2 : Dq (α × β) where
  dep := Dq.dep α + Dq.dep β + 1
  rp := fun e ⟨p, vs, h, q, z⟩ => Py.mono e ⟨p, vs, h, q, z⟩
  uq := fun {X pins σ H s} I {v w u a b} r1 r2 h1 h2 => by
    obtain ⟨pm, x0m, x1m, z0m, z1m, rfl, rfl, lm, r0m, r1m, q0m, q1m⟩ := tup2_rd I r1 h1
    obtain ⟨pn, x0n, x1n, z0n, z1n, e0, e1, ln, r0n, r1n, q0n, q1n⟩ := tup2_rd I r2 h2
    cases e1
    have e := istup_uq lm ln
    injection e with e0 et
    injection et with e1 et
    subst e0 e1
    exact (tup2_ext a b).mpr ⟨Dq.uq I r0m r0n q0m q0n, Dq.uq I r1m r1n q1m q1n⟩
  eq := fun {X pins σ H s} I {A v w u u' a b} hu r1 r2 h1 h2 => by
    have k := tup2_rc I hu r1 r2 h1 h2
    obtain ⟨pm, x0m, x1m, z0m, z1m, rfl, rfl, lm, r0m, r1m, q0m, q1m⟩ := tup2_rd I r1 h1
    obtain ⟨pn, x0n, x1n, z0n, z1n, rfl, rfl, ln, r0n, r1n, q0n, q1n⟩ := tup2_rd I r2 h2
    by_cases e : pm = pn
    · subst e
      have e := istup_uq lm ln
      injection e with e0 et
      injection et with e1 et
      subst e0 e1
      rw [dec_t ((tup2_ext a b).mpr ⟨Dq.uq I r0m r0n q0m q0n, Dq.uq I r1m r1n q1m q1n⟩)]
      exact SeqAt.EqAt.same _
    · exact SeqAt.EqAt.of_refs e k.1
instance instDc2 : Dc (α × β) := ⟨fun {X pins σ H s} I {A v w u u' a b} hu r1 r2 h1 h2 => tup2_rc I hu r1 r2 h1 h2⟩
end
section
variable {α : Type} {β : Type} {γ : Type} [Py α] [Dq α] [Py β] [Dq β] [Py γ] [Dq γ]
theorem tup3_ext (a b : (T3 α β γ)) : (a = b) ↔ (a.a = b.a ∧ a.b = b.b ∧ a.c = b.c) := by
  refine ⟨fun h => by rw [h]; exact ⟨rfl, rfl, rfl⟩, fun h => ?_⟩
  obtain ⟨h0, h1, h2⟩ := h
  cases a
  cases b
  simp only at h0 h1 h2
  subst h0 h1 h2
  rfl
theorem tup3_rd {X : Cx} {pins : List (Addr × Obj)} {σ : L2.St} {H : Hp} {s : Shared} (I : Inv X pins σ H s) {v : V} {u : Value} {a : (T3 α β γ)} (r : RelV v u) (h : rep X.K H v a) : ∃ p x0 x1 x2 z0 z1 z2, v = .ref p ∧ u = .ref p ∧ IsTup s.heap p [z0, z1, z2].toArray ∧ RelV x0 z0 ∧ RelV x1 z1 ∧ RelV x2 z2 ∧ rep X.K H x0 a.a ∧ rep X.K H x1 a.b ∧ rep X.K H x2 a.c := by
  obtain ⟨p, vs, rfl, hp, x0, x1, x2, rfl, q0, q1, q2⟩ := h
  cases r
  obtain ⟨us, t, l, _⟩ := I.tuple (dsq hp)
  cases t with
  | cons r0 t0 =>
  cases t0 with
  | cons r1 t1 =>
  cases t1 with
  | cons r2 t2 =>
  cases t2
  exact ⟨p, _, _, _, _, _, _, rfl, rfl, l, r0, r1, r2, q0, q1, q2⟩
theorem tup3_rc {X : Cx} {pins : List (Addr × Obj)} {σ : L2.St} {H : Hp} {s : Shared} (I : Inv X pins σ H s) {A : Around} {v w : V} {u u' : Value} {a b : (T3 α β γ)} (hu : A.units + (Dq.dep α + Dq.dep β + Dq.dep γ + 1) < cLine) (r1 : RelV v u) (r2 : RelV w u') (h1 : rep X.K H v a) (h2 : rep X.K H w b) : RcAt A s u u' (dec (a = b)) ∧ RcNeAt A s u u' (!dec (a = b)) := by
  obtain ⟨pm, x0m, x1m, x2m, z0m, z1m, z2m, rfl, rfl, lm, r0m, r1m, r2m, q0m, q1m, q2m⟩ := tup3_rd I r1 h1
  obtain ⟨pn, x0n, x1n, x2n, z0n, z1n, z2n, rfl, rfl, ln, r0n, r1n, r2n, q0n, q1n, q2n⟩ := tup3_rd I r2 h2
  have hu0 : A.units < cLine := by omega
  have he : ∀ j (h1 : j < [z0m, z1m, z2m].toArray.size) (h2 : j < [z0n, z1n, z2n].toArray.size), EqAt A.in1 s [z0m, z1m, z2m].toArray[j] [z0n, z1n, z2n].toArray[j] ((fun j => match j with | 0 => dec (a.a = b.a) | 1 => dec (a.b = b.b) | _ => dec (a.c = b.c) : Nat → Bool) j) := fun j h1 h2 => by
    match j, h1, h2 with
    | 0, _, _ => exact Dq.eq I (A := A.in1) (show A.units + 1 + Dq.dep α < cLine by omega) r0m r0n q0m q0n
    | 1, _, _ => exact Dq.eq I (A := A.in1) (show A.units + 1 + Dq.dep β < cLine by omega) r1m r1n q1m q1n
    | 2, _, _ => exact Dq.eq I (A := A.in1) (show A.units + 1 + Dq.dep γ < cLine by omega) r2m r2n q2m q2n
    | j + 3, h1, _ => exact absurd h1 (by simp)
  have e1 := RcAt.tuples lm ln hu0 he
  have e2 := RcNeAt.tuples lm ln hu0 he
  have e : ((List.range (min [z0m, z1m, z2m].toArray.size [z0n, z1n, z2n].toArray.size)).all (fun j => match j with | 0 => dec (a.a = b.a) | 1 => dec (a.b = b.b) | _ => dec (a.c = b.c) : Nat → Bool) && [z0m, z1m, z2m].toArray.size == [z0n, z1n, z2n].toArray.size) = dec (a = b) := by
    rw [dec_iff (tup3_ext a b)]
    rw [dec_and]
    rw [dec_and]
    show ((dec (a.a = b.a) && (dec (a.b = b.b) && (dec (a.c = b.c) && true))) && true) = _
    simp only [Bool.and_true]
  rw [e] at e1 e2
  exact ⟨e1, e2⟩
instance instDq3 : Dq (T3 α β γ) where
  dep := Dq.dep α + Dq.dep β + Dq.dep γ + 1
  rp := fun e ⟨p, vs, h, q, z⟩ => Py.mono e ⟨p, vs, h, q, z⟩
  uq := fun {X pins σ H s} I {v w u a b} r1 r2 h1 h2 => by
    obtain ⟨pm, x0m, x1m, x2m, z0m, z1m, z2m, rfl, rfl, lm, r0m, r1m, r2m, q0m, q1m, q2m⟩ := tup3_rd I r1 h1
    obtain ⟨pn, x0n, x1n, x2n, z0n, z1n, z2n, e0, e1, ln, r0n, r1n, r2n, q0n, q1n, q2n⟩ := tup3_rd I r2 h2
    cases e1
    have e := istup_uq lm ln
    injection e with e0 et
    injection et with e1 et
    injection et with e2 et
    subst e0 e1 e2
    exact (tup3_ext a b).mpr ⟨Dq.uq I r0m r0n q0m q0n, Dq.uq I r1m r1n q1m q1n, Dq.uq I r2m r2n q2m q2n⟩
  eq := fun {X pins σ H s} I {A v w u u' a b} hu r1 r2 h1 h2 => by
    have k := tup3_rc I hu r1 r2 h1 h2
    obtain ⟨pm, x0m, x1m, x2m, z0m, z1m, z2m, rfl, rfl, lm, r0m, r1m, r2m, q0m, q1m, q2m⟩ := tup3_rd I r1 h1
    obtain ⟨pn, x0n, x1n, x2n, z0n, z1n, z2n, rfl, rfl, ln, r0n, r1n, r2n, q0n, q1n, q2n⟩ := tup3_rd I r2 h2
    by_cases e : pm = pn
    · subst e
      have e := istup_uq lm ln
      injection e with e0 et
      injection et with e1 et
      injection et with e2 et
      subst e0 e1 e2
      rw [dec_t ((tup3_ext a b).mpr ⟨Dq.uq I r0m r0n q0m q0n, Dq.uq I r1m r1n q1m q1n, Dq.uq I r2m r2n q2m q2n⟩)]
      exact SeqAt.EqAt.same _
    · exact SeqAt.EqAt.of_refs e k.1
instance instDc3 : Dc (T3 α β γ) := ⟨fun {X pins σ H s} I {A v w u u' a b} hu r1 r2 h1 h2 => tup3_rc I hu r1 r2 h1 h2⟩
end
section
variable {α : Type} {β : Type} {γ : Type} {δ : Type} [Py α] [Dq α] [Py β] [Dq β] [Py γ] [Dq γ] [Py δ] [Dq δ]
theorem tup4_ext (a b : (T4 α β γ δ)) : (a = b) ↔ (a.a = b.a ∧ a.b = b.b ∧ a.c = b.c ∧ a.d = b.d) := by
  refine ⟨fun h => by rw [h]; exact ⟨rfl, rfl, rfl, rfl⟩, fun h => ?_⟩
  obtain ⟨h0, h1, h2, h3⟩ := h
  cases a
  cases b
  simp only at h0 h1 h2 h3
  subst h0 h1 h2 h3
  rfl
theorem tup4_rd {X : Cx} {pins : List (Addr × Obj)} {σ : L2.St} {H : Hp} {s : Shared} (I : Inv X pins σ H s) {v : V} {u : Value} {a : (T4 α β γ δ)} (r : RelV v u) (h : rep X.K H v a) : ∃ p x0 x1 x2 x3 z0 z1 z2 z3, v = .ref p ∧ u = .ref p ∧ IsTup s.heap p [z0, z1, z2, z3].toArray ∧ RelV x0 z0 ∧ RelV x1 z1 ∧ RelV x2 z2 ∧ RelV x3 z3 ∧ rep X.K H x0 a.a ∧ rep X.K H x1 a.b ∧ rep X.K H x2 a.c ∧ rep X.K H x3 a.d := by
  obtain ⟨p, vs, rfl, hp, x0, x1, x2, x3, rfl, q0, q1, q2, q3⟩ := h
  cases r
  obtain ⟨us, t, l, _⟩ := I.tuple (dsq hp)
  cases t with
  | cons r0 t0 =>
  cases t0 with
  | cons r1 t1 =>
  cases t1 with
  | cons r2 t2 =>
  cases t2 with
  | cons r3 t3 =>
  cases t3
  exact ⟨p, _, _, _, _, _, _, _, _, rfl, rfl, l, r0, r1, r2, r3, q0, q1, q2, q3⟩
theorem tup4_rc {X : Cx} {pins : List (Addr × Obj)} {σ : L2.St} {H : Hp} {s : Shared} (I : Inv X pins σ H s) {A : Around} {v w : V} {u u' : Value} {a b : (T4 α β γ δ)} (hu : A.units + (Dq.dep α + Dq.dep β + Dq.dep γ + Dq.dep δ + 1) < cLine) (r1 : RelV v u) (r2 : RelV w u') (h1 : rep X.K H v a) (h2 : rep X.K H w b) : RcAt A s u u' (dec (a = b)) ∧ RcNeAt A s u u' (!dec (a = b)) := by
  obtain ⟨pm, x0m, x1m, x2m, x3m, z0m, z1m, z2m, z3m, rfl, rfl, lm, r0m, r1m, r2m, r3m, q0m, q1m, q2m, q3m⟩ := tup4_rd I r1 h1
  obtain ⟨pn, x0n, x1n, x2n, x3n, z0n, z1n, z2n, z3n, rfl, rfl, ln, r0n, r1n, r2n, r3n, q0n, q1n, q2n, q3n⟩ := tup4_rd I r2 h2
  have hu0 : A.units < cLine := by omega
  have he : ∀ j (h1 : j < [z0m, z1m, z2m, z3m].toArray.size) (h2 : j < [z0n, z1n, z2n, z3n].toArray.size), EqAt A.in1 s [z0m, z1m, z2m, z3m].toArray[j] [z0n, z1n, z2n, z3n].toArray[j] ((fun j => match j with | 0 => dec (a.a = b.a) | 1 => dec (a.b = b.b) | 2 => dec (a.c = b.c) | _ => dec (a.d = b.d) : Nat → Bool) j) := fun j h1 h2 => by
    match j, h1, h2 with
    | 0, _, _ => exact Dq.eq I (A := A.in1) (show A.units + 1 + Dq.dep α < cLine by omega) r0m r0n q0m q0n
    | 1, _, _ => exact Dq.eq I (A := A.in1) (show A.units + 1 + Dq.dep β < cLine by omega) r1m r1n q1m q1n
    | 2, _, _ => exact Dq.eq I (A := A.in1) (show A.units + 1 + Dq.dep γ < cLine by omega) r2m r2n q2m q2n
    | 3, _, _ => exact Dq.eq I (A := A.in1) (show A.units + 1 + Dq.dep δ < cLine by omega) r3m r3n q3m q3n
    | j + 4, h1, _ => exact absurd h1 (by simp)
  have e1 := RcAt.tuples lm ln hu0 he
  have e2 := RcNeAt.tuples lm ln hu0 he
  have e : ((List.range (min [z0m, z1m, z2m, z3m].toArray.size [z0n, z1n, z2n, z3n].toArray.size)).all (fun j => match j with | 0 => dec (a.a = b.a) | 1 => dec (a.b = b.b) | 2 => dec (a.c = b.c) | _ => dec (a.d = b.d) : Nat → Bool) && [z0m, z1m, z2m, z3m].toArray.size == [z0n, z1n, z2n, z3n].toArray.size) = dec (a = b) := by
    rw [dec_iff (tup4_ext a b)]
    rw [dec_and]
    rw [dec_and]
    rw [dec_and]
    show ((dec (a.a = b.a) && (dec (a.b = b.b) && (dec (a.c = b.c) && (dec (a.d = b.d) && true)))) && true) = _
    simp only [Bool.and_true]
  rw [e] at e1 e2
  exact ⟨e1, e2⟩
instance instDq4 : Dq (T4 α β γ δ) where
  dep := Dq.dep α + Dq.dep β + Dq.dep γ + Dq.dep δ + 1
  rp := fun e ⟨p, vs, h, q, z⟩ => Py.mono e ⟨p, vs, h, q, z⟩
  uq := fun {X pins σ H s} I {v w u a b} r1 r2 h1 h2 => by
    obtain ⟨pm, x0m, x1m, x2m, x3m, z0m, z1m, z2m, z3m, rfl, rfl, lm, r0m, r1m, r2m, r3m, q0m, q1m, q2m, q3m⟩ := tup4_rd I r1 h1
    obtain ⟨pn, x0n, x1n, x2n, x3n, z0n, z1n, z2n, z3n, e0, e1, ln, r0n, r1n, r2n, r3n, q0n, q1n, q2n, q3n⟩ := tup4_rd I r2 h2
    cases e1
    have e := istup_uq lm ln
    injection e with e0 et
    injection et with e1 et
    injection et with e2 et
    injection et with e3 et
    subst e0 e1 e2 e3
    exact (tup4_ext a b).mpr ⟨Dq.uq I r0m r0n q0m q0n, Dq.uq I r1m r1n q1m q1n, Dq.uq I r2m r2n q2m q2n, Dq.uq I r3m r3n q3m q3n⟩
  eq := fun {X pins σ H s} I {A v w u u' a b} hu r1 r2 h1 h2 => by
    have k := tup4_rc I hu r1 r2 h1 h2
    obtain ⟨pm, x0m, x1m, x2m, x3m, z0m, z1m, z2m, z3m, rfl, rfl, lm, r0m, r1m, r2m, r3m, q0m, q1m, q2m, q3m⟩ := tup4_rd I r1 h1
    obtain ⟨pn, x0n, x1n, x2n, x3n, z0n, z1n, z2n, z3n, rfl, rfl, ln, r0n, r1n, r2n, r3n, q0n, q1n, q2n, q3n⟩ := tup4_rd I r2 h2
    by_cases e : pm = pn
    · subst e
      have e := istup_uq lm ln
      injection e with e0 et
      injection et with e1 et
      injection et with e2 et
      injection et with e3 et
      subst e0 e1 e2 e3
      rw [dec_t ((tup4_ext a b).mpr ⟨Dq.uq I r0m r0n q0m q0n, Dq.uq I r1m r1n q1m q1n, Dq.uq I r2m r2n q2m q2n, Dq.uq I r3m r3n q3m q3n⟩)]
      exact SeqAt.EqAt.same _
    · exact SeqAt.EqAt.of_refs e k.1
instance instDc4 : Dc (T4 α β γ δ) := ⟨fun {X pins σ H s} I {A v w u u' a b} hu r1 r2 h1 h2 => tup4_rc I hu r1 r2 h1 h2⟩
end
section
variable {X : Cx} {R0 H0 : Hp} {Γ : List Slot} {e a b c o tg : Expr} {pos : Pos} {st : Stmt}
def rEqQ (X : Cx) : R2 := fun x y H Q => ∃ k, (∀ pins s σ, Inv X pins σ H s → ∀ v u, RelV x v → RelV y u → RcAt X.A s v u k) ∧ Q (.bl k) H
def rNeQ (X : Cx) : R2 := fun x y H Q => ∃ k, (∀ pins s σ, Inv X pins σ H s → ∀ v u, RelV x v → RelV y u → RcNeAt X.A s v u k) ∧ Q (.bl k) H
variable {α : Type} [Py α] [Dq α] [Dc α] [DecidableEq α] {ma mb : Option α} {x y : α}
end
end FK

namespace FK
open PySem PySem.Spec PyProof.Rows L2
open PySem.SeqAt (EqAt RcAt RcNeAt)
section
variable {X : Cx} {R0 H0 : Hp} {Γ : List Slot} {e a b c o tg : Expr} {pos : Pos} {st : Stmt} {stmts : List Stmt}
/-! ### texts' order -/
/-! ### a text in a text -/
def sIn (x y : Str) : Bool := !(Builtin.Str.occurrences y x 0 y.length 1).isEmpty
/-! ### tuples of items of one type -/
structure Tl (α : Type) where
  l : List α
  deriving DecidableEq
instance instPyTl {α : Type} [Py α] : Py (Tl α) := tupPy (fun K R vs a => AllR K R vs a.l) fun e h => h.mono e
instance {α : Type} [Py α] : Flat (Tl α) := ⟨fun h => h⟩
theorem je_tl {α : Type} [Py α] {es : List Expr} {m : Option (List α)} {kk : Nat} (h : JLs X R0 H0 Γ es m) (hn : es.length ≤ 100 := by exact Nat.le_of_ble_eq_true rfl) : JE X R0 H0 Γ (.Tuple es kk pos) (m.bind fun x => some (⟨x⟩ : Tl α)) := .mk fun σ R H S xs ex Q q => by
  obtain ⟨x, e1, ex⟩ := bind_some' ex
  cases ex
  refine PE_to (pe_tup aS) (h.run σ R H S x e1 _ fun vs R1 H1 x1 l1 r1 => ⟨size_ok (by rw [l1]; exact Nat.le_trans hn (by decide)), ?_⟩)
  exact tup_lay (K := X.K) (α := Tl α) (f := fun _ _ _ _ => True) x1 fun v R' H' w ⟨p, ev, hp, ex⟩ => q v R' H' w ⟨p, _, ev, dsq hp, r1.mono ex⟩
theorem je_tl_t {α : Type} [Py α] {es : List Expr} {x : List α} {kk : Nat} (h : JLs X R0 H0 Γ es (some x)) (hn : es.length ≤ 100 := by exact Nat.le_of_ble_eq_true rfl) : JE X R0 H0 Γ (.Tuple es kk pos) (some (⟨x⟩ : Tl α)) := je_tl h hn
/-- a tuple of texts written at the top -/
def WTup (K : PySem.W.Frag) (mg : Str → Option Value) (x : Str) (l : List Str) : Prop := ∃ p, mg x = some (.ref p) ∧ ∀ H : Hp, SqT K H p (l.map V.str)
theorem je_wtup {x : Str} {l : List Str} (hm : WTup X.K X.mg x l) (hg : Gl X x := by rfl) (hd : (x == ("__debug__" : Str)) = false := by decide) : JE X R0 H0 Γ (.Name x pos) (some (⟨l⟩ : Tl Str)) := .mk fun σ R H S z ez Q q => by
  cases ez
  obtain ⟨p, hp, hs⟩ := hm
  exact PE_to (pe_glob (v := .ref p) hg hp rfl hd) (q _ R H (.refl S.i) ⟨p, _, rfl, hs R, AllR.of_map (fun _ => rfl) l⟩)
/-! ### an item in a list, a tuple -/
def rInQ (X : Cx) (op : CmpOp) : R2 := fun x y H Q => ∃ k, (∀ pins s σ, Inv X pins σ H s → ∀ v u, RelV x v → RelV y u → ∀ Q' : Value → Shared → Prop, Q' (.bool k) s → wpAny (model X.prog X.w) X.A (compareOp op v u) Q' X.xe s) ∧ Q (.bl k) H
theorem op_inQ {op : CmpOp} : OpR X (compareOp op) (rInQ X op) := by
  intro pins s σ H x y v u Q I rx ry h
  obtain ⟨k, h, q⟩ := h
  exact h pins s σ I v u rx ry _ ⟨.bl k, H, I, rfl, q⟩
section
variable {α : Type} [Py α] [Dq α]
theorem allr_mem {K : PySem.W.Frag} {H : Hp} : ∀ {vs : List V} {us : List Value} {as : List α}, Vals vs us → AllR K H vs as → ∀ u ∈ us, ∃ v a, RelV v u ∧ rep K H v a ∧ a ∈ as
  | [], us, as, r, h, u, hu => by
    cases r
    cases hu
  | v :: vs, us, as, r, h, u, hu => by
    cases r with
    | cons r1 t1 =>
      cases h with
      | @cons _ _ a as p1 q1 =>
        rcases List.mem_cons.mp hu with rfl | hu
        · exact ⟨v, a, r1, p1, List.mem_cons_self⟩
        · obtain ⟨w, b, x, y, z⟩ := allr_mem t1 q1 u hu
          exact ⟨w, b, x, y, List.mem_cons_of_mem _ z⟩
noncomputable def isQ (K : PySem.W.Frag) (H : Hp) (x : α) (u : Value) : Bool := dec (∃ v a, RelV v u ∧ rep K H v a ∧ a = x)
variable {pins : List (Addr × Obj)} {σ : L2.St} {H : Hp} {s : Shared}
theorem isQ_eq (I : Inv X pins σ H s) {v : V} {u : Value} {a x : α} (r : RelV v u) (h : rep X.K H v a) : isQ X.K H x u = dec (a = x) := by
  unfold isQ
  refine dec_iff ⟨fun ⟨w, b, r', h', e⟩ => ?_, fun e => ⟨v, a, r, h, e⟩⟩
  rw [Dq.uq I r r' h h', e]
theorem any_isQ (I : Inv X pins σ H s) {x : α} : ∀ {vs : List V} {us : List Value} {as : List α}, Vals vs us → AllR X.K H vs as → us.any (isQ X.K H x) = dec (x ∈ as)
  | [], us, as, r, h => by
    cases r
    cases h
    rw [dec_f (List.not_mem_nil)]
    rfl
  | v :: vs, us, as, r, h => by
    cases r with
    | cons r1 t1 =>
      cases h with
      | @cons _ _ a as p1 q1 =>
        rw [List.any_cons, any_isQ I t1 q1, isQ_eq I r1 p1]
        by_cases h1 : a = x
        · rw [dec_t h1, dec_t (show x ∈ a :: as from by rw [h1]; exact List.mem_cons_self)]
          rfl
        · rw [dec_f h1, Bool.false_or]
          exact dec_iff ⟨fun z => List.mem_cons_of_mem _ z, fun z => (List.mem_cons.mp z).elim (fun e => absurd e.symm h1) id⟩
theorem each_isQ (I : Inv X pins σ H s) {A : Around} (hu : A.units + Dq.dep α < cLine) {x : α} {w : V} {v : Value} (rx : RelV w v) (hx : rep X.K H w x) {vs : List V} {us : List Value} {as : List α} (r : Vals vs us) (h : AllR X.K H vs as) : ∀ y, y ∈ us.toArray → EqAt A s y v (isQ X.K H x y) := fun y hy => by
  obtain ⟨w', a, r1, p1, _⟩ := allr_mem r h y (by simpa using hy)
  rw [isQ_eq I r1 p1]
  exact Dq.eq I hu r1 rx p1 hx
variable [DecidableEq α]
theorem nin_tl (hu : X.A.units + 64 < cLine) (hd : Dq.dep α ≤ 60) (R H : Hp) (v w : V) (x : α) (y : Tl α) (z : Bool) (i : Ex R H) (h1 : bor X.K R H v x) (h2 : bor X.K R H w y) (h3 : some (!decide (x ∈ y.l)) = some z) (Q : VK) (q : ∀ u R' H', Ext R H R' H' → rep X.K R' u z → Q u H') : rInQ X .NotIn v w H Q := by
  cases h3
  refine ⟨_, fun pins s σ I v' u' r1 r2 Q' q' => ?_, q _ R H (.refl i) rfl⟩
  obtain ⟨p, vs, rfl, hp, q2⟩ := Py.mono i (show rep X.K R w y from h2)
  cases r2
  obtain ⟨us, t2, l2, _⟩ := I.tuple hp
  refine SeqAt.notIn_tupleAt (isQ X.K H x) l2 (each_isQ I (show X.A.units + 1 + Dq.dep α < cLine by omega) r1 (Dq.rp i h1) t2 q2) ?_
  rw [show us.toArray.any (isQ X.K H x) = us.any (isQ X.K H x) by simp, any_isQ I t2 q2, dec_eq]
  exact q'
variable {ma : Option α} {x : α}
theorem jt_ninu {mb : Option (Tl α)} (hu : X.A.units + 64 < cLine) (ha : JB X R0 H0 Γ a ma) (hb : JB X R0 H0 Γ b mb) (hk : behindInMarks .NotIn b = false := by rfl) (hd : Dq.dep α ≤ 60 := by decide) : JT X R0 H0 Γ (.Compare a [.NotIn] [b] pos) (ma.bind fun x => mb.bind fun y => some (!decide (x ∈ y.l))) := jt_cmp2 op_inQ hk (nin_tl hu hd) ha hb
theorem jt_ninu_t {y : Tl α} (hu : X.A.units + 64 < cLine) (ha : JB X R0 H0 Γ a (some x)) (hb : JB X R0 H0 Γ b (some y)) (hk : behindInMarks .NotIn b = false := by rfl) (hd : Dq.dep α ≤ 60 := by decide) : JT X R0 H0 Γ (.Compare a [.NotIn] [b] pos) (some (!decide (x ∈ y.l))) := jt_ninu hu ha hb hk hd
end
/-! ### sorted -/
class Dh (α : Type) [Py α] [DecidableEq α] [PySem.W.Datum α] where
  hd : ∀ {X : Cx} {pins : List (Addr × Obj)} {σ : L2.St} {H : Hp} {s : Shared}, Inv X pins σ H s → ∀ {v : V} {u : Value} {a : α}, RelV v u → rep X.K H v a → PySem.W.Holds s.heap u a
class Dso (α : Type) [DecidableEq α] [PySem.W.Datum α] where
  so : (∀ b : α, ∃ x r, PySem.W.Datum.toD b = .tuple (x :: r)) ∨ ∀ b : α, PySem.W.Datum.toD b ≠ .none ∧ ∀ xs, PySem.W.Datum.toD b ≠ .tuple xs
instance instDhInt : Dh Int := ⟨fun {X pins σ H s} _ {v u a} r h => by
  cases (show v = V.int a from h)
  obtain ⟨t, rfl⟩ := r
  exact PySem.W.holds_int a t⟩
instance instDhStr : Dh Str := ⟨fun {X pins σ H s} _ {v u a} r h => by
  cases (show v = V.str a from h)
  obtain ⟨t, rfl⟩ := r
  exact PySem.W.holds_str a t⟩
instance instDhBool : Dh Bool := ⟨fun {X pins σ H s} _ {v u a} r h => by
  cases (show v = V.bl a from h)
  cases (show u = .bool a from r)
  exact PySem.W.holds_bool a⟩
instance instDsoInt : Dso Int := ⟨.inr fun b => ⟨(fun e => by cases e), fun xs e => by cases e⟩⟩
instance instDsoStr : Dso Str := ⟨.inr fun b => ⟨(fun e => by cases e), fun xs e => by cases e⟩⟩
instance instDsoList {α : Type} [DecidableEq α] [PySem.W.Datum α] : Dso (List α) := ⟨.inr fun b => ⟨(fun e => by cases e), fun xs e => by cases e⟩⟩
theorem holdAll_of {α : Type} [Py α] [DecidableEq α] [PySem.W.Datum α] [Dh α] {pins : List (Addr × Obj)} {σ : L2.St} {H : Hp} {s : Shared} (I : Inv X pins σ H s) : ∀ {vs : List V} {us : List Value} {as : List α}, Vals vs us → AllR X.K H vs as → PySem.W.HoldAll s.heap us as
  | [], us, as, r, h => by
    cases r
    cases h
    exact PySem.W.HoldAll.nil
  | v :: vs, us, as, r, h => by
    cases r with
    | cons r1 t1 =>
      cases h with
      | cons p1 q1 => exact PySem.W.HoldAll.cons (Dh.hd I r1 p1) (holdAll_of I t1 q1)
instance instDhList {α : Type} [Py α] [DecidableEq α] [PySem.W.Datum α] [Dh α] : Dh (List α) := ⟨fun {X pins σ H s} I {v u a} r h => by
  obtain ⟨p, o, rfl, hp, vs, rfl, q1⟩ := h
  cases r
  obtain ⟨us, t1, l1, _⟩ := I.list (.inl hp)
  exact PySem.W.holds_list l1.isList (holdAll_of I t1 q1)⟩
instance instDh2 {α : Type} {β : Type} [Py α] [DecidableEq α] [PySem.W.Datum α] [Dh α] [Py β] [DecidableEq β] [PySem.W.Datum β] [Dh β] [Dq α] [Dq β] : Dh (α × β) := ⟨fun {X pins σ H s} I {v u a} r h => by
  obtain ⟨p, x0, x1, z0, z1, rfl, rfl, l, r0, r1, q0, q1⟩ := tup2_rd I r h
  cases a
  exact PySem.W.holds_pair l (Dh.hd I r0 q0) (Dh.hd I r1 q1)⟩
instance instDso2 {α : Type} {β : Type} [DecidableEq α] [PySem.W.Datum α] [DecidableEq β] [PySem.W.Datum β] : Dso (α × β) := ⟨.inl fun b => ⟨_, _, rfl⟩⟩
instance instDh3 {α : Type} {β : Type} {γ : Type} [Py α] [DecidableEq α] [PySem.W.Datum α] [Dh α] [Py β] [DecidableEq β] [PySem.W.Datum β] [Dh β] [Py γ] [DecidableEq γ] [PySem.W.Datum γ] [Dh γ] [Dq α] [Dq β] [Dq γ] : Dh (T3 α β γ) := ⟨fun {X pins σ H s} I {v u a} r h => by
  obtain ⟨p, x0, x1, x2, z0, z1, z2, rfl, rfl, l, r0, r1, r2, q0, q1, q2⟩ := tup3_rd I r h
  cases a
  exact PySem.W.holds_t3 l (Dh.hd I r0 q0) (Dh.hd I r1 q1) (Dh.hd I r2 q2)⟩
instance instDso3 {α : Type} {β : Type} {γ : Type} [DecidableEq α] [PySem.W.Datum α] [DecidableEq β] [PySem.W.Datum β] [DecidableEq γ] [PySem.W.Datum γ] : Dso (T3 α β γ) := ⟨.inl fun b => ⟨_, _, rfl⟩⟩
instance instDh4 {α : Type} {β : Type} {γ : Type} {δ : Type} [Py α] [DecidableEq α] [PySem.W.Datum α] [Dh α] [Py β] [DecidableEq β] [PySem.W.Datum β] [Dh β] [Py γ] [DecidableEq γ] [PySem.W.Datum γ] [Dh γ] [Py δ] [DecidableEq δ] [PySem.W.Datum δ] [Dh δ] [Dq α] [Dq β] [Dq γ] [Dq δ] : Dh (T4 α β γ δ) := ⟨fun {X pins σ H s} I {v u a} r h => by
  obtain ⟨p, x0, x1, x2, x3, z0, z1, z2, z3, rfl, rfl, l, r0, r1, r2, r3, q0, q1, q2, q3⟩ := tup4_rd I r h
  cases a
  exact PySem.W.holds_t4 l (Dh.hd I r0 q0) (Dh.hd I r1 q1) (Dh.hd I r2 q2) (Dh.hd I r3 q3)⟩
instance instDso4 {α : Type} {β : Type} {γ : Type} {δ : Type} [DecidableEq α] [PySem.W.Datum α] [DecidableEq β] [PySem.W.Datum β] [DecidableEq γ] [PySem.W.Datum γ] [DecidableEq δ] [PySem.W.Datum δ] : Dso (T4 α β γ δ) := ⟨.inl fun b => ⟨_, _, rfl⟩⟩
section
variable {α : Type} [Py α] [DecidableEq α] [PySem.W.DatumOrd α] [Dh α] [Dso α]
/-- as sorted() orders -/
def srt (as : List α) : List α := as.mergeSort fun a b => !PySem.W.DatumOrd.lt b a
def rSrt (X : Cx) (α : Type) [Py α] [DecidableEq α] [PySem.W.DatumOrd α] [Dh α] [Dso α] : List V → Hp → VK → Prop := fun ws H Q => ∃ (R : Hp) (l : V) (as : List α), ws = [l] ∧ Ex R H ∧ bor X.K R H l as ∧ as.length ≤ 16000000 ∧ ∀ p vs, H p = none → AllR X.K R vs (srt as) → Q (.ref p) (upd H p (.lst vs))
end

/-! ### texts' methods -/
def sStrip (x y : Str) : Option Str := if x.length ≤ 16000000 then some (Txt.stripChars x y) else none
def sPart (x y : Str) : Option (T3 Str Str Str) := if (y.length == 0) = false ∧ x.length ≤ 16000000 then some ⟨(Txt.partition x y).1, (Txt.partition x y).2.1, (Txt.partition x y).2.2⟩ else none
def sUp (x : Str) : Option Str := if x.length ≤ 5000000 then some (Txt.upper x) else none
def sLow (x : Str) : Option Str := if x.length ≤ 5000000 then some (Txt.lower x) else none
theorem je_strip {apos : Pos} {mo me : Option Str} (ho : JB X R0 H0 Γ o mo) (he : JB X R0 H0 Γ e me) (hs : starEach [e] X.env = [(false, eval e X.env)] := by rfl) (hbase : attributeBase o "strip" X.env (eval o X.env) = eval o X.env := by rfl) (hline : (apos.endLine == pos.line) = true := by rfl) :
    JE X R0 H0 Γ (.Call (.Attribute o "strip" apos) [e] [] pos) (mo.bind fun x => me.bind fun y => sStrip x y) := je_m1 F.slot_str_strip F.type_str_strip mt_stripChars (fun R H w x y z i h h3 Q q => by
  unfold sStrip at h3
  by_cases g : x.length ≤ 16000000
  · rw [if_pos g] at h3
    cases h3
    have h : w = .str y := h
    subst h
    exact ⟨x, y, rfl, rfl, size_ok g, q _ R H (.refl i) rfl⟩
  · rw [if_neg g] at h3
    cases h3) ho he hs hbase hline
theorem je_strip_t {apos : Pos} {x y : Str} (ho : JB X R0 H0 Γ o (some x)) (he : JB X R0 H0 Γ e (some y)) (hs : starEach [e] X.env = [(false, eval e X.env)] := by rfl) (hbase : attributeBase o "strip" X.env (eval o X.env) = eval o X.env := by rfl) (hline : (apos.endLine == pos.line) = true := by rfl) :
    JE X R0 H0 Γ (.Call (.Attribute o "strip" apos) [e] [] pos) (sStrip x y) := je_strip ho he hs hbase hline
theorem je_startswith {apos : Pos} {mo me : Option Str} (ho : JB X R0 H0 Γ o mo) (he : JB X R0 H0 Γ e me) (hs : starEach [e] X.env = [(false, eval e X.env)] := by rfl) (hbase : attributeBase o "startswith" X.env (eval o X.env) = eval o X.env := by rfl) (hline : (apos.endLine == pos.line) = true := by rfl) :
    JE X R0 H0 Γ (.Call (.Attribute o "startswith" apos) [e] [] pos) (mo.bind fun x => me.bind fun y => some (Txt.startswith x y)) := je_m1 F.slot_str_startswith F.type_str_startswith mt_startswith (fun R H w x y z i h h3 Q q => by
  cases h3
  have h : w = .str y := h
  subst h
  exact ⟨x, y, rfl, rfl, q _ R H (.refl i) rfl⟩) ho he hs hbase hline
theorem je_startswith_t {apos : Pos} {x y : Str} (ho : JB X R0 H0 Γ o (some x)) (he : JB X R0 H0 Γ e (some y)) (hs : starEach [e] X.env = [(false, eval e X.env)] := by rfl) (hbase : attributeBase o "startswith" X.env (eval o X.env) = eval o X.env := by rfl) (hline : (apos.endLine == pos.line) = true := by rfl) :
    JE X R0 H0 Γ (.Call (.Attribute o "startswith" apos) [e] [] pos) (some (Txt.startswith x y)) := je_startswith ho he hs hbase hline
/-! ### powers, chains -/
theorem je_powc {x y z : Int} {j j2 : Nat} {p1 p2 : Pos} (h : x ^ y.toNat = z := by decide +kernel) (hc : CPow x y := by exact ⟨by decide, by decide, by decide⟩) : JE X R0 H0 Γ (.BinOp (.Constant (.int x) j p1) .Pow (.Constant (.int y) j2 p2) pos) (some z) := .mk fun σ R H S w ew Q q => by
  cases ew
  refine PE_to (pe_op op_pow pe_int pe_int) ?_
  exact ⟨x, y, rfl, rfl, hc, by show Q (.int (x ^ y.toNat)) H; rw [h]; exact q _ R H (.refl S.i) rfl⟩
theorem je_modp_t {x z : Int} (ha : JB X R0 H0 Γ a (some x)) (hb : JB X R0 H0 Γ b (some z)) (hc : 0 < z := by decide) : JE X R0 H0 Γ (.BinOp a .Mod b pos) (some (x % z)) := (je_mod_t ha hb).eq (if_pos hc)
theorem jt_chlele {ma mb mc : Option Int} (ha : JB X R0 H0 Γ a ma) (hb : JB X R0 H0 Γ b mb) (hc : JB X R0 H0 Γ c mc) : JT X R0 H0 Γ (.Compare a [.LtE, .LtE] [b, c] pos) (ma.bind fun x => mb.bind fun y => if decide (x ≤ y) = true then mc.bind fun z => some (decide (y ≤ z)) else some false) := .mk fun σ R H S w ew Q q => by
  obtain ⟨x, ex, ew⟩ := bind_some' ew
  obtain ⟨y, ey, ew⟩ := bind_some' ew
  refine PT_to (pt_chain op_le op_le eS eS eS (nomark c)) (ha σ R H S x ex _ fun v R1 H1 x1 r1 => hb σ R1 H1 (S.ext x1) y ey _ fun u R2 H2 x2 r2 => ?_)
  have r1 : v = .int x := r1
  have r2 : u = .int y := r2
  subst r1 r2
  refine ⟨x, y, rfl, rfl, _, rfl, ?_⟩
  by_cases k : decide (x ≤ y) = true
  · rw [if_pos k] at ew
    obtain ⟨z, ez, ew⟩ := bind_some' ew
    cases ew
    rw [if_pos k]
    refine hc σ R2 H2 ((S.ext x1).ext x2) z ez _ fun t R3 H3 x3 r3 => ?_
    have r3 : t = .int z := r3
    subst r3
    exact ⟨y, z, rfl, rfl, ⟨_, rfl, q R3 H3 ((x1.trans x2).trans x3)⟩⟩
  · rw [if_neg k] at ew
    cases ew
    rw [if_neg k]
    exact ⟨_, rfl, q R2 H2 (x1.trans x2)⟩
/-! ### the lesser, the greater of two texts -/
def smin (x y : Str) : Str := if sLt y x = true then y else x
def smax (x y : Str) : Str := if sLt x y = true then y else x
def strAt (xs : Array Value) (i : Nat) : Str := match xs.getD i .none with
  | .str x _ => x
  | _ => ⟨#[]⟩
section
variable {prog : Program} {w : World} {A : Around} {E : Value → Shared → Prop} {s : Shared}
end
end
end FK

namespace FK
open PySem PySem.Spec PyProof.Rows L2
theorem sqt_ex {K : PySem.W.Frag} {H H' : Hp} {p : Addr} {xs : List V} (e : Ex H H') (h : SqT K H p xs) : SqT K H' p xs := h.elim (fun z => .inl (rd_ex e z)) .inr
section
variable {X : Cx} {R0 H0 : Hp} {Γ : List Slot} {e a b c o tg : Expr} {pos : Pos} {st : Stmt} {stmts : List Stmt}
section
variable {α : Type} [Py α] [DecidableEq α] [PySem.W.DatumOrd α] [Dh α] [Dso α] [Dq α]
def sSort (x : List α) : Option (List α) := if x.length ≤ 16000000 then some (srt x) else none
end
/-! ### how many items a tuple has -/
/-! ### a range by steps -/
def rangek (i j c : Int) : Option (List Int) := if c ≠ 0 ∧ c.natAbs < 1073741824 ∧ Builtin.Range.small i j c = true ∧ 0 ≤ Builtin.Range.rangeSize i j c then some ((List.range (Builtin.Range.rangeSize i j c).toNat).map fun (k : Nat) => i + k * c) else none
theorem ji_rangek {p : Pos} {m m2 m3 : Option Int} (hm : X.mg "range" = none) (h : JB X R0 H0 Γ a m) (h2 : JB X R0 H0 Γ b m2) (h3 : JB X R0 H0 Γ c m3) (hg : Gl X "range" := by rfl) (hs : starEach [a, b, c] X.env = (false, eval a X.env) :: starEach [b, c] X.env := by rfl) (hs2 : starEach (b :: [c]) X.env = (false, eval b X.env) :: starEach [c] X.env := by rfl) (hs3 : starEach (c :: []) X.env = (false, eval c X.env) :: starEach [] X.env := by rfl)
    (hpl : (backTo pos (starEach [b, c] X.env)).any (·.1) = false := by rfl) : JI X R0 H0 Γ tg (.Call (.Name "range" p) [a, b, c] [] pos) (m.bind fun i => m2.bind fun j => m3.bind fun k => rangek i j k) := .mk fun σ R H S xs ex Q q => by
  obtain ⟨i, e1, ex⟩ := bind_some' ex
  obtain ⟨j, e2, ex⟩ := bind_some' ex
  obtain ⟨k, e3, ex⟩ := bind_some' ex
  unfold rangek at ex
  by_cases hj : k ≠ 0 ∧ k.natAbs < 1073741824 ∧ Builtin.Range.small i j k = true ∧ 0 ≤ Builtin.Range.rangeSize i j k
  · rw [if_pos hj] at ex
    cases ex
    refine PI_to (pi_range3 hg hm (pa_cons eS (pa_cons eS (pa_cons eS pa_nil hs3) hs2) hs) hs hpl) (h σ R H S i e1 _ fun v1 R1 H1 x1 r1 => h2 σ R1 H1 (S.ext x1) j e2 _ fun v2 R2 H2 x2 r2 => h3 σ R2 H2 ((S.ext x1).ext x2) k e3 _ fun v3 R3 H3 x3 r3 => ?_)
    have r1 : v1 = .int i := r1
    have r2 : v2 = .int j := r2
    have r3 : v3 = .int k := r3
    subst r1 r2 r3
    refine ⟨i, j, k, _, rfl, ⟨hj.1, hj.2.1, hj.2.2.1, (Int.toNat_of_nonneg hj.2.2.2).symm⟩, q _ R3 H3 ((x1.trans x2).trans x3) fun n R4 H4 f1 f2 f3 => ⟨fun y hy => ?_, fun hi => ?_⟩⟩
    · rw [List.getElem?_map] at hy
      by_cases hn : n < (Builtin.Range.rangeSize i j k).toNat
      · rw [List.getElem?_range hn] at hy
        cases hy
        refine ⟨hn, fun w H5 hw => ?_⟩
        obtain ⟨rfl, rfl⟩ := hw
        exact ⟨R4, .refl f3, rfl⟩
      · rw [List.getElem?_eq_none (by rw [List.length_range]; omega)] at hy
        cases hy
    · rw [List.length_map, List.length_range] at hi
      exact hi
  · rw [if_neg hj] at ex
    cases ex
theorem ji_rangek_t {p : Pos} {m m2 m3 : Int} (hm : X.mg "range" = none) (h : JB X R0 H0 Γ a (some m)) (h2 : JB X R0 H0 Γ b (some m2)) (h3 : JB X R0 H0 Γ c (some m3)) (hg : Gl X "range" := by rfl) (hs : starEach [a, b, c] X.env = (false, eval a X.env) :: starEach [b, c] X.env := by rfl) (hs2 : starEach (b :: [c]) X.env = (false, eval b X.env) :: starEach [c] X.env := by rfl) (hs3 : starEach (c :: []) X.env = (false, eval c X.env) :: starEach [] X.env := by rfl)
    (hpl : (backTo pos (starEach [b, c] X.env)).any (·.1) = false := by rfl) : JI X R0 H0 Γ tg (.Call (.Name "range" p) [a, b, c] [] pos) (rangek m m2 m3) := ji_rangek hm h h2 h3 hg hs hs2 hs3 hpl
/-! ### a sign between two -/
theorem jt_chless {ma mb mc : Option Str} (ha : JB X R0 H0 Γ a ma) (hb : JB X R0 H0 Γ b mb) (hc : JB X R0 H0 Γ c mc) : JT X R0 H0 Γ (.Compare a [.LtE, .LtE] [b, c] pos) (ma.bind fun x => mb.bind fun y => if (!sLt y x) = true then mc.bind fun z => some (!sLt z y) else some false) := .mk fun σ R H S w ew Q q => by
  obtain ⟨x, ex, ew⟩ := bind_some' ew
  obtain ⟨y, ey, ew⟩ := bind_some' ew
  refine PT_to (pt_chain op_le_str op_le_str eS eS eS (nomark c)) (ha σ R H S x ex _ fun v R1 H1 x1 r1 => hb σ R1 H1 (S.ext x1) y ey _ fun u R2 H2 x2 r2 => ?_)
  have r1 : v = .str x := r1
  have r2 : u = .str y := r2
  subst r1 r2
  refine ⟨x, y, rfl, rfl, _, rfl, ?_⟩
  by_cases k : (!sLt y x) = true
  · rw [if_pos k] at ew
    obtain ⟨z, ez, ew⟩ := bind_some' ew
    cases ew
    show (if (!sLt y x) = true then _ else _)
    rw [if_pos k]
    refine hc σ R2 H2 ((S.ext x1).ext x2) z ez _ fun t R3 H3 x3 r3 => ?_
    have r3 : t = .str z := r3
    subst r3
    exact ⟨y, z, rfl, rfl, ⟨_, rfl, q R3 H3 ((x1.trans x2).trans x3)⟩⟩
  · rw [if_neg k] at ew
    cases ew
    show (if (!sLt y x) = true then _ else _)
    rw [if_neg k]
    exact ⟨_, rfl, q R2 H2 (x1.trans x2)⟩
theorem ty_tup {K : PySem.W.Frag} {H : Hp} {p : Addr} {vs : List V} (h : SqT K H p vs) : TyX K H (.ref p) (.type "tuple") := by
  rcases h with (hp | ⟨ob, hp⟩) | ⟨ob, its, n, hp, hc, _⟩
  · exact .base (.tup hp)
  · exact .fTuple hp
  · exact .kTuple hp hc
instance {α β : Type} [Py α] [Py β] : Ty (α × β) := ⟨"tuple", fun {K R H v a} i h => by
  obtain ⟨p, vs, rfl, hp, _⟩ := h
  exact ty_tup (sqt_ex i (dsq hp))⟩
instance {α β γ : Type} [Py α] [Py β] [Py γ] : Ty (T3 α β γ) := ⟨"tuple", fun {K R H v a} i h => by
  obtain ⟨p, vs, rfl, hp, _⟩ := h
  exact ty_tup (sqt_ex i (dsq hp))⟩
instance {α β γ δ : Type} [Py α] [Py β] [Py γ] [Py δ] : Ty (T4 α β γ δ) := ⟨"tuple", fun {K R H v a} i h => by
  obtain ⟨p, vs, rfl, hp, _⟩ := h
  exact ty_tup (sqt_ex i (dsq hp))⟩
/-! ### a tuple walked -/
end
end FK

/-! list(reversed(xs)): a new list -/
namespace FK
open PySem PySem.Spec PyProof.Rows
section
variable {prog : Program} {w : World} {A : Around} {E : Value → Shared → Prop} {s : Shared}
end
open L2
/-- list(reversed(x)), x a list -/
def tListRev (K : PySem.W.Frag) (te : TE) : TE := fun σ H Q => te σ H fun v H1 => ∃ (a : Addr) (xs : List V), v = .ref a ∧ SqL K H1 a xs ∧ ∀ q, H1 q = none → Q (.ref q) (upd H1 q (.lst xs.reverse))
section
variable {X : Cx} {R0 H0 : Hp} {Γ : List Slot} {e : Expr}
section
variable {a b : Expr} {pos : Pos}
end
end
instance {α : Type} [Py α] : Ty (Tl α) := ⟨"tuple", fun {K R H v a} i h => by
  obtain ⟨p, vs, rfl, hp, _⟩ := h
  exact ty_tup (sqt_ex i hp)⟩
end FK

/-! dicts of one's own, the keys ints or texts -/
namespace FK
open PySem PySem.Spec PyProof.Rows L2
/-- in, for pairs -/
def lMem {α : Type} [DecidableEq α] (x : α) (y : List α) : Bool := decide (x ∈ y)
structure Dct (κ α : Type) where
  l : List (κ × α)
class Kq (κ : Type) [Py κ] [DecidableEq κ] where
  key : κ → L2.Key
  inj : ∀ {a b : κ}, key a = key b → a = b
  bv : ∀ {K : PySem.W.Frag} {R H : Hp} {v : V} {a : κ}, bor K R H v a → v = kV (key a)
  vr : ∀ {K : PySem.W.Frag} {R : Hp} (a : κ), rep K R (kV (key a)) a
instance instKqInt : Kq Int := ⟨Sum.inl, fun h => Sum.inl.inj h, fun h => h, fun _ => rfl⟩
instance instKqStr : Kq Str := ⟨Sum.inr, fun h => Sum.inr.inj h, fun h => h, fun _ => rfl⟩
section
variable {κ α : Type} [Py κ] [DecidableEq κ] [Kq κ] [Py α]
inductive DR (K : PySem.W.Frag) (R : Hp) : List (L2.Key × V) → List (κ × α) → Prop
  | nil : DR K R [] []
  | cons {k : κ} {v : V} {a : α} {vs : List (L2.Key × V)} {l : List (κ × α)} : rep K R v a → DR K R vs l → DR K R ((Kq.key k, v) :: vs) ((k, a) :: l)
theorem DR.mono {K : PySem.W.Frag} {R R' : Hp} (e : Ex R R') : ∀ {vs : List (L2.Key × V)} {l : List (κ × α)}, DR K R vs l → DR K R' vs l
  | _, _, .nil => .nil
  | _, _, .cons h t => .cons (Py.mono e h) (t.mono e)
theorem DR.len {K : PySem.W.Frag} {R : Hp} : ∀ {vs : List (L2.Key × V)} {l : List (κ × α)}, DR K R vs l → vs.length = l.length
  | _, _, .nil => rfl
  | _, _, .cons _ t => congrArg (· + 1) t.len
instance instObDct : Ob (Dct κ α) where
  nt := fun ⟨_, h, _⟩ => by rw [h]; rfl
  ho := fun K R o d => ∃ kvs, o = .dK kvs ∧ DR K R kvs d.l
  mono := fun e ⟨kvs, h, q⟩ => ⟨kvs, h, q.mono e⟩
def dGet (l : List (κ × α)) (k : κ) : Option α := (l.find? fun p => decide (p.1 = k)).map (·.2)
def dHas (l : List (κ × α)) (k : κ) : Bool := (dGet l k).isSome
def dPut (l : List (κ × α)) (k : κ) (a : α) : List (κ × α) := if (l.any fun p => decide (p.1 = k)) = true then l.map (fun p => if p.1 = k then (p.1, a) else p) else l ++ [(k, a)]
theorem key_dec (a b : κ) : decide (Kq.key a = Kq.key b) = decide (a = b) := by
  by_cases h : a = b
  · rw [decide_eq_true h, decide_eq_true (by rw [h])]
  · rw [decide_eq_false h, decide_eq_false fun z => h (Kq.inj z)]
theorem DR.get {K : PySem.W.Frag} {R : Hp} (k : κ) : ∀ {vs : List (L2.Key × V)} {l : List (κ × α)}, DR K R vs l → (dGet l k = none ∧ valV vs (Kq.key k) = none) ∨ ∃ a v, dGet l k = some a ∧ valV vs (Kq.key k) = some v ∧ rep K R v a
  | _, _, .nil => .inl ⟨rfl, rfl⟩
  | _, _, .cons (k := k') (v := v) (a := a) (vs := vs) (l := l) h t => by
    by_cases e : k' = k
    · subst e
      refine .inr ⟨a, v, ?_, ?_, h⟩
      · unfold dGet
        rw [List.find?_cons, decide_eq_true rfl]
        rfl
      · exact valV_pos rfl
    · have e2 : ¬ Kq.key k' = Kq.key k := fun z => e (Kq.inj z)
      have g1 : dGet ((k', a) :: l) k = dGet l k := by
        unfold dGet
        rw [List.find?_cons, decide_eq_false e]
      rw [g1, valV_neg (p := (Kq.key k', v)) e2]
      exact t.get k
theorem DR.any {K : PySem.W.Frag} {R : Hp} (k : κ) : ∀ {vs : List (L2.Key × V)} {l : List (κ × α)}, DR K R vs l → (vs.any fun p => decide (p.1 = Kq.key k)) = l.any fun p => decide (p.1 = k)
  | _, _, .nil => rfl
  | _, _, .cons (k := k') h t => by
    rw [List.any_cons, List.any_cons, t.any k]
    show (decide (Kq.key k' = Kq.key k) || _) = _
    rw [key_dec]
theorem DR.repl {K : PySem.W.Frag} {R : Hp} (k : κ) {v : V} {a : α} (r : rep K R v a) : ∀ {vs : List (L2.Key × V)} {l : List (κ × α)}, DR K R vs l → DR K R (vs.map fun p => if p.1 = Kq.key k then (p.1, v) else p) (l.map fun p => if p.1 = k then (p.1, a) else p)
  | _, _, .nil => .nil
  | _, _, .cons (k := k') h t => by
    rw [List.map_cons, List.map_cons]
    by_cases e : k' = k
    · rw [if_pos (show Kq.key k' = Kq.key k by rw [e]), if_pos e]
      exact .cons r (t.repl k r)
    · rw [if_neg (show ¬ Kq.key k' = Kq.key k from fun z => e (Kq.inj z)), if_neg e]
      exact .cons h (t.repl k r)
theorem DR.snoc {K : PySem.W.Frag} {R : Hp} (k : κ) {v : V} {a : α} (r : rep K R v a) : ∀ {vs : List (L2.Key × V)} {l : List (κ × α)}, DR K R vs l → DR K R (vs ++ [(Kq.key k, v)]) (l ++ [(k, a)])
  | _, _, .nil => .cons r .nil
  | _, _, .cons h t => .cons h (t.snoc k r)
theorem DR.put {K : PySem.W.Frag} {R : Hp} (k : κ) {v : V} {a : α} (r : rep K R v a) {vs : List (L2.Key × V)} {l : List (κ × α)} (h : DR K R vs l) : DR K R (putK vs (Kq.key k) v) (dPut l k a) := by
  unfold putK dPut
  rw [h.any k]
  split
  · exact h.repl k r
  · exact h.snoc k r
theorem DR.keys {K : PySem.W.Frag} {R : Hp} : ∀ {vs : List (L2.Key × V)} {l : List (κ × α)}, DR K R vs l → AllR K R (vs.map fun p => kV p.1) (l.map (·.1))
  | _, _, .nil => .nil
  | _, _, .cons h t => .cons (Kq.vr _) t.keys
variable {X : Cx} {R0 H0 : Hp} {Γ : List Slot} {e a b o : Expr} {pos : Pos}
end
section
variable {κ α : Type} [Py κ] [DecidableEq κ] [Kq κ] [Py α] {X : Cx} {R0 H0 : Hp} {Γ : List Slot} {e a b o : Expr} {pos : Pos} {mo : Option (Dct κ α)} {mk : Option κ} {d : Dct κ α} {k : κ}
def dSet (d : Dct κ α) (k : κ) (a : α) : Option (Dct κ α) := if d.l.length < 16000000 then some ⟨dPut d.l k a⟩ else none
end
/-! ### l.index(x), x there -/
class Fv (α : Type) [Py α] [DecidableEq α] extends Sc α where
  fl : ∀ a : α, flatV (to a) = true
  ev : ∀ a b : α, eqV (to a) (to b) = decide (a = b)
  tr : ∀ {K : PySem.W.Frag} {R : Hp} {v : V} {a : α}, rep K R v a → v = to a
theorem evInt (a b : Int) : (a == b) = decide (a = b) := by
  by_cases h : a = b
  · rw [decide_eq_true h, beq_iff_eq]
    exact h
  · rw [decide_eq_false h]
    exact beq_eq_false_iff_ne.mpr h
theorem evStr (a b : Str) : (a == b) = decide (a = b) := by
  by_cases h : a = b
  · rw [decide_eq_true h, beq_iff_eq]
    exact h
  · rw [decide_eq_false h]
    exact beq_eq_false_iff_ne.mpr h
instance instFvInt : Fv Int := { instScInt with fl := fun _ => rfl, ev := evInt, tr := fun h => h }
instance instFvStr : Fv Str := { instScStr with fl := fun _ => rfl, ev := evStr, tr := fun h => h }
section
variable {α : Type} [Py α] [DecidableEq α] [Fv α] {X : Cx} {R0 H0 : Hp} {Γ : List Slot} {e o : Expr} {pos : Pos}
def lIdx (l : List α) (x : α) : Option Int := if x ∈ l then some (l.idxOf x : Int) else none
end
end FK

/-! a value or None -/
namespace FK
open PySem PySem.Spec PyProof.Rows L2
class Nn (α : Type) [Py α] : Prop where
  nn : ∀ {K : PySem.W.Frag} {R : Hp} {v : V} {a : α}, rep K R v a → v ≠ .non
instance : Nn Int := ⟨fun {K R v a} h e => by rw [e] at h; cases h⟩
instance : Nn Bool := ⟨fun {K R v a} h e => by rw [e] at h; cases h⟩
instance : Nn Str := ⟨fun {K R v a} h e => by rw [e] at h; cases h⟩
instance instNnOb {α : Type} [Ob α] : Nn α := ⟨fun {K R v a} h e => by obtain ⟨p, o, h, _⟩ := h; rw [e] at h; cases h⟩
instance {α β : Type} [Py α] [Py β] : Nn (α × β) := ⟨fun {K R v a} h e => by obtain ⟨p, o, h, _⟩ := h; rw [e] at h; cases h⟩
instance {α β γ : Type} [Py α] [Py β] [Py γ] : Nn (T3 α β γ) := ⟨fun {K R v a} h e => by obtain ⟨p, o, h, _⟩ := h; rw [e] at h; cases h⟩
instance {α β γ δ : Type} [Py α] [Py β] [Py γ] [Py δ] : Nn (T4 α β γ δ) := ⟨fun {K R v a} h e => by obtain ⟨p, o, h, _⟩ := h; rw [e] at h; cases h⟩
instance instPyOpt {α : Type} [Py α] : Py (Option α) where
  rep := fun K R v o => match o with
    | none => v = .non
    | some a => Py.rep K R v a ∧ v ≠ .non
  bor := fun K R H v o => match o with
    | none => v = .non
    | some a => Py.bor K R H v a ∧ v ≠ .non
  mono := fun {K R R' v a} e h => match a, h with
    | none, h => h
    | some a, h => ⟨Py.mono e h.1, h.2⟩
  bmono := fun {K R R' H H' v a} e e2 h => match a, h with
    | none, h => h
    | some a, h => ⟨Py.bmono e e2 h.1, h.2⟩
  lend := fun {K R H v a} e h => match a, h with
    | none, h => h
    | some a, h => ⟨Py.lend e h.1, h.2⟩
section
variable {α : Type} [Py α] {X : Cx} {R0 H0 : Hp} {Γ : List Slot} {e : Expr} {pos p2 : Pos} {j : Nat} {m : Option α} {mo : Option (Option α)} {o : Option α}
theorem je_noneo : JE X R0 H0 Γ (.Constant .none j pos) (some (none : Option α)) := .mk fun σ R H S a ea Q q => by
  cases ea
  exact PE_to pe_non (q _ R H (.refl S.i) rfl)
end
end FK

/-! text times a number -/
namespace FK
open PySem PySem.Spec PyProof.Rows L2
def sMul (x : Str) (n : Int) : Option Str := if x.length ≤ 4000 ∧ n ≤ 4000 ∧ -(2 ^ 63 : Int) ≤ n then some (Txt.mul x n) else none
section
variable {X : Cx} {R0 H0 : Hp} {Γ : List Slot} {a b : Expr} {pos : Pos}
end
end FK
namespace FK
open PySem PySem.Spec PyProof.Rows L2
theorem str_ext {a b : Str} (h : a.cps.toList = b.cps.toList) : a = b := by
  cases a; cases b
  exact congrArg _ (Array.toList_inj.mp h)
end FK
namespace FK
open PySem PySem.Spec PyProof.Rows L2
theorem DR.strs {K : PySem.W.Frag} {R : Hp} {α : Type} [Py α] : ∀ {vs : List (L2.Key × V)} {l : List (Str × α)}, DR K R vs l → vs.map (·.1) = (l.map (·.1)).map Sum.inr
  | _, _, .nil => rfl
  | _, _, .cons (k := k) h t => congrArg (Sum.inr k :: ·) t.strs
section
variable {α : Type} [Py α] {X : Cx} {R0 H0 : Hp} {Γ : List Slot} {e a b o : Expr} {pos : Pos} {d : Dct Str α}
end
end FK

namespace FK
open PySem PySem.Spec PyProof.Rows L2
/-! ### small questions asked of keys -/
section
variable {P : Program} {w : World}
def NoCls (P : Program) (w : World) (n : Nat) (s : Shared) (v : Value) : Prop := ∀ (A : Around) (E : Value → Shared → Prop) (Q : Bool → Shared → Prop), Q false s → wpAny (model P w) A (ofAClassStatement n v) Q E s
def AnyHb (P : Program) (w : World) (n : Nat) (s : Shared) (v : Value) : Prop := ∀ (A : Around) (E : Value → Shared → Prop) (Q : Bool → Shared → Prop), (∀ b, Q b s) → wpAny (model P w) A (hashByValue n v) Q E s
theorem NoCls.flat {n : Nat} {s : Shared} {v : Value} (e : ofAClassStatement n v = pure false) : NoCls P w n s v := fun A E Q q => by
  rw [e]
  exact wpAny_pure q
theorem AnyHb.flat {n : Nat} {s : Shared} {v : Value} {b : Bool} (e : hashByValue n v = pure b) : AnyHb P w n s v := fun A E Q q => by
  rw [e]
  exact wpAny_pure (q b)
theorem NoCls.tup {n m : Nat} {s : Shared} {d : Addr} {o : Obj} {xs : Array Value} (g : s.heap.get? d = some o) (gc : o.cls = .type "tuple") (gd : o.data = .seq xs m) (all : ∀ v ∈ xs.toList, NoCls P w n s v) : NoCls P w (n + 1) s (.ref d) := fun A E Q q => by
  have ty : s.TypeIs (.ref d) "tuple" := ⟨o, g, gc⟩
  unfold ofAClassStatement
  refine wpAny_bind (wpAny_typeOf ty ?_)
  dsimp only
  have e1 : (("tuple" : String) == "tuple") = true := rfl
  simp only [e1, if_true, Bool.not_true, Bool.false_eq_true, if_false]
  first | (refine wpAny_bind (wpAny_pure ?_); simp only [Bool.not_true, Bool.false_eq_true, if_false]) | skip
  refine wpAny_bind (m := seqItems? (.ref d)) (wpAny_seqItems g gd ?_)
  dsimp only
  refine wpAny_bind (m := forIn xs _ _) ?_
  rw [← Array.forIn_toList]
  refine wpAny_forIn_list _ (fun r b z => b.1 = none ∧ z = s ∧ ∀ v ∈ r, NoCls P w n s v) _ (fun v r b z ⟨h1, h2, h3⟩ => ?_) (fun b z ⟨h1, h2, _⟩ => ?_) _ _ ⟨rfl, rfl, all⟩
  · subst h2
    refine wpAny_bind (h3 v List.mem_cons_self _ _ _ ?_)
    simp only [Bool.false_eq_true, if_false]
    exact wpAny_pure ⟨rfl, rfl, fun u hu => h3 u (List.mem_cons_of_mem _ hu)⟩
  · obtain ⟨b1, b2⟩ := b
    simp only at h1
    subst h1 h2
    exact wpAny_pure q
theorem AnyHb.tup {n m : Nat} {s : Shared} {d : Addr} {o : Obj} {xs : Array Value} (g : s.heap.get? d = some o) (gc : o.cls = .type "tuple") (gd : o.data = .seq xs m) (all : ∀ v ∈ xs.toList, AnyHb P w n s v) : AnyHb P w (n + 1) s (.ref d) := fun A E Q q => by
  have ty : s.TypeIs (.ref d) "tuple" := ⟨o, g, gc⟩
  unfold hashByValue
  refine wpAny_bind (wpAny_specialOf ty F.slot_tuple_hash.lookup ?_)
  refine wpAny_bind (m := seqItems? (.ref d)) (wpAny_seqItems g gd ?_)
  refine wpAny_bind (m := forIn xs _ _) ?_
  rw [← Array.forIn_toList]
  refine wpAny_forIn_list _ (fun r b z => b.1 = none ∧ z = s ∧ ∀ v ∈ r, AnyHb P w n s v) _ (fun v r b z ⟨h1, h2, h3⟩ => ?_) (fun b z ⟨h1, h2, _⟩ => ?_) _ _ ⟨rfl, rfl, all⟩
  · subst h2
    refine wpAny_bind (h3 v List.mem_cons_self _ _ _ fun b0 => ?_)
    cases b0 with
    | true =>
      simp only [Bool.not_true, Bool.false_eq_true, if_false]
      exact wpAny_pure ⟨rfl, rfl, fun u hu => h3 u (List.mem_cons_of_mem _ hu)⟩
    | false =>
      simp only [Bool.not_false, if_true]
      exact wpAny_pure (wpAny_pure (q false))
  · obtain ⟨b1, b2⟩ := b
    simp only at h1
    subst h1 h2
    exact wpAny_pure (q true)
theorem oac_int (n : Nat) (i : Int) (t : Tok) : ofAClassStatement n (.int i t) = pure false := by cases n <;> rfl
theorem oac_str (n : Nat) (i : Str) (t : Tok) : ofAClassStatement n (.str i t) = pure false := by cases n <;> rfl
theorem oac_bool (n : Nat) (b : Bool) : ofAClassStatement n (.bool b) = pure false := by cases n <;> rfl
theorem oac_none (n : Nat) : ofAClassStatement n .none = pure false := by cases n <;> rfl
theorem hbv_int (n : Nat) (i : Int) (t : Tok) : hashByValue n (.int i t) = pure true := by cases n <;> rfl
theorem hbv_str (n : Nat) (i : Str) (t : Tok) : hashByValue n (.str i t) = pure false := by cases n <;> rfl
theorem hbv_bool (n : Nat) (b : Bool) : hashByValue n (.bool b) = pure true := by cases n <;> rfl
theorem hbv_none (n : Nat) : hashByValue n .none = pure true := by cases n <;> rfl
mutual
theorem nocls_key : ∀ (k : NestedKey) (v : Value) (n : Nat) (s : Shared), NestedIs s.heap k v → k.depth ≤ n → NoCls P w n s v
  | .none, _, n, s, x, _ => by cases x; exact .flat (oac_none n)
  | .num i, _, n, s, x, _ => by
    cases x with
    | bool e => exact .flat (oac_bool n _)
    | int _ t => exact .flat (oac_int n i t)
  | .text y, _, n, s, x, _ => by cases x; exact .flat (oac_str n y _)
  | .tup ks, _, n, s, x, hn => by
    cases x with
    | tup h1 h2 h3 h4 =>
      simp only [NestedKey.depth] at hn
      cases n with
      | zero => omega
      | succ n => exact .tup h1 h2 h3 (nocls_keys ks _ n s h4 (by omega))
theorem nocls_keys : ∀ (ks : List NestedKey) (vs : List Value) (n : Nat) (s : Shared), NestedAll s.heap ks vs → NestedKey.depthAll ks ≤ n → ∀ v ∈ vs, NoCls P w n s v
  | [], _, n, s, x, _, v, hv => by cases x; cases hv
  | k :: ks, _, n, s, x, hn, v, hv => by
    cases x with
    | cons x1 x2 =>
      simp only [NestedKey.depthAll] at hn
      rcases List.mem_cons.mp hv with e | z
      · rw [e]
        exact nocls_key k _ n s x1 (by omega)
      · exact nocls_keys ks _ n s x2 (by omega) v z
end
mutual
theorem anyhb_key : ∀ (k : NestedKey) (v : Value) (n : Nat) (s : Shared), NestedIs s.heap k v → k.depth ≤ n → AnyHb P w n s v
  | .none, _, n, s, x, _ => by cases x; exact .flat (hbv_none n)
  | .num i, _, n, s, x, _ => by
    cases x with
    | bool e => exact .flat (hbv_bool n _)
    | int _ t => exact .flat (hbv_int n i t)
  | .text y, _, n, s, x, _ => by cases x; exact .flat (hbv_str n y _)
  | .tup ks, _, n, s, x, hn => by
    cases x with
    | tup h1 h2 h3 h4 =>
      simp only [NestedKey.depth] at hn
      cases n with
      | zero => omega
      | succ n => exact .tup h1 h2 h3 (anyhb_keys ks _ n s h4 (by omega))
theorem anyhb_keys : ∀ (ks : List NestedKey) (vs : List Value) (n : Nat) (s : Shared), NestedAll s.heap ks vs → NestedKey.depthAll ks ≤ n → ∀ v ∈ vs, AnyHb P w n s v
  | [], _, n, s, x, _, v, hv => by cases x; cases hv
  | k :: ks, _, n, s, x, hn, v, hv => by
    cases x with
    | cons x1 x2 =>
      simp only [NestedKey.depthAll] at hn
      rcases List.mem_cons.mp hv with e | z
      · rw [e]
        exact anyhb_key k _ n s x1 (by omega)
      · exact anyhb_keys ks _ n s x2 (by omega) v z
end
end
end FK

namespace FK
open PySem PySem.Spec PyProof.Rows L2
/-- the object at d is the key k -/
abbrev KeyAt (h : Heap) (k : NestedKey) (d : Addr) : Prop := NestedIs h k (.ref d) ∧ k.depth ≤ 8
theorem KeyAt.keep {h g : Heap} {k : NestedKey} {d : Addr} (x : KeyAt h k d) (e : ∀ b o, h.get? b = some o → g.get? b = some o) : KeyAt g k d :=
  ⟨NestedIs.at (fun b o _ _ hb _ => e b o hb) k _ x.1, x.2⟩
/-- .. while a set is changed -/
theorem KeyAt.but {h g : Heap} {k : NestedKey} {d c : Addr} {o : Obj} {xs : Array (Int × Value)} {n : Nat} {tb : SetTable} (x : KeyAt h k d) (ho : h.get? c = some o) (hd : o.data = .set xs n tb) (sb : Heap.SameBut c h g) : KeyAt g k d :=
  ⟨NestedIs.at (fun b u vs m hb hu => by
    refine (sb.2 b fun e => ?_).trans hb
    rw [e, ho] at hb
    cases hb
    rw [hd] at hu
    cases hu) k _ x.1, x.2⟩
section
variable {P : Program} {w : World}
/-- a set of keys at c -/
structure SetN (P : Program) (w : World) (h : Heap) (c : Addr) (M : List (Addr × NestedKey)) (xs : Array (Int × Value)) (n : Nat) (tb : SetTable) : Prop where
  obj : ∃ o, h.get? c = some o ∧ o.ExactSet ∧ o.data = .set xs n tb
  row : xs.toList = M.map fun p => (p.2.hash w, Value.ref p.1)
  tab : TabOk tb (M.map fun p => p.2.hash w)
  nd : (M.map (·.2)).Nodup
  key : ∀ p ∈ M, KeyAt h p.2 p.1
  led : w.params.followText "set-order" = true ∨ tb.led = true
  room : M.length * 5 < tb.mask * 3
variable {A : Around} {E : Value → Shared → Prop} {s : Shared} {c : Addr} {M : List (Addr × NestedKey)} {xs : Array (Int × Value)} {n : Nat} {tb : SetTable}
theorem sn_len {M : List (Addr × NestedKey)} {xs : Array (Int × Value)} (e : xs.toList = M.map fun p => (p.2.hash w, Value.ref p.1)) : xs.size = M.length := by
  have z : xs.toList.length = (M.map fun p => (p.2.hash w, Value.ref p.1)).length := congrArg _ e
  simpa using z
theorem SetN.fit (T : SetN P w s.heap c M xs n tb) : tb.fits xs.size = true := by
  have a1 : tb.place.size = M.length := by simpa using T.tab.sz
  have a2 := sn_len T.row
  have a3 := T.room
  have a4 : tb.dummies.size = 0 := by rw [T.tab.dm]; rfl
  simp only [SetTable.fits, SetTable.fill, Bool.and_eq_true, beq_iff_eq, decide_eq_true_eq]
  refine ⟨a1.trans a2.symm, decide_eq_true ?_⟩
  show tb.place.size + tb.dummies.size ≤ tb.mask
  rw [a4, a1]
  omega
abbrev wy (tb : SetTable) (h : Int) (i : Nat) : Nat := way tb.mask h i
abbrev p0 (tb : SetTable) (h : Int) : SetTable.Probe := runAt tb.mask (SetTable.bits h % (tb.mask + 1)) (SetTable.bits h)
end
end FK

namespace FK
open PySem PySem.Spec PyProof.Rows L2
section
variable {P : Program} {w : World} {A : Around} {E : Value → Shared → Prop} {s : Shared} {c : Addr} {M : List (Addr × NestedKey)} {xs : Array (Int × Value)} {n : Nat} {tb : SetTable}
abbrev rw0 (w : World) (p : Addr × NestedKey) : Int × Value := (p.2.hash w, Value.ref p.1)
end
end FK

namespace FK
open PySem PySem.Spec PyProof.Rows L2
theorem nodup_le {α : Type} [DecidableEq α] : ∀ (l r : List α), l.Nodup → (∀ x ∈ l, x ∈ r) → l.length ≤ r.length
  | [], _, _, _ => Nat.zero_le _
  | x :: l, r, nd, sub => by
    obtain ⟨a1, a2⟩ := List.nodup_cons.mp nd
    have hx : x ∈ r := sub x List.mem_cons_self
    have ih := nodup_le l (r.erase x) a2 fun y hy => (List.mem_erase_of_ne (fun e : y = x => a1 (by rw [← e]; exact hy))).2 (sub y (List.mem_cons_of_mem _ hy))
    have e := List.length_erase_of_mem hx
    have p := List.length_pos_of_mem hx
    simp only [List.length_cons]
    omega
/-- M has what the first i of ks have -/
structure Had (ks : List (Addr × NestedKey)) (i : Nat) (M : List (Addr × NestedKey)) : Prop where
  sub : ∀ p ∈ M, p ∈ ks.take i
  all : ∀ p ∈ ks.take i, p.2 ∈ M.map (·.2)
theorem Had.zero (ks : List (Addr × NestedKey)) : Had ks 0 [] := ⟨fun _ z => (by cases z), fun _ z => (by simp at z)⟩
theorem take_one {α : Type} {l : List α} {i : Nat} {x : α} (e : l[i]? = some x) : l.take (i + 1) = l.take i ++ [x] := by
  rw [List.take_succ, e]
  rfl
theorem Had.old {ks M : List (Addr × NestedKey)} {i : Nat} {x : Addr × NestedKey} (g : Had ks i M) (e : ks[i]? = some x) (hm : x.2 ∈ M.map (·.2)) : Had ks (i + 1) M := by
  constructor
  · intro p hp
    rw [take_one e]
    exact List.mem_append.mpr (.inl (g.sub p hp))
  · intro p hp
    rw [take_one e] at hp
    rcases List.mem_append.mp hp with z | z
    · exact g.all p z
    · cases List.mem_singleton.mp z
      exact hm
theorem Had.new {ks M N : List (Addr × NestedKey)} {i : Nat} {x : Addr × NestedKey} (g : Had ks i M) (e : ks[i]? = some x) (pm : N.Perm (x :: M)) : Had ks (i + 1) N := by
  constructor
  · intro p hp
    rw [take_one e]
    rcases List.mem_cons.mp (pm.mem_iff.mp hp) with z | z
    · exact List.mem_append.mpr (.inr (List.mem_singleton.mpr z))
    · exact List.mem_append.mpr (.inl (g.sub p z))
  · intro p hp
    rw [(pm.map (·.2)).mem_iff, List.map_cons]
    rw [take_one e] at hp
    rcases List.mem_append.mp hp with z | z
    · exact List.mem_cons.mpr (.inr (g.all p z))
    · cases List.mem_singleton.mp z
      exact List.mem_cons_self
section
variable {P : Program} {w : World} {A : Around} {E : Value → Shared → Prop} {s : Shared}
abbrev emptySet (w : World) : Obj := { cls := .type "set", dict := none, data := .set #[] 0 (.fresh 0 0 (!w.params.followText "set-order")) }
theorem SetN.keep {h g : Heap} {c : Addr} {M : List (Addr × NestedKey)} {xs : Array (Int × Value)} {n : Nat} {tb : SetTable} (T : SetN P w h c M xs n tb) (e : ∀ o, h.get? c = some o → g.get? c = some o) (k : ∀ p ∈ M, KeyAt g p.2 p.1) : SetN P w g c M xs n tb := by
  obtain ⟨o, a1, a2⟩ := T.obj
  exact ⟨⟨o, e o a1, a2⟩, T.row, T.tab, T.nd, k, T.led, T.room⟩
/-- at most 76 unlike ones -/
def Few (ks : List (Addr × NestedKey)) : Prop := ∀ l : List NestedKey, l.Nodup → (∀ k ∈ l, k ∈ ks.map (·.2)) → l.length ≤ 76
end
end FK

namespace FK
open PySem PySem.Spec PyProof.Rows L2 PySem.W
/-! ### the order of data is one -/
class Lo (α : Type) [DecidableEq α] [DatumOrd α] : Prop where
  irr : ∀ a : α, DatumOrd.lt a a = false
  tr : ∀ {a b c : α}, DatumOrd.lt a b = true → DatumOrd.lt b c = true → DatumOrd.lt a c = true
  tri : ∀ {a b : α}, DatumOrd.lt a b = false → DatumOrd.lt b a = false → a = b
theorem Lo.asym {α : Type} [DecidableEq α] [DatumOrd α] [Lo α] {a b : α} (h : DatumOrd.lt a b = true) : DatumOrd.lt b a = false := by
  cases e : DatumOrd.lt b a with
  | false => rfl
  | true =>
    have z := Lo.tr h e
    rw [Lo.irr] at z
    cases z
instance instLoInt : Lo Int where
  irr a := by
    show decide (a < a) = false
    exact decide_eq_false (Int.lt_irrefl a)
  tr {a b c} h1 h2 := by
    have h1 : a < b := of_decide_eq_true h1
    have h2 : b < c := of_decide_eq_true h2
    exact decide_eq_true (Int.lt_trans h1 h2)
  tri {a b} h1 h2 := by
    have h1 : ¬ a < b := of_decide_eq_false h1
    have h2 : ¬ b < a := of_decide_eq_false h2
    omega
instance instLoStr : Lo Str where
  irr a := by
    show decide (a.cps.toList < a.cps.toList) = false
    exact decide_eq_false (List.lt_irrefl _)
  tr {a b c} h1 h2 := by
    have h1 : a.cps.toList < b.cps.toList := of_decide_eq_true h1
    have h2 : b.cps.toList < c.cps.toList := of_decide_eq_true h2
    exact decide_eq_true (List.lt_trans h1 h2)
  tri {a b} h1 h2 := by
    have h1 : ¬ a.cps.toList < b.cps.toList := of_decide_eq_false h1
    have h2 : ¬ b.cps.toList < a.cps.toList := of_decide_eq_false h2
    exact str_ext (List.le_antisymm (List.not_lt.mp h2) (List.not_lt.mp h1))
section
variable {α β γ δ : Type} [DecidableEq α] [DatumOrd α] [Lo α] [DecidableEq β] [DatumOrd β] [Lo β] [DecidableEq γ] [DatumOrd γ] [Lo γ] [DecidableEq δ] [DatumOrd δ] [Lo δ]
theorem lt2 (a b : α × β) : DatumOrd.lt a b = if a.1 = b.1 then DatumOrd.lt a.2 b.2 else DatumOrd.lt a.1 b.1 := rfl
instance instLo2 : Lo (α × β) where
  irr a := by rw [lt2, if_pos rfl, Lo.irr]
  tr {a b c} h1 h2 := by
    rw [lt2] at h1 h2 ⊢
    by_cases e1 : a.1 = b.1
    · rw [if_pos e1] at h1
      by_cases e2 : b.1 = c.1
      · rw [if_pos e2] at h2
        rw [if_pos (e1.trans e2)]
        exact Lo.tr h1 h2
      · rw [if_neg e2] at h2
        rw [if_neg (by rw [e1]; exact e2), e1]
        exact h2
    · rw [if_neg e1] at h1
      by_cases e2 : b.1 = c.1
      · rw [if_neg (by rw [← e2]; exact e1), ← e2]
        exact h1
      · rw [if_neg e2] at h2
        have h3 := Lo.tr h1 h2
        by_cases e3 : a.1 = c.1
        · rw [e3, Lo.irr] at h3
          cases h3
        · rw [if_neg e3]
          exact h3
  tri {a b} h1 h2 := by
    rw [lt2] at h1 h2
    by_cases e : a.1 = b.1
    · rw [if_pos e] at h1
      rw [if_pos e.symm] at h2
      exact Prod.ext e (Lo.tri h1 h2)
    · rw [if_neg e] at h1
      rw [if_neg (fun z => e z.symm)] at h2
      exact absurd (Lo.tri h1 h2) e
def t3p (x : T3 α β γ) : α × (β × γ) := (x.a, x.b, x.c)
theorem t3p_inj {x y : T3 α β γ} (h : t3p x = t3p y) : x = y := by
  cases x; cases y
  cases h
  rfl
theorem lt3_2 (a b : T3 α β γ) : DatumOrd.lt a b = DatumOrd.lt (t3p a) (t3p b) := rfl
instance instLo3 : Lo (T3 α β γ) where
  irr a := by rw [lt3_2, Lo.irr]
  tr {a b c} h1 h2 := by
    rw [lt3_2] at h1 h2 ⊢
    exact Lo.tr h1 h2
  tri {a b} h1 h2 := by
    rw [lt3_2] at h1 h2
    exact t3p_inj (Lo.tri h1 h2)
def t4p (x : T4 α β γ δ) : α × (β × (γ × δ)) := (x.a, x.b, x.c, x.d)
theorem t4p_inj {x y : T4 α β γ δ} (h : t4p x = t4p y) : x = y := by
  cases x; cases y
  cases h
  rfl
theorem lt4_2 (a b : T4 α β γ δ) : DatumOrd.lt a b = DatumOrd.lt (t4p a) (t4p b) := rfl
instance instLo4 : Lo (T4 α β γ δ) where
  irr a := by rw [lt4_2, Lo.irr]
  tr {a b c} h1 h2 := by
    rw [lt4_2] at h1 h2 ⊢
    exact Lo.tr h1 h2
  tri {a b} h1 h2 := by
    rw [lt4_2] at h1 h2
    exact t4p_inj (Lo.tri h1 h2)
theorem listLt_irr : ∀ l : List α, listLt l l = false
  | [] => rfl
  | x :: l => by
    rw [listLt, if_pos rfl]
    exact listLt_irr l
theorem listLt_tr : ∀ {a b c : List α}, listLt a b = true → listLt b c = true → listLt a c = true
  | [], [], _, h, _ => by cases h
  | [], _ :: _, [], _, h => by cases h
  | [], _ :: _, _ :: _, _, _ => rfl
  | _ :: _, [], _, h, _ => by cases h
  | _ :: _, _ :: _, [], _, h => by cases h
  | x :: a, y :: b, z :: c, h1, h2 => by
    rw [listLt] at h1 h2 ⊢
    by_cases e1 : x = y
    · rw [if_pos e1] at h1
      by_cases e2 : y = z
      · rw [if_pos e2] at h2
        rw [if_pos (e1.trans e2)]
        exact listLt_tr h1 h2
      · rw [if_neg e2] at h2
        rw [if_neg (by rw [e1]; exact e2), e1]
        exact h2
    · rw [if_neg e1] at h1
      by_cases e2 : y = z
      · rw [if_neg (by rw [← e2]; exact e1), ← e2]
        exact h1
      · rw [if_neg e2] at h2
        have h3 := Lo.tr h1 h2
        by_cases e3 : x = z
        · rw [e3, Lo.irr] at h3
          cases h3
        · rw [if_neg e3]
          exact h3
theorem listLt_tri : ∀ {a b : List α}, listLt a b = false → listLt b a = false → a = b
  | [], [], _, _ => rfl
  | [], _ :: _, h, _ => by cases h
  | _ :: _, [], _, h => by cases h
  | x :: a, y :: b, h1, h2 => by
    rw [listLt] at h1 h2
    by_cases e : x = y
    · rw [if_pos e] at h1
      rw [if_pos e.symm] at h2
      rw [e, listLt_tri h1 h2]
    · rw [if_neg e] at h1
      rw [if_neg (fun z => e z.symm)] at h2
      exact absurd (Lo.tri h1 h2) e
instance instLoList : Lo (List α) where
  irr := listLt_irr
  tr := listLt_tr
  tri := listLt_tri
/-! ### sorted lists -/
/-- ascending, equal ones side by side -/
abbrev Asc (l : List α) : Prop := l.Pairwise fun a b => DatumOrd.lt b a = false
/-- ascending, all unlike -/
abbrev Rising (l : List α) : Prop := l.Pairwise fun a b => DatumOrd.lt a b = true
theorem asc_uniq : ∀ {l r : List α}, l.Perm r → Asc l → Asc r → l = r
  | [], r, p, _, _ => by rw [List.nil_perm.mp p]
  | x :: l, [], p, _, _ => absurd p.length_eq (by simp)
  | x :: l, y :: r, p, h1, h2 => by
    obtain ⟨a1, a2⟩ := List.pairwise_cons.mp h1
    obtain ⟨b1, b2⟩ := List.pairwise_cons.mp h2
    have e : x = y := by
      have hx : x ∈ y :: r := p.mem_iff.mp List.mem_cons_self
      have hy : y ∈ x :: l := p.mem_iff.mpr List.mem_cons_self
      rcases List.mem_cons.mp hx with z | z
      · exact z
      · rcases List.mem_cons.mp hy with z2 | z2
        · exact z2.symm
        · exact Lo.tri (b1 x z) (a1 y z2)
    subst e
    rw [asc_uniq (List.Perm.cons_inv p) a2 b2]
theorem Rising.asc {l : List α} (h : Rising l) : Asc l := h.imp fun z => Lo.asym z
theorem Rising.nodup {l : List α} (h : Rising l) : l.Nodup := h.imp fun {a b} z e => by
  rw [e, Lo.irr] at z
  cases z
theorem rising_ext {l r : List α} (h1 : Rising l) (h2 : Rising r) (e : ∀ x, x ∈ l ↔ x ∈ r) : l = r :=
  asc_uniq ((List.perm_ext_iff_of_nodup h1.nodup h2.nodup).mpr e) h1.asc h2.asc
end
/-! ### each once -/
section
variable {α : Type} [DecidableEq α]
def dd : List α → List α
  | [] => []
  | x :: l => if x ∈ l then dd l else x :: dd l
theorem nodup_sub : ∀ (l r : List α), l.Nodup → (∀ x ∈ l, x ∈ r) → l.length ≤ r.length
  | [], _, _, _ => Nat.zero_le _
  | x :: l, r, nd, sub => by
    obtain ⟨a1, a2⟩ := List.nodup_cons.mp nd
    have hx : x ∈ r := sub x List.mem_cons_self
    have ih := nodup_sub l (r.erase x) a2 fun y hy => (List.mem_erase_of_ne (fun e : y = x => a1 (by rw [← e]; exact hy))).2 (sub y (List.mem_cons_of_mem _ hy))
    have e := List.length_erase_of_mem hx
    have p := List.length_pos_of_mem hx
    simp only [List.length_cons]
    omega
end
/-- sorted(set(xs)) -/
def tdy {α : Type} [DecidableEq α] [DatumOrd α] (l : List α) : Option (List α) := if (dd l).length ≤ 76 then some (srt (dd l)) else none
end FK

namespace FK
open PySem PySem.Spec PyProof.Rows L2
/-! ### keys out of values -/
class Nk (α : Type) [Py α] [DecidableEq α] where
  nk : α → NestedKey
  dp : Nat
  inj : ∀ {a b : α}, nk a = nk b → a = b
  dep : ∀ a : α, (nk a).depth ≤ dp
  at_ : ∀ {X : Cx} {pins : List (Addr × Obj)} {σ : L2.St} {H : Hp} {s : Shared}, Inv X pins σ H s → ∀ {v : V} {u : Value} {a : α}, RelV v u → rep X.K H v a → NestedIs s.heap (nk a) u
class NkR (α : Type) [Py α] : Prop where
  isr : ∀ {K : PySem.W.Frag} {R : Hp} {v : V} {a : α}, rep K R v a → ∃ p, v = .ref p
instance instNkInt : Nk Int where
  nk a := .num a
  dp := 0
  inj e := by cases e; rfl
  dep a := Nat.le_refl _
  at_ {X pins σ H s} _ {v u a} r h := by
    cases (show v = V.int a from h)
    obtain ⟨t, rfl⟩ := r
    exact .int a t
instance instNkStr : Nk Str where
  nk a := .text a
  dp := 0
  inj e := by cases e; rfl
  dep a := Nat.le_refl _
  at_ {X pins σ H s} _ {v u a} r h := by
    cases (show v = V.str a from h)
    obtain ⟨t, rfl⟩ := r
    exact .text a t
section
variable {α β γ : Type} [Py α] [DecidableEq α] [Nk α] [Dq α] [Py β] [DecidableEq β] [Nk β] [Dq β] [Py γ] [DecidableEq γ] [Nk γ] [Dq γ]
instance instNk2 : Nk (α × β) where
  nk a := .tup [Nk.nk a.1, Nk.nk a.2]
  dp := max (Nk.dp α) (Nk.dp β) + 1
  inj {a b} e := by
    injection e with e
    injection e with e1 e
    injection e with e2 _
    exact Prod.ext (Nk.inj e1) (Nk.inj e2)
  dep a := by
    have h1 := Nk.dep a.1
    have h2 := Nk.dep a.2
    simp only [NestedKey.depth, NestedKey.depthAll]
    omega
  at_ {X pins σ H s} I {v u a} r h := by
    obtain ⟨p, x0, x1, z0, z1, rfl, rfl, ⟨o, g, gc, n, gd⟩, r0, r1, q0, q1⟩ := tup2_rd I r h
    exact .tup g gc gd (.cons (Nk.at_ I r0 q0) (.cons (Nk.at_ I r1 q1) .nil))
instance instNk3 : Nk (T3 α β γ) where
  nk a := .tup [Nk.nk a.a, Nk.nk a.b, Nk.nk a.c]
  dp := max (Nk.dp α) (max (Nk.dp β) (Nk.dp γ)) + 1
  inj {a b} e := by
    injection e with e
    injection e with e1 e
    injection e with e2 e
    injection e with e3 _
    obtain ⟨a1, a2, a3⟩ := a
    obtain ⟨b1, b2, b3⟩ := b
    cases (Nk.inj e1 : a1 = b1)
    cases (Nk.inj e2 : a2 = b2)
    cases (Nk.inj e3 : a3 = b3)
    rfl
  dep a := by
    have h1 := Nk.dep a.a
    have h2 := Nk.dep a.b
    have h3 := Nk.dep a.c
    simp only [NestedKey.depth, NestedKey.depthAll]
    omega
  at_ {X pins σ H s} I {v u a} r h := by
    obtain ⟨p, x0, x1, x2, z0, z1, z2, rfl, rfl, ⟨o, g, gc, n, gd⟩, r0, r1, r2, q0, q1, q2⟩ := tup3_rd I r h
    exact .tup g gc gd (.cons (Nk.at_ I r0 q0) (.cons (Nk.at_ I r1 q1) (.cons (Nk.at_ I r2 q2) .nil)))
instance instNkR2 : NkR (α × β) := ⟨fun h => let ⟨p, _, e, _⟩ := h; ⟨p, e⟩⟩
instance instNkR3 : NkR (T3 α β γ) := ⟨fun h => let ⟨p, _, e, _⟩ := h; ⟨p, e⟩⟩
end
/-! ### lists side by side -/
open PySem.W (EachIs)
mutual
theorem reads_there {h : Heap} : ∀ (d : PyData) (v : Value) (l : List Addr), PySem.W.alike d d = true → Reads h v d l → ∀ x ∈ l, ∃ o, h.get? x = some o
  | .none, _, _, _, r, _, hx => by cases r; cases hx
  | .bool _, _, _, _, r, _, hx => by cases r; cases hx
  | .int _, _, _, _, r, _, hx => by cases r; cases hx
  | .str _, _, _, _, r, _, hx => by cases r; cases hx
  | .list xs, _, _, al, r, x, hx => by
    cases r with
    | list h1 h2 h3 h4 =>
      rcases List.mem_cons.mp hx with z | z
      · exact ⟨_, by rw [z]; exact h1⟩
      · exact reads_all_there xs _ _ (by simpa [PySem.W.alike] using al) h4 x z
  | .tuple xs, _, _, al, r, x, hx => by
    cases r with
    | tuple h1 h2 h3 h4 => exact reads_all_there xs _ _ (by simpa [PySem.W.alike] using al) h4 x hx
  | .dict _, _, _, al, _, _, _ => absurd al (by simp [PySem.W.alike])
theorem reads_all_there {h : Heap} : ∀ (ds : List PyData) (vs : List Value) (l : List Addr), PySem.W.alikeAll ds ds = true → ReadsAll h vs ds l → ∀ x ∈ l, ∃ o, h.get? x = some o
  | [], _, _, _, r, _, hx => by cases r; cases hx
  | d :: ds, _, _, al, r, x, hx => by
    cases r with
    | cons h1 h2 =>
      rcases List.mem_append.mp hx with z | z
      · exact reads_there d _ _ (PySem.W.alike_all_cons al).1 h1 x z
      · exact reads_all_there ds _ _ (PySem.W.alike_all_cons al).2 h2 x z
end
section
variable {P : Program} {w : World} {A : Around} {E : Value → Shared → Prop} {s : Shared} {c : Addr} {M : List (Addr × NestedKey)} {xs : Array (Int × Value)} {n : Nat} {tb : SetTable}
end
section
variable {X : Cx} {R0 H0 : Hp} {Γ : List Slot} {a : Expr} {pos : Pos} {α : Type} [Py α] [DecidableEq α] [PySem.W.DatumOrd α] [Dh α] [Dso α] [Lo α] [Nk α] [NkR α]
end
end FK

namespace FK
open PySem PySem.Spec PyProof.Rows L2
section
variable {X : Cx} {R0 H0 : Hp} {Γ : List Slot} {a b e : Expr} {pos : Pos}
section
variable {α : Type} [Py α] [DecidableEq α] [PySem.W.DatumOrd α] [Dh α] [Dso α] [Lo α] [Nk α] [NkR α]
end
section
variable {α : Type} [Py α] [DecidableEq α] [PySem.W.DatumOrd α] [Dh α] [Dq α]
/-- a < b, as Python orders data -/
abbrev dLt (x y : α) : Bool := PySem.W.DatumOrd.lt x y
variable {ma mb : Option α} {x y : α}
end
/-! ### list(t), a tuple of like things -/
section
variable {α : Type} [Py α]
theorem AllR.two {K : PySem.W.Frag} {R : Hp} {v w : V} {x y : α} (h1 : rep K R v x) (h2 : rep K R w y) : AllR K R [v, w] [x, y] := .cons h1 (.cons h2 .nil)
theorem AllR.three {K : PySem.W.Frag} {R : Hp} {v w u : V} {x y z : α} (h1 : rep K R v x) (h2 : rep K R w y) (h3 : rep K R u z) : AllR K R [v, w, u] [x, y, z] := .cons h1 (.cons h2 (.cons h3 .nil))

end
/-! ### arguments handed over frozen -/
structure Fz (α : Type) where
  val : α
instance instPyFz {α : Type} [Py α] : Py (Fz α) where
  rep := fun K R v a => rep K R v a.val
  bor := fun K R _ v a => rep K R v a.val
  mono := fun e h => Py.mono e h
  bmono := fun e _ h => Py.mono e h
  lend := fun _ h => h
end
end FK

/-! dicts of one's own, the keys tuples of ints and texts; d.get -/
namespace FK
open PySem PySem.Spec PyProof.Rows L2
class Kt (κ : Type) [Py κ] [DecidableEq κ] where
  kt : κ → List L2.Key
  inj : ∀ {a b : κ}, kt a = kt b → a = b
  bv : ∀ {K : PySem.W.Frag} {R : Hp} {v : V} {a : κ}, rep K R v a → ∃ b, v = .ref b ∧ R b = some (.tup ((kt a).map kV))
  vr : ∀ {K : PySem.W.Frag} {R : Hp} {b : Addr} {a : κ}, R b = some (.tup ((kt a).map kV)) → rep K R (.ref b) a
  br : ∀ {K : PySem.W.Frag} {R H : Hp} {v : V} {a : κ}, bor K R H v a → rep K R v a
section
variable {α β γ : Type} [Py α] [DecidableEq α] [Kq α] [Py β] [DecidableEq β] [Kq β] [Py γ] [DecidableEq γ] [Kq γ]
theorem kq_rep {K : PySem.W.Frag} {R : Hp} {v : V} {a : α} (h : rep K R v a) : v = kV (Kq.key a) := Kq.bv (Py.lend (.refl R) h)
instance instKt2 : Kt (α × β) where
  kt a := [Kq.key a.1, Kq.key a.2]
  inj {a b} e := by
    injection e with e1 e
    injection e with e2 _
    exact Prod.ext (Kq.inj e1) (Kq.inj e2)
  bv {K R v a} h := by
    obtain ⟨p, vs, rfl, hp, x, y, rfl, h1, h2⟩ := h
    rw [kq_rep h1, kq_rep h2] at hp
    exact ⟨p, rfl, hp⟩
  vr {K R b a} h := ⟨b, _, rfl, h, _, _, rfl, Kq.vr a.1, Kq.vr a.2⟩
  br h := h
instance instKt3 : Kt (T3 α β γ) where
  kt a := [Kq.key a.a, Kq.key a.b, Kq.key a.c]
  inj {a b} e := by
    injection e with e1 e
    injection e with e2 e
    injection e with e3 _
    obtain ⟨a1, a2, a3⟩ := a
    obtain ⟨b1, b2, b3⟩ := b
    cases (Kq.inj e1 : a1 = b1)
    cases (Kq.inj e2 : a2 = b2)
    cases (Kq.inj e3 : a3 = b3)
    rfl
  bv {K R v a} h := by
    obtain ⟨p, vs, rfl, hp, x, y, z, rfl, h1, h2, h3⟩ := h
    rw [kq_rep h1, kq_rep h2, kq_rep h3] at hp
    exact ⟨p, rfl, hp⟩
  vr {K R b a} h := ⟨b, _, rfl, h, _, _, _, rfl, Kq.vr a.a, Kq.vr a.b, Kq.vr a.c⟩
  br h := h
end
section
variable {κ α : Type} [Py κ] [DecidableEq κ] [Kt κ] [Py α]
inductive DT (K : PySem.W.Frag) (R : Hp) : List ((List L2.Key) × V) → List (κ × α) → Prop
  | nil : DT K R [] []
  | cons {k : κ} {v : V} {a : α} {vs : List ((List L2.Key) × V)} {l : List (κ × α)} : rep K R v a → DT K R vs l → DT K R ((Kt.kt k, v) :: vs) ((k, a) :: l)
theorem DT.mono {K : PySem.W.Frag} {R R' : Hp} (e : Ex R R') : ∀ {vs : List ((List L2.Key) × V)} {l : List (κ × α)}, DT K R vs l → DT K R' vs l
  | _, _, .nil => .nil
  | _, _, .cons h t => .cons (Py.mono e h) (t.mono e)
theorem DT.len {K : PySem.W.Frag} {R : Hp} : ∀ {vs : List ((List L2.Key) × V)} {l : List (κ × α)}, DT K R vs l → vs.length = l.length
  | _, _, .nil => rfl
  | _, _, .cons _ t => congrArg (· + 1) t.len
instance instObDcT : Ob (Dct κ α) where
  nt := fun ⟨_, h, _⟩ => by rw [h]; rfl
  ho := fun K R o d => ∃ kvs, o = .dT kvs ∧ DT K R kvs d.l
  mono := fun e ⟨kvs, h, q⟩ => ⟨kvs, h, q.mono e⟩

theorem kt_dec (a b : κ) : decide (Kt.kt a = Kt.kt b) = decide (a = b) := by
  by_cases h : a = b
  · rw [decide_eq_true h, decide_eq_true (by rw [h])]
  · rw [decide_eq_false h, decide_eq_false fun z => h (Kt.inj z)]
theorem DT.get {K : PySem.W.Frag} {R : Hp} (k : κ) : ∀ {vs : List ((List L2.Key) × V)} {l : List (κ × α)}, DT K R vs l → (dGet l k = none ∧ valV vs (Kt.kt k) = none) ∨ ∃ a v, dGet l k = some a ∧ valV vs (Kt.kt k) = some v ∧ rep K R v a
  | _, _, .nil => .inl ⟨rfl, rfl⟩
  | _, _, .cons (k := k') (v := v) (a := a) (vs := vs) (l := l) h t => by
    by_cases e : k' = k
    · subst e
      refine .inr ⟨a, v, ?_, ?_, h⟩
      · unfold dGet
        rw [List.find?_cons, decide_eq_true rfl]
        rfl
      · exact valV_pos rfl
    · have e2 : ¬ Kt.kt k' = Kt.kt k := fun z => e (Kt.inj z)
      have g1 : dGet ((k', a) :: l) k = dGet l k := by
        unfold dGet
        rw [List.find?_cons, decide_eq_false e]
      rw [g1, valV_neg (p := (Kt.kt k', v)) e2]
      exact t.get k
theorem DT.any {K : PySem.W.Frag} {R : Hp} (k : κ) : ∀ {vs : List ((List L2.Key) × V)} {l : List (κ × α)}, DT K R vs l → (vs.any fun p => decide (p.1 = Kt.kt k)) = l.any fun p => decide (p.1 = k)
  | _, _, .nil => rfl
  | _, _, .cons (k := k') h t => by
    rw [List.any_cons, List.any_cons, t.any k]
    show (decide (Kt.kt k' = Kt.kt k) || _) = _
    rw [kt_dec]
theorem DT.repl {K : PySem.W.Frag} {R : Hp} (k : κ) {v : V} {a : α} (r : rep K R v a) : ∀ {vs : List ((List L2.Key) × V)} {l : List (κ × α)}, DT K R vs l → DT K R (vs.map fun p => if p.1 = Kt.kt k then (p.1, v) else p) (l.map fun p => if p.1 = k then (p.1, a) else p)
  | _, _, .nil => .nil
  | _, _, .cons (k := k') h t => by
    rw [List.map_cons, List.map_cons]
    by_cases e : k' = k
    · rw [if_pos (show Kt.kt k' = Kt.kt k by rw [e]), if_pos e]
      exact .cons r (t.repl k r)
    · rw [if_neg (show ¬ Kt.kt k' = Kt.kt k from fun z => e (Kt.inj z)), if_neg e]
      exact .cons h (t.repl k r)
theorem DT.snoc {K : PySem.W.Frag} {R : Hp} (k : κ) {v : V} {a : α} (r : rep K R v a) : ∀ {vs : List ((List L2.Key) × V)} {l : List (κ × α)}, DT K R vs l → DT K R (vs ++ [(Kt.kt k, v)]) (l ++ [(k, a)])
  | _, _, .nil => .cons r .nil
  | _, _, .cons h t => .cons h (t.snoc k r)
theorem DT.put {K : PySem.W.Frag} {R : Hp} (k : κ) {v : V} {a : α} (r : rep K R v a) {vs : List ((List L2.Key) × V)} {l : List (κ × α)} (h : DT K R vs l) : DT K R (putK vs (Kt.kt k) v) (dPut l k a) := by
  unfold putK dPut
  rw [h.any k]
  split
  · exact h.repl k r
  · exact h.snoc k r

variable {X : Cx} {R0 H0 : Hp} {Γ : List Slot} {e a b o f : Expr} {pos : Pos} {mo : Option (Dct κ α)} {mk : Option κ} {d : Dct κ α} {k : κ}
open PySem.W (EachIs)
theorem DT.keys {K : PySem.W.Frag} {R R2 H : Hp} (i : Ex R H) : ∀ {kvs : List ((List L2.Key) × V)} {l : List (κ × α)} {xs : List ((List L2.Key) × Addr × Value)}, DT K R kvs l → KT H kvs xs → (∀ q ∈ xs, R2 q.2.1 = some (.tup (q.1.map kV))) → EachIs (fun (u : Value) (c : κ) => ∃ v, RelV v u ∧ rep K R2 v c) (xs.map fun q => Value.ref q.2.1) (l.map (·.1))
  | _, _, _, .nil, h, _ => by
    cases h
    exact .nil
  | _, _, _, .cons (k := k) _ t, h, f => by
    cases h with
    | cons p q =>
      have g := f _ List.mem_cons_self
      rw [← p.1] at g
      exact .cons ⟨.ref _, rfl, Kt.vr g⟩ (t.keys i q fun z hz => f z (List.mem_cons_of_mem _ hz))
section
variable [PySem.W.DatumOrd κ] [Dh κ] [Dso κ]
end
end
section
variable {κ α : Type} [Py κ] [DecidableEq κ] [Kq κ] [Py α] [Nn α] {X : Cx} {R0 H0 : Hp} {Γ : List Slot} {e a b o f : Expr} {pos apos : Pos} {mo : Option (Dct κ α)} {mk : Option κ} {mx : Option α} {d : Dct κ α} {k : κ} {x : α}
end
section
variable {κ α : Type} [Py κ] [DecidableEq κ] [Kt κ] [Py α] [Nn α] {X : Cx} {R0 H0 : Hp} {Γ : List Slot} {e a b o f : Expr} {pos apos : Pos} {mo : Option (Dct κ α)} {mk : Option κ} {mx : Option α} {d : Dct κ α} {k : κ} {x : α}
end
end FK

/-! things of one's own with lists of one's own in them -/
namespace FK
open PySem PySem.Spec PyProof.Rows L2
section
variable {K : PySem.W.Frag} {R H R' H' : Hp} {κ α : Type} [Py α]
inductive Kids (K : PySem.W.Frag) (R H : Hp) : List Addr → List (List α) → Prop
  | nil : Kids K R H [] []
  | cons {c : Addr} {vs : List V} {l : List α} {cs : List Addr} {ls : List (List α)} : H c = some (.lst vs) → AllR K R vs l → Kids K R H cs ls → Kids K R H (c :: cs) (l :: ls)
theorem Kids.mono (e : Ex R R') : ∀ {cs : List Addr} {ls : List (List α)}, (∀ c ∈ cs, ∀ u, H c = some u → H' c = some u) → Kids K R H cs ls → Kids K R' H' cs ls
  | _, _, _, .nil => .nil
  | _, _, f, .cons h1 h2 t => .cons (f _ List.mem_cons_self _ h1) (h2.mono e) (t.mono e fun c hc => f c (List.mem_cons_of_mem _ hc))
theorem Kids.len : ∀ {cs : List Addr} {ls : List (List α)}, Kids K R H cs ls → cs.length = ls.length
  | _, _, .nil => rfl
  | _, _, .cons _ _ t => congrArg (· + 1) t.len
theorem Kids.there : ∀ {cs : List Addr} {ls : List (List α)}, Kids K R H cs ls → ∀ c ∈ cs, ∃ u, H c = some u ∧ isT u = false
  | _, _, .nil, c, h => by cases h
  | _, _, .cons h1 _ t, c, h => by
    rcases List.mem_cons.mp h with e | z
    · exact ⟨_, by rw [e]; exact h1, rfl⟩
    · exact t.there c z
theorem Kids.get : ∀ {cs : List Addr} {ls : List (List α)} {j : Nat} {l : List α}, Kids K R H cs ls → ls[j]? = some l → ∃ c vs, cs[j]? = some c ∧ H c = some (.lst vs) ∧ AllR K R vs l
  | _, _, j, l, .nil, e => by simp at e
  | _, _, 0, l, .cons h1 h2 _, e => by
    cases Option.some.inj e
    exact ⟨_, _, rfl, h1, h2⟩
  | _, _, j + 1, l, .cons _ _ t, e => t.get (j := j) e
/-- one of them changed -/
theorem Kids.set : ∀ {cs : List Addr} {ls : List (List α)} {j : Nat} {c : Addr} {vs : List V} {l : List α}, Kids K R H cs ls → cs.Nodup → cs[j]? = some c → Ex R R' → (∀ z ∈ cs, z ≠ c → ∀ u, H z = some u → H' z = some u) → H' c = some (.lst vs) → AllR K R' vs l → Kids K R' H' cs (ls.set j l)
  | _, _, j, c, vs, l, .nil, _, e, _, _, _, _ => by simp at e
  | _, _, 0, c, vs, l, .cons _ _ t, nd, e, x, f, h, r => by
    cases Option.some.inj e
    obtain ⟨n1, n2⟩ := List.nodup_cons.mp nd
    exact .cons h r (t.mono x fun z hz => f z (List.mem_cons_of_mem _ hz) fun e => n1 (by rw [← e]; exact hz))
  | _, _, j + 1, c, vs, l, .cons (c := c0) h1 h2 t, nd, e, x, f, h, r => by
    obtain ⟨n1, n2⟩ := List.nodup_cons.mp nd
    have ne : c0 ≠ c := fun z => n1 (by rw [z]; exact List.mem_of_getElem? e)
    exact .cons (f _ List.mem_cons_self ne _ h1) (h2.mono x) (t.set n2 e x (fun z hz => f z (List.mem_cons_of_mem _ hz)) h r)
theorem Kids.all {H0 : Hp} : ∀ {cs : List Addr} {ls : List (List α)}, Kids K R H cs ls → (∀ c ∈ cs, ∀ u, H c = some u → R' c = some u) → Ex R R' → AllR K R' (cs.map V.ref) ls
  | _, _, .nil, _, _ => .nil
  | _, _, .cons h1 h2 t, f, e => .cons ⟨_, _, rfl, .inl (f _ List.mem_cons_self _ h1), _, rfl, h2.mono e⟩ (t.all (H0 := H0) (fun c hc => f c (List.mem_cons_of_mem _ hc)) e)
instance instOdLL : Od (List (List α)) where
  dh := fun K R H o ps a => o = .lst (ps.map V.ref) ∧ Kids K R H ps a
  mono := fun e f ⟨h, k⟩ => ⟨h, k.mono e f⟩
  there := fun ⟨_, k⟩ => k.there
  nt := fun ⟨h, _⟩ => by rw [h]; rfl
variable [Py κ] [DecidableEq κ] [Kq κ]
inductive KidsD (K : PySem.W.Frag) (R H : Hp) : List (L2.Key × V) → List Addr → List (κ × List α) → Prop
  | nil : KidsD K R H [] [] []
  | cons {k : κ} {c : Addr} {vs : List V} {l : List α} {kvs : List (L2.Key × V)} {cs : List Addr} {ls : List (κ × List α)} : H c = some (.lst vs) → AllR K R vs l → KidsD K R H kvs cs ls → KidsD K R H ((Kq.key k, .ref c) :: kvs) (c :: cs) ((k, l) :: ls)
theorem KidsD.mono (e : Ex R R') : ∀ {kvs : List (L2.Key × V)} {cs : List Addr} {ls : List (κ × List α)}, (∀ c ∈ cs, ∀ u, H c = some u → H' c = some u) → KidsD K R H kvs cs ls → KidsD K R' H' kvs cs ls
  | _, _, _, _, .nil => .nil
  | _, _, _, f, .cons h1 h2 t => .cons (f _ List.mem_cons_self _ h1) (h2.mono e) (t.mono e fun c hc => f c (List.mem_cons_of_mem _ hc))
theorem KidsD.len : ∀ {kvs : List (L2.Key × V)} {cs : List Addr} {ls : List (κ × List α)}, KidsD K R H kvs cs ls → kvs.length = ls.length
  | _, _, _, .nil => rfl
  | _, _, _, .cons _ _ t => congrArg (· + 1) t.len
theorem KidsD.there : ∀ {kvs : List (L2.Key × V)} {cs : List Addr} {ls : List (κ × List α)}, KidsD K R H kvs cs ls → ∀ c ∈ cs, ∃ u, H c = some u ∧ isT u = false
  | _, _, _, .nil, c, h => by cases h
  | _, _, _, .cons h1 _ t, c, h => by
    rcases List.mem_cons.mp h with e | z
    · exact ⟨_, by rw [e]; exact h1, rfl⟩
    · exact t.there c z
theorem KidsD.keys : ∀ {kvs : List (L2.Key × V)} {cs : List Addr} {ls : List (κ × List α)}, KidsD K R H kvs cs ls → kvs.map (·.1) = ls.map fun p => Kq.key p.1
  | _, _, _, .nil => rfl
  | _, _, _, .cons _ _ t => by rw [List.map_cons, List.map_cons, t.keys]
/-- the kids frozen: a dict of one's own -/
theorem KidsD.dr : ∀ {kvs : List (L2.Key × V)} {cs : List Addr} {ls : List (κ × List α)}, KidsD K R H kvs cs ls → (∀ c ∈ cs, ∀ u, H c = some u → R' c = some u) → Ex R R' → DR K R' kvs ls
  | _, _, _, .nil, _, _ => .nil
  | _, _, _, .cons h1 h2 t, f, e => .cons ⟨_, _, rfl, .inl (f _ List.mem_cons_self _ h1), _, rfl, h2.mono e⟩ (t.dr (fun c hc => f c (List.mem_cons_of_mem _ hc)) e)
theorem dget_cons' (k k' : κ) (a : α) (l : List (κ × α)) : dGet ((k', a) :: l) k = if k' = k then some a else dGet l k := by
  unfold dGet
  rw [List.find?_cons]
  by_cases e : k' = k
  · rw [if_pos e, decide_eq_true e]
    rfl
  · rw [if_neg e, decide_eq_false e]
theorem KidsD.none (k : κ) : ∀ {kvs : List (L2.Key × V)} {cs : List Addr} {ls : List (κ × List α)}, KidsD K R H kvs cs ls → dGet ls k = none → valV kvs (Kq.key k) = none
  | _, _, _, .nil, _ => rfl
  | _, _, _, .cons (k := k') _ _ t, e => by
    rw [dget_cons'] at e
    by_cases h : k' = k
    · rw [if_pos h] at e
      cases e
    · rw [if_neg h] at e
      rw [valV_neg (fun z => h (Kq.inj z))]
      exact t.none k e
theorem KidsD.snoc (k : κ) {c : Addr} {vs : List V} {l : List α} (h : H c = some (.lst vs)) (r : AllR K R vs l) : ∀ {kvs : List (L2.Key × V)} {cs : List Addr} {ls : List (κ × List α)}, KidsD K R H kvs cs ls → KidsD K R H (kvs ++ [(Kq.key k, .ref c)]) (cs ++ [c]) (ls ++ [(k, l)])
  | _, _, _, .nil => .cons h r .nil
  | _, _, _, .cons h1 h2 t => .cons h1 h2 (t.snoc k h r)
instance instOdDL : Od (Dct κ (List α)) where
  dh := fun K R H o ps d => (d.l.map Prod.fst).Nodup ∧ ∃ kvs, o = .dK kvs ∧ KidsD K R H kvs ps d.l
  mono := fun {K R R' H H' o ps a} e f h => by
    obtain ⟨n, kvs, h, k⟩ := h
    exact ⟨n, kvs, h, k.mono e f⟩
  there := fun {K R H o ps a} h => by
    obtain ⟨_, _, _, k⟩ := h
    exact k.there
  nt := fun {K R H o ps a} h => by
    obtain ⟨_, _, h, _⟩ := h
    rw [h]
    rfl
end
/-! ### slots that are deep -/
section
variable {K : PySem.W.Frag} {R0 H0 R H R' H' : Hp} {Γ : List Slot} {σ : L2.St} {os : List Addr}
/-- some of the heap, frozen too -/
def plus (R H : Hp) (cs : List Addr) : Hp := fun a => if a ∈ cs then H a else R a
end
/-! ### new ones -/
structure JD (X : Cx) (R0 H0 : Hp) (Γ : List Slot) (e : Expr) {α : Type} [Od α] (m : Option α) : Prop where
  run : ∀ σ R H, Sat X.K R0 H0 Γ σ R H → ∀ a, m = some a → ∀ Q : VK, (∀ p o ps R' H', Ext R H R' H' → (∀ c ∈ p :: ps, H c = none) → (p :: ps).Nodup → H' p = some o → (∀ c ∈ p :: ps, R' c = none) → Od.dh X.K R' H' o ps a → Q (.ref p) H') → eSem X e σ H Q
structure JLo (X : Cx) (R0 H0 : Hp) (Γ : List Slot) (es : List Expr) {α : Type} [Py α] (m : Option (List (List α))) : Prop where
  run : ∀ σ R H, Sat X.K R0 H0 Γ σ R H → ∀ a, m = some a → ∀ Q : List V → Hp → Prop, (∀ ps R' H', Ext R H R' H' → ps.length = es.length → (∀ c ∈ ps, H c = none) → ps.Nodup → (∀ c ∈ ps, R' c = none) → Kids X.K R' H' ps a → Q (ps.map V.ref) H') → aSem X es σ H Q
section
variable {X : Cx} {R0 H0 : Hp} {Γ : List Slot} {e a b f : Expr} {es : List Expr} {pos : Pos} {α κ : Type} [Py α] [Py κ] [DecidableEq κ] [Kq κ]
end
end FK

/-! what is deep, read and changed -/
namespace FK
open PySem PySem.Spec PyProof.Rows L2
def rExtendR : V → List V → Hp → VK → Prop := fun x vs H Q => ∃ l b xs zs, x = .ref l ∧ vs = [.ref b] ∧ H l = some (.lst xs) ∧ Rd H b (.lst zs) ∧ xs.length + zs.length ≤ sizeLine ∧ Q .non (upd H l (.lst (xs ++ zs)))
def llApp {α : Type} (x : List (List α)) (k : Int) (y : α) : Option (List (List α)) := (ixN x.length k).bind fun j => (x[j]?).bind fun l => (lApp l y).bind fun l2 => some (x.set j l2)
def llExt {α : Type} (x : List (List α)) (k : Int) (y : List α) : Option (List (List α)) := (ixN x.length k).bind fun j => (x[j]?).bind fun l => (lCat l y).bind fun l2 => some (x.set j l2)
def ddApp {κ α : Type} [DecidableEq κ] (d : Dct κ (List α)) (k : κ) (y : α) : Option (Dct κ (List α)) := (lApp ((dGet d.l k).getD []) y).bind fun l => dSet d k l
def ddExt {κ α : Type} [DecidableEq κ] (d : Dct κ (List α)) (k : κ) (y : List α) : Option (Dct κ (List α)) := (lCat ((dGet d.l k).getD []) y).bind fun l => dSet d k l
section
variable {X : Cx} {R0 H0 : Hp} {Γ : List Slot} {e a b f : Expr} {es : List Expr} {pos : Pos} {α κ : Type} [Py α] [Py κ] [DecidableEq κ] [Kq κ]
end
end FK

/-! comprehensions over a dict's values; sorted of a deep dict -/
namespace FK
open PySem PySem.Spec PyProof.Rows L2
section
variable {X : Cx} {R0 H0 : Hp} {Γ : List Slot} {e a b tg : Expr} {pos : Pos}

theorem KidsD.strs {K : PySem.W.Frag} {R H : Hp} {α : Type} [Py α] {kvs : List (L2.Key × V)} {cs : List Addr} {ls : List (Str × List α)} (h : KidsD K R H kvs cs ls) : kvs.map (·.1) = (ls.map (·.1)).map Sum.inr := by
  rw [h.keys, List.map_map]
  rfl
end
end FK

/-! what is one's own, read for a while as if handed in: its slot and those of what was handed in are pinned, so that it comes back -/
namespace FK
open PySem PySem.Spec PyProof.Rows L2
/-- a thing at a known place -/
structure Pn (α : Type) where
  v : V
  a : α
instance {α : Type} [Py α] : Py (Pn α) where
  rep K R v x := v = x.v ∧ rep K R v x.a
  bor K R H v x := v = x.v ∧ bor K R H v x.a
  mono e h := ⟨h.1, Py.mono e h.2⟩
  bmono e1 e2 h := ⟨h.1, Py.bmono e1 e2 h.2⟩
  lend e h := ⟨h.1, Py.lend e h.2⟩
/-- told by what it stands for -/
class Det (α : Type) [Py α] : Prop where
  det : ∀ {K : PySem.W.Frag} {R R' H H' : Hp} {v w : V} {a : α}, bor K R H v a → bor K R' H' w a → v = w
instance {α : Type} [Py α] : Det (Pn α) := ⟨fun h h' => h.1.trans h'.1.symm⟩
instance : Det Int := ⟨fun h h' => Eq.trans h (Eq.symm h')⟩
instance : Det Bool := ⟨fun h h' => Eq.trans h (Eq.symm h')⟩
instance : Det Str := ⟨fun h h' => Eq.trans h (Eq.symm h')⟩
def noB : Slot → Prop
  | @Slot.b _ _ _ => False
  | _ => True
/-- each slot of what was handed in is as it was -/
inductive Bk : List Slot → List Slot → Prop
  | nil : Bk [] []
  | b {Γ Γ1 : List Slot} {α : Type} [Py α] [Det α] (a : α) : Bk Γ Γ1 → Bk (.b a :: Γ) (.b a :: Γ1)
  | o {Γ Γ1 : List Slot} {s s1 : Slot} (h : noB s1 := by trivial) : Bk Γ Γ1 → Bk (s :: Γ) (s1 :: Γ1)
theorem Bk.back {K : PySem.W.Frag} {R0 H0 R1 H1 R H R' H' : Hp} : ∀ {Γ Γ1 : List Slot} {σ σ' : L2.St} {os os' : List Addr}, Bk Γ Γ1 → SlotsOk K R0 H0 R H Γ σ os → SlotsOk K R1 H1 R' H' Γ1 σ' os' → SlotsOk K R0 H0 R' H' Γ1 σ' os' := by
  intro Γ Γ1 σ σ' os os' t
  induction t generalizing σ σ' os os' with
  | nil =>
    intro h h'
    cases σ' with
    | nil => exact h'
    | cons x σ' => exact h'.elim
  | b a t ih =>
    intro h h'
    cases σ with
    | nil => exact h.elim
    | cons x σ =>
      cases σ' with
      | nil => exact h'.elim
      | cons y σ' =>
        obtain ⟨o1, o2, _, ⟨_, v, hv, r⟩, h2⟩ := h
        obtain ⟨p1, p2, e, ⟨e1, v', hv', r'⟩, h2'⟩ := h'
        subst e1
        have := Det.det r r'
        subst this
        exact ⟨[], p2, e, ⟨rfl, v, hv', r⟩, ih h2 h2'⟩
  | @o _ _ s s1 hs t ih =>
    intro h h'
    cases σ with
    | nil => exact h.elim
    | cons x σ =>
      cases σ' with
      | nil => exact h'.elim
      | cons y σ' =>
        obtain ⟨o1, o2, _, _, h2⟩ := h
        obtain ⟨p1, p2, e, h1', h2'⟩ := h'
        refine ⟨p1, p2, e, ?_, ih h2 h2'⟩
        cases s1 with
        | b a => exact hs.elim
        | any => exact h1'
        | v a => exact h1'
        | own a => exact h1'
        | deep a => exact h1'
/-- the ends of a turn, slots by slots -/
inductive ORel (P : List Slot → List Slot → Prop) : Out → Out → Prop
  | nx {Γ Γ' : List Slot} : P Γ Γ' → ORel P (.nx Γ) (.nx Γ')
  | bk {Γ Γ' : List Slot} : P Γ Γ' → ORel P (.bk Γ) (.bk Γ')
  | ct {Γ Γ' : List Slot} : P Γ Γ' → ORel P (.ct Γ) (.ct Γ')
  | rt {α : Type} [Py α] (a : α) : ORel P (.rt a) (.rt a)
  | ro {α : Type} [Ob α] (a : α) : ORel P (.ro a) (.ro a)
  | rd {α : Type} [Od α] (a : α) : ORel P (.rd a) (.rd a)
  | ex (x : Xv) : ORel P (.ex x) (.ex x)
section
variable {X : Cx} {R0 H0 : Hp} {Γ : List Slot} {e a b tg : Expr} {pos : Pos} {st : Stmt} {β : Type}
def UnPin {α : Type} [Py α] (j : Nat) (v : V) (c : α) (Γ1 Γ2 : List Slot) : Prop := Γ1[j]? = some (.b (⟨v, c⟩ : Pn α)) ∧ Γ2 = Γ1.set j (.b c)
theorem Sat.pin {K : PySem.W.Frag} {R H : Hp} {σ : L2.St} {α : Type} [Py α] {c : α} {j : Nat} (S : Sat K R0 H0 Γ σ R H) (hΓ : Γ[j]? = some (.b c)) : ∃ v, Sat K R0 H0 (Γ.set j (.b (⟨v, c⟩ : Pn α))) σ R H := by
  obtain ⟨⟨os, s, nd, fr⟩, e0⟩ := S
  obtain ⟨x, o1, oa, ob, h1, h2, ⟨e1, v, hx, hr⟩, h4⟩ := s.at hΓ
  subst hx e1
  have g := h4 R H (.b (⟨v, c⟩ : Pn α)) (some v) [] (.refl R) (fun _ _ _ q => q) ⟨rfl, v, rfl, rfl, hr⟩
  rw [set_same h1] at g
  exact ⟨v, ⟨_, g, h2 ▸ nd, h2 ▸ fr⟩, e0⟩
def UnLock {α : Type} [Py α] [Ob α] (Γ : List Slot) (i : Nat) (v : V) (c : α) (Γ1 Γ2 : List Slot) : Prop := Γ1[i]? = some (.b (⟨v, c⟩ : Pn α)) ∧ Γ2 = Γ1.set i (.own c) ∧ Bk (Γ.set i .any) (Γ1.set i .any)
/-- what is handed in and what is one's own: told by the same record -/
class Lk (α : Type) [Py α] [Ob α] : Prop where
  of : ∀ {K : PySem.W.Frag} {R H : Hp} {p : Addr} {o : HO} {a : α}, H p = some o → ho K R o a → bor K R H (.ref p) a
instance {α : Type} [Py α] : Lk (List α) := ⟨fun {K R H p o a} h q => ⟨p, o, rfl, .inl h, q⟩⟩
theorem SlotsOk.base {K : PySem.W.Frag} {R0 H0 R1 H1 R H : Hp} (e1 : Ex R0 R1) (e2 : Ex H0 H1) : ∀ {Γ : List Slot} {σ : L2.St} {os : List Addr}, SlotsOk K R0 H0 R H Γ σ os → SlotsOk K R1 H1 R H Γ σ os
  | [], [], _, h => h
  | [], _ :: _, _, h => h.elim
  | _ :: _, [], _, h => h.elim
  | s :: Γ, x :: σ, os, h => by
    obtain ⟨o1, o2, e, h1, h2⟩ := h
    refine ⟨o1, o2, e, ?_, h2.base e1 e2⟩
    cases s with
    | any => exact h1
    | v a => exact h1
    | own a => exact h1
    | deep a => exact h1
    | b a =>
      obtain ⟨z, v, hv, r⟩ := h1
      exact ⟨z, v, hv, Py.bmono e1 e2 r⟩
theorem Sat.lend {K : PySem.W.Frag} {R H : Hp} {σ : L2.St} {α : Type} [Py α] [Ob α] [Lk α] {c : α} {i : Nat} (S : Sat K R0 H0 Γ σ R H) (hΓ : Γ[i]? = some (.own c)) : ∃ p o, H0 p = none ∧ R p = none ∧ isT o = false ∧ ho K R o c ∧ Sat K R (upd H0 p o) (Γ.set i (.b (⟨.ref p, c⟩ : Pn α))) σ R H ∧
    ∀ Γ1 σ' R' H', Sat K R (upd H0 p o) Γ1 σ' R' H' → UnLock Γ i (.ref p) c Γ1 (Γ1.set i (.own c)) → Sat K R0 H0 (Γ1.set i (.own c)) σ' R' H' := by
  obtain ⟨⟨os, s, nd, fr⟩, e0⟩ := S
  obtain ⟨x, o1, oa, ob, h1, h2, ⟨p, o, e1, hx, hp, hr⟩, h4⟩ := s.at hΓ
  subst hx e1 h2
  obtain ⟨f1, f2⟩ := fr p (List.mem_append_right _ (List.mem_append_left _ (List.mem_singleton.mpr rfl)))
  have ne : ∀ z ∈ oa ++ ([] ++ ob), z ≠ p := fun z hz y => by
    subst y
    have a1 := List.nodup_append.mp nd
    rcases List.mem_append.mp hz with y | y
    · exact a1.2.2 z y z (List.mem_append_left _ (List.mem_singleton.mpr rfl)) rfl
    · exact (List.nodup_append.mp a1.2.1).2.2 z (List.mem_singleton.mpr rfl) z y rfl
  have sl : (oa ++ ([] ++ ob)).Sublist (oa ++ ([p] ++ ob)) := List.Sublist.append (List.Sublist.refl _) (List.Sublist.append (List.nil_sublist _) (List.Sublist.refl _))
  have eN : Ex H0 (upd H0 p o) := .new f2
  have eH : Ex (upd H0 p o) H := fun z u hz => by
    by_cases y : z = p
    · rw [y, upd_same] at hz
      rw [y, hp, hz]
    · rw [upd_ne y] at hz
      exact e0.h z u hz
  have tp : isT o = false := Ob.nt hr
  refine ⟨p, o, f2, f1, tp, hr, ⟨⟨oa ++ ([] ++ ob), ?_, nd.sublist sl, fun z hz => ?_⟩, ⟨.refl R, eH, e0.i, fun _ _ _ _ q => q⟩⟩, fun Γ1 σ' R' H' S' u => ?_⟩
  · have g := h4 R H .any (some (.ref p)) [] (.refl R) (fun _ _ _ q => q) rfl
    have g := g.base e0.r eN
    rw [set_same h1] at g
    have li : i < Γ.length := by
      rcases Nat.lt_or_ge i Γ.length with z | z
      · exact z
      · rw [List.getElem?_eq_none z] at hΓ
        cases hΓ
    obtain ⟨x2, o2, pa, pb, k1, k2, k3, k4⟩ := g.at (i := i) (s := .any) (by rw [List.getElem?_set, if_pos rfl, if_pos li])
    rw [h1] at k1
    cases k1
    have k3 : o2 = [] := k3
    subst k3
    have g2 := k4 R H (.b (⟨.ref p, c⟩ : Pn α)) (some (.ref p)) [] (.refl R) (fun _ _ _ q => q) ⟨rfl, .ref p, rfl, rfl, Lk.of upd_same hr⟩
    rw [set_same h1, List.set_set, ← k2] at g2
    exact g2
  · obtain ⟨a1, a2⟩ := fr z (sl.mem hz)
    exact ⟨a1, by rw [upd_ne (ne z hz)]; exact a2⟩
  · obtain ⟨u1, _, u3⟩ := u
    obtain ⟨⟨os', s', nd', fr'⟩, e'⟩ := S'
    obtain ⟨x', o1', oa', ob', g1, g2, ⟨ge, w, hx', hw, _⟩, g4⟩ := s'.at u1
    subst ge hx' g2
    have hw : w = .ref p := hw
    subst hw
    have k := g4 R' H' .any (some (.ref p)) [] (.refl R') (fun _ _ _ q => q) rfl
    rw [set_same g1] at k
    have k0 := h4 R H .any (some (.ref p)) [] (.refl R) (fun _ _ _ q => q) rfl
    rw [set_same h1] at k0
    have kb := u3.back k0 k
    have li : i < Γ1.length := by
      rcases Nat.lt_or_ge i Γ1.length with z | z
      · exact z
      · rw [List.getElem?_eq_none z] at u1
        cases u1
    obtain ⟨x2, o2, pa, pb, q1, q2, q3, q4⟩ := kb.at (i := i) (s := .any) (by rw [List.getElem?_set, if_pos rfl, if_pos li])
    have q3 : o2 = [] := q3
    subst q3
    have rp : R' p = none := e'.n p o tp upd_same f1
    have gg := q4 R' H' (.own c) (some (.ref p)) [p] (.refl R') (fun _ _ _ q => q) ⟨p, o, rfl, rfl, e'.h p o upd_same, Ob.mono e'.r hr⟩
    rw [set_same g1, List.set_set] at gg
    have np : ∀ z ∈ pa ++ ([] ++ pb), z ≠ p := fun z hz y => by
      subst y
      rw [← q2] at hz
      have := (fr' z hz).2
      rw [upd_same] at this
      cases this
    refine ⟨⟨_, gg, ?_, fun z hz => ?_⟩, ⟨e0.r.trans e'.r, eN.trans e'.h, e'.i, fun z u t hz hn => ?_⟩⟩
    · have nn : (pa ++ ([] ++ pb)).Nodup := by rw [← q2]; exact nd'
      obtain ⟨n1, n2, n3⟩ := List.nodup_append.mp nn
      refine List.nodup_append.mpr ⟨n1, List.nodup_cons.mpr ⟨fun z => np p (List.mem_append_right _ z) rfl, n2⟩, fun a ha b hb y => ?_⟩
      rcases List.mem_cons.mp hb with h | h
      · exact np a (List.mem_append_left _ ha) (y.trans h)
      · exact n3 a ha b h y
    · by_cases y : z = p
      · rw [y]
        exact ⟨rp, f2⟩
      · have hm : z ∈ oa' ++ ([] ++ ob') := by
          rw [q2]
          rcases List.mem_append.mp hz with h | h
          · exact List.mem_append_left _ h
          · rcases List.mem_cons.mp h with h | h
            · exact absurd h y
            · exact List.mem_append_right _ h
        obtain ⟨a1, a2⟩ := fr' z hm
        rw [upd_ne y] at a2
        exact ⟨a1, a2⟩
    · by_cases y : z = p
      · rw [y]
        exact rp
      · exact e'.n z u t (by rw [upd_ne y]; exact hz) (e0.n z u t hz hn)
/-! what is pinned, read -/
/-! a, b = a list -/
def lst2 {α : Type} : List α → Option (α × α)
  | [x, y] => some (x, y)
  | _ => none
def lst3 {α : Type} : List α → Option (T3 α α α)
  | [x, y, z] => some ⟨x, y, z⟩
  | _ => none
end
end FK

/-! comprehensions of new lists, each one's own -/
namespace FK
open PySem PySem.Spec PyProof.Rows L2
theorem Kids.app {K : PySem.W.Frag} {R H : Hp} {α : Type} [Py α] {c : Addr} {vs : List V} {l : List α} : ∀ {cs : List Addr} {ls : List (List α)}, Kids K R H cs ls → H c = some (.lst vs) → AllR K R vs l → Kids K R H (cs ++ [c]) (ls ++ [l])
  | _, _, .nil, h, r => .cons h r .nil
  | _, _, .cons a b t, h, r => .cons a b (t.app h r)
section
variable {X : Cx} {R0 H0 : Hp} {Γ : List Slot} {e a b tg : Expr} {pos : Pos}
end
end FK

/-! a list of two unlike things -/
namespace FK
open PySem PySem.Spec PyProof.Rows L2
open PySem.SeqAt (EqAt RcAt RcNeAt)
structure Hl (α β : Type) where
  a : α
  b : β
  deriving DecidableEq
section
variable {α β : Type} [Py α] [Py β]
instance instObHl : Ob (Hl α β) where
  ho := fun K R o h => ∃ x y, o = .lst [x, y] ∧ rep K R x h.a ∧ rep K R y h.b
  mono := fun e ⟨x, y, h, p, q⟩ => ⟨x, y, h, Py.mono e p, Py.mono e q⟩
  nt := fun ⟨x, y, h, _⟩ => by rw [h]; rfl
variable {X : Cx} {R0 H0 : Hp} {Γ : List Slot} {e a b : Expr} {pos : Pos}
variable [Dq α] [Dq β]
theorem hl2_ext (a b : (Hl α β)) : (a = b) ↔ (a.a = b.a ∧ a.b = b.b) := by
  refine ⟨fun h => by rw [h]; exact ⟨rfl, rfl⟩, fun h => ?_⟩
  obtain ⟨h0, h1⟩ := h
  cases a
  cases b
  simp only at h0 h1
  subst h0 h1
  rfl
theorem hl2_rd {X : Cx} {pins : List (Addr × Obj)} {σ : L2.St} {H : Hp} {s : Shared} (I : Inv X pins σ H s) {v : V} {u : Value} {a : (Hl α β)} (r : RelV v u) (h : rep X.K H v a) : ∃ p x0 x1 z0 z1, v = .ref p ∧ u = .ref p ∧ PlainL s.heap p [z0, z1].toArray ∧ RelV x0 z0 ∧ RelV x1 z1 ∧ rep X.K H x0 a.a ∧ rep X.K H x1 a.b := by
  obtain ⟨p, o, rfl, hp, x0, x1, rfl, q0, q1⟩ := h
  cases r
  obtain ⟨us, t, l, _⟩ := I.list (.inl hp)
  cases t with
  | cons r0 t0 =>
  cases t0 with
  | cons r1 t1 =>
  cases t1
  exact ⟨p, _, _, _, _, rfl, rfl, l, r0, r1, q0, q1⟩
theorem hl2_rc {X : Cx} {pins : List (Addr × Obj)} {σ : L2.St} {H : Hp} {s : Shared} (I : Inv X pins σ H s) {A : Around} {v w : V} {u u' : Value} {a b : (Hl α β)} (hu : A.units + (Dq.dep α + Dq.dep β + 1) < cLine) (r1 : RelV v u) (r2 : RelV w u') (h1 : rep X.K H v a) (h2 : rep X.K H w b) : RcAt A s u u' (dec (a = b)) ∧ RcNeAt A s u u' (!dec (a = b)) := by
  obtain ⟨pm, x0m, x1m, z0m, z1m, rfl, rfl, lm, r0m, r1m, q0m, q1m⟩ := hl2_rd I r1 h1
  obtain ⟨pn, x0n, x1n, z0n, z1n, rfl, rfl, ln, r0n, r1n, q0n, q1n⟩ := hl2_rd I r2 h2
  have hu0 : A.units < cLine := by omega
  have he : ∀ j (h1 : j < [z0m, z1m].toArray.size) (h2 : j < [z0n, z1n].toArray.size), EqAt A.in1 s [z0m, z1m].toArray[j] [z0n, z1n].toArray[j] ((fun j => match j with | 0 => dec (a.a = b.a) | _ => dec (a.b = b.b) : Nat → Bool) j) := fun j h1 h2 => by
    match j, h1, h2 with
    | 0, _, _ => exact Dq.eq I (A := A.in1) (show A.units + 1 + Dq.dep α < cLine by omega) r0m r0n q0m q0n
    | 1, _, _ => exact Dq.eq I (A := A.in1) (show A.units + 1 + Dq.dep β < cLine by omega) r1m r1n q1m q1n
    | j + 2, h1, _ => exact absurd h1 (by simp)
  have e1 := RcAt.lists lm.isList ln.isList rfl hu0 he
  have e2 := RcNeAt.lists lm.isList ln.isList rfl hu0 he
  have e : ((List.range [z0m, z1m].toArray.size).all (fun j => match j with | 0 => dec (a.a = b.a) | _ => dec (a.b = b.b) : Nat → Bool)) = dec (a = b) := by
    rw [dec_iff (hl2_ext a b)]
    rw [dec_and]
    show (dec (a.a = b.a) && (dec (a.b = b.b) && true)) = _
    simp only [Bool.and_true]
  rw [e] at e1 e2
  exact ⟨e1, e2⟩
instance instDqHl : Dq (Hl α β) where
  dep := Dq.dep α + Dq.dep β + 1
  rp := fun e ⟨p, o, h, r, q⟩ => ⟨p, o, h, r, Ob.mono e q⟩
  uq := fun {X pins σ H s} I {v w u a b} r1 r2 h1 h2 => by
    obtain ⟨pm, x0m, x1m, z0m, z1m, rfl, rfl, lm, r0m, r1m, q0m, q1m⟩ := hl2_rd I r1 h1
    obtain ⟨pn, x0n, x1n, z0n, z1n, e0, e1, ln, r0n, r1n, q0n, q1n⟩ := hl2_rd I r2 h2
    cases e1
    have e := islist_uq lm ln
    injection e with e0 et
    injection et with e1 et
    subst e0 e1
    exact (hl2_ext a b).mpr ⟨Dq.uq I r0m r0n q0m q0n, Dq.uq I r1m r1n q1m q1n⟩
  eq := fun {X pins σ H s} I {A v w u u' a b} hu r1 r2 h1 h2 => by
    have k := hl2_rc I hu r1 r2 h1 h2
    obtain ⟨pm, x0m, x1m, z0m, z1m, rfl, rfl, lm, r0m, r1m, q0m, q1m⟩ := hl2_rd I r1 h1
    obtain ⟨pn, x0n, x1n, z0n, z1n, rfl, rfl, ln, r0n, r1n, q0n, q1n⟩ := hl2_rd I r2 h2
    by_cases e : pm = pn
    · subst e
      have e := islist_uq lm ln
      injection e with e0 et
      injection et with e1 et
      subst e0 e1
      rw [dec_t ((hl2_ext a b).mpr ⟨Dq.uq I r0m r0n q0m q0n, Dq.uq I r1m r1n q1m q1n⟩)]
      exact SeqAt.EqAt.same _
    · exact SeqAt.EqAt.of_refs e k.1
instance instDcHl : Dc (Hl α β) := ⟨fun {X pins σ H s} I {A v w u u' a b} hu r1 r2 h1 h2 => hl2_rc I hu r1 r2 h1 h2⟩
end
end FK

/-! deep things given back; deep things read for a while; dicts walked by their values -/
namespace FK
open PySem PySem.Spec PyProof.Rows L2
def spD {γ β : Type} [Ar γ] [Od β] (K : PySem.W.Frag) (m : γ → Option β) : Sp := fun vs H Q _ => ∃ R g b, Ex R H ∧ Ar.ok K R H vs g ∧ m g = some b ∧
  ∀ p o ps R' H', Ext R H R' H' → (∀ c ∈ p :: ps, H c = none) → (p :: ps).Nodup → H' p = some o → (∀ c ∈ p :: ps, R' c = none) → Od.dh K R' H' o ps b → Q (.ref p) H'
section
variable {X : Cx} {R0 H0 : Hp} {Γ : List Slot} {e : Expr} {es : List Expr} {rest : List Stmt} {pos p : Pos} {γ β : Type} [Ar γ]
end
section
variable {P : Program} {w : World} {K : PySem.W.Frag} {mg : Str → Option Value} {base : Heap} {x qual : Str} {st : Stmt} {f : Addr} {fd : FuncData} {N ps : List Str} {k : Nat} {γ β : Type} [Ar γ]
end
/-! ### frozen for the time of a test -/
def less (R : Hp) (cs : List Addr) : Hp := fun a => if a ∈ cs then none else R a
class Rl (β : Type) [Py β] : Prop where
  ind : ∀ {K : PySem.W.Frag} {R R' : Hp} {v : V} {b : β}, rep K R v b → rep K R' v b
instance : Rl Int := ⟨fun h => h⟩
instance : Rl Bool := ⟨fun h => h⟩
instance : Rl Str := ⟨fun h => h⟩
section
variable {X : Cx} {R0 H0 : Hp} {Γ : List Slot} {e : Expr} {pos : Pos} {α : Type} [Py α]
end
/-! ### a dict that is only read from now on -/
structure Kd (κ α : Type) where
  l : List (κ × α)
section
variable {κ α : Type} [Py κ] [DecidableEq κ] [Kq κ] [Py α]
instance instPyKd : Py (Kd κ α) where
  rep := fun K R v a => ∃ p od kvs, v = .ref p ∧ R p = some (.frz od (.dK kvs)) ∧ DR K R kvs a.l
  bor := fun K R H v a => ∃ p od kvs, v = .ref p ∧ H p = some (.frz od (.dK kvs)) ∧ DR K R kvs a.l
  mono := fun e ⟨p, od, kvs, h, r, q⟩ => ⟨p, od, kvs, h, e _ _ r, q.mono e⟩
  bmono := fun e e2 ⟨p, od, kvs, h, r, q⟩ => ⟨p, od, kvs, h, e2 _ _ r, q.mono e⟩
  lend := fun e ⟨p, od, kvs, h, r, q⟩ => ⟨p, od, kvs, h, e _ _ r, q⟩
theorem Sat.kd {K : PySem.W.Frag} {R0 H0 R H : Hp} {Γ : List Slot} {σ : L2.St} {i : Nat} {d : Dct κ α} (S : Sat K R0 H0 Γ σ R H) (hi : Γ[i]? = some (.own d)) : ∃ p kvs, H p = some (.dK kvs) ∧ ∀ od, Ex R (upd R p (.frz od (.dK kvs))) ∧ Sat K R0 H0 (Γ.set i (.v (⟨d.l⟩ : Kd κ α))) σ (upd R p (.frz od (.dK kvs))) (upd H p (.frz od (.dK kvs))) := by
  obtain ⟨⟨os, s, nd, fr⟩, e0⟩ := S
  obtain ⟨x, o1, oa, ob, h1, h2, ⟨p, o, e1, hx, hp, kvs, ho, hr⟩, h4⟩ := s.at hi
  subst hx e1 h2 ho
  have hm : p ∈ oa ++ ([p] ++ ob) := List.mem_append_right _ (List.mem_append_left _ (List.mem_singleton.mpr rfl))
  obtain ⟨f1, f2⟩ := fr p hm
  refine ⟨p, kvs, hp, fun od => ?_⟩
  have er : Ex R (upd R p (.frz od (.dK kvs))) := .new f1
  have hne : ∀ z ∈ oa ++ ob, z ≠ p := fun z hz hzp => by
    subst hzp
    have hc := List.nodup_append.mp nd
    rcases List.mem_append.mp hz with hz | hz
    · exact hc.2.2 z hz z (List.mem_append_left _ (List.mem_singleton.mpr rfl)) rfl
    · exact (List.nodup_append.mp hc.2.1).2.2 z (List.mem_singleton.mpr rfl) z hz rfl
  have sub : (oa ++ ([] ++ ob)).Sublist (oa ++ ([p] ++ ob)) := List.Sublist.append (List.Sublist.refl _) (List.Sublist.append (List.nil_sublist _) (List.Sublist.refl _))
  refine ⟨er, ⟨oa ++ ([] ++ ob), ?_, nd.sublist sub, fun z hz => ?_⟩, ?_⟩
  · have g := h4 (upd R p (.frz od (.dK kvs))) (upd H p (.frz od (.dK kvs))) (.v (⟨d.l⟩ : Kd κ α)) (some (.ref p)) [] er (fun z hz u hu => by rw [upd_ne (hne z hz)]; exact hu) ⟨rfl, .ref p, rfl, p, od, kvs, rfl, upd_same, hr.mono er⟩
    rw [set_same h1] at g
    exact g
  · obtain ⟨g1, g2⟩ := fr z (sub.mem hz)
    exact ⟨by rw [upd_ne (hne z hz)]; exact g1, g2⟩
  · refine ⟨e0.r.trans er, e0.h.mut f2, e0.i.up, fun z u t hz hn => ?_⟩
    rw [upd_ne (ne_of_none hz f2)]
    exact e0.n z u t hz hn
variable {X : Cx} {R0 H0 : Hp} {Γ : List Slot} {e tg : Expr} {st : List Stmt} {pos : Pos} {β : Type} {m : Option β} {out : β → Out}
theorem DR.at {K : PySem.W.Frag} {R : Hp} : ∀ {kvs : List (L2.Key × V)} {l : List (κ × α)} {i : Nat} {a : α}, DR K R kvs l → (l.map (·.2))[i]? = some a → ∃ k v, kvs[i]? = some (k, v) ∧ rep K R v a
  | _, _, i, a, .nil, h => by simp at h
  | _, _, 0, a, .cons h t, e => by
    cases Option.some.inj e
    exact ⟨_, _, rfl, h⟩
  | _, _, i + 1, a, .cons h t, e => t.at (i := i) e
end
/-! ### comprehensions of new lists, given back -/
section
variable {X : Cx} {R0 H0 : Hp} {Γ : List Slot} {e tg : Expr} {pos : Pos}
end
end FK

/-! what is deep, changed: each kid of a list of lists; a new kid -/
namespace FK
open PySem PySem.Spec PyProof.Rows L2
def kCur {α : Type} (g : List α → List α) (xs : List (List α)) (k : Nat) : List (List α) := (xs.take k).map g ++ xs.drop k
section
variable {X : Cx} {R0 H0 : Hp} {Γ : List Slot} {e a b tg : Expr} {pos : Pos} {α : Type} [Py α]
def kApp (xs : List (List α)) (a : α) : Option (List (List α)) := if (xs.all fun l => decide (l.length < 16000000)) = true then some (xs.map (· ++ [a])) else none
end
end FK

/-! sorted(d), d a dict that may be read -/
namespace FK
open PySem PySem.Spec PyProof.Rows L2
section
variable {α : Type} [Py α] {X : Cx} {R0 H0 : Hp} {Γ : List Slot} {e a b o : Expr} {pos : Pos}
def dSrt (d : Dct Str α) : Option (List Str) := if d.l.length < 64 then some (srt (d.l.map (·.1))) else none
end
end FK

/-! what may raise: values, calls, defs, statements -/
namespace FK
open PySem PySem.Spec PyProof.Rows L2
inductive Rs (α : Type) where
  | ok (a : α)
  | ex (x : Xv)
def Rs.fl {α ρ : Type} : Rs α → Fl α (Rs ρ)
  | .ok a => .nx a
  | .ex x => .rt (.ex x)
def outR {α : Type} [Py α] : Rs α → Out
  | .ok a => .rt a
  | .ex x => .ex x
def outRO {α : Type} [Ob α] : Rs α → Out
  | .ok a => .ro a
  | .ex x => .ex x
def outRD {α : Type} [Od α] : Rs α → Out
  | .ok a => .rd a
  | .ex x => .ex x
section
variable {α : Type}
theorem outRO_nx [Ob α] : ∀ (v : Rs α) Γ, outRO v ≠ .nx Γ := fun v Γ h => by cases v <;> cases h
theorem outRO_bk [Ob α] : ∀ (v : Rs α) Γ, outRO v ≠ .bk Γ := fun v Γ h => by cases v <;> cases h
theorem outRO_ct [Ob α] : ∀ (v : Rs α) Γ, outRO v ≠ .ct Γ := fun v Γ h => by cases v <;> cases h
theorem outRO_et [Ob α] : ∀ (v : Rs α) Γ x, outRO v ≠ .et Γ x := fun v Γ x h => by cases v <;> cases h
end
/-- an expression that may raise: a value | a new thing | a deep thing -/
structure JX (X : Cx) (R0 H0 : Hp) (Γ : List Slot) (e : Expr) {α : Type} [Py α] (m : Option (Rs α)) : Prop where
  run : ∀ σ R H, Sat X.K R0 H0 Γ σ R H → ∀ r, m = some r → ∀ (Q : VK) (W : WX), Takes X W → (∀ a, r = .ok a → ∀ v R' H', Ext R H R' H' → rep X.K R' v a → Q v H') →
    (∀ x, r = .ex x → ∀ cls d R' H', Ext R H R' H' → XOk X.K R' cls d x → W cls d σ H') → eSem X e σ H Q
structure JXO (X : Cx) (R0 H0 : Hp) (Γ : List Slot) (e : Expr) {α : Type} [Ob α] (m : Option (Rs α)) : Prop where
  run : ∀ σ R H, Sat X.K R0 H0 Γ σ R H → ∀ r, m = some r → ∀ (Q : VK) (W : WX), Takes X W → (∀ a, r = .ok a → ∀ p o R' H', Ext R H R' H' → H p = none → H' p = some o → R' p = none → ho X.K R' o a → Q (.ref p) H') →
    (∀ x, r = .ex x → ∀ cls d R' H', Ext R H R' H' → XOk X.K R' cls d x → W cls d σ H') → eSem X e σ H Q
structure JXD (X : Cx) (R0 H0 : Hp) (Γ : List Slot) (e : Expr) {α : Type} [Od α] (m : Option (Rs α)) : Prop where
  run : ∀ σ R H, Sat X.K R0 H0 Γ σ R H → ∀ r, m = some r → ∀ (Q : VK) (W : WX), Takes X W → (∀ a, r = .ok a → ∀ p o ps R' H', Ext R H R' H' → (∀ c ∈ p :: ps, H c = none) → (p :: ps).Nodup → H' p = some o → (∀ c ∈ p :: ps, R' c = none) → Od.dh X.K R' H' o ps a → Q (.ref p) H') →
    (∀ x, r = .ex x → ∀ cls d R' H', Ext R H R' H' → XOk X.K R' cls d x → W cls d σ H') → eSem X e σ H Q
def spX {γ β : Type} [Ar γ] [Py β] (K : PySem.W.Frag) (m : γ → Option (Rs β)) : Sp := fun vs H Q E => ∃ R g r, Ex R H ∧ Ar.ok K R H vs g ∧ m g = some r ∧ (∀ a, r = .ok a → ∀ v R' H', Ext R H R' H' → rep K R' v a → Q v H') ∧
  ∀ x, r = .ex x → ∀ cls d R' H', Ext R H R' H' → XOk K R' cls d x → E cls d H'
def spXO {γ β : Type} [Ar γ] [Ob β] (K : PySem.W.Frag) (m : γ → Option (Rs β)) : Sp := fun vs H Q E => ∃ R g r, Ex R H ∧ Ar.ok K R H vs g ∧ m g = some r ∧ (∀ a, r = .ok a → ∀ p o R' H', Ext R H R' H' → H p = none → H' p = some o → R' p = none → ho K R' o a → Q (.ref p) H') ∧
  ∀ x, r = .ex x → ∀ cls d R' H', Ext R H R' H' → XOk K R' cls d x → E cls d H'
def spXD {γ β : Type} [Ar γ] [Od β] (K : PySem.W.Frag) (m : γ → Option (Rs β)) : Sp := fun vs H Q E => ∃ R g r, Ex R H ∧ Ar.ok K R H vs g ∧ m g = some r ∧ (∀ a, r = .ok a → ∀ p o ps R' H', Ext R H R' H' → (∀ c ∈ p :: ps, H c = none) → (p :: ps).Nodup → H' p = some o → (∀ c ∈ p :: ps, R' c = none) → Od.dh K R' H' o ps a → Q (.ref p) H') ∧
  ∀ x, r = .ex x → ∀ cls d R' H', Ext R H R' H' → XOk K R' cls d x → E cls d H'
section
variable {P : Program} {w : World} {K : PySem.W.Frag} {mg : Str → Option Value} {base : Heap} {x qual : Str} {st : Stmt} {f : Addr} {fd : FuncData} {N ps : List Str} {k : Nat} {γ β : Type} [Ar γ]
abbrev bodyC (P : Program) (w : World) (K : PySem.W.Frag) (mg : Str → Option Value) (base : Heap) (N : List Str) (qual : Str) (st : Stmt) (f : Addr) (cdv : Value) (A : Around) (outer : List Env) (s : Shared) (H : Hp) (E : XK) : Cx := cxOf (L2.CX P w) P w K mg base N qual (defScope st) f cdv A outer s H E
theorem takes_body {cdv : Value} {A : Around} {outer : List Env} {s : Shared} {H : Hp} {E : XK} : Takes (bodyC P w K mg base N qual st f cdv A outer s H E) (fun cls d _ H => E cls d H) := takes_of (E := E) rfl rfl rfl rfl
theorem passes_body {cdv : Value} {A : Around} {outer : List Env} {s : Shared} {H : Hp} {E : XK} : PassesOwn (model (bodyC P w K mg base N qual st f cdv A outer s H E).prog (bodyC P w K mg base N qual st f cdv A outer s H E).w) (bodyC P w K mg base N qual st f cdv A outer s H E).A (bodyC P w K mg base N qual st f cdv A outer s H E).env (bodyC P w K mg base N qual st f cdv A outer s H E).xe := passes_of (X := bodyC P w K mg base N qual st f cdv A outer s H E) rfl
theorem fn_x [Py β] {m : γ → Option (Rs β)} (F : Fun K x qual st f fd) (S : FnScope N ps (defScope st)) (hl : ∀ R H vs (g : γ), Ar.ok K R H vs g → vs.length = ps.length)
    (hb : ∀ (cdv : Value) (A : Around) (outer : List Env) (s : Shared) (H R : Hp) (E : XK) (g : γ), Room k (A.deeper (envOfC qual (defScope st) s.heap.objs.size f cdv)) →
      JN (bodyC P w K mg base N qual st f cdv A outer s H E) R H (Ar.slots g ++ List.replicate (N.length - ps.length) .any) (defBody st) (m g) outR) : FnOk P w K mg base (L2.CX P w) (k + 1) f fd ps (spX K m) := by
  refine F.okX S (fun vs H Q E h => ?_) (fun cdv A outer s H vs Q E hr h => ?_)
  · obtain ⟨R, g, b, i, h, _⟩ := h
    exact hl R H vs g h
  · obtain ⟨R, g, r, i, h, e, q1, q2⟩ := h
    refine ⟨_, sS, hb cdv A outer s H R E g hr _ R H (sat_start i h (hl R H vs g h)) r e { nx := fun _ H' => Q .non H', rt := Q } (fun _ H' => Q .non H') ?_⟩
    cases r with
    | ok a => exact fun v R' H' x r => q1 a rfl v R' H' x r
    | ex xv => exact takes_body.imp fun cls d σ H' ⟨R', e, h⟩ => q2 xv rfl cls d R' H' e h
theorem fn_xo [Ob β] {m : γ → Option (Rs β)} (F : Fun K x qual st f fd) (S : FnScope N ps (defScope st)) (hl : ∀ R H vs (g : γ), Ar.ok K R H vs g → vs.length = ps.length)
    (hb : ∀ (cdv : Value) (A : Around) (outer : List Env) (s : Shared) (H R : Hp) (E : XK) (g : γ), Room k (A.deeper (envOfC qual (defScope st) s.heap.objs.size f cdv)) →
      JN (bodyC P w K mg base N qual st f cdv A outer s H E) R H (Ar.slots g ++ List.replicate (N.length - ps.length) .any) (defBody st) (m g) outRO) : FnOk P w K mg base (L2.CX P w) (k + 1) f fd ps (spXO K m) := by
  refine F.okX S (fun vs H Q E h => ?_) (fun cdv A outer s H vs Q E hr h => ?_)
  · obtain ⟨R, g, b, i, h, _⟩ := h
    exact hl R H vs g h
  · obtain ⟨R, g, r, i, h, e, q1, q2⟩ := h
    refine ⟨_, sS, hb cdv A outer s H R E g hr _ R H (sat_start i h (hl R H vs g h)) r e { nx := fun _ H' => Q .non H', rt := Q } (fun _ H' => Q .non H') ?_⟩
    cases r with
    | ok a => exact fun p o R' H' x np hp hr r => q1 a rfl p o R' H' x np hp hr r
    | ex xv => exact takes_body.imp fun cls d σ H' ⟨R', e, h⟩ => q2 xv rfl cls d R' H' e h
end
section
variable {X : Cx} {R0 H0 : Hp} {Γ : List Slot} {e a b : Expr} {es : List Expr} {rest : List Stmt} {pos p : Pos} {γ β : Type} [Ar γ]
theorem takes_no : Takes X (fun _ _ _ _ => False) := fun _ _ ⟨_, _, _, _, _, _, _, _, _, _, _, _, _, _, _, _, w⟩ => w.elim
theorem jx_call [Py β] {k : Nat} {x : Str} {ps : List Str} {m : γ → Option (Rs β)} {ma : Option γ} (C : Cal X.prog X.w X.K X.mg X.base (L2.CX X.prog X.w) k x ps (spX X.K m)) (hr : Room k X.A) (ha : JA X R0 H0 Γ (e :: es) ma) (hg : Gl X x := by rfl)
    (hdb : (x == ("__debug__" : Str)) = false := by decide) (he : starEach (e :: es) X.env = (false, eval e X.env) :: starEach es X.env := by rfl) (hpl : (backTo pos (starEach es X.env)).any (·.1) = false := by rfl) :
    JX X R0 H0 Γ (.Call (.Name x p) (e :: es) [] pos) (ma.bind m) := .mk fun σ R H S r er Q W tk q1 q2 => by
  obtain ⟨g, eg, er⟩ := bind_some' er
  obtain ⟨f, fd, h1, h2, h3, h4⟩ := C
  exact PE_to (pe_callS h4 hr hg h1 h2 h3 (fun σ => passAt tk σ) aS hdb he hpl) (ha σ R H S g eg _ fun vs R1 H1 x1 r1 => ⟨R1, g, r, x1.i, r1, er, fun a ea v R2 H2 x2 r2 => q1 a ea v R2 H2 (x1.trans x2) r2, fun x ex cls d R2 H2 x2 h => q2 x ex cls d R2 H2 (x1.trans x2) h⟩)
theorem jx_call_t [Py β] {k : Nat} {x : Str} {ps : List Str} {m : γ → Option (Rs β)} {g : γ} (C : Cal X.prog X.w X.K X.mg X.base (L2.CX X.prog X.w) k x ps (spX X.K m)) (hr : Room k X.A) (ha : JA X R0 H0 Γ (e :: es) (some g)) (hg : Gl X x := by rfl)
    (hdb : (x == ("__debug__" : Str)) = false := by decide) (he : starEach (e :: es) X.env = (false, eval e X.env) :: starEach es X.env := by rfl) (hpl : (backTo pos (starEach es X.env)).any (·.1) = false := by rfl) :
    JX X R0 H0 Γ (.Call (.Name x p) (e :: es) [] pos) (m g) := jx_call C hr ha hg hdb he hpl
theorem jxo_call [Ob β] {k : Nat} {x : Str} {ps : List Str} {m : γ → Option (Rs β)} {ma : Option γ} (C : Cal X.prog X.w X.K X.mg X.base (L2.CX X.prog X.w) k x ps (spXO X.K m)) (hr : Room k X.A) (ha : JA X R0 H0 Γ (e :: es) ma) (hg : Gl X x := by rfl)
    (hdb : (x == ("__debug__" : Str)) = false := by decide) (he : starEach (e :: es) X.env = (false, eval e X.env) :: starEach es X.env := by rfl) (hpl : (backTo pos (starEach es X.env)).any (·.1) = false := by rfl) :
    JXO X R0 H0 Γ (.Call (.Name x p) (e :: es) [] pos) (ma.bind m) := .mk fun σ R H S r er Q W tk q1 q2 => by
  obtain ⟨g, eg, er⟩ := bind_some' er
  obtain ⟨f, fd, h1, h2, h3, h4⟩ := C
  exact PE_to (pe_callS h4 hr hg h1 h2 h3 (fun σ => passAt tk σ) aS hdb he hpl) (ha σ R H S g eg _ fun vs R1 H1 x1 r1 => ⟨R1, g, r, x1.i, r1, er, fun a ea p o R2 H2 x2 np hp hr r2 => q1 a ea p o R2 H2 (x1.trans x2) (x1.h.none np) hp hr r2, fun x ex cls d R2 H2 x2 h => q2 x ex cls d R2 H2 (x1.trans x2) h⟩)
theorem jxo_call_t [Ob β] {k : Nat} {x : Str} {ps : List Str} {m : γ → Option (Rs β)} {g : γ} (C : Cal X.prog X.w X.K X.mg X.base (L2.CX X.prog X.w) k x ps (spXO X.K m)) (hr : Room k X.A) (ha : JA X R0 H0 Γ (e :: es) (some g)) (hg : Gl X x := by rfl)
    (hdb : (x == ("__debug__" : Str)) = false := by decide) (he : starEach (e :: es) X.env = (false, eval e X.env) :: starEach es X.env := by rfl) (hpl : (backTo pos (starEach es X.env)).any (·.1) = false := by rfl) :
    JXO X R0 H0 Γ (.Call (.Name x p) (e :: es) [] pos) (m g) := jxo_call C hr ha hg hdb he hpl
/-- frozen -/
theorem jx_o {α : Type} [Ob α] {m : Option (Rs α)} (h : JXO X R0 H0 Γ e m) : JX X R0 H0 Γ e m := .mk fun σ R H S r er Q W tk q1 q2 => h.run σ R H S r er Q W tk (fun a ea p o R' H' x np hp hr hh => by
  refine q1 a ea (.ref p) (upd R' p o) H' ⟨x.r.trans (.new hr), x.h, x.i.put hp, fun z u t hz hn => ?_⟩ ⟨p, o, rfl, .inl upd_same, Ob.mono (.new hr) hh⟩
  rw [upd_ne (ne_of_none hz np)]
  exact x.n z u t hz hn) q2
/-- a call that raises nothing, of one argument that may raise -/
def rsB {α β : Type} (m : Option (Rs α)) (f : α → Option β) : Option (Rs β) := m.bind fun r => match r with
  | .ok a => (f a).bind fun b => some (.ok b)
  | .ex x => some (.ex x)
/-! ### statements -/
/-- where an exception goes -/
inductive XAt (Γ : List Slot) (x : Xv) : Out → Prop
  | ex : XAt Γ x (.ex x)
  | et : XAt Γ x (.et Γ x)
theorem XAt.take {σ : L2.St} {R H : Hp} {D : Ends} {x : Xv} {o : Out} (t : XAt Γ x o) (q : Req X R0 H0 R D o) (S : Sat X.K R0 H0 Γ σ R H) : ∃ W : WX, Takes X W ∧ ∀ cls d R' H', Ext R H R' H' → XOk X.K R' cls d x → W cls d σ H' := by
  cases t with
  | ex => exact ⟨_, q, fun cls d R' H' e h => ⟨R', S.e0.trans e, h⟩⟩
  | et => exact ⟨_, q, fun cls d R' H' e h => ⟨R', e.r, S.ext e, h⟩⟩
/-- e alone -/
theorem j1_exprx {α : Type} [Py α] {m : Option (Rs α)} {out : Rs α → Out} (he : JX X R0 H0 Γ e m) (h1 : ∀ a, out (.ok a) = .nx Γ := by intro _; rfl) (h2 : ∀ x, XAt Γ x (out (.ex x)) := by intro _; first | exact .ex | exact .et) (hs : swapsWith e none pos.line X.env = pure false := by rfl) : J1 X R0 H0 Γ (.Expr e pos) m out := .mk fun σ R H S r er D q => by
  cases r with
  | ok a =>
    rw [h1] at q
    exact PS_to (ps_expr eS hs) (he.run σ R H S _ er _ _ takes_no (fun a' ea v R' H' x r => q _ R' H' x.r (S.ext x)) fun x ex => by cases ex)
  | ex xv =>
    obtain ⟨W, tk, w⟩ := (h2 xv).take q S
    exact PS_to (ps_expr eS hs) (he.run σ R H S _ er _ W tk (fun a ea => by cases ea) fun x' ex cls d R' H' e h => by cases ex; exact w cls d R' H' e h)
theorem j1_map' {β' : Type} {st : Stmt} {out : β → Out} {out' : β' → Out} {m : Option β} (f : β → β') (h : J1 X R0 H0 Γ st m out) (hf : ∀ b, out' (f b) = out b) : J1 X R0 H0 Γ st (m.bind fun b => some (f b)) out' := .mk fun σ R H S b eb D q => by
  obtain ⟨c, ec, eb⟩ := bind_some' eb
  cases eb
  rw [hf] at q
  exact h σ R H S c ec D q
/-- as a turn that goes on or leaves the def -/
theorem j1_fl {α ρ : Type} {st : Stmt} {Γ1 : α → List Slot} {ret : Rs ρ → Out} {out : Rs α → Out} {m : Option (Rs α)} (h : J1 X R0 H0 Γ st m out) (h1 : ∀ a, out (.ok a) = .nx (Γ1 a) := by intro _; rfl) (h2 : ∀ x, out (.ex x) = ret (.ex x) := by intro _; rfl) : J1 X R0 H0 Γ st (m.bind fun r => some r.fl) (outF Γ1 ret) := j1_map' Rs.fl h fun b => by
  cases b with
  | ok a => exact (h1 a).symm
  | ex x => exact (h2 x).symm
end
end FK

/-! exceptions made and raised; caught and kept -/
namespace FK
open PySem PySem.Spec PyProof.Rows L2
/-! ### made -/
def mkSem (X : Cx) (e : Expr) : L2.St → Hp → XK → Prop := fun σ H Q => ∀ pins s, Inv X pins σ H s → wpAny (model X.prog X.w) X.A (eval e X.env) (MkP X pins σ Q) X.xe s
structure JMk (X : Cx) (R0 H0 : Hp) (Γ : List Slot) (e : Expr) (m : Option Xv) : Prop where
  run : ∀ σ R H, Sat X.K R0 H0 Γ σ R H → ∀ x, m = some x → ∀ Q : XK, (∀ cls d R' H', Ext R H R' H' → XOk X.K R' cls d x → Q cls d H') → mkSem X e σ H Q
/-- what the written part says of an exception's class -/
structure XCls (K : PySem.W.Frag) (mg : Str → Option Value) (nm : Str) (C : Addr) : Prop where
  g : mg nm = some (.ref C)
  ns : PySem.W.nsIn K mainGlobals nm = some (some (.ref C))
  kC : PySem.W.keepIn K (.ref C) = true
  exC : PySem.W.subIn K (.ref C) (.type "BaseException") = some true
  tyC : PySem.W.typeIn K (.ref C) = some (.type "type")
/-- .. without an own __init__ -/
def XPlain (K : PySem.W.Frag) (mg : Str → Option Value) (nm : Str) : Prop := ∃ C, XCls K mg nm C ∧ PySem.W.excIn K C [.type "ValueError", .type "Exception", .type "BaseException", .type "object"] "ValueError.__new__" = true
/-- .. with one that stores its argument -/
def spI (C : Addr) (f : Str) : Sp := fun vs H Q _ => ∃ a v, vs = [.ref a, v] ∧ H a = some (exo a C none) ∧ ∀ dx, H dx = none → dx ≠ a → Q .non (upd (upd H dx (exd dx [(f, v)])) a (exo a C (some dx)))
def XInit (P : Program) (w : World) (K : PySem.W.Frag) (mg : Str → Option Value) (base : Heap) (nm f : Str) (ps : List Str) : Prop := ∃ C fI fd, XCls K mg nm C ∧ OexC K C ∧ PySem.W.findIn K (.ref C) "__init__" = some (some (.ref fI)) ∧
  PySem.W.typeIn K (.ref fI) = some (.type "function") ∧ FnOk P w K mg base CX0 1 fI fd ps (spI C f) ∧ Binds K fd ps []
class Pd (β : Type) [Py β] where
  pl : Str → β → Pl
  ok : ∀ {K : PySem.W.Frag} {R : Hp} {d : Addr} {f : Str} {v : V} {b : β}, rep K R v b → R d = some (.xd [(f, v)]) → PlOk K R (some d) (pl f b)
instance : Pd Int := ⟨.int, fun {K R d f v b} h e => ⟨d, rfl, by cases (show v = .int b from h); exact e⟩⟩
instance : Pd Str := ⟨.str, fun {K R d f v b} h e => ⟨d, rfl, by cases (show v = .str b from h); exact e⟩⟩
instance : Pd (List Str) := ⟨.txts, fun {K R d f v b} h e => ⟨d, v, rfl, e, h⟩⟩
section
variable {X : Cx} {R0 H0 : Hp} {Γ : List Slot} {e a b : Expr} {es : List Expr} {rest : List Stmt} {pos p : Pos}
end
/-! ### kept -/
def Exv (a : Addr) (cls : Value) (d : Option Addr) : HO := .ext fun h => ∃ (oe : Obj) (vs : Array Value), h.get? a = some oe ∧ Zc cls d oe ∧ oe.data = .fields vs
theorem exv_ok {P : Program} {w : World} {H : Hp} {h : Heap} {a : Addr} {cls : Value} {d : Option Addr} {oe : Obj} {vs : Array Value} (e : h.get? a = some oe) (z : Zc cls d oe) (q : oe.data = .fields vs) : ObjOk P w H h a (Exv a cls d) :=
  ⟨⟨oe, vs, e, z, q⟩, ⟨oe, e⟩, fun _ _ ⟨o, v, e1, z1, d1⟩ k => ⟨o, v, k _ e1, z1, d1⟩⟩
theorem inv_track {X : Cx} {pins : List (Addr × Obj)} {σ : L2.St} {H : Hp} {s : Shared} {a : Addr} {cls : Value} {d : Option Addr} {oe : Obj} {vs : Array Value} (I : Inv X pins σ H s) (na : H a = none) (e : s.heap.get? a = some oe) (z : Zc cls d oe) (q : oe.data = .fields vs)
    (n0 : X.s_0.heap.get? a = none) (nL : a ≠ X.env.locals) (np : ∀ p ∈ X.pn ++ pins, p.1 ≠ a) : Inv X pins σ (upd H a (Exv a cls d)) s := by
  have other : ∀ {b : Addr} {o : HO}, H b = some o → b ≠ a := fun {b o} h => ne_of_none h na
  refine { I with base := { I.base with free := fun b o h n hx => ?_, tups := fun b xs h => ?_, frzs := fun b o u h => ?_, tbls := fun b ps h => ?_ }, free := ?_, freeC := fun x c h => ?_, pin := fun p hp => ?_, hok := fun b o h => ?_ }
  · have nb : b ≠ a := fun y => by
      rw [y, n0] at h
      cases h
    rw [upd_ne nb]
    exact I.base.free b o h n hx
  · have k := I.base.tups b xs h
    rw [upd_ne (other k)]
    exact k
  · have k := I.base.frzs b o u h
    rw [upd_ne (other k)]
    exact k
  · obtain ⟨more, k⟩ := I.base.tbls b ps h
    exact ⟨more, by rw [upd_ne (other k)]; exact k⟩
  · rw [upd_ne (Ne.symm nL)]
    exact I.free
  · have nc : c ≠ a := fun y => by
      obtain ⟨v, o, h1, h2⟩ := I.cell x c h
      rw [y, e] at h1
      cases h1
      rw [q] at h2
      cases h2
    rw [upd_ne nc]
    exact I.freeC x c h
  · obtain ⟨p1, p2, p3⟩ := I.pin p hp
    exact ⟨p1, by rw [upd_ne (np p hp)]; exact p2, p3⟩
  · by_cases y : b = a
    · rw [y, upd_same] at h
      cases h
      rw [y]
      exact exv_ok e z q
    · rw [upd_ne y] at h
      exact (I.hok b o h).stay (fun c v _ k => k) (fun c k => by rw [upd_ne (other k)]; exact k) fun c xs k => by rw [upd_ne (other k)]; exact k
/-- where an exception is handled, the state as it is -/
theorem inv_hot {X : Cx} {pins : List (Addr × Obj)} {σ : L2.St} {H : Hp} {s : Shared} (a : Addr) (I : Inv X pins σ H s) : Inv (X.suite a (X.pn ++ pins)) [] σ H s :=
  { I with ok := I.ok.suite a _, pin := fun p hp => I.pin p (by rw [List.append_nil] at hp; exact hp) }
theorem inv_cool {X : Cx} {pins : List (Addr × Obj)} {σ : L2.St} {H : Hp} {s : Shared} {a : Addr} (I : Inv (X.suite a (X.pn ++ pins)) [] σ H s) (ok : X.Ok) : Inv X pins σ H s :=
  { I with ok := ok, pin := fun p hp => I.pin p (by rw [List.append_nil]; exact hp) }
/-- what 'except x as n: m = n' wishes of an exception (n in slot i, m in slot j), that is always of the class -/
def wKeep (K : PySem.W.Frag) (c : Value) (i j : Nat) (D : Ends) : WX := fun cls d σ H => PySem.W.exmOne K cls c = some true ∧ ∀ a, H a = none → D.nx (((σ.set i (some (.ref a))).set j (some (.ref a))).set i none) (upd H a (Exv a cls d))
section
variable {X : Cx} {x n m : Str} {c : Value} {i j : Nat} {body : List Stmt} {np pos pos' q1 q2 q3 : Pos} {tb : WX → TS}
theorem ps_keep (hex : X.ex = []) (hs : X.stack = X.env :: X.outer) (hf : X.env.frame = some X.env.locals) (hN : X.N.Nodup) (hi : X.N[i]? = some n) (hj : X.N[j]? = some m) (hln : X.env.kindOf n = some .local) (hc : Names X x c) (hij : i < X.N.length)
    (hlm : Loc X.env.scope m) (hvn : Vis X.env.scope n) (hdn : (n == ("__debug__" : Str)) = false) (hcn : (n == ("__classdict__" : Str)) = false)
    (hsw : ∀ a pn, swapsWith (.Name n q2) (some (.Name m q1)) q3.line (X.suite a pn).env = pure false) (hfm : X.fn m = true ∨ X.env.scope.names.lookup m = some .local)
    (hb : ∀ (W : WX) (pn : List (Addr × Obj)) (xe : Value → Shared → Prop), Takes (X.tr pn xe) W → PSs (X.tr pn xe) body (tb W)) :
    PS X (.Try body [.ExceptHandler (some (.Name x np)) (some n) [.Assign [.Name m q1] (.Name n q2) q3] pos'] [] [] pos) (fun D σ H => tb (wKeep X.K c i j D) D σ H) := by
  refine ⟨fun pins s σ H D I h => wpAny_Try_except ?_⟩
  have ok := I.ok
  have hfr : X.A.frames = some (X.env :: X.outer) := ok.frames.trans (congrArg some hs)
  refine wpAny_mono ((hb _ (X.pn ++ pins) (fun e s₁ => wpAny (model X.prog X.w) X.A (noteFrame e X.env)
    (fun _ s₂ => wpAny (model X.prog X.w) X.A (setFlight e none)
      (fun _ s₃ => wpAny (model X.prog X.w) X.A (handleBy e X.env [.ExceptHandler (some (.Name x np)) (some n) [.Assign [.Name m q1] (.Name n q2) q3] pos']) (SP X pins D) X.xe s₃)
      X.xe s₂) X.xe s₁) fun u s' air => ?_).run [] s σ H D (I.toTry _) h) (fun f s1 out => ?_) fun _ _ z => z
  · obtain ⟨a, B, sI, pins', σ', H', cls, d, rfl, J', nb, up, sky, na, os, ag, hm, go⟩ := air
    have J : Inv X pins σ' H' sI := J'.ofTry ok
    rw [hs] at sky
    refine Sky.land Zc.steady hfr hf sky fun h3 fl3 up3 => ?_
    have J3 : Inv X pins σ' H' { s' with heap := h3 } := J.landed nb fl3.1 (up.trans up3) os ag
    obtain ⟨oe3, vs3, he3, hz3, hd3⟩ := fl3.there
    have offFrames : a ∉ frs (X.env :: X.outer) := fun hm => by
      obtain ⟨_, o', e', hnf⟩ := fl3.2.2.1.mem hm
      rw [he3] at e'
      cases e'
      exact hnf _ hd3
    have nL : a ≠ X.env.locals := fun z => offFrames (List.mem_filterMap.mpr ⟨X.env, List.mem_cons_self, hf.trans (congrArg some z.symm)⟩)
    -- it is new: not there at the def's beginning, nor pinned
    have fresh : ∀ o, sI.heap.get? a ≠ some o := fun o z => by
      have y := nb a o z (by rw [hs]; exact offFrames)
      rw [fl3.2.1] at y
      cases y
    have n0 : X.s_0.heap.get? a = none := by
      cases z : X.s_0.heap.get? a with
      | none => rfl
      | some o =>
        obtain ⟨o', y⟩ := J.base.there a o z (by rw [hex]; exact List.not_mem_nil)
        exact absurd y (fresh o')
    have np' : ∀ p ∈ X.pn ++ pins, p.1 ≠ a := fun p hp z => fresh p.2 (by rw [← z]; exact (J.pin p hp).1)
    refine wpAny_handleBy_cons (codeAny_handlers_test ?_) (by intro q; cases q)
    have LT : PySem.W.Looks (model X.prog X.w) h3 (typeOf (.ref a)) cls := fun A Q E s k q => wpAny_typeOf_ref (k _ _ he3) (by rw [hz3.1]; exact q)
    have LM := PySem.W.exm_one (M := model X.prog X.w) J3.kIn LT hm
    have T3 := inv_hot a J3
    have seen : ∀ {Q : Value → Shared → Prop} {E : Value → Shared → Prop}, Q c { s' with heap := h3 } → wpAny (model X.prog X.w) (X.A.mark (some (.ref a))) (eval (.Name x np) X.env) Q E { s' with heap := h3 } := fun {Q E} q => by
      obtain ⟨hg, hdbg, hm | ⟨hm, hv, hnn⟩⟩ := hc
      · exact ld_glob (X := X.suite a (X.pn ++ pins)) T3 hg hm q hdbg
      · exact ld_blt (X := X.suite a (X.pn ++ pins)) T3 hg hm hv q hnn hdbg
    refine seen (LM.here (codeAny_handlers_suite_as ?_))
    refine HandSPX.lands_againZ fl3 fun h4 fl4 up4 => ?_
    have J4 : Inv X pins σ' H' { s' with heap := h4 } := J.landed nb fl4.1 ((up.trans up3).trans up4) os ag
    obtain ⟨oe4, vs4, he4, hz4, hd4⟩ := fl4.there
    have K4 := inv_hot a (inv_track J4 na he4 hz4 hd4 n0 nL np')
    refine store_ok (X := X.suite a (X.pn ++ pins)) (v := .ref a) K4 hN hi (.inl hln) rfl (fun s5 S5 => ?_) (.inr hln)
    have at5 : (σ'.set i (some (V.ref a)))[i]? = some (some (.ref a)) := List.getElem?_set_self (by rw [K4.len]; exact hij)
    refine wpAny_mono ((pss_cons (ps_set (X := X.suite a (X.pn ++ pins)) hN hj hlm (pv (X := X.suite a (X.pn ++ pins)) i hi hvn hdn hcn) (hsw a _) hfm) pss_nil).run [] s5 _ _
      { nx := fun σ6 H6 => σ6 = (σ'.set i (some (.ref a))).set j (some (.ref a)) ∧ H6 = upd H' a (Exv a cls d), rt := fun _ _ => False, bk := fun _ _ => False, ct := fun _ _ => False } S5 ⟨.ref a, at5, rfl, rfl⟩) (fun f s6 out => ?_) fun _ _ z => False.elim z
    cases f with
    | next =>
      obtain ⟨σ6, H6, S6, e1, e2⟩ := out
      subst e1 e2
      exact gone_ok (inv_cool S6 ok) hN hi hln fun s7 J7 => ⟨_, _, J7, go a na⟩
    | brk =>
      obtain ⟨σ6, H6, S6, z⟩ := out
      exact z.elim
    | cont =>
      obtain ⟨σ6, H6, S6, z⟩ := out
      exact z.elim
    | ret u =>
      obtain ⟨v6, σ6, H6, S6, r6, z⟩ := out
      exact z.elim
  · cases f with
    | next =>
      obtain ⟨σ', H', J', z⟩ := out
      exact wpAny_execs_nil ⟨σ', H', J'.ofTry ok, z⟩
    | brk =>
      obtain ⟨σ', H', J', z⟩ := out
      exact ⟨σ', H', J'.ofTry ok, z⟩
    | cont =>
      obtain ⟨σ', H', J', z⟩ := out
      exact ⟨σ', H', J'.ofTry ok, z⟩
    | ret u =>
      obtain ⟨v, σ', H', J', r, z⟩ := out
      exact ⟨v, σ', H', J'.ofTry ok, r, z⟩
end
end FK

/-! a caught exception as a value: isinstance, its field; try .. except .. as e: m = e -/
namespace FK
open PySem PySem.Spec PyProof.Rows L2
instance instPyXv : Py Xv where
  rep := fun K R v x => ∃ a cls d, v = .ref a ∧ R a = some (Exv a cls d) ∧ XOk K R cls d x
  bor := fun K R _ v x => ∃ a cls d, v = .ref a ∧ R a = some (Exv a cls d) ∧ XOk K R cls d x
  mono := fun e ⟨a, cls, d, h, r, q⟩ => ⟨a, cls, d, h, e _ _ r, q.mono e⟩
  bmono := fun e _ ⟨a, cls, d, h, r, q⟩ => ⟨a, cls, d, h, e _ _ r, q.mono e⟩
  lend := fun _ h => h
instance : Flat Xv := ⟨fun h => h⟩
instance : Nn Xv := ⟨fun {K R v a} h e => by obtain ⟨p, o, _, h, _⟩ := h; rw [e] at h; cases h⟩
instance : Flat (Option Xv) := ⟨fun {K R H v a} h => by cases a <;> exact h⟩
/-- what a class must say for its caught instances to be asked -/
structure XKit (K : PySem.W.Frag) (C : Addr) : Prop where
  cl : (PySem.W.clsIn K C).isSome = true
  ga : PySem.W.findIn K (.ref C) "__getattribute__" = some (some (.builtin "BaseException.__getattribute__"))
  gg : PySem.W.findIn K (.ref C) "__getattr__" = some none
  ex : PySem.W.subIn K (.ref C) (.type "BaseException") = some true
  cc : PySem.W.findIn K (.ref C) "__class__" = some (some (.builtin "object.__class__"))
  sp : PySem.W.specialIn K (.builtin "object.__class__") "__get__" = some (some (.builtin "getset_descriptor.__get__"))
  tk : PySem.W.takesIn K (.builtin "object.__class__") = some true
  mo : PySem.W.mroIn K C (.type "object") = some true
  hd : PySem.W.hasDictIn K C = true
/-- the classes that may be caught -/
def Xs (K : PySem.W.Frag) (L : List Str) : Prop := ∀ c ∈ L, ∃ C, PySem.W.nsIn K mainGlobals c = some (some (.ref C)) ∧ XKit K C
section
variable {X : Cx} {pins : List (Addr × Obj)} {σ : L2.St} {R H : Hp} {s : Shared} {x : Xv}
theorem pl_dict {K : PySem.W.Frag} {d : Option Addr} {p : Pl} (h : PlOk K R d p) : d = none ∨ ∃ dd fs, d = some dd ∧ R dd = some (.xd fs) := by
  cases p with
  | no => exact .inl h
  | int f i =>
    obtain ⟨dd, a, b⟩ := h
    exact .inr ⟨dd, _, a, b⟩
  | str f i =>
    obtain ⟨dd, a, b⟩ := h
    exact .inr ⟨dd, _, a, b⟩
  | txts f l =>
    obtain ⟨dd, v, a, b, _⟩ := h
    exact .inr ⟨dd, _, a, b⟩
theorem inst_exv {a C : Addr} {d : Option Addr} (I : Inv X pins σ H s) (h : H a = some (Exv a (.ref C) d)) (hd : d = none ∨ ∃ dd fs, d = some dd ∧ H dd = some (.xd fs)) :
    ∃ ox od, PySem.W.InstAt s.heap a ox C od ∧ ∀ dd fs, d = some dd → H dd = some (.xd fs) → ∃ o, od = some o ∧ ∀ f, RelO (fs.lookup f) ((PySem.W.lookIn f o).getD none) ∧ (PySem.W.lookIn f o).isSome = true := by
  obtain ⟨⟨ox, vs, e, z, q⟩, _⟩ := I.hok a _ h
  have nc : PySem.W.notCls ox = true := by
    unfold PySem.W.notCls
    rw [q]
  rcases hd with hd | ⟨dd, fs, hd, hx⟩
  · subst hd
    exact ⟨ox, none, ⟨e, z.1, nc, by rw [z.2]; trivial⟩, fun dd fs e _ => by cases e⟩
  · subst hd
    have hok : ObjOk X.prog X.w H s.heap dd (.xd fs) := I.hok dd _ hx
    obtain ⟨mA, hns, hr⟩ := hok
    obtain ⟨od, ho, hl⟩ := lookIn_ns hns
    refine ⟨ox, some od, ⟨e, z.1, nc, by rw [z.2]; exact ho⟩, fun dd' fs' e' hx' => ⟨od, rfl, fun f => ?_⟩⟩
    cases e'
    rw [hx] at hx'
    cases hx'
    rw [hl f]
    exact ⟨hr f, rfl⟩
end
/-! ### isinstance -/
def rIsX (K : PySem.W.Frag) : List V → Hp → VK → Prop := fun xs H Q => ∃ (a C : Addr) (d : Option Addr) (c : V) (cv : Value) (b : Bool), xs = [.ref a, c] ∧ H a = some (Exv a (.ref C) d) ∧ (d = none ∨ ∃ dd fs, d = some dd ∧ H dd = some (.xd fs)) ∧ XKit K C ∧
  (∀ u, RelV c u → u = cv) ∧ PySem.W.kitOne K (.ref C) cv = some b ∧ Q (.bl b) H
theorem call_isX {X : Cx} : CallR X (.builtin "isinstance") (rIsX X.K) := by
  intro pins s σ H xs us Q I r h
  obtain ⟨a, C, d, c, cv, b, rfl, ha, hd, k, hcv, e, q⟩ := h
  obtain ⟨u, w, rfl, rx, rt⟩ : ∃ u w, us = [u, w] ∧ RelV (.ref a) u ∧ RelV c w := by
    cases r with
    | cons rx rr =>
      cases rr with
      | cons rt rr =>
        cases rr
        exact ⟨_, _, rfl, rx, rt⟩
  have rx : u = .ref a := rx
  subst rx
  rw [hcv _ rt]
  obtain ⟨ox, od, J, _⟩ := inst_exv I ha hd
  exact PySem.W.kia_one (PySem.W.kitx_exc k.cl k.ga k.gg k.ex k.cc k.sp k.tk k.mo) I.kIn J e (by intro z; cases z) fun tk => ⟨.bl b, H, I.kept (t' := tk) fun _ _ z => z, rfl, q⟩
def isX (L : List Str) (tbl : Str → Bool) (o : Option Xv) : Option Bool := o.bind fun x => if x.c ∈ L then some (tbl x.c) else none
section
variable {X : Cx} {R0 H0 : Hp} {Γ : List Slot} {e a e2 : Expr} {pos p : Pos}
theorem je_isx0 {L : List Str} (tbl : Str → Bool) {cv : Value} {c2 : V} {m : Option (Option Xv)} (XS : Xs X.K L) (hk : ∀ c ∈ L, ∀ C, PySem.W.nsIn X.K mainGlobals c = some (some (.ref C)) → PySem.W.kitOne X.K (.ref C) cv = some (tbl c)) (hc2 : ∀ u, RelV c2 u → u = cv) (he2 : PE X e2 (tC c2)) (hm : X.mg "isinstance" = none) (h : JB X R0 H0 Γ a m) (hg : Gl X "isinstance" := by rfl)
    (hs : starEach [a, e2] X.env = (false, eval a X.env) :: starEach [e2] X.env := by rfl) (hs2 : starEach [e2] X.env = (false, eval e2 X.env) :: starEach [] X.env := by rfl) (hpl : (backTo pos (starEach [e2] X.env)).any (·.1) = false := by rfl) :
    JE X R0 H0 Γ (.Call (.Name "isinstance" p) [a, e2] [] pos) (m.bind (isX L tbl)) := .mk fun σ R H S z ez Q q => by
  obtain ⟨o, eo, ez⟩ := bind_some' ez
  unfold isX at ez
  obtain ⟨x, ex, ez⟩ := bind_some' ez
  rw [ex] at eo
  by_cases hL : x.c ∈ L
  case neg =>
    rw [if_neg hL] at ez
    cases ez
  rw [if_pos hL] at ez
  cases ez
  refine PE_to (pe_callB call_isX hg hm PyProof.Rows.boot_isinstance (pa_cons eS (pa_cons he2 pa_nil hs2) hs) (he := hs) (hpl := hpl)) (h σ R H S _ eo _ fun v R1 H1 x1 r1 => ?_)
  obtain ⟨⟨a, cls, d, rfl, ha, C, hC, rfl, hp⟩, _⟩ := r1
  obtain ⟨C', hC', k⟩ := XS x.c hL
  rw [hC] at hC'
  cases hC'
  refine ⟨a, C, d, c2, cv, tbl x.c, rfl, x1.i _ _ ha, ?_, k, hc2, hk x.c hL C hC, q _ R1 H1 x1 rfl⟩
  rcases pl_dict hp with z | ⟨dd, fs, z, y⟩
  · exact .inl z
  · exact .inr ⟨dd, fs, z, x1.i _ _ y⟩
/-- a class of the program -/
def IsT (K : PySem.W.Frag) (mg : Str → Option Value) (L : List Str) (T : Str) (tbl : Str → Bool) : Prop := ∃ C, mg T = some (.ref C) ∧ ∀ c ∈ L, ∀ D, PySem.W.nsIn K mainGlobals c = some (some (.ref D)) → PySem.W.kitOne K (.ref D) (.ref C) = some (tbl c)
theorem je_isx {L : List Str} (tbl : Str → Bool) {T : Str} {p2 : Pos} {m : Option (Option Xv)} (XS : Xs X.K L) (hk : IsT X.K X.mg L T tbl) (hm : X.mg "isinstance" = none) (h : JB X R0 H0 Γ a m) (hg : Gl X "isinstance" := by rfl) (hgT : Gl X T := by rfl) (hdT : (T == ("__debug__" : Str)) = false := by decide)
    (hs : starEach [a, .Name T p2] X.env = (false, eval a X.env) :: starEach [.Name T p2] X.env := by rfl) (hs2 : starEach [.Name T p2] X.env = (false, eval (.Name T p2) X.env) :: starEach [] X.env := by rfl) (hpl : (backTo pos (starEach [.Name T p2] X.env)).any (·.1) = false := by rfl) :
    JE X R0 H0 Γ (.Call (.Name "isinstance" p) [a, .Name T p2] [] pos) (m.bind (isX L tbl)) := by
  obtain ⟨C, h1, h2⟩ := hk
  exact je_isx0 tbl XS h2 (c2 := .ref C) (fun u r => r) (pe_glob (v := .ref C) hgT h1 rfl hdT) hm h hg hs hs2 hpl
/-- a class that is built in -/
def IsB (K : PySem.W.Frag) (L : List Str) (Tn : String) (tbl : Str → Bool) : Prop := ∀ c ∈ L, ∀ D, PySem.W.nsIn K mainGlobals c = some (some (.ref D)) → PySem.W.kitOne K (.ref D) (.type Tn) = some (tbl c)
theorem je_isxB {L : List Str} (tbl : Str → Bool) {T : Str} {Tn : String} {p2 : Pos} {m : Option (Option Xv)} (XS : Xs X.K L) (hk : IsB X.K L Tn tbl) (hm : X.mg "isinstance" = none) (hT : X.mg T = none) (h : JB X R0 H0 Γ a m) (hb : bootBuiltins T = some (.type Tn) := by decide +kernel) (hg : Gl X "isinstance" := by rfl) (hgT : Gl X T := by rfl) (hn : T ≠ "__name__" := by decide) (hd : (T == ("__debug__" : Str)) = false := by decide)
    (hs : starEach [a, .Name T p2] X.env = (false, eval a X.env) :: starEach [.Name T p2] X.env := by rfl) (hs2 : starEach [.Name T p2] X.env = (false, eval (.Name T p2) X.env) :: starEach [] X.env := by rfl) (hpl : (backTo pos (starEach [.Name T p2] X.env)).any (·.1) = false := by rfl) :
    JE X R0 H0 Γ (.Call (.Name "isinstance" p) [a, .Name T p2] [] pos) (m.bind (isX L tbl)) :=
  je_isx0 tbl XS hk (c2 := .ty Tn) (fun u r => r) (pe_bltn (v := .ty Tn) hgT hT hb rfl hn hd) hm h hg hs hs2 hpl
/-! ### its field -/
class Gd (β : Type) [Py β] where
  gt : Str → Pl → Option β
  ok : ∀ {K : PySem.W.Frag} {R : Hp} {d : Option Addr} {f : Str} {p : Pl} {b : β}, PlOk K R d p → gt f p = some b → ∃ dd fs v, d = some dd ∧ R dd = some (.xd fs) ∧ fs.lookup f = some v ∧ rep K R v b
theorem lk1 (f : Str) (v : V) : List.lookup f [(f, v)] = some v := by simp [List.lookup]
instance : Gd Int where
  gt f p := match p with
    | .int g i => if g = f then some i else none
    | _ => none
  ok {K R d f p b} h e := by
    cases p with
    | int g i =>
      obtain ⟨dd, h1, h2⟩ := h
      have e : (if g = f then some i else none) = some b := e
      by_cases c : g = f
      · subst c
        rw [if_pos rfl] at e
        cases e
        exact ⟨dd, _, _, h1, h2, lk1 g _, rfl⟩
      · rw [if_neg c] at e
        cases e
    | no => cases e
    | str g i => cases e
    | txts g i => cases e
instance : Gd Str where
  gt f p := match p with
    | .str g i => if g = f then some i else none
    | _ => none
  ok {K R d f p b} h e := by
    cases p with
    | str g i =>
      obtain ⟨dd, h1, h2⟩ := h
      have e : (if g = f then some i else none) = some b := e
      by_cases c : g = f
      · subst c
        rw [if_pos rfl] at e
        cases e
        exact ⟨dd, _, _, h1, h2, lk1 g _, rfl⟩
      · rw [if_neg c] at e
        cases e
    | no => cases e
    | int g i => cases e
    | txts g i => cases e
instance : Gd (List Str) where
  gt f p := match p with
    | .txts g i => if g = f then some i else none
    | _ => none
  ok {K R d f p b} h e := by
    cases p with
    | txts g i =>
      obtain ⟨dd, v, h1, h2, h3⟩ := h
      have e : (if g = f then some i else none) = some b := e
      by_cases c : g = f
      · subst c
        rw [if_pos rfl] at e
        cases e
        exact ⟨dd, _, v, h1, h2, lk1 g _, h3⟩
      · rw [if_neg c] at e
        cases e
    | no => cases e
    | int g i => cases e
    | str g i => cases e
/-- no class of L says anything of f -/
def NoF (K : PySem.W.Frag) (L : List Str) (f : Str) : Prop := ∀ c ∈ L, ∀ C, PySem.W.nsIn K mainGlobals c = some (some (.ref C)) → PySem.W.findIn K (.ref C) f = some none
def xGet {β : Type} [Py β] [Gd β] (L : List Str) (f : Str) (o : Option Xv) : Option β := o.bind fun x => if x.c ∈ L then Gd.gt f x.p else none
theorem je_xget {β : Type} [Py β] [Gd β] {L : List Str} {f : Str} {m : Option (Option Xv)} (XS : Xs X.K L) (hno : NoF X.K L f) (h : JB X R0 H0 Γ e m) (hb : attributeBase e f X.env (eval e X.env) = eval e X.env := by rfl) : JE X R0 H0 Γ (.Attribute e f pos) (m.bind (xGet (β := β) L f)) := .mk fun σ R H S z ez Q q => by
  obtain ⟨o, eo, ez⟩ := bind_some' ez
  unfold xGet at ez
  obtain ⟨x, ex, ez⟩ := bind_some' ez
  rw [ex] at eo
  by_cases hL : x.c ∈ L
  case neg =>
    rw [if_neg hL] at ez
    cases ez
  rw [if_pos hL] at ez
  intro pins s I
  refine attr_of hb (thn (h σ R H S _ eo (fun v H1 => ∃ a C d R1, v = .ref a ∧ Ext R H R1 H1 ∧ H1 a = some (Exv a (.ref C) d) ∧ PySem.W.nsIn X.K mainGlobals x.c = some (some (.ref C)) ∧ PlOk X.K R1 d x.p) (fun v R1 H1 x1 r1 => ?_) pins s I) fun u s1 hh => ?_)
  · obtain ⟨⟨a, cls, d, rfl, ha, C, hC, rfl, hp⟩, _⟩ := r1
    exact ⟨a, C, d, R1, rfl, x1, x1.i _ _ ha, hC, hp⟩
  · obtain ⟨v, H1, I1, rv, a, C, d, R1, rfl, x1, ha, hC, hp⟩ := hh
    have rv : u = .ref a := rv
    subst rv
    obtain ⟨C', hC', k⟩ := XS x.c hL
    rw [hC] at hC'
    cases hC'
    obtain ⟨dd, fs, w, hd, hx, hl, hr⟩ := Gd.ok hp ez
    obtain ⟨ox, od, J, hod⟩ := inst_exv I1 ha (.inr ⟨dd, fs, hd, x1.i _ _ hx⟩)
    obtain ⟨o, eo', hf⟩ := hod dd fs hd (x1.i _ _ hx)
    subst eo'
    obtain ⟨hrel, hsome⟩ := hf f
    rw [hl] at hrel
    obtain ⟨g, eg⟩ := Option.isSome_iff_exists.mp hsome
    rw [eg] at hrel
    cases g with
    | none => exact hrel.elim
    | some u2 =>
      exact PySem.HandSPX.exc_get I1.kIn J k.ga k.gg k.ex (PySem.W.findObj_own k.hd (hno x.c hL C hC) rfl eg) (handed_of (show RelV w u2 from hrel)) ⟨w, H1, I1.tok _, hrel, q w R1 H1 x1 hr⟩
/-! ### try: .. except X as n: m = n -/
def keepX {α : Type} (L : List Str) : Rs α → Option (Rs α)
  | .ok a => some (.ok a)
  | .ex x => if x.c ∈ L then some (.ex x) else none
/-- an outcome that is no exception -/
inductive Tame : Out → Prop
  | nx {Γ : List Slot} : Tame (.nx Γ)
  | rt {α : Type} [Py α] {a : α} : Tame (.rt a)
  | ro {α : Type} [Ob α] {a : α} : Tame (.ro a)
  | rd {α : Type} [Od α] {a : α} : Tame (.rd a)
theorem Req.tr {D : Ends} {o : Out} {R : Hp} (t : Tame o) (q : Req X R0 H0 R D o) (pn : List (Addr × Obj)) (xe : Value → Shared → Prop) : Req (X.tr pn xe) R0 H0 R D o := by
  cases t <;> exact q
/-- the class that the clause names: all of L are of it -/
def CatchT (K : PySem.W.Frag) (mg : Str → Option Value) (L : List Str) (T : Str) : Prop := ∃ C, mg T = some (.ref C) ∧ ∀ c ∈ L, ∀ D, PySem.W.nsIn K mainGlobals c = some (some (.ref D)) → PySem.W.exmOne K (.ref D) (.ref C) = some true
theorem j1_keep (i j : Nat) {T n m : Str} {α : Type} {L : List Str} {mb : Option (Rs α)} {outb out' : Rs α → Out} {body : List Stmt} {np pos' q1 q2 q3 : Pos} (Γ' : Xv → List Slot) (hT : CatchT X.K X.mg L T) (hb : ∀ pn xe, JS (X.tr pn xe) R0 H0 Γ body mb outb) (h0 : ∀ a, outb (.ok a) = out' (.ok a)) (ht : ∀ a, Tame (out' (.ok a)))
    (hx : ∀ x, outb (.ex x) = .et Γ x) (hx' : ∀ x, out' (.ex x) = .nx (Γ' x)) (hΓ : ∀ x, Γ' x = ((Γ.set i .any).set j (.v (some x))).set i .any := by intro _; rfl) (hN : X.N.Nodup) (hli : i < Γ.length := by exact Nat.le_of_ble_eq_true rfl) (hlj : j < Γ.length := by exact Nat.le_of_ble_eq_true rfl) (hex : X.ex = [] := by rfl) (hs : X.stack = X.env :: X.outer := by rfl) (hf : X.env.frame = some X.env.locals := by rfl) (hi : X.N[i]? = some n := by rfl) (hj : X.N[j]? = some m := by rfl)
    (hln : X.env.kindOf n = some .local := by rfl) (hgT : Gl X T := by rfl) (hdT : (T == ("__debug__" : Str)) = false := by decide) (hij : i < X.N.length := by exact Nat.le_of_ble_eq_true rfl) (hlm : Loc X.env.scope m := by first | exact Or.inl rfl | exact Or.inr rfl) (hvn : Vis X.env.scope n := by first | exact Or.inl rfl | exact Or.inr (Or.inl rfl) | exact Or.inr (Or.inr rfl)) (hdn : (n == ("__debug__" : Str)) = false := by decide) (hcn : (n == ("__classdict__" : Str)) = false := by decide)
    (hsw : ∀ a pn, swapsWith (.Name n q2) (some (.Name m q1)) q3.line (X.suite a pn).env = pure false := by intro _ _; rfl) (hfm : X.fn m = true ∨ X.env.scope.names.lookup m = some .local := by first | exact .inl rfl | exact .inr rfl) :
    J1 X R0 H0 Γ (.Try body [.ExceptHandler (some (.Name T np)) (some n) [.Assign [.Name m q1] (.Name n q2) q3] pos'] [] [] pos) (mb.bind (keepX L)) out' := .mk fun σ R H S b eb D q => by
  obtain ⟨r, er, eb⟩ := bind_some' eb
  obtain ⟨C, hC, hm⟩ := hT
  refine PS_to (ps_keep (c := .ref C) (i := i) (j := j) hex hs hf hN hi hj hln ⟨hgT, hdT, .inl hC⟩ hij hlm hvn hdn hcn hsw hfm (tb := fun W D σ H => ∀ pn xe, Takes (X.tr pn xe) W → sSem (X.tr pn xe) body D σ H) fun W pn xe tk => ⟨fun pins s σ H D I h => h pn xe tk pins s I⟩) fun pn xe tk => ?_
  cases r with
  | ok a =>
    cases eb
    refine (hb pn xe) σ R H S _ er D ?_
    rw [h0]
    exact Req.tr (ht a) q pn xe
  | ex x =>
    have eb : (if x.c ∈ L then some (Rs.ex x) else none) = some b := eb
    by_cases hL : x.c ∈ L
    case neg =>
      rw [if_neg hL] at eb
      cases eb
    rw [if_pos hL] at eb
    cases eb
    rw [hx'] at q
    refine (hb pn xe) σ R H S _ er D ?_
    rw [hx]
    refine Takes.imp tk fun cls d σ H ⟨R', e, S', hxo⟩ => ?_
    obtain ⟨D0, hD, hcls, hp⟩ := hxo
    refine ⟨by rw [hcls]; exact hm x.c hL D0 hD, fun a hn => ?_⟩
    have x1 : Ext R' H (upd R' a (Exv a cls d)) (upd H a (Exv a cls d)) := .new S'.i hn
    have S1 := S'.ext x1
    have S2 := S1.set_any (some (.ref a)) hli
    have S3 := S2.set_v (i := j) (a := some x) (v := .ref a) (by rw [List.length_set]; exact hlj) (show rep X.K _ (V.ref a) (some x) from ⟨⟨a, cls, d, rfl, upd_same, D0, hD, hcls, (XOk.mono x1.r (x := x) ⟨D0, hD, hcls, hp⟩).choose_spec.2.2⟩, fun z => by cases z⟩)
    have S4 := S3.set_any (i := i) none (by rw [List.length_set, List.length_set]; exact hli)
    rw [← hΓ] at S4
    exact (show ∀ σ R2 H2, Ex R R2 → Sat X.K R0 H0 (Γ' x) σ R2 H2 → D.nx σ H2 from q) _ _ _ (e.trans x1.r) S4
end
end FK

/-! outcomes of statements that may raise; what the text's end says of the classes -/
namespace FK
open PySem PySem.Spec PyProof.Rows L2
def outN {α : Type} (Γ1 : α → List Slot) : Rs α → Out
  | .ok a => .nx (Γ1 a)
  | .ex x => .ex x
def outT {α : Type} (Γ : List Slot) (Γ1 : α → List Slot) : Rs α → Out
  | .ok a => .nx (Γ1 a)
  | .ex x => .et Γ x
def keepV {α : Type} (c0 : Option Xv) : Rs α → Option Xv
  | .ok _ => c0
  | .ex x => some x
def outK {α : Type} (Γ1 : Option Xv → List Slot) (c0 : Option Xv) (r : Rs α) : Out := .nx (Γ1 (keepV c0 r))
def clsBody : Stmt → List Stmt
  | .ClassDef _ _ _ body .. => body
  | _ => []
def rsO {α : Type} : Rs α → Option α
  | .ok a => some a
  | .ex _ => none
section
variable {X : Cx} {R0 H0 : Hp} {Γ : List Slot} {e : Expr}
/-- where it doesn't raise -/
theorem je_rs {α : Type} [Py α] {m : Option (Rs α)} (h : JX X R0 H0 Γ e m) : JE X R0 H0 Γ e (m.bind rsO) := .mk fun σ R H S a ea Q q => by
  obtain ⟨r, er, ea⟩ := bind_some' ea
  cases r with
  | ok b =>
    cases ea
    exact h.run σ R H S _ er Q _ takes_no (fun a' e' v R' H' x r => by cases e'; exact q v R' H' x r) fun x e => by cases e
  | ex x => cases ea
theorem jo_rs {α : Type} [Ob α] {m : Option (Rs α)} (h : JXO X R0 H0 Γ e m) : JO X R0 H0 Γ e (m.bind rsO) := .mk fun σ R H S a ea Q q => by
  obtain ⟨r, er, ea⟩ := bind_some' ea
  cases r with
  | ok b =>
    cases ea
    exact h.run σ R H S _ er Q _ takes_no (fun a' e' p o R' H' x np hp hr r => by cases e'; exact q p o R' H' x np hp hr r) fun x e => by cases e
  | ex x => cases ea
end
section
variable {X : Cx} {R0 H0 : Hp} {Γ : List Slot} {e : Expr}
end
theorem kit_own {K : PySem.W.Frag} {D T : Addr} {b : Bool} (h1 : PySem.W.isClsIn K T = true) (h2 : PySem.W.typeIn K (.ref T) = some (.type "type")) (h3 : PySem.W.subIn K (.ref D) (.ref T) = some b) (h4 : PySem.W.subIn K (.ref D) (.ref D) = some true) : PySem.W.kitOne K (.ref D) (.ref T) = some b := by
  have h1 : (PySem.W.clsIn K T).isSome = true := h1
  unfold PySem.W.kitOne PySem.W.kitCls
  by_cases e : D = T
  · subst e
    rw [h4] at h3
    rw [if_pos (beq_self_eq_true _)]
    exact h3
  · rw [if_neg fun z => e (Value.ref.inj (beq_iff_eq.mp z))]
    show (if ((PySem.W.clsIn K T).isSome && PySem.W.typeIn K (.ref T) == some (.type "type")) = true then PySem.W.subIn K (.ref D) (.ref T) else none) = some b
    rw [h1, h2, if_pos (by simp)]
    exact h3
theorem kit_blt {K : PySem.W.Frag} {D : Addr} {T : String} {b : Bool} (h : PySem.W.kitMeta T = true) (h3 : PySem.W.subIn K (.ref D) (.type T) = some b) : PySem.W.kitOne K (.ref D) (.type T) = some b := by
  unfold PySem.W.kitOne PySem.W.kitCls
  rw [if_neg fun z => (by
    have z := beq_iff_eq.mp z
    cases z)]
  show (if PySem.W.kitMeta T = true then PySem.W.subIn K (.ref D) (.type T) else none) = some b
  rw [if_pos h]
  exact h3
theorem exm_own {K : PySem.W.Frag} {D C : Addr} (h1 : PySem.W.subIn K (.ref C) (.type "BaseException") = some true) (h2 : PySem.W.isClsIn K C = true) (h3 : PySem.W.typeIn K (.ref C) = some (.type "type")) (h4 : PySem.W.subIn K (.ref D) (.ref C) = some true) : PySem.W.exmOne K (.ref D) (.ref C) = some true := by
  have h2 : (PySem.W.clsIn K C).isSome = true := h2
  show (if (PySem.W.subIn K (.ref C) (.type "BaseException") == some true) = true then (if ((PySem.W.clsIn K C).isSome && PySem.W.typeIn K (.ref C) == some (.type "type")) = true then PySem.W.subIn K (.ref D) (.ref C) else none) else none) = some true
  rw [h1, h2, h3, if_pos (by simp), if_pos (by simp)]
  exact h4
theorem init_ok {P : Program} {w : World} {K : PySem.W.Frag} {mg : Str → Option Value} {base : Heap} {C fI : Addr} {fd : FuncData} {qual f y : Str} {st : Stmt} {p1 p2 p3 p4 : Pos} (T : OexC K C) (hno : PySem.W.findIn K (.ref C) f = some none) (F : Fun K "__init__" qual st fI fd) (S : FnScope ["self", y] ["self", y] (defScope st))
    (hb : defBody st = [.Assign [.Attribute (.Name "self" p1) f p2] (.Name y p3) p4]) (hv0 : ∀ (A : Addr) (c : Value), Vis (envOfC qual (defScope st) A fI c).scope "self") (hv1 : ∀ (A : Addr) (c : Value), Vis (envOfC qual (defScope st) A fI c).scope y) (hd1 : (y == ("__debug__" : Str)) = false) (hc1 : (y == ("__classdict__" : Str)) = false)
    (hs : ∀ (A : Addr) (c : Value), swapsWith (.Name y p3) (some (.Attribute (.Name "self" p1) f p2)) p4.line (envOfC qual (defScope st) A fI c) = pure false) : FnOk P w K mg base CX0 1 fI fd ["self", y] (spI C f) := by
  refine F.ok S (fun vs H Q E h => ?_) (fun cdv A outer s H vs Q E hr h => ?_)
  · obtain ⟨a, v, rfl, _⟩ := h
    rfl
  · obtain ⟨a, v, rfl, ha, go⟩ := h
    refine ⟨_, by rw [hb]; exact pss_cons (ps_ost (pv 0 rfl (hv0 _ _) (by decide) (by decide)) (pv 1 rfl (hv1 _ _) hd1 hc1) (hs _ _)) pss_nil, ?_⟩
    exact ⟨v, rfl, .ref a, rfl, a, C, rfl, T, hno, .inl ⟨ha, fun dx hdx hne => go dx hdx hne⟩⟩
end FK

namespace FK
open PySem PySem.Spec PyProof.Rows L2
section
variable {X : Cx} {R0 H0 : Hp} {Γ : List Slot} {pos : Pos}
end
end FK

/-! a statement that never falls through; try whose exceptions do not come; join of a tuple of three; isinstance of a tuple of classes; what may raise in a tuple -/
namespace FK
open PySem PySem.Spec PyProof.Rows L2
section
variable {X : Cx} {R0 H0 : Hp} {Γ : List Slot} {e a b o : Expr} {es : List Expr} {rest : List Stmt} {st : Stmt} {pos p : Pos} {β : Type} {out : β → Out}
end
/-! ### isinstance(e, (A, B, ..)) -/
structure Cv where
  a : Addr
instance instPyCv : Py Cv := flatPy fun c => V.ref c.a
def JC (X : Cx) (R0 H0 : Hp) (Γ : List Slot) (es : List Expr) (L : List Str) (tbl : Str → Bool) : Prop := ∃ Cs : List Addr, JLs X R0 H0 Γ es (some (Cs.map Cv.mk)) ∧
  ∀ c ∈ L, ∀ D, PySem.W.nsIn X.K mainGlobals c = some (some (.ref D)) → PySem.W.kitAny X.K (.ref D) (Cs.map Value.ref) = some (tbl c)
def rIsXT (K : PySem.W.Frag) : List V → Hp → VK → Prop := fun xs H Q => ∃ (a C : Addr) (d : Option Addr) (tp : Addr) (Cs : List Addr) (b : Bool), xs = [.ref a, .ref tp] ∧ H a = some (Exv a (.ref C) d) ∧ (d = none ∨ ∃ dd fs, d = some dd ∧ H dd = some (.xd fs)) ∧ XKit K C ∧
  SqT K H tp (Cs.map V.ref) ∧ PySem.W.kitAny K (.ref C) (Cs.map Value.ref) = some b ∧ Q (.bl b) H
section
variable {X : Cx} {R0 H0 : Hp} {Γ : List Slot} {e a b : Expr} {es : List Expr} {rest : List Stmt} {pos p : Pos}
end
/-- try: return .. except X as e: m = e -/
def Rs.fk {α : Type} : Rs α → Fl (Option Xv) α
  | .ok a => .rt a
  | .ex x => .nx (some x)
def outRT {α : Type} [Py α] (Γ : List Slot) : Rs α → Out
  | .ok a => .rt a
  | .ex x => .et Γ x
def outRK {α : Type} [Py α] (Γ1 : Option Xv → List Slot) : Rs α → Out
  | .ok a => .rt a
  | .ex x => .nx (Γ1 (some x))
end FK

/-! try .. except X as n: any suite that goes on; a value of one of two types -/
namespace FK
open PySem PySem.Spec PyProof.Rows L2
/-! ### one of two types -/
inductive Sm (α β : Type) where
  | l (a : α)
  | r (b : β)
instance instPySm {α β : Type} [Py α] [Py β] : Py (Sm α β) where
  rep := fun K R v o => match o with
    | .l a => Py.rep K R v a
    | .r b => Py.rep K R v b
  bor := fun K R H v o => match o with
    | .l a => Py.bor K R H v a
    | .r b => Py.bor K R H v b
  mono := fun {K R R' v a} e h => match a, h with
    | .l _, h => Py.mono e h
    | .r _, h => Py.mono e h
  bmono := fun {K R R' H H' v a} e e2 h => match a, h with
    | .l _, h => Py.bmono e e2 h
    | .r _, h => Py.bmono e e2 h
  lend := fun {K R H v a} e h => match a, h with
    | .l _, h => Py.lend e h
    | .r _, h => Py.lend e h
/-- told unlike: where both are of one type -/
def sNe {α β : Type} [DecidableEq α] [DecidableEq β] : Sm α β → Sm α β → Option Bool
  | .l a, .l b => some (!decide (a = b))
  | .r a, .r b => some (!decide (a = b))
  | _, _ => none
section
variable {X : Cx} {R0 H0 : Hp} {Γ : List Slot} {e a b : Expr} {pos : Pos} {α β : Type} [Py α] [Py β]
end
/-! ### the suite -/
def wHand (X : Cx) (c : Value) (i : Nat) (suite : List Stmt) (D : Ends) : WX := fun cls d σ H => PySem.W.exmOne X.K cls c = some true ∧ ∀ a pn, H a = none →
  sSem (X.suite a pn) suite { nx := fun σ6 H6 => D.nx (σ6.set i none) H6, rt := fun _ _ => False, bk := fun _ _ => False, ct := fun _ _ => False } (σ.set i (some (.ref a))) (upd H a (Exv a cls d))
section
variable {X : Cx} {x n : Str} {c : Value} {i : Nat} {body suite : List Stmt} {b₀ : Stmt} {np pos pos' : Pos} {tb : WX → TS}
end
def tryM {α β γ : Type} (L : List Str) (f : α → β) (g : γ → β) (mb : Option (Rs α)) (mh : Xv → Option γ) : Option β := mb.bind fun r => match r with
  | .ok a => some (f a)
  | .ex x => if x.c ∈ L then (mh x).bind fun c => some (g c) else none
section
variable {X : Cx} {R0 H0 : Hp} {Γ : List Slot} {β : Type} {out : β → Out} {pos : Pos}
end
section
variable {X : Cx} {R0 H0 : Hp} {Γ : List Slot} {e a b : Expr} {pos : Pos} {α β : Type} [Py α] [Py β] [DecidableEq α] [DecidableEq β] [Dq α] [Dc α] [Dq β] [Dc β] {ma mb : Option (Sm α β)}
end
end FK

/-! instances of the program's classes: a weight and a field, never changed once made; their methods -/
namespace FK
open PySem PySem.Spec PyProof.Rows L2
structure Ru where
  c : Str
  w : Int
  f : Str
def fsR (r : Ru) : List (Str × V) := [("weight", .int r.w), ("field", .str r.f)]
theorem fw_ne : (("field" : Str) == ("weight" : Str)) = false := by decide
theorem fsR_f (r : Ru) : (fsR r).lookup ("field" : Str) = some (.str r.f) := by simp [fsR, List.lookup, fw_ne]
def RuAt (K : PySem.W.Frag) (R : Hp) (v : V) (r : Ru) : Prop := ∃ a C dx, v = .ref a ∧ R a = some (.ins C dx (fsR r)) ∧ PySem.W.nsIn K mainGlobals r.c = some (some (.ref C))
instance instPyRu : Py Ru where
  rep := fun K R v r => RuAt K R v r
  bor := fun K R _ v r => RuAt K R v r
  mono := fun e ⟨a, C, dx, h, q, z⟩ => ⟨a, C, dx, h, e _ _ q, z⟩
  bmono := fun e _ ⟨a, C, dx, h, q, z⟩ => ⟨a, C, dx, h, e _ _ q, z⟩
  lend := fun _ h => h
instance : Flat Ru := ⟨fun h => h⟩
instance : Nn Ru := ⟨fun {K R v a} h e => by obtain ⟨p, C, dx, h, _⟩ := h; rw [e] at h; cases h⟩
/-- what a class must say for its instances to be asked -/
structure RuC (K : PySem.W.Frag) (C : Addr) : Prop where
  cl : Cls K C
  nw : NoAttr K C "weight"
  nf : NoAttr K C "field"
  ca : PySem.W.findIn K (.ref C) "__class__" = some (some (.builtin "object.__class__"))
  sp : PySem.W.specialIn K (.builtin "object.__class__") "__get__" = some (some (.builtin "getset_descriptor.__get__"))
  tk : PySem.W.takesIn K (.builtin "object.__class__") = some true
  mo : PySem.W.mroIn K C (.type "object") = some true
def Rus (K : PySem.W.Frag) (L : List Str) : Prop := ∀ c ∈ L, ∃ C, PySem.W.nsIn K mainGlobals c = some (some (.ref C)) ∧ RuC K C
def ruG {α : Type} (L : List Str) (g : Ru → α) (r : Ru) : Option α := if r.c ∈ L then some (g r) else none
theorem ruG_some {α : Type} {L : List Str} {g : Ru → α} {r : Ru} {z : α} (h : ruG L g r = some z) : r.c ∈ L ∧ z = g r := by
  unfold ruG at h
  by_cases hL : r.c ∈ L
  · rw [if_pos hL] at h
    cases h
    exact ⟨hL, rfl⟩
  · rw [if_neg hL] at h
    cases h
section
variable {X : Cx} {R0 H0 : Hp} {Γ : List Slot} {e a b o : Expr} {es : List Expr} {pos p apos : Pos}
theorem je_rut {L : List Str} {m : Option Ru} (T : Rus X.K L) (h : JB X R0 H0 Γ e m) (hb : attributeBase e "field" X.env (eval e X.env) = eval e X.env := by rfl) : JE X R0 H0 Γ (.Attribute e "field" pos) (m.bind (ruG L Ru.f)) := .mk fun σ R H S z ez Q q => by
  obtain ⟨r, er, ez⟩ := bind_some' ez
  obtain ⟨hL, rfl⟩ := ruG_some ez
  obtain ⟨C, hC, k⟩ := T r.c hL
  refine PE_to (pe_fld eS hb) (h σ R H S r er _ fun v R1 H1 x1 r1 => ?_)
  obtain ⟨a, C', dx, rfl, ha, hC'⟩ := r1
  rw [hC] at hC'
  cases hC'
  exact ⟨a, C, dx, _, .str r.f, rfl, x1.i _ _ ha, k.cl, k.nf, fsR_f r, q _ R1 H1 x1 rfl⟩
end
/-! ### methods, told by the class -/
def mDis {γ β : Type} : List (Str × (Ru × γ → Option β)) → Str → Ru × γ → Option β
  | [], _, _ => none
  | (n, f) :: l, c, g => if c = n then f g else mDis l c g
def MthOk (P : Program) (w : World) (K : PySem.W.Frag) (mg : Str → Option Value) (base : Heap) (k : Nat) (m : Str) {γ β : Type} [Ar γ] [Py β] (n : Str) (mm : Ru × γ → Option β) : Prop :=
  ∃ C f fd ps, PySem.W.nsIn K mainGlobals n = some (some (.ref C)) ∧ Cls K C ∧ Meth K C m f ∧ Binds K fd ps [] ∧ FnOk P w K mg base CX0 k f fd ps (spV K mm)
section
variable {X : Cx} {R0 H0 : Hp} {Γ : List Slot} {e a b o : Expr} {es : List Expr} {pos p apos : Pos}
end
/-! ### made -/
def spRI (K : PySem.W.Frag) : Sp := fun vs H Q _ => ∃ a C dx w f, vs = [.ref a, .int w, .str f] ∧ H a = some (.ins C dx []) ∧ RuC K C ∧ Q .non (upd H a (.ins C dx [("weight", .int w), ("field", .str f)]))
def MkOk (P : Program) (w : World) (K : PySem.W.Frag) (mg : Str → Option Value) (base : Heap) (k : Nat) (c : Str) : Prop :=
  ∃ C fI fd ps, mg c = some (.ref C) ∧ PySem.W.nsIn K mainGlobals c = some (some (.ref C)) ∧ RuC K C ∧ Mk K C fI ∧ Binds K fd ps [] ∧ FnOk P w K mg base CX0 k fI fd ps (spRI K)
theorem upd_upd {H : Hp} {p : Addr} {o u : HO} : upd (upd H p o) p u = upd H p u := by
  funext z
  by_cases h : z = p
  · rw [h, upd_same, upd_same]
  · rw [upd_ne h, upd_ne h, upd_ne h]
section
variable {X : Cx} {R0 H0 : Hp} {Γ : List Slot} {e a b o : Expr} {es : List Expr} {pos p apos : Pos}
theorem je_make2 {k : Nat} {c : Str} {ma : Option Int} {mb : Option Str} (T : MkOk X.prog X.w X.K X.mg X.base k c) (hr : Room (k + 1) X.A) (ha : JE X R0 H0 Γ a ma) (hb : JE X R0 H0 Γ b mb) (hg : Gl X c := by rfl) (hdb : (c == ("__debug__" : Str)) = false := by decide)
    (s1 : starEach (a :: [b]) X.env = (false, eval a X.env) :: starEach [b] X.env := by rfl) (s2 : starEach (b :: []) X.env = (false, eval b X.env) :: starEach [] X.env := by rfl) (hpl : (backTo pos (starEach [b] X.env)).any (·.1) = false := by rfl) :
    JE X R0 H0 Γ (.Call (.Name c p) [a, b] [] pos) (ma.bind fun w => mb.bind fun f => some (⟨c, w, f⟩ : Ru)) := .mk fun σ R H S z ez Q q => by
  obtain ⟨w, ew, ez⟩ := bind_some' ez
  obtain ⟨f, ef, ez⟩ := bind_some' ez
  cases ez
  obtain ⟨C, fI, fd, ps, hm, hC, k1, M, hbd, F⟩ := T
  refine PE_to (pe_make M F hr hg hm hbd .nil pass0 (pa_cons eS (pa_cons eS pa_nil s2) s1) hdb s1 hpl) (ha σ R H S w ew _ fun v R1 H1 x1 r1 => hb σ R1 H1 (S.ext x1) f ef _ fun u R2 H2 x2 r2 x dx nx nd ne => ?_)
  have r1 : v = .int w := r1
  have r2 : u = .str f := r2
  subst r1 r2
  refine ⟨x, C, dx, w, f, rfl, upd_same, k1, rfl, ?_⟩
  rw [upd_upd]
  have n2 : upd H2 dx (.own x) x = none := by rw [upd_ne (Ne.symm ne)]; exact nx
  have x3 : Ext R2 H2 R2 (upd H2 dx (.own x)) := .own x2.i nd
  exact q (.ref x) _ _ (((x1.trans x2).trans x3).trans (.new x3.i n2)) ⟨x, C, dx, rfl, upd_same, hC⟩
end
theorem initR_ok {P : Program} {w : World} {K : PySem.W.Frag} {mg : Str → Option Value} {base : Heap} {fI : Addr} {fd : FuncData} {qual : Str} {st : Stmt} {p1 p2 p3 p4 q1 q2 q3 q4 : Pos} (F : Fun K "__init__" qual st fI fd) (S : FnScope ["self", "weight", "field"] ["self", "weight", "field"] (defScope st))
    (hb : defBody st = [.Assign [.Attribute (.Name "self" p1) "weight" p2] (.Name "weight" p3) p4, .Assign [.Attribute (.Name "self" q1) "field" q2] (.Name "field" q3) q4]) (hv0 : ∀ (A : Addr) (c : Value), Vis (envOfC qual (defScope st) A fI c).scope "self") (hv1 : ∀ (A : Addr) (c : Value), Vis (envOfC qual (defScope st) A fI c).scope "weight") (hv2 : ∀ (A : Addr) (c : Value), Vis (envOfC qual (defScope st) A fI c).scope "field")
    (hs : ∀ (A : Addr) (c : Value), swapsWith (.Name "weight" p3) (some (.Attribute (.Name "self" p1) "weight" p2)) p4.line (envOfC qual (defScope st) A fI c) = pure false) (hs2 : ∀ (A : Addr) (c : Value), swapsWith (.Name "field" q3) (some (.Attribute (.Name "self" q1) "field" q2)) q4.line (envOfC qual (defScope st) A fI c) = pure false) : FnOk P w K mg base CX0 1 fI fd ["self", "weight", "field"] (spRI K) := by
  refine F.ok S (fun vs H Q E h => ?_) (fun cdv A outer s H vs Q E hr h => ?_)
  · obtain ⟨a, C, dx, w, f, rfl, _⟩ := h
    rfl
  · obtain ⟨a, C, dx, w, f, rfl, ha, k, go⟩ := h
    refine ⟨_, by rw [hb]; exact pss_cons (ps_fld (pv 0 rfl (hv0 _ _) (by decide) (by decide)) (pv 1 rfl (hv1 _ _) (by decide) (by decide)) (hs _ _)) (pss_cons (ps_fld (pv 0 rfl (hv0 _ _) (by decide) (by decide)) (pv 2 rfl (hv2 _ _) (by decide) (by decide)) (hs2 _ _)) pss_nil), ?_⟩
    refine ⟨.int w, rfl, .ref a, rfl, a, C, dx, [], rfl, ha, k.cl, k.nw, by decide, .str f, rfl, .ref a, rfl, a, C, dx, _, rfl, upd_same, k.cl, k.nf, (by show 1 < 1000; decide), ?_⟩
    rw [upd_upd]
    have e : putF ("field" : Str) (V.str f) (putF ("weight" : Str) (V.int w) []) = [(("weight" : Str), .int w), (("field" : Str), .str f)] := by
      show (if ("weight" : Str) = ("field" : Str) then _ else _) = _
      rw [if_neg (by decide)]
      rfl
    rw [e]
    exact go
end FK

/-! where a token is out: replace of written texts -/
namespace FK
open PySem PySem.Spec PyProof.Rows L2
def eSemT (X : Cx) (e : Expr) : TE := fun σ H Q => ∀ pins s, 1 ≤ s.toks → Inv X pins σ H s → wpAny (model X.prog X.w) X.A (eval e X.env) (EP X pins σ Q) X.xe s
def aSemT (X : Cx) (es : List Expr) : TA := fun σ H Q => ∀ (pos : Pos) pins s, 1 ≤ s.toks → Inv X pins σ H s → wpAny (model X.prog X.w) X.A (spliced (backTo pos (starEach es X.env))) (AP X pins σ Q) X.xe s
def sSemT (X : Cx) (st : List Stmt) : TS := fun D σ H => ∀ pins s, 1 ≤ s.toks → Inv X pins σ H s → wpAny (model X.prog X.w) X.A (execs st X.env) (SP X pins D) X.xe s
def s1SemT (X : Cx) (st : Stmt) : TS := fun D σ H => ∀ pins s, 1 ≤ s.toks → Inv X pins σ H s → wpAny (model X.prog X.w) X.A (exec st X.env) (SP X pins D) X.xe s
section
variable {X : Cx}
end
structure JEt (X : Cx) (R0 H0 : Hp) (Γ : List Slot) (e : Expr) {α : Type} [Py α] (m : Option α) : Prop where
  run : ∀ σ R H, Sat X.K R0 H0 Γ σ R H → ∀ a, m = some a → ∀ Q : VK, (∀ v R' H', Ext R H R' H' → rep X.K R' v a → Q v H') → eSemT X e σ H Q
structure JOt (X : Cx) (R0 H0 : Hp) (Γ : List Slot) (e : Expr) {α : Type} [Ob α] (m : Option α) : Prop where
  run : ∀ σ R H, Sat X.K R0 H0 Γ σ R H → ∀ a, m = some a → ∀ Q : VK, (∀ p o R' H', Ext R H R' H' → H p = none → H' p = some o → R' p = none → ho X.K R' o a → Q (.ref p) H') → eSemT X e σ H Q
structure JLt (X : Cx) (R0 H0 : Hp) (Γ : List Slot) (es : List Expr) {α : Type} [Py α] (m : Option (List α)) : Prop where
  run : ∀ σ R H, Sat X.K R0 H0 Γ σ R H → ∀ xs, m = some xs → ∀ Q : List V → Hp → Prop, (∀ vs R' H', Ext R H R' H' → vs.length = es.length → AllR X.K R' vs xs → Q vs H') → aSemT X es σ H Q
structure J1t (X : Cx) (R0 H0 : Hp) (Γ : List Slot) (st : Stmt) {β : Type} (m : Option β) (out : β → Out) : Prop where
  run : ∀ σ R H, Sat X.K R0 H0 Γ σ R H → ∀ b, m = some b → ∀ D : Ends, Req X R0 H0 R D (out b) → s1SemT X st D σ H
structure JNt (X : Cx) (R0 H0 : Hp) (Γ : List Slot) (st : List Stmt) {β : Type} (m : Option β) (out : β → Out) : Prop where
  run : ∀ σ R H, Sat X.K R0 H0 Γ σ R H → ∀ b, m = some b → ∀ (D : Ends) (n : L2.St → Hp → Prop), Req X R0 H0 R D (out b) → sSemT X st { D with nx := n } σ H
def sRepl (x y z : Str) : Option Str := if x.length + (x.length + 1) * z.length ≤ 16777216 then some (Txt.replace x y z) else none
section
variable {X : Cx} {R0 H0 : Hp} {Γ : List Slot} {e a b o : Expr} {es : List Expr} {rest : List Stmt} {st : Stmt} {pos p apos : Pos} {β : Type} {out : β → Out}
end
end FK

/-! a, b = b, a -/
namespace FK
open PySem PySem.Spec PyProof.Rows L2
section
variable {X : Cx} {R0 H0 : Hp} {Γ : List Slot} {a b : Expr} {pos : Pos}
end
end FK

/-! a def read off a class and called; a class whose __init__ calls the one above -/
namespace FK
open PySem PySem.Spec PyProof.Rows L2 ClX
section
variable {X : Cx} {CX : CXT} {o e : Expr} {es : List Expr} {apos pos : Pos} {C f : Addr} {mc : Value} {m : Str} {fd : FuncData} {ps : List Str} {sp : Sp} {E : XK} {k : Nat} {ta : TE} {t : TA}
def tCfn (C : Addr) (sp : Sp) (E : XK) (ta : TE) (t : TA) : TE := fun σ H Q => ta σ H fun x H1 => x = .ref C ∧ t σ H1 fun vs H2 => sp vs H2 Q E
theorem pe_cfn {pl : Sem Bool} (he : PE X o ta) (r : CRead X.K C mc) (c : CVal X.K C mc m (.ref f) (.ref f)) (hk : PySem.W.keepIn X.K (.ref f) = true) (F : FnOk X.prog X.w X.K X.mg X.base CX k f fd ps sp) (hr : Room k X.A) (hb : Binds X.K fd ps []) (hx : Passes CX X E) (ha : PA X (e :: es) t)
    (hst : starEach (e :: es) X.env = (false, eval e X.env) :: starEach es X.env := by rfl) (hpl : (backTo pos (starEach es X.env)).any (·.1) = false := by rfl)
    (ht : eval (.Call (.Attribute o m apos) (e :: es) [] pos) X.env = (do
      let ov ← eval o X.env
      standAt apos.atName
      let (f, first) ← holding [ov] (getMethod ov m pl)
      callWith pos f first (backTo pos (starEach (e :: es) X.env)) (backToKw pos (keywordEach [] X.env))) := by rfl) :
    PE X (.Call (.Attribute o m apos) (e :: es) [] pos) (tCfn C sp E ta t) := by
  refine ⟨fun pins s σ H Q I h => ?_⟩
  refine PySem.W.methodCall_KW (pl := pl) (thn (he.run pins s σ H _ I h) fun u s1 ⟨x, H1, I1, rx, ex, q⟩ => ?_) ht
  subst ex
  obtain rfl : u = Value.ref C := rx
  refine PySem.W.method_cls I1.kIn r.ga (getcval_ok I1 r c fun s2 I2 => ?_)
  refine PySem.W.callWith_K (first := []) (h₀ := X.base) I.ok.mod.kin hk (thn (ha.run pos pins s2 σ H1 _ I2 q) fun us s3 ⟨vs, H2, I3, rv, q2⟩ => ⟨I3.kIn, ?_⟩) hst hpl
  exact run_fn F hr hb .nil hx I3 rv (by rw [List.append_nil]; exact q2)
end
def RIn (P : Program) (w : World) (K : PySem.W.Frag) (mg : Str → Option Value) (base : Heap) : Prop :=
  ∃ C0 mc fR fdR, mg "Rule" = some (.ref C0) ∧ CRead K C0 mc ∧ CVal K C0 mc "__init__" (.ref fR) (.ref fR) ∧ PySem.W.keepIn K (.ref fR) = true ∧ Binds K fdR ["self", "weight", "field"] [] ∧ FnOk P w K mg base CX0 1 fR fdR ["self", "weight", "field"] (spRI K)
def spF1 (K : PySem.W.Frag) : Sp := fun vs H Q _ => ∃ a C dx w, vs = [.ref a, .int w] ∧ H a = some (.ins C dx []) ∧ RuC K C ∧ Q .non (upd H a (.ins C dx [("weight", .int w), ("field", .str "name")]))
def MkOk1 (P : Program) (w : World) (K : PySem.W.Frag) (mg : Str → Option Value) (base : Heap) (k : Nat) (c : Str) : Prop :=
  ∃ C fI fd ps, mg c = some (.ref C) ∧ PySem.W.nsIn K mainGlobals c = some (some (.ref C)) ∧ RuC K C ∧ Mk K C fI ∧ Binds K fd ps [] ∧ FnOk P w K mg base CX0 k fI fd ps (spF1 K)
section
variable {X : Cx} {R0 H0 : Hp} {Γ : List Slot} {e a b o : Expr} {es : List Expr} {pos p apos : Pos}
theorem je_make1 {k : Nat} {c : Str} {ma : Option Int} (T : MkOk1 X.prog X.w X.K X.mg X.base k c) (hr : Room (k + 1) X.A) (ha : JE X R0 H0 Γ a ma) (hg : Gl X c := by rfl) (hdb : (c == ("__debug__" : Str)) = false := by decide)
    (s2 : starEach (a :: []) X.env = (false, eval a X.env) :: starEach [] X.env := by rfl) (hpl : (backTo pos (starEach [] X.env)).any (·.1) = false := by rfl) :
    JE X R0 H0 Γ (.Call (.Name c p) [a] [] pos) (ma.bind fun w => some (⟨c, w, "name"⟩ : Ru)) := .mk fun σ R H S z ez Q q => by
  obtain ⟨w, ew, ez⟩ := bind_some' ez
  cases ez
  obtain ⟨C, fI, fd, ps, hm, hC, k1, M, hbd, F⟩ := T
  refine PE_to (pe_make M F hr hg hm hbd .nil pass0 (pa_cons eS pa_nil s2) hdb s2 hpl) (ha σ R H S w ew _ fun v R1 H1 x1 r1 x dx nx nd ne => ?_)
  have r1 : v = .int w := r1
  subst r1
  refine ⟨x, C, dx, w, rfl, upd_same, k1, rfl, ?_⟩
  rw [upd_upd]
  have n2 : upd H1 dx (.own x) x = none := by rw [upd_ne (Ne.symm ne)]; exact nx
  have x3 : Ext R1 H1 R1 (upd H1 dx (.own x)) := .own x1.i nd
  exact q (.ref x) _ _ ((x1.trans x3).trans (.new x3.i n2)) ⟨x, C, dx, rfl, upd_same, hC⟩
end
end FK

/-! str(n), int(text), l.insert(i, x), l * n, l.pop(i) -/
namespace FK
open PySem PySem.Spec PyProof.Rows L2
section
variable {X : Cx} {R0 H0 : Hp} {Γ : List Slot} {e f a b : Expr} {pos p : Pos}
def iStr (n : Int) : Option Str := if n.natAbs.log2 < 1920 then some (toString n : String) else none
theorem je_stri {m : Option Int} (hm : X.mg "str" = none) (h : JB X R0 H0 Γ a m) (hg : Gl X "str" := by rfl) (hs : starEach (a :: []) X.env = (false, eval a X.env) :: starEach [] X.env := by rfl) (hpl : (backTo pos (starEach ([] : List Expr) X.env)).any (·.1) = false := by rfl) :
    JE X R0 H0 Γ (.Call (.Name "str" p) [a] [] pos) (m.bind fun x => iStr x) := .mk fun σ R H S z ez Q q => by
  obtain ⟨x, ex, ez⟩ := bind_some' ez
  unfold iStr at ez
  by_cases hz : x.natAbs.log2 < 1920
  · rw [if_pos hz] at ez
    cases ez
    refine PE_to (pe_callTy call_str_int hg hm (by decide +kernel) (pa_cons eS pa_nil hs) (he := hs) (hpl := hpl)) (h σ R H S x ex _ fun v R1 H1 x1 r1 => ?_)
    have r1 : v = .int x := r1
    exact ⟨x, by rw [r1], hz, q _ R1 H1 x1 rfl⟩
  · rw [if_neg hz] at ez
    cases ez
theorem je_stri_t {x : Int} (hm : X.mg "str" = none) (h : JB X R0 H0 Γ a (some x)) (hg : Gl X "str" := by rfl) (hs : starEach (a :: []) X.env = (false, eval a X.env) :: starEach [] X.env := by rfl) (hpl : (backTo pos (starEach ([] : List Expr) X.env)).any (·.1) = false := by rfl) :
    JE X R0 H0 Γ (.Call (.Name "str" p) [a] [] pos) (iStr x) := je_stri hm h hg hs hpl
def sInt (s : Str) : Option Int := if s.length ≤ 640 then PySem.intText? s else none
theorem je_ints {m : Option Str} (hm : X.mg "int" = none) (h : JB X R0 H0 Γ a m) (hg : Gl X "int" := by rfl) (hs : starEach (a :: []) X.env = (false, eval a X.env) :: starEach [] X.env := by rfl) (hpl : (backTo pos (starEach ([] : List Expr) X.env)).any (·.1) = false := by rfl) :
    JE X R0 H0 Γ (.Call (.Name "int" p) [a] [] pos) (m.bind fun x => sInt x) := .mk fun σ R H S z ez Q q => by
  obtain ⟨x, ex, ez⟩ := bind_some' ez
  unfold sInt at ez
  by_cases hz : x.length ≤ 640
  · rw [if_pos hz] at ez
    refine PE_to (pe_callTy call_int_str hg hm (by decide +kernel) (pa_cons eS pa_nil hs) (he := hs) (hpl := hpl)) (h σ R H S x ex _ fun v R1 H1 x1 r1 => ?_)
    have r1 : v = .str x := r1
    exact ⟨x, z, by rw [r1], ez, hz, q _ R1 H1 x1 rfl⟩
  · rw [if_neg hz] at ez
    cases ez
theorem je_ints_t {x : Str} (hm : X.mg "int" = none) (h : JB X R0 H0 Γ a (some x)) (hg : Gl X "int" := by rfl) (hs : starEach (a :: []) X.env = (false, eval a X.env) :: starEach [] X.env := by rfl) (hpl : (backTo pos (starEach ([] : List Expr) X.env)).any (·.1) = false := by rfl) :
    JE X R0 H0 Γ (.Call (.Name "int" p) [a] [] pos) (sInt x) := je_ints hm h hg hs hpl
def lIns {α : Type} (xs : List α) (i : Int) (x : α) : Option (List α) := if xs.length < 16000000 ∧ 0 ≤ i ∧ i < 2 ^ 62 then some (xs.take i.toNat ++ [x] ++ xs.drop i.toNat) else none
def lMul {α : Type} (xs : List α) (n : Int) : Option (List α) := if -(2 ^ 62) < n ∧ n < 2 ^ 62 ∧ xs.length * n.toNat ≤ 16000000 then some (List.replicate n.toNat xs).flatten else none
end
end FK

/-! max(l, default=d) of ints, min(l) of data -/
namespace FK
open PySem PySem.Spec PyProof.Rows L2
def lMaxD (xs : List Int) (d : Int) : Int := match xs with
  | [] => d
  | y :: ys => PySem.W.maxOf y ys
def lMin {α : Type} [DecidableEq α] [PySem.W.DatumOrd α] : List α → Option α
  | [] => none
  | y :: ys => some (PySem.W.minOf y ys)
section
variable {α : Type} [Py α] [DecidableEq α] [PySem.W.DatumOrd α] [Dh α] [Dso α] {X : Cx} {R0 H0 : Hp} {Γ : List Slot} {e a : Expr} {pos p : Pos}
def rMinL (X : Cx) (α : Type) [Py α] [DecidableEq α] [PySem.W.DatumOrd α] : List V → Hp → VK → Prop := fun ws H Q => ∃ (R : Hp) (l : V) (as : List α) (a : α), ws = [l] ∧ Ex R H ∧ bor X.K R H l as ∧ lMin as = some a ∧ ∀ v, rep X.K R v a → Q v H
end
section
variable {X : Cx} {R0 H0 : Hp} {Γ : List Slot} {e a b : Expr} {pos p : Pos}
def rMaxD (X : Cx) : List V → List V → Hp → VK → Prop := fun ws zs H Q => ∃ (R : Hp) (l : V) (as : List Int) (d : Int), ws = [l] ∧ zs = [.int d] ∧ Ex R H ∧ bor X.K R H l as ∧ Q (.int (lMaxD as d)) H
end
end FK

/-! d.setdefault(k, v) alone, d one's own -/
namespace FK
open PySem PySem.Spec PyProof.Rows L2
section
variable {X : Cx}
def rSetdT : V → List V → Hp → VK → Prop := fun x xs H Q => ∃ (a : Addr) (kvs : List (List L2.Key × V)) (k : List L2.Key) (b : Addr) (z : V), x = .ref a ∧ xs = [.ref b, z] ∧ H a = some (.dT kvs) ∧ H b = some (.tup (k.map kV)) ∧ kvs.length < sizeLine ∧
  (∀ v, valV kvs k = some v → Q v H) ∧ (valV kvs k = none → Q z (upd H a (.dT (putK kvs k z))))
end
/-- setdefault -/
def dSd {κ α : Type} [DecidableEq κ] (d : Dct κ α) (k : κ) (a : α) : Option (Dct κ α) := if d.l.length < 16000000 then some (if dHas d.l k then d else ⟨dPut d.l k a⟩) else none
section
variable {κ α : Type} [Py κ] [DecidableEq κ] [Kt κ] [Py α] {X : Cx} {R0 H0 : Hp} {Γ : List Slot} {e a b : Expr} {pos : Pos} {d : Dct κ α}
end
section
variable {κ α : Type} [Py κ] [DecidableEq κ] [Kt κ] [Py α] {X : Cx} {R0 H0 : Hp} {Γ : List Slot} {a : Expr} {pos p : Pos} {mo : Option (Dct κ α)} {d : Dct κ α}
end
end FK

/-! l.count(n); l.index(x), x any data that is there -/
namespace FK
open PySem PySem.Spec PyProof.Rows L2
section
variable {X : Cx} {R0 H0 : Hp} {Γ : List Slot} {e o : Expr} {pos apos : Pos}
end
section
variable {α : Type} [Py α] [DecidableEq α] [Dq α] {X : Cx} {R0 H0 : Hp} {Γ : List Slot} {e o : Expr} {pos apos : Pos}
def lIdxQ (l : List α) (x : α) : Option Int := if l.length ≤ 16000000 then lIdx l x else none
def rIndexQ (X : Cx) (α : Type) [Py α] [DecidableEq α] : V → List V → Hp → VK → Prop := fun x xs H Q => ∃ (p : Addr) (vs : List V) (l : List α) (w : V) (y : α), x = .ref p ∧ xs = [w] ∧ SqL X.K H p vs ∧ AllR X.K H vs l ∧ rep X.K H w y ∧ y ∈ l ∧ l.length ≤ 16000000 ∧ Q (.int (l.idxOf y : Nat)) H
end
end FK

/-! sets of texts, of numbers -/
namespace FK
open PySem PySem.Spec PyProof.Rows L2
open PySem.W (EachIs)
class Sk (κ : Type) [DecidableEq κ] where
  kd : (P : Program) → (w : World) → PySem.KeyKind P w κ
  val : κ → Tok → Value
  at_ : ∀ P w k t, (kd P w).is k (val k t) = true
  scn : ∀ k t, (val k t).scannable = true
instance instSkStr : Sk Str := ⟨PySem.strKind, Value.str, fun P w k t => by
  show Value.isStrOf k (.str k t) = true
  simp [Value.isStrOf], fun _ _ => rfl⟩
instance instSkInt : Sk Int := ⟨PySem.intKind, Value.int, fun P w k t => PySem.intKind_is P w k t, fun _ _ => rfl⟩
section
variable {κ : Type} [DecidableEq κ] [Sk κ] {P : Program} {w : World}
abbrev rwS (P : Program) (w : World) (p : κ × Tok) : Int × Value := ((Sk.kd P w).hash p.1, Sk.val p.1 p.2)
abbrev vlS (p : κ × Tok) : Value := Sk.val p.1 p.2
structure SetS (P : Program) (w : World) (h : Heap) (c : Addr) (M : List (κ × Tok)) (xs : Array (Int × Value)) (n : Nat) (tb : SetTable) : Prop where
  obj : ∃ o, h.get? c = some o ∧ o.ExactSet ∧ o.data = .set xs n tb
  row : xs.toList = M.map (rwS P w)
  nd : (M.map (·.1)).Nodup
  few : xs.size < scanBound
  fit : tb.fits xs.size = true
  ris : Ris tb.place.toList
  led : w.params.followText "set-order" = true ∨ tb.led = true
variable {A : Around} {E : Value → Shared → Prop} {s : Shared} {c : Addr} {M : List (κ × Tok)} {xs : Array (Int × Value)} {n : Nat} {tb : SetTable}
theorem SetS.keep {h g : Heap} (T : SetS P w h c M xs n tb) (e : ∀ o, h.get? c = some o → g.get? c = some o) : SetS P w g c M xs n tb := by
  obtain ⟨o, a1, a2⟩ := T.obj
  exact ⟨⟨o, e o a1, a2⟩, T.row, T.nd, T.few, T.fit, T.ris, T.led⟩
structure HadS (ks : List (κ × Tok)) (i : Nat) (M : List (κ × Tok)) : Prop where
  sub : ∀ p ∈ M, p ∈ ks.take i
  all : ∀ p ∈ ks.take i, p.1 ∈ M.map (·.1)
theorem HadS.zero (ks : List (κ × Tok)) : HadS ks 0 [] := ⟨fun _ z => (by cases z), fun _ z => (by simp at z)⟩
theorem HadS.old {ks M : List (κ × Tok)} {i : Nat} {x : κ × Tok} (g : HadS ks i M) (e : ks[i]? = some x) (hm : x.1 ∈ M.map (·.1)) : HadS ks (i + 1) M := by
  constructor
  · intro p hp
    rw [take_one e]
    exact List.mem_append.mpr (.inl (g.sub p hp))
  · intro p hp
    rw [take_one e] at hp
    rcases List.mem_append.mp hp with z | z
    · exact g.all p z
    · cases List.mem_singleton.mp z
      exact hm
theorem HadS.new {ks M N : List (κ × Tok)} {i : Nat} {x : κ × Tok} (g : HadS ks i M) (e : ks[i]? = some x) (pm : N.Perm (x :: M)) : HadS ks (i + 1) N := by
  constructor
  · intro p hp
    rw [take_one e]
    rcases List.mem_cons.mp (pm.mem_iff.mp hp) with z | z
    · exact List.mem_append.mpr (.inr (List.mem_singleton.mpr z))
    · exact List.mem_append.mpr (.inl (g.sub p z))
  · intro p hp
    rw [(pm.map (·.1)).mem_iff, List.map_cons]
    rw [take_one e] at hp
    rcases List.mem_append.mp hp with z | z
    · exact List.mem_cons.mpr (.inr (g.all p z))
    · cases List.mem_singleton.mp z
      exact List.mem_cons_self
theorem HadS.len {ks M : List (κ × Tok)} {i : Nat} (g : HadS ks i M) (nd : (M.map (·.1)).Nodup) : M.length ≤ ks.length := by
  have := nodup_le (M.map (·.1)) (ks.map (·.1)) nd fun k hk => by
    obtain ⟨p, hp, rfl⟩ := List.mem_map.mp hk
    exact List.mem_map.mpr ⟨p, List.mem_of_mem_take (g.sub p hp), rfl⟩
  rw [List.length_map, List.length_map] at this
  exact this
end
/-- texts, numbers as values -/
class Sv (α : Type) [DecidableEq α] [Py α] extends Sk α where
  un : ∀ {K : PySem.W.Frag} {R : Hp} {v : V} {u : Value} {a : α}, RelV v u → rep K R v a → ∃ t, u = val a t
instance instSvStr : Sv Str := ⟨fun {K R v u a} r h => by
  cases (show v = V.str a from h)
  obtain ⟨t, rfl⟩ := r
  exact ⟨t, rfl⟩⟩
instance instSvInt : Sv Int := ⟨fun {K R v u a} r h => by
  cases (show v = V.int a from h)
  obtain ⟨t, rfl⟩ := r
  exact ⟨t, rfl⟩⟩
section
variable {X : Cx} {R0 H0 : Hp} {Γ : List Slot} {a : Expr} {pos : Pos} {α : Type} [Py α] [DecidableEq α] [PySem.W.DatumOrd α] [Dh α] [Dso α] [Lo α] [Sv α]
def tdyS (l : List α) : Option (List α) := if l.length ≤ 4000 then some (srt (dd l)) else none
/-- len(set(xs)) -/
def lenS (l : List α) : Option Int := if l.length ≤ 4000 then some ((dd l).length : Int) else none
end
end FK

/-! lists told that the caller may change: they stand where nothing stood -/
namespace FK
open PySem PySem.Spec PyProof.Rows L2
def Nw (H : Hp) (p : Addr) : Prop := H p = none
structure Nl (N : Addr → Prop) (α : Type) where
  l : List α
instance instPyFl {N : Addr → Prop} {α : Type} [Py α] : Py (Nl N α) where
  rep := fun K R v a => ∃ p vs, v = .ref p ∧ N p ∧ R p = some (.lst vs) ∧ AllR K R vs a.l
  bor := fun K R _ v a => ∃ p vs, v = .ref p ∧ N p ∧ R p = some (.lst vs) ∧ AllR K R vs a.l
  mono := fun e ⟨p, vs, h, n, r, q⟩ => ⟨p, vs, h, n, e _ _ r, q.mono e⟩
  bmono := fun e _ ⟨p, vs, h, n, r, q⟩ => ⟨p, vs, h, n, e _ _ r, q.mono e⟩
  lend := fun _ h => h
theorem fl_list {N : Addr → Prop} {α : Type} [Py α] {K : PySem.W.Frag} {R : Hp} {v : V} {a : Nl N α} (h : rep K R v a) : rep K R v a.l := by
  obtain ⟨p, vs, e, _, r, q⟩ := h
  exact ⟨p, _, e, .inl r, vs, rfl, q⟩
theorem fl_weak {N N' : Addr → Prop} {α : Type} [Py α] {K : PySem.W.Frag} {R : Hp} {v : V} {l : List α} (w : ∀ p, N p → N' p) (h : rep K R v (⟨l⟩ : Nl N α)) : rep K R v (⟨l⟩ : Nl N' α) := by
  obtain ⟨p, vs, e, n, r, q⟩ := h
  exact ⟨p, vs, e, w p n, r, q⟩
section
variable {X : Cx} {R0 H0 : Hp} {Γ : List Slot} {e a b : Expr} {es : List Expr} {st : Stmt} {rest : List Stmt} {pos p : Pos} {γ β : Type} [Ar γ]
end
section
variable {X : Cx} {R0 H0 : Hp} {Γ : List Slot} {e a b : Expr} {es : List Expr} {st : Stmt} {rest : List Stmt} {pos p : Pos} {γ β : Type} [Ar γ]
/-! ### a def that tells new lists -/
def spXF {β : Type} {β' : (Addr → Prop) → Type} [∀ N, Py (β' N)] (K : PySem.W.Frag) (up : ∀ N, β → β' N) (m : γ → Option (Rs β)) : Sp := fun vs H Q E => ∃ R g r, Ex R H ∧ Ar.ok K R H vs g ∧ m g = some r ∧ (∀ a, r = .ok a → ∀ v R' H', Ext R H R' H' → rep K R' v (up (Nw H) a) → Q v H') ∧
  ∀ x, r = .ex x → ∀ cls d R' H', Ext R H R' H' → XOk K R' cls d x → E cls d H'
def outRF {β : Type} {β' : (Addr → Prop) → Type} [∀ N, Py (β' N)] (up : ∀ N, β → β' N) (H : Hp) : Rs β → Out
  | .ok a => .rt (up (Nw H) a)
  | .ex x => .ex x
/-- what it tells holds, as of now -/
def Wk {β : Type} {β' : (Addr → Prop) → Type} [∀ N, Py (β' N)] (up : ∀ N, β → β' N) : Prop := ∀ {K : PySem.W.Frag} {R : Hp} {v : V} {a : β} {N N' : Addr → Prop}, (∀ p, N p → N' p) → rep K R v (up N a) → rep K R v (up N' a)
def rmapF {β δ : Type} (f : β → δ) : Rs β → Rs δ
  | .ok a => .ok (f a)
  | .ex x => .ex x
/-! ### the rest of a def, over what stands now -/
/-- slots over what stands now -/
inductive Now : List Slot → List Slot → Prop
  | nil : Now [] []
  | any {s : Slot} {Γ Γ' : List Slot} : Now Γ Γ' → Now (s :: Γ) (.any :: Γ')
  | v {α : Type} [Py α] {a : α} {Γ Γ' : List Slot} : Now Γ Γ' → Now (.v a :: Γ) (.b (⟨a⟩ : Fz α) :: Γ')
  | b {α : Type} [Py α] {a : α} {Γ Γ' : List Slot} : Now Γ Γ' → Now (.b a :: Γ) (.b a :: Γ')
theorem Now.slots {K : PySem.W.Frag} {R0 H0 R H : Hp} (e0 : Ext R0 H0 R H) {Γ Γ' : List Slot} (n : Now Γ Γ') : ∀ {σ : L2.St} {os : List Addr}, SlotsOk K R0 H0 R H Γ σ os → SlotsOk K R H R H Γ' σ [] := by
  induction n with
  | nil =>
    intro σ os h
    cases σ with
    | nil => exact rfl
    | cons _ _ => exact h.elim
  | any n ih =>
    intro σ os h
    cases σ with
    | nil => exact h.elim
    | cons x σ =>
      obtain ⟨o1, o2, e, h1, h2⟩ := h
      exact ⟨[], [], rfl, rfl, ih h2⟩
  | v n ih =>
    intro σ os h
    cases σ with
    | nil => exact h.elim
    | cons x σ =>
      obtain ⟨o1, o2, e, ⟨_, v, hx, hv⟩, h2⟩ := h
      exact ⟨[], [], rfl, ⟨rfl, v, hx, hv⟩, ih h2⟩
  | b n ih =>
    intro σ os h
    cases σ with
    | nil => exact h.elim
    | cons x σ =>
      obtain ⟨o1, o2, e, ⟨_, v, hx, hv⟩, h2⟩ := h
      exact ⟨[], [], rfl, ⟨rfl, v, hx, Py.bmono e0.r e0.h hv⟩, ih h2⟩
theorem Now.sat {K : PySem.W.Frag} {R0 H0 R H : Hp} {Γ Γ' : List Slot} {σ : L2.St} (n : Now Γ Γ') (S : Sat K R0 H0 Γ σ R H) : Sat K R H Γ' σ R H := by
  obtain ⟨⟨os, s, nd, fr⟩, e0⟩ := S
  exact ⟨⟨[], n.slots e0 s, List.nodup_nil, fun p hp => (List.not_mem_nil hp).elim⟩, .refl e0.i⟩
inductive IsRt : Out → Prop
  | mk {α : Type} [Py α] (a : α) : IsRt (.rt a)
/-! ### one of them is changed -/
class Scl (α : Type) [Py α] : Prop where
  sc : ∀ {K : PySem.W.Frag} {R R' : Hp} {v : V} {a : α}, rep K R v a → rep K R' v a
instance : Scl Int := ⟨fun h => h⟩
instance : Scl Str := ⟨fun h => h⟩
instance : Scl Bool := ⟨fun h => h⟩
theorem AllR.scl {α : Type} [Py α] [Scl α] {K : PySem.W.Frag} {R R' : Hp} : ∀ {vs : List V} {as : List α}, AllR K R vs as → AllR K R' vs as
  | _, _, .nil => .nil
  | _, _, .cons h t => .cons (Scl.sc h) t.scl
/-- what stays when a new list is changed -/
inductive Lv : List Slot → List Slot → Prop
  | nil : Lv [] []
  | any {s : Slot} {Γ Γ' : List Slot} : Lv Γ Γ' → Lv (s :: Γ) (.any :: Γ')
  | b {α : Type} [Py α] {a : α} {Γ Γ' : List Slot} : Lv Γ Γ' → Lv (.b a :: Γ) (.b a :: Γ')
  | v {α : Type} [Py α] [Scl α] {a : α} {Γ Γ' : List Slot} : Lv Γ Γ' → Lv (.v a :: Γ) (.v a :: Γ')
  | o {α : Type} [Py α] [Scl α] {a : List α} {Γ Γ' : List Slot} : Lv Γ Γ' → Lv (.own a :: Γ) (.own a :: Γ')
def cut1 (R : Hp) (p : Addr) : Hp := fun a => if a = p then none else R a
theorem Lv.slots {K : PySem.W.Frag} {R0 H0 R H : Hp} {p : Addr} {u : HO} {Γ Γ' : List Slot} (n : Lv Γ Γ') : ∀ {σ : L2.St} {os : List Addr}, SlotsOk K R0 H0 R H Γ σ os → (∀ a ∈ os, a ≠ p) → ∃ os', os'.Sublist os ∧ SlotsOk K R0 H0 (cut1 R p) (upd H p u) Γ' σ os' := by
  induction n with
  | nil =>
    intro σ os h hp
    cases σ with
    | nil => exact ⟨os, .refl _, h⟩
    | cons _ _ => exact h.elim
  | any n ih =>
    intro σ os h hp
    cases σ with
    | nil => exact h.elim
    | cons x σ =>
      obtain ⟨o1, o2, e, h1, h2⟩ := h
      subst e
      obtain ⟨os', sl, k⟩ := ih h2 fun a ha => hp a (List.mem_append_right _ ha)
      exact ⟨os', sl.trans (List.sublist_append_right _ _), [], os', rfl, rfl, k⟩
  | b n ih =>
    intro σ os h hp
    cases σ with
    | nil => exact h.elim
    | cons x σ =>
      obtain ⟨o1, o2, e, h1, h2⟩ := h
      subst e
      obtain ⟨os', sl, k⟩ := ih h2 fun a ha => hp a (List.mem_append_right _ ha)
      exact ⟨os', sl.trans (List.sublist_append_right _ _), [], os', rfl, ⟨rfl, h1.2⟩, k⟩
  | v n ih =>
    intro σ os h hp
    cases σ with
    | nil => exact h.elim
    | cons x σ =>
      obtain ⟨o1, o2, e, ⟨_, v, hx, hv⟩, h2⟩ := h
      subst e
      obtain ⟨os', sl, k⟩ := ih h2 fun a ha => hp a (List.mem_append_right _ ha)
      exact ⟨os', sl.trans (List.sublist_append_right _ _), [], os', rfl, ⟨rfl, v, hx, Scl.sc hv⟩, k⟩
  | o n ih =>
    intro σ os h hp
    cases σ with
    | nil => exact h.elim
    | cons x σ =>
      obtain ⟨o1, o2, e, ⟨p1, o, e1, hx, hh, ⟨vs, eo, hv⟩⟩, h2⟩ := h
      subst e
      obtain ⟨os', sl, k⟩ := ih h2 fun a ha => hp a (List.mem_append_right _ ha)
      refine ⟨o1 ++ os', (List.Sublist.refl _).append sl, o1, os', rfl, ⟨p1, o, e1, hx, ?_, vs, eo, hv.scl⟩, k⟩
      rw [upd_ne (hp p1 (List.mem_append_left _ (by rw [e1]; exact List.mem_singleton.mpr rfl)))]
      exact hh
theorem Lv.sat {K : PySem.W.Frag} {R0 H0 R H : Hp} {Γ Γ' : List Slot} {σ : L2.St} {p : Addr} {o u : HO} (n : Lv Γ Γ') (S : Sat K R0 H0 Γ σ R H) (i0 : Ex R0 H0) (hn : H0 p = none) (hp : R p = some o) : Sat K R0 H0 Γ' σ (cut1 R p) (upd H p u) := by
  obtain ⟨⟨os, s, nd, fr⟩, e0⟩ := S
  obtain ⟨os', sl, k⟩ := n.slots (p := p) (u := u) s fun a ha c => by
    rw [← c, (fr a ha).1] at hp
    cases hp
  refine ⟨⟨os', k, nd.sublist sl, fun a ha => ?_⟩, ⟨fun a v ha => ?_, fun a v ha => ?_, fun a v ha => ?_, fun a v t ha hr => ?_⟩⟩
  · obtain ⟨f1, f2⟩ := fr a (sl.mem ha)
    refine ⟨?_, f2⟩
    unfold cut1
    split
    · rfl
    · exact f1
  · have c : a ≠ p := fun c => by
      subst c
      rw [i0 a v ha] at hn
      cases hn
    unfold cut1
    rw [if_neg c]
    exact e0.r a v ha
  · have c : a ≠ p := fun c => by rw [c, hn] at ha; cases ha
    rw [upd_ne c]
    exact e0.h a v ha
  · unfold cut1 at ha
    split at ha
    · cases ha
    · rename_i c
      rw [upd_ne c]
      exact e0.i a v ha
  · unfold cut1
    split
    · rfl
    · exact e0.n a v t ha hr
abbrev upIL : ∀ N : Addr → Prop, Int × List Int → Int × Nl N Int := fun _ a => (a.1, ⟨a.2⟩)
end
end FK

/-! lists of tuples of unlike lengths, read as lists of rows of numbers -/
namespace FK
open PySem PySem.Spec PyProof.Rows L2
def tlOf2 {α : Type} (x : α × α) : Tl α := ⟨[x.1, x.2]⟩
def tlOf3 {α : Type} (x : T3 α α α) : Tl α := ⟨[x.a, x.b, x.c]⟩
section
variable {X : Cx} {R0 H0 : Hp} {Γ : List Slot} {e a b : Expr} {es : List Expr} {st : Stmt} {rest : List Stmt} {pos p : Pos}
end
end FK

/-! new lists are emptied: what follows may count only on what stood at the start -/
namespace FK
open PySem PySem.Spec PyProof.Rows L2
/-- statements that change new lists: what follows is asked over the base alone -/
structure JSA (X : Cx) (R0 H0 : Hp) (Γ : List Slot) (st : List Stmt) {β : Type} (m : Option β) (out : β → Out) : Prop where
  run : ∀ σ R H, Sat X.K R0 H0 Γ σ R H → ∀ b, m = some b → ∀ D : Ends, Req X R0 H0 R0 D (out b) → sSem X st D σ H
/-- a list at a new place, whatever stands in it -/
structure Lx (N : Addr → Prop) where
instance instPyLx {N : Addr → Prop} : Py (Lx N) where
  rep := fun K R v _ => ∃ p vs, v = .ref p ∧ N p ∧ R p = some (.lst vs)
  bor := fun K R _ v _ => ∃ p vs, v = .ref p ∧ N p ∧ R p = some (.lst vs)
  mono := fun e ⟨p, vs, h, n, r⟩ => ⟨p, vs, h, n, e _ _ r⟩
  bmono := fun e _ ⟨p, vs, h, n, r⟩ => ⟨p, vs, h, n, e _ _ r⟩
  lend := fun _ h => h
/-- what still holds when a list is emptied -/
class Clr (α : Type) [Py α] : Prop where
  cl : ∀ {K : PySem.W.Frag} {R : Hp} {v : V} {a : α} {p : Addr} {ws : List V}, R p = some (.lst ws) → rep K R v a → rep K (upd R p (.lst [])) v a
instance {α : Type} [Py α] [Scl α] : Clr α := ⟨fun _ h => Scl.sc h⟩
theorem tup_upd {R : Hp} {p q : Addr} {ws vs us : List V} (h : R p = some (.lst ws)) (g : R q = some (.tup vs)) : upd R p (.lst us) q = some (.tup vs) := by
  have c : q ≠ p := fun c => by
    rw [c, h] at g
    cases g
  rw [upd_ne c]
  exact g
instance {α β : Type} [Py α] [Py β] [Clr α] [Clr β] : Clr (α × β) := ⟨fun hp ⟨p, vs, e, r, x, y, e2, h1, h2⟩ => ⟨p, vs, e, tup_upd hp r, x, y, e2, Clr.cl hp h1, Clr.cl hp h2⟩⟩
instance {α β γ : Type} [Py α] [Py β] [Py γ] [Clr α] [Clr β] [Clr γ] : Clr (T3 α β γ) := ⟨fun hp ⟨p, vs, e, r, x, y, z, e2, h1, h2, h3⟩ => ⟨p, vs, e, tup_upd hp r, x, y, z, e2, Clr.cl hp h1, Clr.cl hp h2, Clr.cl hp h3⟩⟩
instance {N : Addr → Prop} : Clr (Lx N) := ⟨fun {K R v a p ws} hp ⟨q, vs, e, n, r⟩ => by
  by_cases c : q = p
  · exact ⟨q, [], e, n, by rw [c, upd_same]⟩
  · exact ⟨q, vs, e, n, by rw [upd_ne c]; exact r⟩⟩
theorem AllR.clr {α : Type} [Py α] [Clr α] {K : PySem.W.Frag} {R : Hp} {p : Addr} {ws : List V} (hp : R p = some (.lst ws)) : ∀ {vs : List V} {as : List α}, AllR K R vs as → AllR K (upd R p (.lst [])) vs as
  | _, _, .nil => .nil
  | _, _, .cons h t => .cons (Clr.cl hp h) (t.clr hp)
/-- the slots that stay -/
inductive Lc : List Slot → List Slot → Prop
  | nil : Lc [] []
  | any {s : Slot} {Γ Γ' : List Slot} : Lc Γ Γ' → Lc (s :: Γ) (.any :: Γ')
  | b {α : Type} [Py α] {a : α} {Γ Γ' : List Slot} : Lc Γ Γ' → Lc (.b a :: Γ) (.b a :: Γ')
  | v {α : Type} [Py α] [Clr α] {a : α} {Γ Γ' : List Slot} : Lc Γ Γ' → Lc (.v a :: Γ) (.v a :: Γ')
  | o {α : Type} [Py α] [Clr α] {a : List α} {Γ Γ' : List Slot} : Lc Γ Γ' → Lc (.own a :: Γ) (.own a :: Γ')
theorem Lc.slots {K : PySem.W.Frag} {R0 H0 R H : Hp} {p : Addr} {ws : List V} (hp : R p = some (.lst ws)) {Γ Γ' : List Slot} (n : Lc Γ Γ') : ∀ {σ : L2.St} {os : List Addr}, SlotsOk K R0 H0 R H Γ σ os → (∀ a ∈ os, a ≠ p) → ∃ os', os'.Sublist os ∧ SlotsOk K R0 H0 (upd R p (.lst [])) (upd H p (.lst [])) Γ' σ os' := by
  induction n with
  | nil =>
    intro σ os h hn
    cases σ with
    | nil => exact ⟨os, .refl _, h⟩
    | cons _ _ => exact h.elim
  | any n ih =>
    intro σ os h hn
    cases σ with
    | nil => exact h.elim
    | cons x σ =>
      obtain ⟨o1, o2, e, h1, h2⟩ := h
      subst e
      obtain ⟨os', sl, k⟩ := ih h2 fun a ha => hn a (List.mem_append_right _ ha)
      exact ⟨os', sl.trans (List.sublist_append_right _ _), [], os', rfl, rfl, k⟩
  | b n ih =>
    intro σ os h hn
    cases σ with
    | nil => exact h.elim
    | cons x σ =>
      obtain ⟨o1, o2, e, h1, h2⟩ := h
      subst e
      obtain ⟨os', sl, k⟩ := ih h2 fun a ha => hn a (List.mem_append_right _ ha)
      exact ⟨os', sl.trans (List.sublist_append_right _ _), [], os', rfl, ⟨rfl, h1.2⟩, k⟩
  | v n ih =>
    intro σ os h hn
    cases σ with
    | nil => exact h.elim
    | cons x σ =>
      obtain ⟨o1, o2, e, ⟨_, v, hx, hv⟩, h2⟩ := h
      subst e
      obtain ⟨os', sl, k⟩ := ih h2 fun a ha => hn a (List.mem_append_right _ ha)
      exact ⟨os', sl.trans (List.sublist_append_right _ _), [], os', rfl, ⟨rfl, v, hx, Clr.cl hp hv⟩, k⟩
  | o n ih =>
    intro σ os h hn
    cases σ with
    | nil => exact h.elim
    | cons x σ =>
      obtain ⟨o1, o2, e, ⟨p1, o, e1, hx, hh, ⟨vs, eo, hv⟩⟩, h2⟩ := h
      subst e
      obtain ⟨os', sl, k⟩ := ih h2 fun a ha => hn a (List.mem_append_right _ ha)
      refine ⟨o1 ++ os', (List.Sublist.refl _).append sl, o1, os', rfl, ⟨p1, o, e1, hx, ?_, vs, eo, hv.clr hp⟩, k⟩
      rw [upd_ne (hn p1 (List.mem_append_left _ (by rw [e1]; exact List.mem_singleton.mpr rfl)))]
      exact hh
theorem Lc.sat {K : PySem.W.Frag} {R0 H0 R H : Hp} {Γ Γ' : List Slot} {σ : L2.St} {p : Addr} {ws : List V} (n : Lc Γ Γ') (S : Sat K R0 H0 Γ σ R H) (i0 : Ex R0 H0) (hn : H0 p = none) (hp : R p = some (.lst ws)) : Sat K R0 H0 Γ' σ (upd R p (.lst [])) (upd H p (.lst [])) := by
  obtain ⟨⟨os, s, nd, fr⟩, e0⟩ := S
  have hne : ∀ a ∈ os, a ≠ p := fun a ha c => by
    rw [← c, (fr a ha).1] at hp
    cases hp
  obtain ⟨os', sl, k⟩ := n.slots hp s hne
  have r0 : R0 p = none := by
    cases z : R0 p with
    | none => rfl
    | some o => rw [i0 p o z] at hn; cases hn
  refine ⟨⟨os', k, nd.sublist sl, fun a ha => ?_⟩, ⟨fun a v ha => ?_, fun a v ha => ?_, fun a v ha => ?_, fun a v t ha hr => ?_⟩⟩
  · obtain ⟨f1, f2⟩ := fr a (sl.mem ha)
    refine ⟨?_, f2⟩
    rw [upd_ne (hne a (sl.mem ha))]
    exact f1
  · have c : a ≠ p := fun c => by rw [c, r0] at ha; cases ha
    rw [upd_ne c]
    exact e0.r a v ha
  · have c : a ≠ p := fun c => by rw [c, hn] at ha; cases ha
    rw [upd_ne c]
    exact e0.h a v ha
  · by_cases c : a = p
    · rw [c, upd_same] at ha ⊢
      exact ha
    · rw [upd_ne c] at ha ⊢
      exact e0.i a v ha
  · have c : a ≠ p := fun c => by rw [c, hn] at ha; cases ha
    rw [upd_ne c]
    exact e0.n a v t ha hr
section
variable {X : Cx} {R0 H0 : Hp} {Γ : List Slot} {e a b : Expr} {es : List Expr} {st : Stmt} {rest : List Stmt} {pos p apos : Pos} {β : Type} {out : β → Out}
end
end FK

/-! a loop that empties new lists -/
namespace FK
open PySem PySem.Spec PyProof.Rows L2
structure J1A (X : Cx) (R0 H0 : Hp) (Γ : List Slot) (st : Stmt) {β : Type} (m : Option β) (out : β → Out) : Prop where
  run : ∀ σ R H, Sat X.K R0 H0 Γ σ R H → ∀ b, m = some b → ∀ D : Ends, Req X R0 H0 R0 D (out b) → s1Sem X st D σ H
/-- what is walked is no list -/
structure JIz (X : Cx) (R0 H0 : Hp) (Γ : List Slot) (tg iter : Expr) {α : Type} [Py α] (m : Option (List α)) : Prop where
  run : ∀ σ R H, Sat X.K R0 H0 Γ σ R H → ∀ xs, m = some xs → ∀ Q : It → Hp → Prop, (∀ J R' H', Ext R H R' H' → (∀ Rx, ItOk X.K H0 J xs Rx) → Q J H') → iSem X tg iter σ H Q
/-- the slots over the base, as before -/
inductive Bck : List Slot → List Slot → Prop
  | nil : Bck [] []
  | any {s : Slot} {Γ Γ' : List Slot} : Bck Γ Γ' → Bck (s :: Γ) (.any :: Γ')
  | v {α : Type} [Py α] {a : α} {Γ Γ' : List Slot} : Bck Γ Γ' → Bck (.b (⟨a⟩ : Fz α) :: Γ) (.v a :: Γ')
theorem Bck.slots {K : PySem.W.Frag} {R0 H0 Rb Hb R H : Hp} (er : Ex Rb R) {Γ Γ' : List Slot} (n : Bck Γ Γ') : ∀ {σ : L2.St} {os : List Addr}, SlotsOk K Rb Hb R H Γ σ os → SlotsOk K R0 H0 R H Γ' σ [] := by
  induction n with
  | nil =>
    intro σ os h
    cases σ with
    | nil => exact rfl
    | cons _ _ => exact h.elim
  | any n ih =>
    intro σ os h
    cases σ with
    | nil => exact h.elim
    | cons x σ =>
      obtain ⟨o1, o2, e, h1, h2⟩ := h
      exact ⟨[], [], rfl, rfl, ih h2⟩
  | v n ih =>
    rename_i α _ a Γ Γ'
    intro σ os h
    cases σ with
    | nil => exact h.elim
    | cons x σ =>
      obtain ⟨o1, o2, e, ⟨_, v, hx, hv⟩, h2⟩ := h
      exact ⟨[], [], rfl, ⟨rfl, v, hx, Py.mono (α := α) er hv⟩, ih h2⟩
theorem Bck.sat {K : PySem.W.Frag} {R0 H0 Rb Hb R H : Hp} {Γ Γ' : List Slot} {σ : L2.St} (n : Bck Γ Γ') (e : Ext R0 H0 Rb Hb) (S : Sat K Rb Hb Γ σ R H) : Sat K R0 H0 Γ' σ R H := by
  obtain ⟨⟨os, s, nd, fr⟩, e0⟩ := S
  exact ⟨⟨[], n.slots e0.r s, List.nodup_nil, fun p hp => (List.not_mem_nil hp).elim⟩, e.trans e0⟩
section
variable {X : Cx} {R0 H0 : Hp} {Γ : List Slot} {e a b tg : Expr} {es : List Expr} {st : Stmt} {rest : List Stmt} {pos p apos : Pos} {β : Type} {out : β → Out}
end
end FK

/-! what is told with new lists in it: the same values, another reading -/
namespace FK
open PySem PySem.Spec PyProof.Rows L2
/-- values whose lists may be told to stand at new places -/
class NewT (β : Type) [Py β] where
  rp : (Addr → Prop) → PySem.W.Frag → Hp → V → β → Prop
  mono : ∀ {N : Addr → Prop} {K : PySem.W.Frag} {R R' : Hp} {v : V} {a : β}, Ex R R' → rp N K R v a → rp N K R' v a
  wk : ∀ {N N' : Addr → Prop} {K : PySem.W.Frag} {R : Hp} {v : V} {a : β}, (∀ p, N p → N' p) → rp N K R v a → rp N' K R v a
  dn : ∀ {N : Addr → Prop} {K : PySem.W.Frag} {R : Hp} {v : V} {a : β}, rp N K R v a → rep K R v a
def Nu (N : Addr → Prop) (β : Type) : Type := β
instance instPyNu {N : Addr → Prop} {β : Type} [Py β] [NewT β] : Py (Nu N β) where
  rep := fun K R v a => NewT.rp (β := β) N K R v a
  bor := fun K R _ v a => NewT.rp (β := β) N K R v a
  mono := fun e h => NewT.mono (β := β) e h
  bmono := fun e _ h => NewT.mono (β := β) e h
  lend := fun _ h => h
instance instNewL {α : Type} [Py α] : NewT (List α) where
  rp := fun N K R v a => rep K R v (⟨a⟩ : Nl N α)
  mono := fun e h => Py.mono e h
  wk := fun w h => fl_weak w h
  dn := fun h => fl_list h
instance instNew3 {α β : Type} [Py α] [Py β] : NewT (T3 Int (List α) (List β)) where
  rp := fun N K R v a => rep K R v (⟨a.a, ⟨a.b⟩, ⟨a.c⟩⟩ : T3 Int (Nl N α) (Nl N β))
  mono := fun e h => Py.mono e h
  wk := fun w ⟨p, vs, e, q, x, y, z, e2, r1, r2, r3⟩ => ⟨p, vs, e, q, x, y, z, e2, r1, fl_weak w r2, fl_weak w r3⟩
  dn := fun ⟨p, vs, e, q, x, y, z, e2, r1, r2, r3⟩ => ⟨p, vs, e, q, x, y, z, e2, r1, fl_list r2, fl_list r3⟩
instance instNnNu3 {N : Addr → Prop} {α β : Type} [Py α] [Py β] : Nn (Nu N (T3 Int (List α) (List β))) := ⟨fun {K R v a} h e => by obtain ⟨p, o, h, _⟩ := h; rw [e] at h; cases h⟩
instance instNnNuL {N : Addr → Prop} {α : Type} [Py α] : Nn (Nu N (List α)) := ⟨fun {K R v a} h e => by obtain ⟨p, o, h, _⟩ := h; rw [e] at h; cases h⟩
instance {α : Type} [Py α] [Clr α] : Clr (Option α) := ⟨fun {K R v a p ws} hp h => by
  cases a with
  | none => exact h
  | some a => exact ⟨Clr.cl hp h.1, h.2⟩⟩
abbrev upNu (β : Type) : ∀ N : Addr → Prop, β → Nu N β := fun _ a => a
/-- emptied or not -/
abbrev lx3 (N : Addr → Prop) {α β : Type} (o : Option (T3 Int (List α) (List β))) : Option (T3 Int (Lx N) (Lx N)) := o.map fun a => ⟨a.a, ⟨⟩, ⟨⟩⟩
section
variable {X : Cx} {R0 H0 : Hp} {Γ : List Slot} {e a b tg : Expr} {es : List Expr} {st : Stmt} {rest : List Stmt} {pos p apos : Pos} {β γ : Type} [Ar γ] {out : β → Out}
end
end FK

/-! new lists of new lists, emptied one by one; the first of a pair that may be refused -/
namespace FK
open PySem PySem.Spec PyProof.Rows L2
section
variable {X : Cx} {R0 H0 : Hp} {Γ : List Slot} {e a b tst : Expr} {es : List Expr} {st : Stmt} {rest A : List Stmt} {pos p apos : Pos} {β : Type} {out : β → Out}
def ruU {α : Type} : Rs α → Rs Unit
  | .ok _ => .ok ()
  | .ex x => .ex x
theorem ruU_out {α : Type} (Γ Γ1 : List Slot) (r : Rs α) : outT Γ (fun (_ : Unit) => Γ1) (ruU r) = outT Γ (fun (_ : α) => Γ1) r := by cases r <;> rfl
/-- the first k emptied -/
def clrN {α : Type} (k : Nat) (xs : List (List α)) : List (List α) := (xs.take k).map (fun _ => []) ++ xs.drop k
end
end FK

/-! new lists of triples with new lists in them -/
namespace FK
open PySem PySem.Spec PyProof.Rows L2
section
variable {K : PySem.W.Frag} {R H R' H' : Hp} {α β γ : Type} [Py α] [Py β] [Py γ]
inductive KidT (K : PySem.W.Frag) (R H : Hp) : List V → List Addr → List (T3 α β (List γ)) → Prop
  | nil : KidT K R H [] [] []
  | cons {t c : Addr} {v w : V} {x : α} {y : β} {vs : List V} {l : List γ} {ts : List V} {cs : List Addr} {ls : List (T3 α β (List γ))} : R t = some (.tup [v, w, .ref c]) → rep K R v x → rep K R w y → H c = some (.lst vs) → AllR K R vs l → KidT K R H ts cs ls → KidT K R H (.ref t :: ts) (c :: cs) (⟨x, y, l⟩ :: ls)
theorem KidT.mono (e : Ex R R') : ∀ {ts : List V} {cs : List Addr} {ls : List (T3 α β (List γ))}, (∀ c ∈ cs, ∀ u, H c = some u → H' c = some u) → KidT K R H ts cs ls → KidT K R' H' ts cs ls
  | _, _, _, _, .nil => .nil
  | _, _, _, f, .cons h1 h2 h3 h4 h5 t => .cons (e _ _ h1) (Py.mono e h2) (Py.mono e h3) (f _ List.mem_cons_self _ h4) (h5.mono e) (t.mono e fun c hc => f c (List.mem_cons_of_mem _ hc))
theorem KidT.len : ∀ {ts : List V} {cs : List Addr} {ls : List (T3 α β (List γ))}, KidT K R H ts cs ls → ts.length = ls.length ∧ cs.length = ls.length
  | _, _, _, .nil => ⟨rfl, rfl⟩
  | _, _, _, .cons _ _ _ _ _ t => ⟨congrArg (· + 1) t.len.1, congrArg (· + 1) t.len.2⟩
theorem KidT.there : ∀ {ts : List V} {cs : List Addr} {ls : List (T3 α β (List γ))}, KidT K R H ts cs ls → ∀ c ∈ cs, ∃ u, H c = some u ∧ isT u = false
  | _, _, _, .nil, c, h => by cases h
  | _, _, _, .cons _ _ _ h4 _ t, c, h => by
    rcases List.mem_cons.mp h with e | z
    · exact ⟨_, by rw [e]; exact h4, rfl⟩
    · exact t.there c z
theorem KidT.get : ∀ {ts : List V} {cs : List Addr} {ls : List (T3 α β (List γ))} {j : Nat} {l : T3 α β (List γ)}, KidT K R H ts cs ls → ls[j]? = some l → ∃ t c v w vs, ts[j]? = some (.ref t) ∧ cs[j]? = some c ∧ R t = some (.tup [v, w, .ref c]) ∧ H c = some (.lst vs)
  | _, _, _, j, l, .nil, e => by simp at e
  | _, _, _, 0, l, .cons h1 h2 h3 h4 h5 _, e => ⟨_, _, _, _, _, rfl, rfl, h1, h4⟩
  | _, _, _, j + 1, l, .cons _ _ _ _ _ t, e => t.get (j := j) e
/-- one of them emptied -/
theorem KidT.set : ∀ {ts : List V} {cs : List Addr} {ls : List (T3 α β (List γ))} {j : Nat} {c : Addr} {r : T3 α β (List γ)}, KidT K R H ts cs ls → cs.Nodup → cs[j]? = some c → ls[j]? = some r → Ex R R' → (∀ z ∈ cs, z ≠ c → ∀ u, H z = some u → H' z = some u) → H' c = some (.lst []) → KidT K R' H' ts cs (ls.set j ⟨r.a, r.b, []⟩)
  | _, _, _, j, c, r, .nil, _, e, _, _, _, _ => by simp at e
  | _, _, _, 0, c, r, .cons h1 h2 h3 h4 h5 t, nd, e, e2, x, f, h => by
    cases Option.some.inj e
    cases Option.some.inj e2
    obtain ⟨n1, n2⟩ := List.nodup_cons.mp nd
    exact .cons (x _ _ h1) (Py.mono x h2) (Py.mono x h3) h .nil (t.mono x fun z hz => f z (List.mem_cons_of_mem _ hz) fun e => n1 (by rw [← e]; exact hz))
  | _, _, _, j + 1, c, r, .cons (c := c0) h1 h2 h3 h4 h5 t, nd, e, e2, x, f, h => by
    obtain ⟨n1, n2⟩ := List.nodup_cons.mp nd
    have ne : c0 ≠ c := fun z => n1 (by rw [z]; exact List.mem_of_getElem? e)
    exact .cons (x _ _ h1) (Py.mono x h2) (Py.mono x h3) (f _ List.mem_cons_self ne _ h4) (h5.mono x) (t.set n2 e e2 x (fun z hz => f z (List.mem_cons_of_mem _ hz)) h)
theorem KidT.app {t c : Addr} {v w : V} {x : α} {y : β} {vs : List V} {l : List γ} (h1 : R t = some (.tup [v, w, .ref c])) (h2 : rep K R v x) (h3 : rep K R w y) (h4 : H c = some (.lst vs)) (h5 : AllR K R vs l) : ∀ {ts : List V} {cs : List Addr} {ls : List (T3 α β (List γ))}, KidT K R H ts cs ls → KidT K R H (ts ++ [.ref t]) (cs ++ [c]) (ls ++ [⟨x, y, l⟩])
  | _, _, _, .nil => .cons h1 h2 h3 h4 h5 .nil
  | _, _, _, .cons g1 g2 g3 g4 g5 k => .cons g1 g2 g3 g4 g5 (KidT.app h1 h2 h3 h4 h5 k)
theorem KidT.all : ∀ {ts : List V} {cs : List Addr} {ls : List (T3 α β (List γ))}, KidT K R H ts cs ls → (∀ c ∈ cs, ∀ u, H c = some u → R' c = some u) → Ex R R' → AllR K R' ts ls
  | _, _, _, .nil, _, _ => .nil
  | _, _, _, .cons h1 h2 h3 h4 h5 t, f, e => .cons ⟨_, _, rfl, e _ _ h1, _, _, _, rfl, Py.mono e h2, Py.mono e h3, ⟨_, _, rfl, .inl (f _ List.mem_cons_self _ h4), _, rfl, h5.mono e⟩⟩ (t.all (fun c hc => f c (List.mem_cons_of_mem _ hc)) e)
instance instOdLT : Od (List (T3 α β (List γ))) where
  dh := fun K R H o ps a => ∃ ts, o = .lst ts ∧ KidT K R H ts ps a
  mono := fun {K R R' H H' o ps a} e f h => by
    obtain ⟨ts, h, k⟩ := h
    exact ⟨ts, h, k.mono e f⟩
  there := fun {K R H o ps a} h => by
    obtain ⟨_, _, k⟩ := h
    exact k.there
  nt := fun {K R H o ps a} h => by
    obtain ⟨_, h, _⟩ := h
    rw [h]
    rfl
end
section
variable {X : Cx} {R0 H0 : Hp} {Γ : List Slot} {e a b e3 : Expr} {es : List Expr} {st : Stmt} {rest : List Stmt} {pos p apos : Pos} {α β γ : Type} [Py α] [Py β] [Py γ]
/-- the first k emptied -/
def clrT (k : Nat) (xs : List (T3 α β (List γ))) : List (T3 α β (List γ)) := (xs.take k).map (fun r => ⟨r.a, r.b, []⟩) ++ xs.drop k
omit [Py α] [Py β] [Py γ] in
theorem clrT_all (xs : List (T3 α β (List γ))) : clrT xs.length xs = xs.map fun r => ⟨r.a, r.b, []⟩ := by
  unfold clrT
  rw [List.take_length, List.drop_length, List.append_nil]
omit [Py α] [Py β] [Py γ] in
theorem clrT_len (k : Nat) (xs : List (T3 α β (List γ))) : (clrT k xs).length = xs.length := by
  unfold clrT
  rw [List.length_append, List.length_map, List.length_take, List.length_drop]
  omega
omit [Py α] [Py β] [Py γ] in
theorem clrT_at {k : Nat} {xs : List (T3 α β (List γ))} (h : k < xs.length) : (clrT k xs)[k]? = some xs[k] := by
  unfold clrT
  rw [List.getElem?_append_right (by rw [List.length_map, List.length_take]; omega), List.length_map, List.length_take, List.getElem?_drop, show k + (k - min k xs.length) = k by omega, List.getElem?_eq_getElem h]
omit [Py α] [Py β] [Py γ] in
theorem clrT_set {k : Nat} {xs : List (T3 α β (List γ))} (h : k < xs.length) : (clrT k xs).set k ⟨xs[k].a, xs[k].b, []⟩ = clrT (k + 1) xs := by
  unfold clrT
  rw [List.set_append_right (h := by rw [List.length_map, List.length_take]; omega), List.length_map, List.length_take, show k - min k xs.length = 0 by omega, List.drop_eq_getElem_cons h, List.set_cons_zero, List.take_succ_eq_append_getElem h, List.map_append, List.append_assoc]
  rfl
end
end FK

/-! a try whose handler has no name -/
namespace FK
open PySem PySem.Spec PyProof.Rows L2
section
variable {X : Cx} {R0 H0 : Hp} {Γ : List Slot} {β : Type} {out : β → Out} {pos : Pos}
end
section
variable {X : Cx} {R0 H0 : Hp} {Γ : List Slot} {e lo : Expr} {pos : Pos}
end
end FK

/-! defs whose exceptions have no context; a suite that raises anew -/
namespace FK
open PySem PySem.Spec PyProof.Rows L2
def outRN {α : Type} [Py α] : Rs α → Out
  | .ok a => .rt a
  | .ex x => .exn x
section
variable {α : Type} [Py α]
theorem outRN_nx : ∀ (v : Rs α) Γ, outRN v ≠ .nx Γ
  | .ok _, _, h => by cases h
  | .ex _, _, h => by cases h
theorem outRN_bk : ∀ (v : Rs α) Γ, outRN v ≠ .bk Γ
  | .ok _, _, h => by cases h
  | .ex _, _, h => by cases h
theorem outRN_ct : ∀ (v : Rs α) Γ, outRN v ≠ .ct Γ
  | .ok _, _, h => by cases h
  | .ex _, _, h => by cases h
theorem outRN_et : ∀ (v : Rs α) Γ x, outRN v ≠ .et Γ x
  | .ok _, _, _, h => by cases h
  | .ex _, _, _, h => by cases h
end
section
variable {P : Program} {w : World} {K : PySem.W.Frag} {mg : Str → Option Value} {base : Heap} {x qual : Str} {st : Stmt} {f : Addr} {fd : FuncData} {N ps : List Str} {k : Nat} {γ β : Type} [Ar γ]
abbrev bodyN (P : Program) (w : World) (K : PySem.W.Frag) (mg : Str → Option Value) (base : Heap) (N : List Str) (qual : Str) (st : Stmt) (f : Addr) (cdv : Value) (A : Around) (outer : List Env) (s : Shared) (H : Hp) (E : XK) : Cx := cxOf (L2N.CX P w) P w K mg base N qual (defScope st) f cdv A outer s H E
theorem takes_bodyN {cdv : Value} {A : Around} {outer : List Env} {s : Shared} {H : Hp} {E : XK} : L2N.Takes (bodyN P w K mg base N qual st f cdv A outer s H E) (fun cls d _ H => E cls d H) := L2N.takes_of (E := E) rfl rfl rfl rfl
theorem passes_bodyN {cdv : Value} {A : Around} {outer : List Env} {s : Shared} {H : Hp} {E : XK} : PassesOwn (model (bodyN P w K mg base N qual st f cdv A outer s H E).prog (bodyN P w K mg base N qual st f cdv A outer s H E).w) (bodyN P w K mg base N qual st f cdv A outer s H E).A (bodyN P w K mg base N qual st f cdv A outer s H E).env (bodyN P w K mg base N qual st f cdv A outer s H E).xe := passes_of (X := bodyN P w K mg base N qual st f cdv A outer s H E) rfl
theorem fn_xN [Py β] {m : γ → Option (Rs β)} (F : Fun K x qual st f fd) (S : FnScope N ps (defScope st)) (hl : ∀ R H vs (g : γ), Ar.ok K R H vs g → vs.length = ps.length)
    (hb : ∀ (cdv : Value) (A : Around) (outer : List Env) (s : Shared) (H R : Hp) (E : XK) (g : γ), Room k (A.deeper (envOfC qual (defScope st) s.heap.objs.size f cdv)) →
      JN (bodyN P w K mg base N qual st f cdv A outer s H E) R H (Ar.slots g ++ List.replicate (N.length - ps.length) .any) (defBody st) (m g) outRN) : FnOk P w K mg base (L2N.CX P w) (k + 1) f fd ps (spX K m) := by
  obtain ⟨o1, o2, o3, o4, o5, o6, cdv, o7, o8, rfl, look, code⟩ := F.ex
  refine fn_of look code S (fun vs H Q E ⟨R, g, _, _, h, _⟩ => hl R H vs g h) fun A outer s H vs Q E hr ⟨R, g, r, i, h, e, q1, q2⟩ => ?_
  refine ⟨_, sS, hb cdv A outer s H R E g hr _ R H (sat_start i h (hl R H vs g h)) r e { nx := fun _ H' => Q .non H', rt := Q } (fun _ H' => Q .non H') ?_⟩
  cases r with
  | ok a => exact fun v R' H' x rr => q1 a rfl v R' H' x rr
  | ex xv => exact takes_bodyN.imp fun cls d _ H' ⟨R', z, h⟩ => q2 xv rfl cls d R' H' z h
end
/-! ### an exception made, without a context -/
def mkSemN (X : Cx) (e : Expr) : L2.St → Hp → XK → Prop := fun σ H Q => ∀ pins s, Inv X pins σ H s → wpAny (model X.prog X.w) X.A (eval e X.env) (L2N.MkP X pins σ Q) X.xe s
theorem mkSN {X : Cx} {e : Expr} : L2N.PMk X e (mkSemN X e) := fun pins s _ _ _ I h => h pins s I
structure JMkN (X : Cx) (R0 H0 : Hp) (Γ : List Slot) (e : Expr) (m : Option Xv) : Prop where
  run : ∀ σ R H, Sat X.K R0 H0 Γ σ R H → ∀ x, m = some x → ∀ Q : XK, (∀ cls d R' H', Ext R H R' H' → XOk X.K R' cls d x → Q cls d H') → mkSemN X e σ H Q
section
variable {X : Cx} {e : Expr} {es : List Expr} {pos p : Pos}
theorem mkn_own {CX : CXT} {x : Str} {ta : TA} {C fI : Addr} {k : Nat} {fd : FuncData} {ps : List Str} {sp : Sp} (T : OexC X.K C) (iC : PySem.W.findIn X.K (.ref C) "__init__" = some (some (.ref fI))) (tI : PySem.W.typeIn X.K (.ref fI) = some (.type "function"))
    (Fi : FnOk X.prog X.w X.K X.mg X.base CX k fI fd ps sp) (room : Room (k + 1) X.A) (bn : Binds X.K fd ps []) (quiet : Passes CX X (fun _ _ _ => False)) (hg : Gl X x) (hm : X.mg x = some (.ref C)) (ha : PA X (e :: es) ta)
    (hdb : (x == ("__debug__" : Str)) = false := by decide) (he : starEach (e :: es) X.env = (false, eval e X.env) :: starEach es X.env := by rfl) (hpl : (backTo pos (starEach es X.env)).any (·.1) = false := by rfl) :
    L2N.PMk X (.Call (.Name x p) (e :: es) [] pos) (tMkO C sp [] ta) := fun pins s σ H Q I want => by
  obtain ⟨c1, c2, c3, c4, bases, c6, c7, c8, c9, c10, c11, c12, c13, c14, c15, here, bh⟩ := T.cls
  refine wpAny_Call_Name_kw (ld_glob I hg hm ?_ hdb)
  refine PySem.W.callWith_K (h₀ := X.base) I.ok.mod.kin T.kC (thn (ha.run pos pins s σ H _ I want) fun us s1 ⟨vs, H1, J, rel, few, go⟩ => ⟨J.kIn, ?_⟩) he hpl
  show wpAny _ _ (call (.ref C) us) _ _ _
  obtain ⟨hp, gs, dr, tk, os⟩ := s1
  have up : hp.objs.size ≤ hp.objs.size + 1 := Nat.le_add_right _ 1
  have free : H1 (hp.objs.size + 1) = none := J.hok.fresh up
  have run := go _ free
  rw [List.append_nil] at run
  obtain ⟨h2, e2⟩ : ∃ h2, h2 = (hp.push (PySem.W.kdv_tup us)).push (PySem.HandSPX.excO C hp.objs.size) := ⟨_, rfl⟩
  have keep : ∀ b o, hp.get? b = some o → h2.get? b = some o := fun b o z => by
    rw [e2]
    exact Heap.get?_push_of_some _ (Heap.get?_push_of_some _ z)
  have new : h2.get? (hp.objs.size + 1) = some (PySem.HandSPX.excO C hp.objs.size) := by
    rw [e2]
    heap_get
  have J2 : Inv X pins σ (upd H1 (hp.objs.size + 1) (exo (hp.objs.size + 1) C none)) ⟨h2, gs, dr, tk, os⟩ := J.laid (t' := tk) (o := exo (hp.objs.size + 1) C none) keep up (exo_ok new)
  have rel2 : Vals (V.ref (hp.objs.size + 1) :: vs) (Value.ref (hp.objs.size + 1) :: us) := .cons rfl rel
  have len : (Value.ref (hp.objs.size + 1) :: us).length = ps.length := rel2.length.symm.trans (Fi.len _ _ _ _ run)
  have short : us.length ≤ sizeLine := by
    rw [← Paired.length rel, sizeLine_eq]
    omega
  have b2 := bn _ (Value.ref (hp.objs.size + 1) :: us) J2.kIn (by rw [List.append_nil]; exact len)
  rw [List.append_nil] at b2
  subst e2
  refine wpAny_call (PySem.HandSPX.call_own F.excBase_ValueError (fun Y => PySem.HandSPX.refsVE_contains Y bases bh) (J.kIn _ _ here) (PySem.W.looks_findIn J.kIn iC) (fun self => PySem.W.bind_fn J.kIn self tI) short (codeAny_mono (Fi.run _ X.stack _ _ ⟨Value.ref (hp.objs.size + 1) :: us, []⟩ _ _ _ (fun _ _ _ => False) (room.make C us []) (J2.env0.make C us []) b2 rel2 run) fun r s' out => ?_))
  cases r with
  | error z => exact quiet pins σ _ _ z s' J2 out
  | ok fl =>
    cases fl with
    | next => exact out.elim
    | brk => exact out.elim
    | cont => exact out.elim
    | ret u =>
      obtain ⟨v, H2, os2, bare2, un2, hok2, rv, ev, d, fs, ea, ed, hd1, q2⟩ := out
      subst ev
      obtain ⟨h3, g3, d3, t3, o3⟩ := s'
      obtain ⟨_, G, J3, kG, ge, at3, na⟩ := mk_end0 (d2 := d3) (t2 := t3) J up keep un2 hok2 os2 bare2 ea ed hd1
      exact ⟨rv, hp.objs.size + 1, _, _, ⟨G, g3, d3, t3, o3⟩, _, .ref C, some d, rfl, J3, kG, ge, at3, ⟨rfl, rfl, fun vs hv => by cases hv; rfl⟩, rfl, rfl, na, rfl, bare2, raises_own T.exC T.tyC, q2⟩
end
/-- as XInit, where another exception is handled -/
def XHot (P : Program) (w : World) (K : PySem.W.Frag) (mg : Str → Option Value) (base : Heap) (nm f : Str) (ps : List Str) : Prop := ∃ C fI fd, XCls K mg nm C ∧ OexC K C ∧ PySem.W.findIn K (.ref C) "__init__" = some (some (.ref fI)) ∧
  PySem.W.typeIn K (.ref fI) = some (.type "function") ∧ L2H.FnH P w K mg base CX0 1 fI fd ps (spI C f) ∧ Binds K fd ps []
/-- the heap behind such an __init__ -/
theorem init_heap {H1 : Hp} {a dx C : Addr} {fs : List (Str × V)} (hn : H1 a = none) : upd (del (upd (upd (upd H1 a (exo a C none)) dx (exd dx fs)) a (exo a C (some dx))) a) dx (.xd fs) = upd H1 dx (.xd fs) := by
  funext z
  by_cases hz : z = dx
  · rw [hz, upd_same, upd_same]
  · rw [upd_ne hz, upd_ne hz]
    by_cases ha : z = a
    · rw [ha, del_same, hn]
    · rw [del_ne ha, upd_ne ha, upd_ne hz, upd_ne ha]
section
variable {X : Cx} {R0 H0 : Hp} {Γ : List Slot} {e : Expr} {rest : List Stmt} {pos p : Pos}
theorem spI_made {x f : Str} {C : Addr} {β : Type} [Py β] [Pd β] {b : β} {v : V} {R R1 H H1 : Hp} {Q : XK} {K : PySem.W.Frag} (ns : PySem.W.nsIn K mainGlobals x = some (some (.ref C))) (x1 : Ext R H R1 H1) (r1 : rep K R1 v b)
    (q : ∀ cls d R' H', Ext R H R' H' → XOk K R' cls d ⟨x, Pd.pl f b⟩ → Q cls d H') (a : Addr) (hn : H1 a = none) : spI C f (.ref a :: ([v] ++ [])) (upd H1 a (exo a C none))
      (fun v H2 => v = .non ∧ ∃ (d : Addr) (fs : List (Str × V)), H2 a = some (exo a C (some d)) ∧ H2 d = some (exd d fs) ∧ H1 d = none ∧ Q (.ref C) (some d) (upd (del H2 a) d (.xd fs))) (fun _ _ _ => False) := by
  refine ⟨a, v, rfl, upd_same, fun dx hdx dne => ?_⟩
  have h1 : H1 dx = none := by rwa [upd_ne dne] at hdx
  refine ⟨rfl, dx, [(f, v)], upd_same, by rw [upd_ne dne, upd_same], h1, ?_⟩
  rw [init_heap hn]
  exact q (.ref C) (some dx) (upd R1 dx (.xd [(f, v)])) _ (x1.trans (.new x1.i h1)) ⟨C, ns, rfl, Pd.ok (Py.mono (.new (x1.i.none h1)) r1) upd_same⟩
theorem mkSN_to {t : L2.St → Hp → XK → Prop} (h : L2N.PMk X e t) {σ : L2.St} {H : Hp} {Q : XK} (q : t σ H Q) : mkSemN X e σ H Q := fun pins s I => h pins s σ H Q I q
theorem jmn_init {x f : Str} {ps : List Str} {β : Type} [Py β] [Pd β] {m : Option β} (T : XInit X.prog X.w X.K X.mg X.base x f ps) (hr : Room 2 X.A) (ha : JE X R0 H0 Γ e m) (hg : Gl X x := by rfl) (hdb : (x == ("__debug__" : Str)) = false := by decide)
    (he : starEach (e :: []) X.env = (false, eval e X.env) :: starEach [] X.env := by rfl) (hpl : (backTo pos (starEach [] X.env)).any (·.1) = false := by rfl) : JMkN X R0 H0 Γ (.Call (.Name x p) [e] [] pos) (m.bind fun b => some (⟨x, Pd.pl f b⟩ : Xv)) := ⟨fun σ R H S z ez Q q => by
  obtain ⟨b, eb, ez⟩ := bind_some' ez
  cases ez
  obtain ⟨C, fI, fd, c, T, iC, tI, F, hb⟩ := T
  exact mkSN_to (mkn_own T iC tI F hr hb pass0 hg c.g (pa_cons eS pa_nil he) hdb he hpl) (ha σ R H S b eb _ fun v R1 H1 x1 r1 => ⟨show 1 ≤ 1000 by decide, spI_made c.ns x1 r1 q⟩)⟩
theorem jmh_init {x f : Str} {ps : List Str} {β : Type} [Py β] [Pd β] {m : Option β} (T : XHot X.prog X.w X.K X.mg X.base x f ps) (hr : L2H.RoomH 2 X.A) (hc : L2H.HotC X) (ha : JE X R0 H0 Γ e m) (hg : Gl X x := by rfl) (hdb : (x == ("__debug__" : Str)) = false := by decide)
    (he : starEach (e :: []) X.env = (false, eval e X.env) :: starEach [] X.env := by rfl) (hpl : (backTo pos (starEach [] X.env)).any (·.1) = false := by rfl) : JMkN X R0 H0 Γ (.Call (.Name x p) [e] [] pos) (m.bind fun b => some (⟨x, Pd.pl f b⟩ : Xv)) := ⟨fun σ R H S z ez Q q => by
  obtain ⟨b, eb, ez⟩ := bind_some' ez
  cases ez
  obtain ⟨C, fI, fd, c, T, iC, tI, F, hb⟩ := T
  exact mkSN_to (L2H.pmk5_oexH T iC tI F hr hc hb pass0 hg c.g (pa_cons eS pa_nil he) hdb he hpl).pmk (ha σ R H S b eb _ fun v R1 H1 x1 r1 => ⟨show 1 ≤ 1000 by decide, spI_made c.ns x1 r1 q⟩)⟩
theorem jn_raiseN {m : Option Xv} (h : JMkN X R0 H0 Γ e m) (hc : X.calm = true := by rfl) : JN X R0 H0 Γ (.Raise (some e) none pos :: rest) m (fun x => .exn x) := .mk fun σ R H S x er D n q => by
  have tk : L2N.Takes X fun cls d _ H => ∃ R, Ext R0 H0 R H ∧ XOk X.K R cls d x := q
  exact PSs_to (pss_cons (L2N.ps_raise hc tk mkSN) sS) (h.run σ R H S x er _ fun cls d R' H' e h => ⟨R', S.e0.trans e, h⟩)
end
theorem init_okH {P : Program} {w : World} {K : PySem.W.Frag} {mg : Str → Option Value} {base : Heap} {C fI : Addr} {fd : FuncData} {qual f y : Str} {st : Stmt} {p1 p2 p3 p4 : Pos} (T : OexC K C) (hno : PySem.W.findIn K (.ref C) f = some none) (F : Fun K "__init__" qual st fI fd) (S : FnScope ["self", y] ["self", y] (defScope st))
    (hb : defBody st = [.Assign [.Attribute (.Name "self" p1) f p2] (.Name y p3) p4]) (hv0 : ∀ (A : Addr) (c : Value), Vis (envOfC qual (defScope st) A fI c).scope "self") (hv1 : ∀ (A : Addr) (c : Value), Vis (envOfC qual (defScope st) A fI c).scope y) (hd1 : (y == ("__debug__" : Str)) = false) (hc1 : (y == ("__classdict__" : Str)) = false)
    (hs : ∀ (A : Addr) (c : Value), swapsWith (.Name y p3) (some (.Attribute (.Name "self" p1) f p2)) p4.line (envOfC qual (defScope st) A fI c) = pure false) : L2H.FnH P w K mg base CX0 1 fI fd ["self", y] (spI C f) := by
  obtain ⟨o1, o2, o3, o4, o5, o6, cdv, o7, o8, rfl, look, code⟩ := F.ex
  refine L2H.fn_ofH look code S (fun vs H Q E ⟨a, v, e, _⟩ => by rw [e]; rfl) fun A outer s H vs Q E p hot hr ⟨a, v, e, ha, go⟩ => ?_
  subst e
  refine ⟨_, by rw [hb]; exact pss_cons (ps_ost (pv 0 rfl (hv0 _ _) (by decide) (by decide)) (pv 1 rfl (hv1 _ _) hd1 hc1) (hs _ _)) pss_nil, ?_⟩
  exact ⟨v, rfl, .ref a, rfl, a, C, rfl, T, hno, .inl ⟨ha, fun dx hdx hne => go dx hdx hne⟩⟩
/-! ### a call whose exceptions have no context; raised anew -/
structure JXN (X : Cx) (R0 H0 : Hp) (Γ : List Slot) (e : Expr) {α : Type} [Py α] (m : Option (Rs α)) : Prop where
  run : ∀ σ R H, Sat X.K R0 H0 Γ σ R H → ∀ r, m = some r → ∀ (Q : VK) (W : WX), L2N.Takes X W → (∀ a, r = .ok a → ∀ v R' H', Ext R H R' H' → rep X.K R' v a → Q v H') →
    (∀ x, r = .ex x → ∀ cls d R' H', Ext R H R' H' → XOk X.K R' cls d x → W cls d σ H') → eSem X e σ H Q
def tryR {α : Type} (L : List Str) (mb : Option (Rs α)) (mx : Option Xv) : Option (Rs α) := mb.bind fun r => match r with
  | .ok a => some (.ok a)
  | .ex x => if x.c ∈ L then mx.bind fun y => some (.ex y) else none
section
variable {X : Cx} {R0 H0 : Hp} {Γ : List Slot} {e : Expr} {es : List Expr} {rest : List Stmt} {pos p : Pos} {γ β : Type} [Ar γ]
theorem jxn_call [Py β] {k : Nat} {x : Str} {ps : List Str} {m : γ → Option (Rs β)} {ma : Option γ} (C : Cal X.prog X.w X.K X.mg X.base (L2N.CX X.prog X.w) k x ps (spX X.K m)) (hr : Room k X.A) (ha : JA X R0 H0 Γ (e :: es) ma) (hg : Gl X x := by rfl)
    (hdb : (x == ("__debug__" : Str)) = false := by decide) (he : starEach (e :: es) X.env = (false, eval e X.env) :: starEach es X.env := by rfl) (hpl : (backTo pos (starEach es X.env)).any (·.1) = false := by rfl) :
    JXN X R0 H0 Γ (.Call (.Name x p) (e :: es) [] pos) (ma.bind m) := .mk fun σ R H S r er Q W tk q1 q2 => by
  obtain ⟨g, eg, er⟩ := bind_some' er
  obtain ⟨f, fd, h1, h2, h3, h4⟩ := C
  refine PE_to (pe_callS h4 hr hg h1 h2 h3 (fun σ => L2N.passAt tk σ) aS hdb he hpl) (ha σ R H S g eg _ fun vs R1 H1 x1 r1 => ⟨R1, g, r, x1.i, r1, er, fun a ea v R2 H2 x2 => q1 a ea v R2 H2 (x1.trans x2), fun x ex cls d R2 H2 x2 => q2 x ex cls d R2 H2 (x1.trans x2)⟩)
theorem jxn_call_t [Py β] {k : Nat} {x : Str} {ps : List Str} {m : γ → Option (Rs β)} {g : γ} (C : Cal X.prog X.w X.K X.mg X.base (L2N.CX X.prog X.w) k x ps (spX X.K m)) (hr : Room k X.A) (ha : JA X R0 H0 Γ (e :: es) (some g)) (hg : Gl X x := by rfl)
    (hdb : (x == ("__debug__" : Str)) = false := by decide) (he : starEach (e :: es) X.env = (false, eval e X.env) :: starEach es X.env := by rfl) (hpl : (backTo pos (starEach es X.env)).any (·.1) = false := by rfl) :
    JXN X R0 H0 Γ (.Call (.Name x p) (e :: es) [] pos) (m g) := jxn_call C hr ha hg hdb he hpl
theorem takes_noN : L2N.Takes X (fun _ _ _ _ => False) := fun _ _ ⟨_, _, _, _, _, _, _, _, _, _, _, _, _, _, _, _, w⟩ => w.elim
theorem jn_retxN {α : Type} [Py α] {m : Option (Rs α)} (h : JXN X R0 H0 Γ e m) : JN X R0 H0 Γ (.Return (some e) pos :: rest) m outRN := .mk fun σ R H S r er D n q => by
  cases r with
  | ok a => exact PSs_to (pss_cons (ps_ret eS) sS) (h.run σ R H S _ er _ _ takes_noN (fun a' ea v R' H' x rr => by cases ea; exact (show ∀ v R H, Ext R0 H0 R H → rep X.K R v a → D.rt v H from q) v R' H' (S.e0.trans x) rr) fun x ex => by cases ex)
  | ex x =>
    have tk : L2N.Takes X fun cls d _ H => ∃ R, Ext R0 H0 R H ∧ XOk X.K R cls d x := q
    exact PSs_to (pss_cons (ps_ret eS) sS) (h.run σ R H S _ er _ _ tk (fun a ea => by cases ea) fun x' ex cls d R' H' e h => by cases ex; exact ⟨R', S.e0.trans e, h⟩)
theorem jn_tryR {T : Str} {α : Type} [Py α] {L : List Str} {mb : Option (Rs α)} {mx : Option Xv} {c₁ e₁ : Expr} {np pos' p2 p3 : Pos} (hT : CatchT X.K X.mg L T) (hb : ∀ pn xe, JXN (X.tr pn xe) R0 H0 Γ c₁ mb)
    (hh : ∀ a oe pn, L2H.HotC (L2H.suiteX X a ((a, oe) :: pn)) → JMkN (L2H.suiteX X a ((a, oe) :: pn)) R0 H0 Γ e₁ mx) (hpa : ∀ hd : Option Value, PassesOwnAt (model X.prog X.w) (X.A.mark hd) X.A X.env X.xe)
    (hs : X.stack = X.env :: X.outer := by rfl) (hf : X.env.frame = some X.env.locals := by rfl) (hgT : Gl X T := by rfl) (hdT : (T == ("__debug__" : Str)) = false := by decide) :
    JN X R0 H0 Γ (.Try [.Return (some c₁) p2] [.ExceptHandler (some (.Name T np)) none [.Raise (some e₁) none p3] pos'] [] [] pos :: rest) (tryR L mb mx) outR := .mk fun σ R H S r er D n q => by
  unfold tryR at er
  obtain ⟨r0, er0, er⟩ := bind_some' er
  obtain ⟨C, hC, hm⟩ := hT
  obtain ⟨Wo, tkW, hW⟩ : ∃ Wo : WX, Takes X Wo ∧ ∀ y, r = .ex y → ∀ cls d σ H, (∃ R, Ext R0 H0 R H ∧ XOk X.K R cls d y) → Wo cls d σ H := by
    cases r with
    | ok a => exact ⟨_, takes_no, fun y z => by cases z⟩
    | ex y => exact ⟨_, q, fun y' z cls d σ H h => by cases z; exact h⟩
  refine PSs_to (pss_cons (L2H.ps_try_onlyX (c := .ref C) (Wout := Wo) (tb := fun W D σ H => ∀ pn xe, L2N.Takes (X.tr pn xe) W → sSem (X.tr pn xe) [.Return (some c₁) p2] D σ H)
    (ts := fun a cls d D σ H => ∀ oe pn, Takes (L2H.suiteX X a ((a, oe) :: pn)) Wo → L2H.HotC (L2H.suiteX X a ((a, oe) :: pn)) → sSem (L2H.suiteX X a ((a, oe) :: pn)) [.Raise (some e₁) none p3] D σ H) hs hf ⟨hgT, hdT, .inl hC⟩ hpa tkW
    (fun W pn xe tn _ _ => ⟨fun pins s σ H D I h => h pn xe tn pins s I⟩) (fun a oe cls d pn _ _ tkS hot => ⟨fun pins s σ H D I h => h oe pn tkS hot pins s I⟩)) sS) fun pn xe tn => ?_
  cases r0 with
  | ok a =>
    cases er
    exact PSs_to (pss_cons (ps_ret eS) sS) ((hb pn xe).run σ R H S _ er0 _ _ takes_noN (fun a' ea v R' H' x rr => by cases ea; exact (show ∀ v R H, Ext R0 H0 R H → rep X.K R v a → D.rt v H from q) v R' H' (S.e0.trans x) rr) fun x ex => by cases ex)
  | ex x =>
    have er : (if x.c ∈ L then mx.bind fun y => some (Rs.ex y : Rs α) else none) = some r := er
    by_cases hL : x.c ∈ L
    case neg =>
      rw [if_neg hL] at er
      cases er
    rw [if_pos hL] at er
    obtain ⟨y, ey, er⟩ := bind_some' er
    cases er
    refine PSs_to (pss_cons (ps_ret eS) sS) ((hb pn xe).run σ R H S _ er0 _ _ tn (fun a ea => by cases ea) fun x' ex cls d R' H' e hxo => ?_)
    cases ex
    obtain ⟨D0, hD, hcls, _⟩ := hxo
    refine ⟨true, by rw [hcls]; exact hm x.c hL D0 hD, fun _ a hn oe pn2 tkS hot => ?_, fun z => Bool.noConfusion z⟩
    exact PSs_to (pss_cons (L2H.ps_raiseH hot tkS mkSN) sS) ((hh a oe pn2 hot).run σ R' H' (S.ext e) y ey _ fun cls' d' R2 H2 e2 h2 => hW y rfl _ _ _ _ ⟨R2, (S.e0.trans e).trans e2, h2⟩)
end
section
variable {X : Cx} {R0 H0 : Hp} {Γ : List Slot} {e : Expr} {pos : Pos}
/-- x.append(e), where e may raise -/
theorem j1_appx (i : Nat) {x : Str} {px apos p : Pos} {α : Type} [Py α] {xs : List α} {m : Option (Rs α)} {out : Rs (List α) → Out} (Γ' : List α → List Slot) (h : JX X R0 H0 Γ e m) (hΓ : Γ[i]? = some (.own xs) := by rfl) (h1 : ∀ ys, out (.ok ys) = .nx (Γ' ys) := by intro _; rfl) (h2 : ∀ x, XAt Γ x (out (.ex x)) := by intro _; first | exact .ex | exact .et) (hu : ∀ ys, Γ' ys = Γ.set i (.own ys) := by intro _; rfl) (hN : X.N[i]? = some x := by rfl)
    (hv : Vis X.env.scope x := by first | exact Or.inl rfl | exact Or.inr (Or.inl rfl) | exact Or.inr (Or.inr rfl)) (hd : (x == ("__debug__" : Str)) = false := by decide) (hcd : (x == ("__classdict__" : Str)) = false := by decide)
    (he : starEach (e :: []) X.env = (false, eval e X.env) :: starEach [] X.env := by rfl) (hpl : (backTo p (starEach ([] : List Expr) X.env)).any (·.1) = false := by rfl) (hfew : ((backTo p (starEach (e :: []) X.env)).all (fun x => !x.1) && (backToKw p (keywordEach [] X.env)).all (fun x => x.1.isSome) && decide ((e :: []).length + ([] : List Keyword).length + (if ([] : List Keyword).isEmpty then 0 else 1) < 30)) = true := by rfl) (hb : attributeBase (.Name x px) "append" X.env (eval (.Name x px) X.env) = eval (.Name x px) X.env := by rfl) (hln : (apos.endLine == p.line) = true := by rfl)
    (hsw : swapsWith (.Call (.Attribute (.Name x px) "append" apos) [e] [] p) none pos.line X.env = pure false := by rfl) :
    J1 X R0 H0 Γ (.Expr (.Call (.Attribute (.Name x px) "append" apos) [e] [] p) pos) (rsB m fun y => lApp xs y) out := .mk fun σ R H S b eb D q => by
  obtain ⟨r, er, eb⟩ := bind_some' eb
  obtain ⟨l, o, hs, hp, ⟨vs, rfl, hv0⟩, hR, hH, _⟩ := S.get_own hΓ
  refine PS_to (ps_expr (pe_bm PySem.F.plainAttrs_list PySem.F.slot_list_append PySem.F.type_list_append mt_append (pv i hN hv hd hcd) (pa_cons eS pa_nil he) (hbase := hb) (hfew := hfew) (hline := hln) (hs := he) (hplain := hpl)) hsw) ⟨.ref l, hs, .inl ⟨rfl, _, .inl (.inl hp)⟩, ?_⟩
  cases r with
  | ok y =>
    have eb : (lApp xs y).bind (fun b => some (Rs.ok b)) = some b := eb
    obtain ⟨ys, ey, eb⟩ := bind_some' eb
    cases eb
    unfold lApp at ey
    by_cases hz : xs.length < 16000000
    case neg =>
      rw [if_neg hz] at ey
      cases ey
    rw [if_pos hz] at ey
    cases ey
    rw [h1] at q
    have q : ∀ σ R' H, Ex R R' → Sat X.K R0 H0 (Γ' (xs ++ [y])) σ R' H → D.nx σ H := q
    rw [hu] at q
    refine h.run σ R H S _ er _ _ takes_no (fun a ea v R1 H1 x1 r1 => ?_) fun x ex => by cases ex
    cases ea
    refine ⟨l, vs, v, rfl, rfl, x1.h _ _ hp, ?_, ?_⟩
    · rw [hv0.len]
      exact Nat.lt_of_lt_of_le hz (by rw [sizeLine_eq]; decide)
    · obtain ⟨_, _, hs', _, _, _, _, up⟩ := S.get_own hΓ
      rw [hs] at hs'
      cases hs'
      exact q _ _ _ x1.r (up R1 H1 _ (xs ++ [y]) x1 ⟨_, rfl, (hv0.mono x1.r).app (.cons r1 .nil)⟩)
  | ex xv =>
    cases eb
    obtain ⟨W, tk, w⟩ := (h2 xv).take q S
    exact h.run σ R H S _ er _ W tk (fun a ea => by cases ea) fun x' ex cls d R' H' e h => by cases ex; exact w cls d R' H' e h
end
end FK

/-! calls of defs whose exceptions have no context -/
namespace FK
open PySem PySem.Spec PyProof.Rows L2
theorem sky_zc {B : Heap} {l : List Env} {a L : Addr} {cls : Value} {d : Option Addr} {h : Heap} (x : Sky B l a (L2N.Zn cls d) L h) : Sky B l a (Zc cls d) L h := by
  rcases x with ⟨x1, x2, x3, oe, vs, x4, z, x5⟩ | x | ⟨x1, x2, x3, x4⟩
  · exact .inl ⟨x1, x2, x3, oe, vs, x4, z.zc, x5⟩
  · exact .inr (.inl (L2H.flyingZ_imp (fun _ z => L2N.Zn.zc z) x))
  · exact .inr (.inr ⟨x1, x2, x3, L2H.tracedZ_imp (fun _ z => L2N.Zn.zc z) x4⟩)
theorem takes_down {X : Cx} {W : WX} (t : Takes X W) : L2N.Takes X W := fun u s' ⟨a, B, sI, pins, σ, H, cls, d, e, I, nb, up, sky, more⟩ => t u s' ⟨a, B, sI, pins, σ, H, cls, d, e, I, nb, up, sky_zc sky, more⟩
def outNN {α : Type} (Γ1 : α → List Slot) : Rs α → Out
  | .ok a => .nx (Γ1 a)
  | .ex x => .exn x
section
variable {X : Cx} {R0 H0 : Hp} {Γ : List Slot} {e : Expr} {pos : Pos}
theorem jx_ofN {α : Type} [Py α] {m : Option (Rs α)} (h : JXN X R0 H0 Γ e m) : JX X R0 H0 Γ e m := ⟨fun σ R H S r er Q W tk => h.run σ R H S r er Q W (takes_down tk)⟩
theorem j1_setxN (i : Nat) {x : Str} {p1 : Pos} {α : Type} [Py α] {m : Option (Rs α)} {out : Rs α → Out} (Γ' : α → List Slot) (he : JXN X R0 H0 Γ e m) (hN : X.N.Nodup) (h1 : ∀ a, out (.ok a) = .nx (Γ' a) := by intro _; rfl) (h2 : ∀ x, out (.ex x) = .exn x := by intro _; rfl) (hΓ : ∀ a, Γ' a = Γ.set i (.v a) := by intro _; rfl) (hi : X.N[i]? = some x := by rfl) (hl : i < Γ.length := by exact Nat.le_of_ble_eq_true rfl) (hx : Loc X.env.scope x := by first | exact Or.inl rfl | exact Or.inr rfl)
    (hs : swapsWith e (some (.Name x p1)) pos.line X.env = pure false := by rfl) (hf : X.fn x = true ∨ X.env.scope.names.lookup x = some .local := by first | exact .inl rfl | exact .inr rfl) : J1 X R0 H0 Γ (.Assign [.Name x p1] e pos) m out := .mk fun σ R H S r er D q => by
  cases r with
  | ok a =>
    rw [h1] at q
    have q : ∀ σ R' H, Ex R R' → Sat X.K R0 H0 (Γ' a) σ R' H → D.nx σ H := q
    rw [hΓ a] at q
    exact PS_to (ps_set hN hi hx eS hs hf) (he.run σ R H S _ er _ _ takes_noN (fun a' ea v R' H' y rr => by cases ea; exact q _ R' H' y.r ((S.ext y).set_v hl rr)) fun x ex => by cases ex)
  | ex xv =>
    rw [h2] at q
    have tk : L2N.Takes X fun cls d _ H => ∃ R, Ext R0 H0 R H ∧ XOk X.K R cls d xv := q
    exact PS_to (ps_set hN hi hx eS hs hf) (he.run σ R H S _ er _ _ tk (fun a ea => by cases ea) fun x' ex cls d R' H' e h => by cases ex; exact ⟨R', S.e0.trans e, h⟩)
end
end FK

namespace K22
open PySem PySem.Spec PyProof.Rows L2 FK
def topS (i : Nat) : Stmt := PySem.Challenge.pw_folk_k22_rules_refused.main.body.getD i (.Pass ⟨0, 0, 0, 0⟩)
structure Txt (P : Program) (w : World) (K : PySem.W.Frag) (mg : Str → Option Value) (base : Heap) : Prop where
  ok : True
  x_NoRow : XInit P w K mg base "NoRow" "row" ["self", "row"]
  xh_NoRow : XHot P w K mg base "NoRow" "row" ["self", "row"]
  xs : Xs K [("NoRow" : Str)]
  it_NoName : IsT K mg [("NoRow" : Str)] "NoName" (fun c => decide (c ∈ []))
  it_NoPair : IsT K mg [("NoRow" : Str)] "NoPair" (fun c => decide (c ∈ []))
  it_NoRow : IsT K mg [("NoRow" : Str)] "NoRow" (fun c => decide (c ∈ [("NoRow" : Str)]))
  it_NoText : IsT K mg [("NoRow" : Str)] "NoText" (fun c => decide (c ∈ []))
  it_ValueError : IsB K [("NoRow" : Str)] "ValueError" (fun c => decide (c ∈ [("NoRow" : Str)]))
  ct_FolkError : CatchT K mg [("NoRow" : Str)] "FolkError"
  ct_NoRow : CatchT K mg [("NoRow" : Str)] "NoRow"
  nf_row : NoF K [("NoRow" : Str)] "row"
  rus : Rus K [("Same" : Str), ("Like" : Str), ("Near" : Str), ("Other" : Str), ("Former" : Str)]
  mk_Same : MkOk P w K mg base 1 "Same"
  mk_Like : MkOk P w K mg base 1 "Like"
  mk_Near : MkOk P w K mg base 1 "Near"
  mk_Other : MkOk P w K mg base 1 "Other"
  mk_Former : MkOk1 P w K mg base 2 "Former"
  n_ValueError : mg "ValueError" = none
  n_bool : mg "bool" = none
  n_enumerate : mg "enumerate" = none
  n_int : mg "int" = none
  n_isinstance : mg "isinstance" = none
  n_len : mg "len" = none
  n_max : mg "max" = none
  n_min : mg "min" = none
  n_range : mg "range" = none
  n_str : mg "str" = none
  g_FIELDS : WTup K mg "FIELDS" [("name" : Str), ("former" : Str), ("way" : Str), ("day" : Str), ("mark" : Str)]
  g_GREATEST : ∃ t, mg "GREATEST" = some (.int 1000000000 t)
section
variable {P : Program} {w : World} {K : PySem.W.Frag} {mg : Str → Option Value} {base : Heap}
abbrev s__law_words : Stmt := topS 38
abbrev n__law_words : List Str := ["_law_cell", "_law_way", "_law_number", "_law_field", "_law_sort"]
theorem sc__law_words : FnScope n__law_words ["_law_cell"] (defScope s__law_words) := ⟨rfl, rfl, rfl, by decide +kernel, rfl, by decide +kernel, by decide +kernel⟩
def m__law_words : Int × Unit → Option (List Str) := fun (g : Int × Unit) => (Option.bind (atI [("for" : Str), ("against" : Str)] (g.1 % 2)) fun (way_1 : Str) => (Option.bind (iStr ((1 : Int) + ((g.1 / 2) % (1000000000 : Int)))) fun (number_2 : Str) => (Option.bind (atI [("name" : Str), ("former" : Str), ("way" : Str), ("day" : Str), ("mark" : Str)] ((g.1 / 7) % 5)) fun (field_3 : Str) => (Option.bind (atI [("same" : Str), ("like" : Str), ("near" : Str), ("other" : Str), ("former" : Str)] ((g.1 / 35) % 5)) fun (sort_4 : Str) => (Option.bind (ifM (some (decide (sort_4 = ("former" : Str)))) (Option.bind (some ("name" : Str)) fun (field_6 : Str) => (some field_6)) (some field_3)) fun (s5 : Str) => (some [way_1, number_2, s5, sort_4]))))))
theorem ok__law_words {f : Addr} {fd : FuncData} (F : Fun K "_law_words" "_law_words" s__law_words f fd) (T : Txt P w K mg base)  : FnOk P w K mg base CX0 1 f fd ["_law_cell"] (spO K m__law_words) := by
  refine fn_o F sc__law_words (ar1 K) fun cdv A outer s H R E g hr => jn_sub (Γ' := [.b g.1, .any, .any, .any, .any]) sub_rfl ?_
  exact (jn_c (Γ1 := fun (way_1 : Str) => [.b g.1, .v way_1, .any, .any, .any]) (j1_set 1 (fun (way_1 : Str) => [.b g.1, .v way_1, .any, .any, .any]) (je_ixl_t (jb_o (jo_lst (ll_cons_t je_str (ll_cons_t je_str ll_nil)))) (jb_e (je_modc_t (jb_var 0))) (fun _ _ => rfl)) sc__law_words.nd) (fun way_1 => (jn_c (Γ1 := fun (number_2 : Str) => [.b g.1, .v way_1, .v number_2, .any, .any]) (j1_set 2 (fun (number_2 : Str) => [.b g.1, .v way_1, .v number_2, .any, .any]) (je_stri_t T.n_str (jb_e (je_add_t (jb_e je_int) (jb_e (je_modp_t (jb_e (je_fdivc_t (jb_var 0))) (jb_e je_powc)))))) sc__law_words.nd) (fun number_2 => (jn_c (Γ1 := fun (field_3 : Str) => [.b g.1, .v way_1, .v number_2, .v field_3, .any]) (j1_set 3 (fun (field_3 : Str) => [.b g.1, .v way_1, .v number_2, .v field_3, .any]) (je_ixl_t (jb_o (jo_lst (ll_cons_t je_str (ll_cons_t je_str (ll_cons_t je_str (ll_cons_t je_str (ll_cons_t je_str ll_nil))))))) (jb_e (je_modc_t (jb_e (je_fdivc_t (jb_var 0))))) (fun _ _ => rfl)) sc__law_words.nd) (fun field_3 => (jn_c (Γ1 := fun (sort_4 : Str) => [.b g.1, .v way_1, .v number_2, .v field_3, .v sort_4]) (j1_set 4 (fun (sort_4 : Str) => [.b g.1, .v way_1, .v number_2, .v field_3, .v sort_4]) (je_ixl_t (jb_o (jo_lst (ll_cons_t je_str (ll_cons_t je_str (ll_cons_t je_str (ll_cons_t je_str (ll_cons_t je_str ll_nil))))))) (jb_e (je_modc_t (jb_e (je_fdivc_t (jb_var 0))))) (fun _ _ => rfl)) sc__law_words.nd) (fun sort_4 => (jn_c (Γ1 := fun (s5 : Str) => [.b g.1, .v way_1, .v number_2, .v s5, .v sort_4]) (j1_if (jt_eq_t (jb_e (je_var 4)) (jb_e je_str)) (js_c (Γ1 := fun (field_6 : Str) => [.b g.1, .v way_1, .v number_2, .v field_6, .v sort_4]) (j1_set 3 (fun (field_6 : Str) => [.b g.1, .v way_1, .v number_2, .v field_6, .v sort_4]) je_str sc__law_words.nd) (fun field_6 => (js_nil sub_rfl))) (js_nil sub_rfl)) (fun s5 => (jn_reto (jo_lst (ll_cons_t (je_var 1) (ll_cons_t (je_var 2) (ll_cons_t (je_var 3) (ll_cons_t (je_var 4) ll_nil))))))))))))))))
abbrev s__law_cell_at : Stmt := topS 36
abbrev n__law_cell_at : List Str := ["_law_script", "_law_k"]
theorem sc__law_cell_at : FnScope n__law_cell_at ["_law_script", "_law_k"] (defScope s__law_cell_at) := ⟨rfl, rfl, rfl, by decide +kernel, rfl, by decide +kernel, by decide +kernel⟩
def m__law_cell_at : Scr × Int × Unit → Option Int := fun (g : Scr × Int × Unit) => (ifM (some (decide (g.2.1 < (g.1.l.length : Int)))) (atI g.1.l g.2.1) (some (0 : Int)))
theorem ok__law_cell_at {f : Addr} {fd : FuncData} (F : Fun K "_law_cell_at" "_law_cell_at" s__law_cell_at f fd) (T : Txt P w K mg base)  : FnOk P w K mg base CX0 1 f fd ["_law_script", "_law_k"] (spV K m__law_cell_at) := by
  refine fn_v F sc__law_cell_at (ar2 K) fun cdv A outer s H R E g hr => jn_sub (Γ' := [.b g.1, .b g.2.1]) sub_rfl ?_
  exact (jn_ifr (jt_lt_t (jb_var 1) (jb_e (je_lenscr_t T.n_len (jb_var 0)))) (jn_ret (je_ixscr_t (jb_var 0) (jb_var 1) (fun _ _ => rfl))) (jn_ret je_int))
abbrev s__law_bad_number : Stmt := topS 39
abbrev n__law_bad_number : List Str := ["_law_number", "_law_draw", "_law_some"]
theorem sc__law_bad_number : FnScope n__law_bad_number ["_law_number", "_law_draw"] (defScope s__law_bad_number) := ⟨rfl, rfl, rfl, by decide +kernel, rfl, by decide +kernel, by decide +kernel⟩
def m__law_bad_number : Str × Int × Unit → Option Str := fun (g : Str × Int × Unit) => (Option.bind (Option.bind (some ("0" : Str)) fun (t18 : Str) => Option.bind (Option.bind (sAdd ("0" : Str) g.1) fun (t16 : Str) => Option.bind (Option.bind (some ("1000000001" : Str)) fun (t14 : Str) => Option.bind (Option.bind (some ("10000000000" : Str)) fun (t12 : Str) => Option.bind (Option.bind (sAdd ("-" : Str) g.1) fun (t10 : Str) => Option.bind (Option.bind (sAdd ("+" : Str) g.1) fun (t8 : Str) => Option.bind (Option.bind (sAdd g.1 ("." : Str)) fun (t6 : Str) => Option.bind (Option.bind (some ("1_0" : Str)) fun (t4 : Str) => Option.bind (Option.bind (some ("00" : Str)) fun (t2 : Str) => Option.bind (some ([] : List Str)) fun (t3 : List Str) => some (t2 :: t3)) fun (t5 : List Str) => some (t4 :: t5)) fun (t7 : List Str) => some (t6 :: t7)) fun (t9 : List Str) => some (t8 :: t9)) fun (t11 : List Str) => some (t10 :: t11)) fun (t13 : List Str) => some (t12 :: t13)) fun (t15 : List Str) => some (t14 :: t15)) fun (t17 : List Str) => some (t16 :: t17)) fun (t19 : List Str) => some (t18 :: t19)) fun (some_1 : (List Str)) => (Option.bind (Option.bind (some some_1) fun (t28 : (List Str)) => Option.bind (Option.bind (some ("x" : Str)) fun (t26 : Str) => Option.bind (Option.bind (some ("1e3" : Str)) fun (t24 : Str) => Option.bind (Option.bind (some ("99999999999" : Str)) fun (t22 : Str) => Option.bind (Option.bind (sAdd g.1 (",0" : Str)) fun (t20 : Str) => Option.bind (some ([] : List Str)) fun (t21 : List Str) => some (t20 :: t21)) fun (t23 : List Str) => some (t22 :: t23)) fun (t25 : List Str) => some (t24 :: t25)) fun (t27 : List Str) => some (t26 :: t27)) fun (t29 : (List Str)) => (lCat t28 t29)) fun (t30 : (List Str)) => Option.bind (some (g.2.1 % 13)) fun (t31 : Int) => (atI t30 t31)))
theorem ok__law_bad_number {f : Addr} {fd : FuncData} (F : Fun K "_law_bad_number" "_law_bad_number" s__law_bad_number f fd) (T : Txt P w K mg base)  : FnOk P w K mg base CX0 1 f fd ["_law_number", "_law_draw"] (spV K m__law_bad_number) := by
  refine fn_v F sc__law_bad_number (ar2 K) fun cdv A outer s H R E g hr => jn_sub (Γ' := [.b g.1, .b g.2.1, .any]) sub_rfl ?_
  exact (jn_c (Γ1 := fun (some_1 : (List Str)) => [.b g.1, .b g.2.1, .own some_1]) (j1_seto 2 (fun (some_1 : (List Str)) => [.b g.1, .b g.2.1, .own some_1]) (jo_lst (ll_cons je_str (ll_cons (je_cat_t (jb_e je_str) (jb_var 0)) (ll_cons je_str (ll_cons je_str (ll_cons (je_cat_t (jb_e je_str) (jb_var 0)) (ll_cons (je_cat_t (jb_e je_str) (jb_var 0)) (ll_cons (je_cat_t (jb_var 0) (jb_e je_str)) (ll_cons je_str (ll_cons je_str ll_nil)))))))))) sc__law_bad_number.nd) (fun some_1 => (jn_ret (je_ixl (jb_o (jo_catl (jb_own 2) (jb_o (jo_lst (ll_cons je_str (ll_cons je_str (ll_cons je_str (ll_cons (je_cat_t (jb_var 0) (jb_e je_str)) ll_nil)))))))) (jb_e (je_modc_t (jb_var 1))) (fun _ _ => rfl)))))
abbrev s__law_spoiled : Stmt := topS 40
abbrev n__law_spoiled : List Str := ["_law_words_here", "_law_way", "_law_draw", "_law_row"]
theorem sc__law_spoiled : FnScope n__law_spoiled ["_law_words_here", "_law_way", "_law_draw"] (defScope s__law_spoiled) := ⟨rfl, rfl, rfl, by decide +kernel, rfl, by decide +kernel, by decide +kernel⟩
def m__law_spoiled : (List Str) × Int × Int × Unit → Option Str := fun (g : (List Str) × Int × Int × Unit) => (Option.bind (sJoin (" " : Str) g.1) fun (row_1 : Str) => (ifM (some (decide (g.2.1 = (0 : Int)))) (Option.bind (Option.bind (some ("" : Str)) fun (t12 : Str) => Option.bind (Option.bind (some (" " : Str)) fun (t10 : Str) => Option.bind (Option.bind (some ("for" : Str)) fun (t8 : Str) => Option.bind (Option.bind (sJoin (" " : Str) (cutA g.1 none (some (3 : Int)))) fun (t6 : Str) => Option.bind (Option.bind (sAdd row_1 (" name" : Str)) fun (t4 : Str) => Option.bind (Option.bind (some ("for 5" : Str)) fun (t2 : Str) => Option.bind (some ([] : List Str)) fun (t3 : List Str) => some (t2 :: t3)) fun (t5 : List Str) => some (t4 :: t5)) fun (t7 : List Str) => some (t6 :: t7)) fun (t9 : List Str) => some (t8 :: t9)) fun (t11 : List Str) => some (t10 :: t11)) fun (t13 : List Str) => some (t12 :: t13)) fun (t14 : (List Str)) => Option.bind (some (g.2.2.1 % 6)) fun (t15 : Int) => (atI t14 t15)) (ifM (some (decide (g.2.1 = (1 : Int)))) (Option.bind (some (" " : Str)) fun (t20 : Str) => Option.bind (Option.bind (Option.bind (atI [("For" : Str), ("fo" : Str), ("with" : Str), ("againsts" : Str), ("FOR" : Str), ("if" : Str)] (g.2.2.1 % 6)) fun (t16 : Str) => Option.bind (some ([] : List Str)) fun (t17 : List Str) => some (t16 :: t17)) fun (t18 : (List Str)) => Option.bind (some (cutA g.1 (some (1 : Int)) none)) fun (t19 : (List Str)) => (lCat t18 t19)) fun (t21 : (List Str)) => (sJoin t20 t21)) (ifM (some (decide (g.2.1 = (2 : Int)))) (Option.bind (some (" " : Str)) fun (t32 : Str) => Option.bind (Option.bind (Option.bind (atI g.1 (0 : Int)) fun (t28 : Str) => Option.bind (Option.bind (Option.bind (Option.bind (atI g.1 (1 : Int)) fun (t24 : Str) => Option.bind (Option.bind (some g.2.2.1) fun (t22 : Int) => Option.bind (some ()) fun (t23 : Unit) => some (t22, t23)) fun (t25 : (Int × Unit)) => some (t24, t25)) m__law_bad_number) fun (t26 : Str) => Option.bind (some ([] : List Str)) fun (t27 : List Str) => some (t26 :: t27)) fun (t29 : List Str) => some (t28 :: t29)) fun (t30 : (List Str)) => Option.bind (some (cutA g.1 (some (2 : Int)) none)) fun (t31 : (List Str)) => (lCat t30 t31)) fun (t33 : (List Str)) => (sJoin t32 t33)) (ifM (some (decide (g.2.1 = (3 : Int)))) (Option.bind (some (" " : Str)) fun (t40 : Str) => Option.bind (Option.bind (some (cutA g.1 none (some (2 : Int)))) fun (t38 : (List Str)) => Option.bind (Option.bind (atI [("names" : Str), ("Name" : Str), ("same" : Str), ("NAME" : Str), ("apart" : Str), ("sort" : Str)] (g.2.2.1 % 6)) fun (t36 : Str) => Option.bind (Option.bind (atI g.1 (3 : Int)) fun (t34 : Str) => Option.bind (some ([] : List Str)) fun (t35 : List Str) => some (t34 :: t35)) fun (t37 : List Str) => some (t36 :: t37)) fun (t39 : (List Str)) => (lCat t38 t39)) fun (t41 : (List Str)) => (sJoin t40 t41)) (ifM (some (decide (g.2.1 = (4 : Int)))) (Option.bind (some (" " : Str)) fun (t46 : Str) => Option.bind (Option.bind (some (cutA g.1 none (some (3 : Int)))) fun (t44 : (List Str)) => Option.bind (Option.bind (atI [("Same" : Str), ("likes" : Str), ("nea" : Str), ("others" : Str), ("equal" : Str), ("name" : Str)] (g.2.2.1 % 6)) fun (t42 : Str) => Option.bind (some ([] : List Str)) fun (t43 : List Str) => some (t42 :: t43)) fun (t45 : (List Str)) => (lCat t44 t45)) fun (t47 : (List Str)) => (sJoin t46 t47)) (ifM (some (decide (g.2.1 = (5 : Int)))) (Option.bind (some (" " : Str)) fun (t54 : Str) => Option.bind (Option.bind (some (cutA g.1 none (some (2 : Int)))) fun (t52 : (List Str)) => Option.bind (Option.bind (atI [("former" : Str), ("way" : Str), ("day" : Str), ("mark" : Str)] (g.2.2.1 % 4)) fun (t50 : Str) => Option.bind (Option.bind (some ("former" : Str)) fun (t48 : Str) => Option.bind (some ([] : List Str)) fun (t49 : List Str) => some (t48 :: t49)) fun (t51 : List Str) => some (t50 :: t51)) fun (t53 : (List Str)) => (lCat t52 t53)) fun (t55 : (List Str)) => (sJoin t54 t55)) (ifM (some (decide (g.2.1 = (6 : Int)))) (Option.bind (Option.bind (sAdd (" " : Str) row_1) fun (t66 : Str) => Option.bind (Option.bind (sAdd row_1 (" " : Str)) fun (t64 : Str) => Option.bind (Option.bind (sJoin ("  " : Str) g.1) fun (t62 : Str) => Option.bind (Option.bind (Option.bind (Option.bind (atI g.1 (0 : Int)) fun (t56 : Str) => Option.bind (some ("  " : Str)) fun (t57 : Str) => (sAdd t56 t57)) fun (t58 : Str) => Option.bind (sJoin (" " : Str) (cutA g.1 (some (1 : Int)) none)) fun (t59 : Str) => (sAdd t58 t59)) fun (t60 : Str) => Option.bind (some ([] : List Str)) fun (t61 : List Str) => some (t60 :: t61)) fun (t63 : List Str) => some (t62 :: t63)) fun (t65 : List Str) => some (t64 :: t65)) fun (t67 : List Str) => some (t66 :: t67)) fun (t68 : (List Str)) => Option.bind (some (g.2.2.1 % 4)) fun (t69 : Int) => (atI t68 t69)) (sAdd ("#" : Str) row_1)))))))))
theorem ok__law_spoiled {f : Addr} {fd : FuncData} (F : Fun K "_law_spoiled" "_law_spoiled" s__law_spoiled f fd) (T : Txt P w K mg base) (c__law_bad_number : Cal P w K mg base CX0 1 "_law_bad_number" ["_law_number", "_law_draw"] (spV K m__law_bad_number)) : FnOk P w K mg base CX0 2 f fd ["_law_words_here", "_law_way", "_law_draw"] (spV K m__law_spoiled) := by
  refine fn_v F sc__law_spoiled (ar3 K) fun cdv A outer s H R E g hr => jn_sub (Γ' := [.b g.1, .b g.2.1, .b g.2.2.1, .any]) sub_rfl ?_
  exact (jn_c (Γ1 := fun (row_1 : Str) => [.b g.1, .b g.2.1, .b g.2.2.1, .v row_1]) (j1_set 3 (fun (row_1 : Str) => [.b g.1, .b g.2.1, .b g.2.2.1, .v row_1]) (je_join_t (jb_e je_str) (jb_var 0)) sc__law_spoiled.nd) (fun row_1 => (jn_ifr (jt_eq_t (jb_var 1) (jb_e je_int)) (jn_ret (je_ixl (jb_o (jo_lst (ll_cons je_str (ll_cons je_str (ll_cons je_str (ll_cons (je_join_t (jb_e je_str) (jb_o (jo_cutl_t (jb_var 0) jp_none (jp_some_t (jb_e je_int))))) (ll_cons (je_cat_t (jb_e (je_var 3)) (jb_e je_str)) (ll_cons je_str ll_nil)))))))) (jb_e (je_modc_t (jb_var 2))) (fun _ _ => rfl))) (jn_ifr (jt_eq_t (jb_var 1) (jb_e je_int)) (jn_ret (je_join (jb_e je_str) (jb_o (jo_catl (jb_o (jo_lst (ll_cons (je_ixl_t (jb_o (jo_lst (ll_cons_t je_str (ll_cons_t je_str (ll_cons_t je_str (ll_cons_t je_str (ll_cons_t je_str (ll_cons_t je_str ll_nil)))))))) (jb_e (je_modc_t (jb_var 2))) (fun _ _ => rfl)) ll_nil))) (jb_o (jo_cutl_t (jb_var 0) (jp_some_t (jb_e je_int)) jp_none)))))) (jn_ifr (jt_eq_t (jb_var 1) (jb_e je_int)) (jn_ret (je_join (jb_e je_str) (jb_o (jo_catl (jb_o (jo_lst (ll_cons (je_ixl_t (jb_var 0) (jb_e je_int) (fun _ _ => rfl)) (ll_cons (je_call c__law_bad_number (hr.mono (by decide)) (ja_cons (jb_e (je_ixl_t (jb_var 0) (jb_e je_int) (fun _ _ => rfl))) (ja_cons (jb_var 2) ja_nil))) ll_nil)))) (jb_o (jo_cutl_t (jb_var 0) (jp_some_t (jb_e je_int)) jp_none)))))) (jn_ifr (jt_eq_t (jb_var 1) (jb_e je_int)) (jn_ret (je_join (jb_e je_str) (jb_o (jo_catl (jb_o (jo_cutl_t (jb_var 0) jp_none (jp_some_t (jb_e je_int)))) (jb_o (jo_lst (ll_cons (je_ixl_t (jb_o (jo_lst (ll_cons_t je_str (ll_cons_t je_str (ll_cons_t je_str (ll_cons_t je_str (ll_cons_t je_str (ll_cons_t je_str ll_nil)))))))) (jb_e (je_modc_t (jb_var 2))) (fun _ _ => rfl)) (ll_cons (je_ixl_t (jb_var 0) (jb_e je_int) (fun _ _ => rfl)) ll_nil)))))))) (jn_ifr (jt_eq_t (jb_var 1) (jb_e je_int)) (jn_ret (je_join (jb_e je_str) (jb_o (jo_catl (jb_o (jo_cutl_t (jb_var 0) jp_none (jp_some_t (jb_e je_int)))) (jb_o (jo_lst (ll_cons (je_ixl_t (jb_o (jo_lst (ll_cons_t je_str (ll_cons_t je_str (ll_cons_t je_str (ll_cons_t je_str (ll_cons_t je_str (ll_cons_t je_str ll_nil)))))))) (jb_e (je_modc_t (jb_var 2))) (fun _ _ => rfl)) ll_nil))))))) (jn_ifr (jt_eq_t (jb_var 1) (jb_e je_int)) (jn_ret (je_join (jb_e je_str) (jb_o (jo_catl (jb_o (jo_cutl_t (jb_var 0) jp_none (jp_some_t (jb_e je_int)))) (jb_o (jo_lst (ll_cons (je_ixl_t (jb_o (jo_lst (ll_cons_t je_str (ll_cons_t je_str (ll_cons_t je_str (ll_cons_t je_str ll_nil)))))) (jb_e (je_modc_t (jb_var 2))) (fun _ _ => rfl)) (ll_cons je_str ll_nil)))))))) (jn_ifr (jt_eq_t (jb_var 1) (jb_e je_int)) (jn_ret (je_ixl (jb_o (jo_lst (ll_cons (je_cat_t (jb_e je_str) (jb_e (je_var 3))) (ll_cons (je_cat_t (jb_e (je_var 3)) (jb_e je_str)) (ll_cons (je_join_t (jb_e je_str) (jb_var 0)) (ll_cons (je_cat (jb_e (je_cat (jb_e (je_ixl_t (jb_var 0) (jb_e je_int) (fun _ _ => rfl))) (jb_e je_str))) (jb_e (je_join_t (jb_e je_str) (jb_o (jo_cutl_t (jb_var 0) (jp_some_t (jb_e je_int)) jp_none))))) ll_nil)))))) (jb_e (je_modc_t (jb_var 2))) (fun _ _ => rfl))) (jn_ret (je_cat_t (jb_e je_str) (jb_e (je_var 3)))))))))))))
abbrev s_is_passed_by : Stmt := topS 16
abbrev n_is_passed_by : List Str := ["row"]
theorem sc_is_passed_by : FnScope n_is_passed_by ["row"] (defScope s_is_passed_by) := ⟨rfl, rfl, rfl, by decide +kernel, rfl, by decide +kernel, by decide +kernel⟩
def m_is_passed_by : Str × Unit → Option Bool := fun (g : Str × Unit) => (bOr (Option.bind (sStrip g.1 (" " : Str)) fun (t1 : Str) => Option.bind (some ("" : Str)) fun (t2 : Str) => some (decide (t1 = t2))) (some (Txt.startswith g.1 ("#" : Str))))
theorem ok_is_passed_by {f : Addr} {fd : FuncData} (F : Fun K "is_passed_by" "is_passed_by" s_is_passed_by f fd) (T : Txt P w K mg base)  : FnOk P w K mg base CX0 1 f fd ["row"] (spV K m_is_passed_by) := by
  refine fn_v F sc_is_passed_by (ar1 K) fun cdv A outer s H R E g hr => jn_sub (Γ' := [.b g.1]) sub_rfl ?_
  exact (jn_ret (je_or (jb_e (je_eq (jb_e (je_strip_t (jb_var 0) (jb_e je_str))) (jb_e je_str))) (je_one (jb_e (je_startswith_t (jb_var 0) (jb_e je_str))))))
abbrev s_number_by : Stmt := topS 30
abbrev n_number_by : List Str := ["word", "sign"]
theorem sc_number_by : FnScope n_number_by ["word"] (defScope s_number_by) := ⟨rfl, rfl, rfl, by decide +kernel, rfl, by decide +kernel, by decide +kernel⟩
def b_number_by_1  (s9 : Unit) (x10 : Str) : (Option (Fl Unit (Rs Int))) := (ifM (Option.bind (Option.bind (some ("0" : Str)) fun (t11 : Str) => Option.bind (some x10) fun (t12 : Str) => if (!sLt t12 t11) = true then Option.bind (some ("9" : Str)) fun (t13 : Str) => some (!sLt t13 t12) else some false) fun (t14 : Bool) => some (!t14)) (Option.bind (Option.bind (Option.bind (some (1 : Int)) fun (t15 : Int) => some (⟨("NoRow" : Str), Pd.pl ("row" : Str) t15⟩ : Xv)) fun (t16 : Xv) => some (Rs.ex t16 : (Rs Int))) fun (t17 : (Rs Int)) => some (Fl.rt t17)) (some (Fl.nx ())))
def m_number_by : Str × Unit → Option (Rs Int) := fun (g : Str × Unit) => (ifM (bOr (Option.bind (Option.bind (some (1 : Int)) fun (t1 : Int) => Option.bind (sLen g.1) fun (t2 : Int) => if (decide (t1 ≤ t2)) = true then Option.bind (some (10 : Int)) fun (t3 : Int) => some (decide (t2 ≤ t3)) else some false) fun (t4 : Bool) => some (!t4)) (Option.bind (sAt g.1 (0 : Int)) fun (t5 : Str) => Option.bind (some ("0" : Str)) fun (t6 : Str) => some (decide (t5 = t6)))) (Option.bind (Option.bind (some (1 : Int)) fun (t7 : Int) => some (⟨("NoRow" : Str), Pd.pl ("row" : Str) t7⟩ : Xv)) fun (t8 : Xv) => some (Rs.ex t8 : (Rs Int))) (thenF (S := Unit) (ρ := (Rs Int)) (Option.bind (some (sgn g.1)) fun (xs18 : List Str) => forF (S := Unit) (ρ := (Rs Int)) (b_number_by_1) xs18 ()) (fun (s19 : Unit) => (ifM (Option.bind (sInt g.1) fun (t20 : Int) => Option.bind (some (1000000000 : Int)) fun (t21 : Int) => some (decide (t21 < t20))) (Option.bind (Option.bind (some (1 : Int)) fun (t22 : Int) => some (⟨("NoRow" : Str), Pd.pl ("row" : Str) t22⟩ : Xv)) fun (t23 : Xv) => some (Rs.ex t23 : (Rs Int))) (Option.bind (sInt g.1) fun (t24 : Int) => some (Rs.ok t24)))) (fun v => some v) (fun _ => none) (fun _ => none)))
theorem ok_number_by {f : Addr} {fd : FuncData} (F : Fun K "number_by" "number_by" s_number_by f fd) (T : Txt P w K mg base)  : FnOk P w K mg base (L2N.CX P w) 3 f fd ["word"] (spX K m_number_by) := by
  refine fn_xN F sc_number_by (ar1 K) fun cdv A outer s H R E g hr => jn_sub (Γ' := [.b g.1, .any]) sub_rfl ?_
  exact (jn_ifr (jt_w (jw_or (jt_not (jt_chlele (jb_e je_int) (jb_e (je_lens_t T.n_len (jb_var 0))) (jb_e je_int))) (jw_or1 (jt_eq (jb_e (je_ixs_t (jb_var 0) (jb_e je_int) (fun _ _ => rfl))) (jb_e je_str))))) (jn_map (out' := outRN) Rs.ex (jn_raiseN (jmn_init (m := some (1 : Int)) T.x_NoRow (hr.mono (by decide)) je_int))) (jn_f (ret := fun a => outRN a) (r := fun v => v) (Γ1 := fun (s19 : Unit) => [.b g.1, .any]) (j1_forF (S := Unit) (ρ := (Rs Int)) (ret := fun a => outRN a) () (fun (s9 : Unit) => [.b g.1, .any]) (fun (s9 : Unit) (x10 : Str) => [.b g.1, .v x10]) passes_bodyN rfl sub_rfl (ji_str_t (je_f (jb_var 0))) (fun s9 => jg_name 1 sc_number_by.nd) (fun s9 x10 => (js_ifr (jt_not (jt_chless (jb_e je_str) (jb_e (je_var 1)) (jb_e je_str))) (jn_map Fl.rt (jn_map (out' := outRN) Rs.ex (jn_raiseN (jmn_init (m := some (1 : Int)) T.x_NoRow (hr.mono (by decide)) je_int)))) (js_nil (sub_drop 1 (h := sub_rfl))))) (hr := outRN_nx) (hr2 := outRN_bk) (hr3 := outRN_ct) (hr4 := outRN_et)) (fun s19 => (jn_ifr (jt_gt (jb_e (je_ints_t T.n_int (jb_var 0))) (jb_e (je_globi T.g_GREATEST.choose_spec))) (jn_map (out' := outRN) Rs.ex (jn_raiseN (jmn_init (m := some (1 : Int)) T.x_NoRow (hr.mono (by decide)) je_int))) (jn_map (out' := outRN) Rs.ok (jn_ret (je_ints_t T.n_int (jb_var 0)))))) (hn := outRN_nx)))
abbrev s_rule_by : Stmt := topS 31
abbrev n_rule_by : List Str := ["weight", "field", "sort"]
theorem sc_rule_by : FnScope n_rule_by ["weight", "field", "sort"] (defScope s_rule_by) := ⟨rfl, rfl, rfl, by decide +kernel, rfl, by decide +kernel, by decide +kernel⟩
def m_rule_by : Int × Str × Str × Unit → Option (Rs Ru) := fun (g : Int × Str × Str × Unit) => (ifM (some (!decide (g.2.1 ∈ (⟨[("name" : Str), ("former" : Str), ("way" : Str), ("day" : Str), ("mark" : Str)]⟩ : Tl Str).l))) (Option.bind (Option.bind (some (1 : Int)) fun (t1 : Int) => some (⟨("NoRow" : Str), Pd.pl ("row" : Str) t1⟩ : Xv)) fun (t2 : Xv) => some (Rs.ex t2 : (Rs Ru))) (ifM (some (decide (g.2.2.1 = ("same" : Str)))) (Option.bind (Option.bind (some g.1) fun (t3 : Int) => Option.bind (some g.2.1) fun (t4 : Str) => some (⟨("Same" : Str), t3, t4⟩ : Ru)) fun (t5 : Ru) => some (Rs.ok t5)) (ifM (some (decide (g.2.2.1 = ("like" : Str)))) (Option.bind (Option.bind (some g.1) fun (t6 : Int) => Option.bind (some g.2.1) fun (t7 : Str) => some (⟨("Like" : Str), t6, t7⟩ : Ru)) fun (t8 : Ru) => some (Rs.ok t8)) (ifM (some (decide (g.2.2.1 = ("near" : Str)))) (Option.bind (Option.bind (some g.1) fun (t9 : Int) => Option.bind (some g.2.1) fun (t10 : Str) => some (⟨("Near" : Str), t9, t10⟩ : Ru)) fun (t11 : Ru) => some (Rs.ok t11)) (ifM (some (decide (g.2.2.1 = ("other" : Str)))) (Option.bind (Option.bind (some g.1) fun (t12 : Int) => Option.bind (some g.2.1) fun (t13 : Str) => some (⟨("Other" : Str), t12, t13⟩ : Ru)) fun (t14 : Ru) => some (Rs.ok t14)) (ifM (bAnd (some (decide (g.2.2.1 = ("former" : Str)))) (some (decide (g.2.1 = ("name" : Str))))) (Option.bind (Option.bind (some g.1) fun (t15 : Int) => some (⟨("Former" : Str), t15, "name"⟩ : Ru)) fun (t16 : Ru) => some (Rs.ok t16)) (Option.bind (Option.bind (some (1 : Int)) fun (t17 : Int) => some (⟨("NoRow" : Str), Pd.pl ("row" : Str) t17⟩ : Xv)) fun (t18 : Xv) => some (Rs.ex t18 : (Rs Ru)))))))))
theorem ok_rule_by {f : Addr} {fd : FuncData} (F : Fun K "rule_by" "rule_by" s_rule_by f fd) (T : Txt P w K mg base)  : FnOk P w K mg base (L2N.CX P w) 4 f fd ["weight", "field", "sort"] (spX K m_rule_by) := by
  refine fn_xN F sc_rule_by (ar3 K) fun cdv A outer s H R E g hr => jn_sub (Γ' := [.b g.1, .b g.2.1, .b g.2.2.1]) sub_rfl ?_
  exact (jn_ifr (jt_ninu_t hr.units (jb_var 1) (jb_e (je_wtup T.g_FIELDS))) (jn_map (out' := outRN) Rs.ex (jn_raiseN (jmn_init (m := some (1 : Int)) T.x_NoRow (hr.mono (by decide)) je_int))) (jn_ifr (jt_eq_t (jb_var 2) (jb_e je_str)) (jn_map (out' := outRN) Rs.ok (jn_ret (je_make2 (ma := (some g.1)) (mb := (some g.2.1)) T.mk_Same (hr.mono (by decide)) (je_f (jb_var 0)) (je_f (jb_var 1))))) (jn_ifr (jt_eq_t (jb_var 2) (jb_e je_str)) (jn_map (out' := outRN) Rs.ok (jn_ret (je_make2 (ma := (some g.1)) (mb := (some g.2.1)) T.mk_Like (hr.mono (by decide)) (je_f (jb_var 0)) (je_f (jb_var 1))))) (jn_ifr (jt_eq_t (jb_var 2) (jb_e je_str)) (jn_map (out' := outRN) Rs.ok (jn_ret (je_make2 (ma := (some g.1)) (mb := (some g.2.1)) T.mk_Near (hr.mono (by decide)) (je_f (jb_var 0)) (je_f (jb_var 1))))) (jn_ifr (jt_eq_t (jb_var 2) (jb_e je_str)) (jn_map (out' := outRN) Rs.ok (jn_ret (je_make2 (ma := (some g.1)) (mb := (some g.2.1)) T.mk_Other (hr.mono (by decide)) (je_f (jb_var 0)) (je_f (jb_var 1))))) (jn_ifr (jt_w (jw_and (jt_eq_t (jb_var 2) (jb_e je_str)) (jw_and1 (jt_eq_t (jb_var 1) (jb_e je_str))))) (jn_map (out' := outRN) Rs.ok (jn_ret (je_make1 (ma := (some g.1)) T.mk_Former (hr.mono (by decide)) (je_f (jb_var 0))))) (jn_map (out' := outRN) Rs.ex (jn_raiseN (jmn_init (m := some (1 : Int)) T.x_NoRow (hr.mono (by decide)) je_int)))))))))
abbrev s_read_rule : Stmt := topS 32
abbrev n_read_rule : List Str := ["row", "words", "weight"]
theorem sc_read_rule : FnScope n_read_rule ["row"] (defScope s_read_rule) := ⟨rfl, rfl, rfl, by decide +kernel, rfl, by decide +kernel, by decide +kernel⟩
def m_read_rule : Str × Unit → Option (Rs Ru) := fun (g : Str × Unit) => (Option.bind (sSplit g.1 (" " : Str)) fun (words_1 : (List Str)) => (ifM (bOr (some (!decide ((words_1.length : Int) = (4 : Int)))) (Option.bind (atI words_1 (0 : Int)) fun (t2 : Str) => Option.bind (some (⟨[("for" : Str), ("against" : Str)]⟩ : (Tl Str))) fun (t3 : (Tl Str)) => some (!decide (t2 ∈ t3.l)))) (Option.bind (Option.bind (some (1 : Int)) fun (t4 : Int) => some (⟨("NoRow" : Str), Pd.pl ("row" : Str) t4⟩ : Xv)) fun (t5 : Xv) => some (Rs.ex t5 : (Rs Ru))) (thenF (S := Int) (ρ := (Rs Ru)) (Option.bind (Option.bind (Option.bind (atI words_1 (1 : Int)) fun (t6 : Str) => Option.bind (some ()) fun (t7 : Unit) => some (t6, t7)) m_number_by) fun (t9 : Rs Int) => some t9.fl) (fun (weight_8 : Int) => (Option.bind (ifM (Option.bind (atI words_1 (0 : Int)) fun (t10 : Str) => Option.bind (some ("against" : Str)) fun (t11 : Str) => some (decide (t10 = t11))) (Option.bind (some ((0 : Int) - weight_8)) fun (weight_13 : Int) => (some weight_13)) (some weight_8)) fun (s12 : Int) => (Option.bind (Option.bind (some s12) fun (t18 : Int) => Option.bind (Option.bind (atI words_1 (2 : Int)) fun (t16 : Str) => Option.bind (Option.bind (atI words_1 (3 : Int)) fun (t14 : Str) => Option.bind (some ()) fun (t15 : Unit) => some (t14, t15)) fun (t17 : (Str × Unit)) => some (t16, t17)) fun (t19 : (Str × (Str × Unit))) => some (t18, t19)) m_rule_by))) (fun v => some v) (fun _ => none) (fun _ => none))))
theorem ok_read_rule {f : Addr} {fd : FuncData} (F : Fun K "read_rule" "read_rule" s_read_rule f fd) (T : Txt P w K mg base) (c_number_by : Cal P w K mg base (L2N.CX P w) 3 "number_by" ["word"] (spX K m_number_by)) (c_rule_by : Cal P w K mg base (L2N.CX P w) 4 "rule_by" ["weight", "field", "sort"] (spX K m_rule_by)) : FnOk P w K mg base (L2N.CX P w) 5 f fd ["row"] (spX K m_read_rule) := by
  refine fn_xN F sc_read_rule (ar1 K) fun cdv A outer s H R E g hr => jn_sub (Γ' := [.b g.1, .any, .any]) sub_rfl ?_
  exact (jn_c (Γ1 := fun (words_1 : (List Str)) => [.b g.1, .own words_1, .any]) (j1_seto 1 (fun (words_1 : (List Str)) => [.b g.1, .own words_1, .any]) (jo_split_t (jb_var 0) (jb_e je_str)) sc_read_rule.nd) (fun words_1 => (jn_ifr (jt_w (jw_or (jt_ne_t (jb_e (je_lenl_t T.n_len (jb_own 1))) (jb_e je_int)) (jw_or1 (jt_ninu hr.units (jb_e (je_ixl_t (jb_own 1) (jb_e je_int) (fun _ _ => rfl))) (jb_e (je_tl_t (ll_cons_t je_str (ll_cons_t je_str ll_nil)))))))) (jn_map (out' := outRN) Rs.ex (jn_raiseN (jmn_init (m := some (1 : Int)) T.x_NoRow (hr.mono (by decide)) je_int))) (jn_f (ret := fun a => outRN a) (r := fun v => v) (Γ1 := fun (weight_8 : Int) => [.b g.1, .own words_1, .v weight_8]) (j1_fl (ret := outRN) (Γ1 := fun (weight_8 : Int) => [.b g.1, .own words_1, .v weight_8]) (out := outNN fun (weight_8 : Int) => [.b g.1, .own words_1, .v weight_8]) (j1_setxN 2 (fun (weight_8 : Int) => [.b g.1, .own words_1, .v weight_8]) (jxn_call c_number_by (hr.mono (by decide)) (ja_cons (jb_e (je_ixl_t (jb_own 1) (jb_e je_int) (fun _ _ => rfl))) ja_nil)) sc_read_rule.nd)) (fun weight_8 => (jn_c (Γ1 := fun (s12 : Int) => [.b g.1, .own words_1, .v s12]) (j1_if (jt_eq (jb_e (je_ixl_t (jb_own 1) (jb_e je_int) (fun _ _ => rfl))) (jb_e je_str)) (js_c (Γ1 := fun (weight_13 : Int) => [.b g.1, .own words_1, .v weight_13]) (j1_set 2 (fun (weight_13 : Int) => [.b g.1, .own words_1, .v weight_13]) (je_sub_t (jb_e je_int) (jb_e (je_var 2))) sc_read_rule.nd) (fun weight_13 => (js_nil sub_rfl))) (js_nil sub_rfl)) (fun s12 => (jn_retxN (jxn_call c_rule_by (hr.mono (by decide)) (ja_cons (jb_e (je_var 2)) (ja_cons (jb_e (je_ixl_t (jb_own 1) (jb_e je_int) (fun _ _ => rfl))) (ja_cons (jb_e (je_ixl_t (jb_own 1) (jb_e je_int) (fun _ _ => rfl))) ja_nil)))))))) (hn := outRN_nx)))))
abbrev s_rule_at : Stmt := topS 33
abbrev n_rule_at : List Str := ["row", "number"]
theorem sc_rule_at : FnScope n_rule_at ["row", "number"] (defScope s_rule_at) := ⟨rfl, rfl, rfl, by decide +kernel, rfl, by decide +kernel, by decide +kernel⟩
def m_rule_at : Str × Int × Unit → Option (Rs Ru) := fun (g : Str × Int × Unit) => (tryR [("NoRow" : Str)] (m_read_rule (g.1, ())) (Option.bind (some g.2.1) fun (t1 : Int) => some (⟨("NoRow" : Str), Pd.pl ("row" : Str) t1⟩ : Xv)))
theorem ok_rule_at {f : Addr} {fd : FuncData} (F : Fun K "rule_at" "rule_at" s_rule_at f fd) (T : Txt P w K mg base) (c_read_rule : Cal P w K mg base (L2N.CX P w) 5 "read_rule" ["row"] (spX K m_read_rule)) : FnOk P w K mg base (L2.CX P w) 6 f fd ["row", "number"] (spX K m_rule_at) := by
  refine fn_x F sc_rule_at (ar2 K) fun cdv A outer s H R E g hr => jn_sub (Γ' := [.b g.1, .b g.2.1]) sub_rfl ?_
  exact (jn_tryR (L := [("NoRow" : Str)]) T.ct_NoRow (fun pn xe => (jxn_call_t c_read_rule (hr.mono (by decide)) (ja_cons_t (jb_var 0) ja_nil))) (fun a oe pn hot => jmh_init (m := (some g.2.1)) T.xh_NoRow (L2H.roomH_mark (hr.mono (by decide)) _) hot (je_f (jb_var 1))) (fun hd => L2H.passesAt_of rfl hd))
abbrev s_read_rules : Stmt := topS 34
abbrev n_read_rules : List Str := ["text", "rules", "at", "row"]
theorem sc_read_rules : FnScope n_read_rules ["text"] (defScope s_read_rules) := ⟨rfl, rfl, rfl, by decide +kernel, rfl, by decide +kernel, by decide +kernel⟩
def b_read_rules_1  (s2 : (List Ru)) (x4 : (Int × Str)) : (Option (Fl (List Ru) (Rs (List Ru)))) := (ifM (Option.bind (m_is_passed_by (x4.2, ())) fun (t7 : Bool) => some (!t7)) (thenF (S := (List Ru)) (ρ := (Rs (List Ru))) (Option.bind (rsB (m_rule_at (x4.2, ((x4.1 + (1 : Int)), ()))) fun (t10 : Ru) => lApp s2 t10) fun (t9 : Rs (List Ru)) => some t9.fl) (fun (rules_8 : (List Ru)) => (some (Fl.nx rules_8))) (fun v => some (Fl.rt v)) (fun _ => none) (fun _ => none)) (some (Fl.nx s2)))
def m_read_rules : Str × Unit → Option (Rs (List Ru)) := fun (g : Str × Unit) => (Option.bind (some ([] : (List Ru))) fun (rules_1 : (List Ru)) => (thenF (S := (List Ru)) (ρ := (Rs (List Ru))) (Option.bind (Option.bind (sSplit g.1 ("\n" : Str)) fun (t3 : (List Str)) => some (enumL t3)) fun (xs11 : List (Int × Str)) => forF (S := (List Ru)) (ρ := (Rs (List Ru))) (b_read_rules_1) xs11 rules_1) (fun (s12 : (List Ru)) => (some (Rs.ok s12))) (fun v => some v) (fun _ => none) (fun _ => none)))
theorem ok_read_rules {f : Addr} {fd : FuncData} (F : Fun K "read_rules" "read_rules" s_read_rules f fd) (T : Txt P w K mg base) (c_is_passed_by : Cal P w K mg base CX0 1 "is_passed_by" ["row"] (spV K m_is_passed_by)) (c_rule_at : Cal P w K mg base (L2.CX P w) 6 "rule_at" ["row", "number"] (spX K m_rule_at)) : FnOk P w K mg base (L2.CX P w) 7 f fd ["text"] (spXO K m_read_rules) := by
  refine fn_xo F sc_read_rules (ar1 K) fun cdv A outer s H R E g hr => jn_sub (Γ' := [.b g.1, .any, .any, .any]) sub_rfl ?_
  exact (jn_c (Γ1 := fun (rules_1 : (List Ru)) => [.b g.1, .own rules_1, .any, .any]) (j1_seto 1 (fun (rules_1 : (List Ru)) => [.b g.1, .own rules_1, .any, .any]) jo_nil sc_read_rules.nd) (fun rules_1 => (jn_f (ret := fun a => outRO a) (r := fun v => v) (Γ1 := fun (s12 : (List Ru)) => [.b g.1, .own s12, .any, .any]) (j1_forF (S := (List Ru)) (ρ := (Rs (List Ru))) (ret := fun a => outRO a) rules_1 (fun (s2 : (List Ru)) => [.b g.1, .own s2, .any, .any]) (fun (s2 : (List Ru)) (x4 : (Int × Str)) => [.b g.1, .own s2, .v x4.1, .v x4.2]) passes_body rfl sub_rfl (ji_enum T.n_enumerate (jl_e (je_o (jo_split_t (jb_var 0) (jb_e je_str))))) (fun s2 => jg_2 (u1 := fun (u5 : Int) => [.b g.1, .own s2, .v u5, .any]) rfl (jg_name 2 sc_read_rules.nd) (fun u5 => jg_name 3 sc_read_rules.nd)) (fun s2 x4 => (js_last (j1_if (jt_not (jt_e (jb_e (je_call_t c_is_passed_by (hr.mono (by decide)) (ja_cons_t (jb_e (je_var 3)) ja_nil))))) (js_f (ret := fun a => outRO a) (r := Fl.rt) (Γ1 := fun (rules_8 : (List Ru)) => [.b g.1, .own rules_8, .v x4.1, .v x4.2]) (j1_fl (ret := outRO) (Γ1 := fun (rules_8 : (List Ru)) => [.b g.1, .own rules_8, .v x4.1, .v x4.2]) (out := outN fun (rules_8 : (List Ru)) => [.b g.1, .own rules_8, .v x4.1, .v x4.2]) (j1_appx 1 (fun (rules_8 : (List Ru)) => [.b g.1, .own rules_8, .v x4.1, .v x4.2]) (jx_call_t c_rule_at (hr.mono (by decide)) (ja_cons_t (jb_e (je_var 3)) (ja_cons_t (jb_e (je_add_t (jb_e (je_var 2)) (jb_e je_int))) ja_nil))))) (fun rules_8 => (js_nil (sub_drop 2 (h := (sub_drop 3 (h := sub_rfl)))))) (hn := outRO_nx)) (js_nil (sub_drop 2 (h := (sub_drop 3 (h := sub_rfl)))))))) (hr := outRO_nx) (hr2 := outRO_bk) (hr3 := outRO_ct) (hr4 := outRO_et)) (fun s12 => (jn_map_t (out' := outRO) Rs.ok (jn_retv 1))) (hn := outRO_nx))))
abbrev s__law_whole : Stmt := topS 37
abbrev n__law_whole : List Str := ["_law_found"]
theorem sc__law_whole : FnScope n__law_whole ["_law_found"] (defScope s__law_whole) := ⟨rfl, rfl, rfl, by decide +kernel, rfl, by decide +kernel, by decide +kernel⟩
def m__law_whole : Int × Unit → Option Bool := fun (g : Int × Unit) => (bAnd (some true) (some (!false)))
theorem ok__law_whole {f : Addr} {fd : FuncData} (F : Fun K "_law_whole" "_law_whole" s__law_whole f fd) (T : Txt P w K mg base)  : FnOk P w K mg base CX0 1 f fd ["_law_found"] (spV K m__law_whole) := by
  refine fn_v F sc__law_whole (ar1 K) fun cdv A outer s H R E g hr => jn_sub (Γ' := [.b g.1]) sub_rfl ?_
  exact (jn_ret (je_and (jb_e (je_isi_t (Tn := "int") (nm0 := "int") true T.n_isinstance T.n_int (jb_var 0))) (je_one (jb_e (je_not_t (jb_e (je_isi_t (Tn := "bool") (nm0 := "int") false T.n_isinstance T.n_bool (jb_var 0))))))))
abbrev s__law_refused : Stmt := topS 41
abbrev n__law_refused : List Str := ["_law_row", "_law_number", "_law_whole_here", "_law_caught", "e"]
theorem sc__law_refused : FnScope n__law_refused ["_law_row", "_law_number", "_law_whole_here"] (defScope s__law_refused) := ⟨rfl, rfl, rfl, by decide +kernel, rfl, by decide +kernel, by decide +kernel⟩
def m__law_refused : Str × Int × Bool × Unit → Option Bool := fun (g : Str × Int × Bool × Unit) => (Option.bind (some (none : (Option Xv))) fun (caught_1 : (Option Xv)) => (Option.bind (Option.bind (Option.bind (ifM (some g.2.2.1) (Option.bind (m_read_rules (g.1, ())) fun x => some (ruU x)) (Option.bind (m_read_rule (g.1, ())) fun x => some (ruU x))) (keepX [("NoRow" : Str)])) fun (t3 : Rs Unit) => some (keepV caught_1 t3)) fun (o2 : Option Xv) => (ifM (bOr (Option.bind (isX [("NoRow" : Str)] (fun c => decide (c ∈ [("NoRow" : Str)])) o2) fun (t5 : Bool) => some (!t5)) (Option.bind (isX [("NoRow" : Str)] (fun c => decide (c ∈ [("NoRow" : Str)])) o2) fun (t7 : Bool) => some (!t7))) (some false) (ifM (bOr (isX [("NoRow" : Str)] (fun c => decide (c ∈ [])) o2) (bOr (isX [("NoRow" : Str)] (fun c => decide (c ∈ [])) o2) (isX [("NoRow" : Str)] (fun c => decide (c ∈ [])) o2))) (some false) (bAnd (Option.bind (Option.bind (xGet (β := Int) [("NoRow" : Str)] ("row" : Str) o2) fun (t11 : Int) => Option.bind (some ()) fun (t12 : Unit) => some (t11, t12)) m__law_whole) (Option.bind (xGet (β := Int) [("NoRow" : Str)] ("row" : Str) o2) fun (t13 : Int) => Option.bind (some g.2.1) fun (t14 : Int) => some (decide (t13 = t14))))))))
theorem ok__law_refused {f : Addr} {fd : FuncData} (F : Fun K "_law_refused" "_law_refused" s__law_refused f fd) (T : Txt P w K mg base) (c_read_rules : Cal P w K mg base (L2.CX P w) 7 "read_rules" ["text"] (spXO K m_read_rules)) (c_read_rule : Cal P w K mg base (L2N.CX P w) 5 "read_rule" ["row"] (spX K m_read_rule)) (c__law_whole : Cal P w K mg base CX0 1 "_law_whole" ["_law_found"] (spV K m__law_whole)) : FnOk P w K mg base CX0 8 f fd ["_law_row", "_law_number", "_law_whole_here"] (spV K m__law_refused) := by
  refine fn_v F sc__law_refused (ar3 K) fun cdv A outer s H R E g hr => jn_sub (Γ' := [.b g.1, .b g.2.1, .b g.2.2.1, .any, .any]) sub_rfl ?_
  exact (jn_c (Γ1 := fun (caught_1 : (Option Xv)) => [.b g.1, .b g.2.1, .b g.2.2.1, .v caught_1, .any]) (j1_set 3 (fun (caught_1 : (Option Xv)) => [.b g.1, .b g.2.1, .b g.2.2.1, .v caught_1, .any]) je_noneo sc__law_refused.nd) (fun caught_1 => (jn_c (Γ1 := fun (o2 : Option Xv) => [.b g.1, .b g.2.1, .b g.2.2.1, .v o2, .any]) (j1_map' (out' := fun (o2 : Option Xv) => .nx [.b g.1, .b g.2.1, .b g.2.2.1, .v o2, .any]) (keepV caught_1) (j1_keep 4 3 (L := [("NoRow" : Str)]) (outb := outT [.b g.1, .b g.2.1, .b g.2.2.1, .v caught_1, .any] (fun (_ : Unit) => [.b g.1, .b g.2.1, .b g.2.2.1, .v caught_1, .any])) (out' := outK (fun (o2 : Option Xv) => [.b g.1, .b g.2.1, .b g.2.2.1, .v o2, .any]) caught_1) (fun (o2 : Xv) => [.b g.1, .b g.2.1, .b g.2.2.1, .v (some o2), .any]) T.ct_FolkError (fun pn xe => js_last (j1_if (jt_e (jb_var 2)) (js_last (j1_map' (out' := outT [.b g.1, .b g.2.1, .b g.2.2.1, .v caught_1, .any] (fun (_ : Unit) => [.b g.1, .b g.2.1, .b g.2.2.1, .v caught_1, .any])) ruU (j1_exprx (out := outT [.b g.1, .b g.2.1, .b g.2.2.1, .v caught_1, .any] (fun (_ : (List Ru)) => [.b g.1, .b g.2.1, .b g.2.2.1, .v caught_1, .any])) (jx_o (jxo_call_t c_read_rules (hr.mono (by decide)) (ja_cons_t (jb_var 0) ja_nil)))) (ruU_out _ _))) (js_last (j1_map' (out' := outT [.b g.1, .b g.2.1, .b g.2.2.1, .v caught_1, .any] (fun (_ : Unit) => [.b g.1, .b g.2.1, .b g.2.2.1, .v caught_1, .any])) ruU (j1_exprx (out := outT [.b g.1, .b g.2.1, .b g.2.2.1, .v caught_1, .any] (fun (_ : Ru) => [.b g.1, .b g.2.1, .b g.2.2.1, .v caught_1, .any])) (jx_ofN (jxn_call_t c_read_rule (hr.mono (by decide)) (ja_cons_t (jb_var 0) ja_nil)))) (ruU_out _ _))))) (fun _ => rfl) (fun _ => .nx) (fun _ => rfl) (fun _ => rfl) (hN := sc__law_refused.nd)) (fun _ => rfl)) (fun o2 => (jn_ifr (jt_w (jw_or (jt_not (jt_e (jb_e (je_isx (m := some o2) (fun c => decide (c ∈ [("NoRow" : Str)])) T.xs T.it_NoRow T.n_isinstance (jb_e (je_var 3)))))) (jw_or1 (jt_not (jt_e (jb_e (je_isxB (m := some o2) (fun c => decide (c ∈ [("NoRow" : Str)])) T.xs T.it_ValueError T.n_isinstance T.n_ValueError (jb_e (je_var 3))))))))) (jn_ret je_bl) (jn_ifr (jt_w (jw_or (jt_e (jb_e (je_isx (m := some o2) (fun c => decide (c ∈ [])) T.xs T.it_NoPair T.n_isinstance (jb_e (je_var 3))))) (jw_or (jt_e (jb_e (je_isx (m := some o2) (fun c => decide (c ∈ [])) T.xs T.it_NoText T.n_isinstance (jb_e (je_var 3))))) (jw_or1 (jt_e (jb_e (je_isx (m := some o2) (fun c => decide (c ∈ [])) T.xs T.it_NoName T.n_isinstance (jb_e (je_var 3))))))))) (jn_ret je_bl) (jn_ret (je_and (jb_e (je_call c__law_whole (hr.mono (by decide)) (ja_cons (jb_e (je_xget (β := Int) (m := some o2) T.xs T.nf_row (jb_e (je_var 3)))) ja_nil))) (je_one (jb_e (je_eq (jb_e (je_xget (β := Int) (m := some o2) T.xs T.nf_row (jb_e (je_var 3)))) (jb_var 1))))))))))))
abbrev s_law : Stmt := topS 42
abbrev n_law : List Str := ["_law_script", "_law_rows", "_law_k", "_law_words_here", "_law_cell", "_law_bad", "_law_some", "_law_at", "_law_row"]
theorem sc_law : FnScope n_law ["_law_script"] (defScope s_law) := ⟨rfl, rfl, rfl, by decide +kernel, rfl, by decide +kernel, by decide +kernel⟩
def b_law_1 (g : (Scr × Unit)) (s2 : (List Str)) (x3 : Int) : (Option (Fl (List Str) Bool)) := (Option.bind (Option.bind (Option.bind (m__law_cell_at (g.1, (x3, ()))) fun (t5 : Int) => Option.bind (some ()) fun (t6 : Unit) => some (t5, t6)) m__law_words) fun (words_here_4 : (List Str)) => (Option.bind (m__law_cell_at (g.1, ((x3 + (1 : Int)), ()))) fun (cell_7 : Int) => (Option.bind (m__law_spoiled (words_here_4, ((cell_7 % 8), ((cell_7 / 8), ())))) fun (bad_8 : Str) => (ifM (Option.bind (m__law_refused (bad_8, ((1 : Int), (false, ())))) fun (t9 : Bool) => some (!t9)) (some (Fl.rt false)) (ifM (Option.bind (Option.bind (Option.bind (Option.bind (Option.bind (sJoin (" " : Str) words_here_4) fun (t10 : Str) => Option.bind (some ()) fun (t11 : Unit) => some (t10, t11)) m_read_rule) rsO) (ruG [("Same" : Str), ("Like" : Str), ("Near" : Str), ("Other" : Str), ("Former" : Str)] Ru.f)) fun (t12 : Str) => Option.bind (atI words_here_4 (2 : Int)) fun (t13 : Str) => some (!decide (t12 = t13))) (some (Fl.rt false)) (Option.bind (Option.bind (sJoin (" " : Str) words_here_4) fun (t15 : Str) => (lApp s2 t15)) fun (rows_14 : (List Str)) => (Option.bind (ifM (some (decide (((cell_7 / 8) % 3) = (1 : Int)))) (Option.bind (Option.bind (some ("  " : Str)) fun (t18 : Str) => (lApp rows_14 t18)) fun (rows_17 : (List Str)) => (some rows_17)) (some rows_14)) fun (s16 : (List Str)) => (Option.bind (some (cutA s16 (some (-(6 : Int))) none)) fun (some_19 : (List Str)) => (Option.bind (Option.bind (m__law_cell_at (g.1, ((x3 + (2 : Int)), ()))) fun (t21 : Int) => Option.bind (some ((some_19.length : Int) + (1 : Int))) fun (t22 : Int) => (imod t21 t22)) fun (at_20 : Int) => (Option.bind (Option.bind (Option.bind (lCat (cutA some_19 none (some at_20)) [bad_8]) fun (t24 : (List Str)) => Option.bind (some (cutA some_19 (some at_20) none)) fun (t25 : (List Str)) => (lCat t24 t25)) fun (t26 : (List Str)) => Option.bind (some [("for" : Str)]) fun (t27 : (List Str)) => (lCat t26 t27)) fun (some_23 : (List Str)) => (ifM (bAnd (Option.bind (sStrip bad_8 (" " : Str)) fun (t28 : Str) => Option.bind (some ("" : Str)) fun (t29 : Str) => some (!decide (t28 = t29))) (bAnd (Option.bind (sAt bad_8 (0 : Int)) fun (t30 : Str) => Option.bind (some ("#" : Str)) fun (t31 : Str) => some (!decide (t30 = t31))) (Option.bind (Option.bind (Option.bind (sJoin ("\n" : Str) some_23) fun (t36 : Str) => Option.bind (Option.bind (some (at_20 + (1 : Int))) fun (t34 : Int) => Option.bind (Option.bind (some true) fun (t32 : Bool) => Option.bind (some ()) fun (t33 : Unit) => some (t32, t33)) fun (t35 : (Bool × Unit)) => some (t34, t35)) fun (t37 : (Int × (Bool × Unit))) => some (t36, t37)) m__law_refused) fun (t38 : Bool) => some (!t38)))) (some (Fl.rt false)) (some (Fl.nx s16)))))))))))))
def m_law : Scr × Unit → Option Bool := fun (g : Scr × Unit) => (Option.bind (some ([] : (List Str))) fun (rows_1 : (List Str)) => (thenF (S := (List Str)) (ρ := Bool) (Option.bind (rangek (0 : Int) (imax2 (1 : Int) (imin2 (g.1.l.length : Int) (60 : Int))) (3 : Int)) fun (xs39 : List Int) => forF (S := (List Str)) (ρ := Bool) (b_law_1 g) xs39 rows_1) (fun (s40 : (List Str)) => (Option.bind (Option.bind (Option.bind (Option.bind (Option.bind (sJoin ("\n" : Str) s40) fun (t41 : Str) => Option.bind (some ()) fun (t42 : Unit) => some (t41, t42)) m_read_rules) rsO) fun (t43 : (List Ru)) => some (t43.length : Int)) fun (t47 : Int) => Option.bind (Option.bind (Option.bind (some s40) fun (xs45 : List Str) => lcG (fun (x44 : Str) => (some (!decide (x44 = ("  " : Str))))) (fun (x44 : Str) => (some x44)) xs45) fun (t46 : (List Str)) => some (t46.length : Int)) fun (t48 : Int) => some (decide (t47 = t48)))) (fun v => some v) (fun _ => none) (fun _ => none)))
theorem ok_law {f : Addr} {fd : FuncData} (F : Fun K "law" "law" s_law f fd) (T : Txt P w K mg base) (c__law_cell_at : Cal P w K mg base CX0 1 "_law_cell_at" ["_law_script", "_law_k"] (spV K m__law_cell_at)) (c__law_words : Cal P w K mg base CX0 1 "_law_words" ["_law_cell"] (spO K m__law_words)) (c__law_spoiled : Cal P w K mg base CX0 2 "_law_spoiled" ["_law_words_here", "_law_way", "_law_draw"] (spV K m__law_spoiled)) (c__law_refused : Cal P w K mg base CX0 8 "_law_refused" ["_law_row", "_law_number", "_law_whole_here"] (spV K m__law_refused)) (c_read_rule : Cal P w K mg base (L2N.CX P w) 5 "read_rule" ["row"] (spX K m_read_rule)) (c_read_rules : Cal P w K mg base (L2.CX P w) 7 "read_rules" ["text"] (spXO K m_read_rules)) : FnOk P w K mg base CX0 9 f fd ["_law_script"] (spV K m_law) := by
  refine fn_v F sc_law (ar1 K) fun cdv A outer s H R E g hr => jn_sub (Γ' := [.b g.1, .any, .any, .any, .any, .any, .any, .any, .any]) sub_rfl ?_
  exact (jn_c (Γ1 := fun (rows_1 : (List Str)) => [.b g.1, .own rows_1, .any, .any, .any, .any, .any, .any, .any]) (j1_seto 1 (fun (rows_1 : (List Str)) => [.b g.1, .own rows_1, .any, .any, .any, .any, .any, .any, .any]) jo_nil sc_law.nd) (fun rows_1 => (jn_f (ret := fun a => .rt a) (r := fun v => v) (Γ1 := fun (s40 : (List Str)) => [.b g.1, .own s40, .any, .any, .any, .any, .any, .any, .any]) (j1_forF (S := (List Str)) (ρ := Bool) (ret := fun a => .rt a) rows_1 (fun (s2 : (List Str)) => [.b g.1, .own s2, .any, .any, .any, .any, .any, .any, .any]) (fun (s2 : (List Str)) (x3 : Int) => [.b g.1, .own s2, .v x3, .any, .any, .any, .any, .any, .any]) PassesOwn.never rfl sub_rfl (ji_rangek_t T.n_range (jb_e je_int) (jb_e (je_max2_t T.n_max (jb_e je_int) (jb_e (je_min2_t T.n_min (jb_e (je_lenscr_t T.n_len (jb_var 0))) (jb_e je_int))))) (jb_e je_int)) (fun s2 => jg_name 2 sc_law.nd) (fun s2 x3 => (js_c (Γ1 := fun (words_here_4 : (List Str)) => [.b g.1, .own s2, .v x3, .own words_here_4, .any, .any, .any, .any, .any]) (j1_seto 3 (fun (words_here_4 : (List Str)) => [.b g.1, .own s2, .v x3, .own words_here_4, .any, .any, .any, .any, .any]) (jo_call c__law_words (hr.mono (by decide)) (ja_cons (jb_e (je_call_t c__law_cell_at (hr.mono (by decide)) (ja_cons_t (jb_var 0) (ja_cons_t (jb_e (je_var 2)) ja_nil)))) ja_nil)) sc_law.nd) (fun words_here_4 => (js_c (Γ1 := fun (cell_7 : Int) => [.b g.1, .own s2, .v x3, .own words_here_4, .v cell_7, .any, .any, .any, .any]) (j1_set 4 (fun (cell_7 : Int) => [.b g.1, .own s2, .v x3, .own words_here_4, .v cell_7, .any, .any, .any, .any]) (je_call_t c__law_cell_at (hr.mono (by decide)) (ja_cons_t (jb_var 0) (ja_cons_t (jb_e (je_add_t (jb_e (je_var 2)) (jb_e je_int))) ja_nil))) sc_law.nd) (fun cell_7 => (js_c (Γ1 := fun (bad_8 : Str) => [.b g.1, .own s2, .v x3, .own words_here_4, .v cell_7, .v bad_8, .any, .any, .any]) (j1_set 5 (fun (bad_8 : Str) => [.b g.1, .own s2, .v x3, .own words_here_4, .v cell_7, .v bad_8, .any, .any, .any]) (je_call_t c__law_spoiled (hr.mono (by decide)) (ja_cons_t (jb_own 3) (ja_cons_t (jb_e (je_modc_t (jb_e (je_var 4)))) (ja_cons_t (jb_e (je_fdivc_t (jb_e (je_var 4)))) ja_nil)))) sc_law.nd) (fun bad_8 => (js_ifr (jt_not (jt_e (jb_e (je_call_t c__law_refused (hr.mono (by decide)) (ja_cons_t (jb_e (je_var 5)) (ja_cons_t (jb_e je_int) (ja_cons_t (jb_e je_bl) ja_nil))))))) (jn_map_t Fl.rt (jn_ret je_bl)) (js_ifr (jt_ne (jb_e (je_rut (m := (Option.bind (Option.bind (Option.bind (sJoin (" " : Str) words_here_4) fun (t10 : Str) => Option.bind (some ()) fun (t11 : Unit) => some (t10, t11)) m_read_rule) rsO)) T.rus (jb_e (je_rs (jx_ofN (jxn_call c_read_rule (hr.mono (by decide)) (ja_cons (jb_e (je_join_t (jb_e je_str) (jb_own 3))) ja_nil))))))) (jb_e (je_ixl_t (jb_own 3) (jb_e je_int) (fun _ _ => rfl)))) (jn_map_t Fl.rt (jn_ret je_bl)) (js_c (Γ1 := fun (rows_14 : (List Str)) => [.b g.1, .own rows_14, .v x3, .own words_here_4, .v cell_7, .v bad_8, .any, .any, .any]) (j1_app 1 (fun (rows_14 : (List Str)) => [.b g.1, .own rows_14, .v x3, .own words_here_4, .v cell_7, .v bad_8, .any, .any, .any]) (je_join_t (jb_e je_str) (jb_own 3))) (fun rows_14 => (js_c (Γ1 := fun (s16 : (List Str)) => [.b g.1, .own s16, .v x3, .own words_here_4, .v cell_7, .v bad_8, .any, .any, .any]) (j1_if (jt_eq_t (jb_e (je_modc_t (jb_e (je_fdivc_t (jb_e (je_var 4)))))) (jb_e je_int)) (js_c (Γ1 := fun (rows_17 : (List Str)) => [.b g.1, .own rows_17, .v x3, .own words_here_4, .v cell_7, .v bad_8, .any, .any, .any]) (j1_app 1 (fun (rows_17 : (List Str)) => [.b g.1, .own rows_17, .v x3, .own words_here_4, .v cell_7, .v bad_8, .any, .any, .any]) je_str) (fun rows_17 => (js_nil sub_rfl))) (js_nil sub_rfl)) (fun s16 => (js_c (Γ1 := fun (some_19 : (List Str)) => [.b g.1, .own s16, .v x3, .own words_here_4, .v cell_7, .v bad_8, .own some_19, .any, .any]) (j1_seto 6 (fun (some_19 : (List Str)) => [.b g.1, .own s16, .v x3, .own words_here_4, .v cell_7, .v bad_8, .own some_19, .any, .any]) (jo_cutl_t (jb_own 1) (jp_some_t (jb_e (je_neg_t (jb_e je_int)))) jp_none) sc_law.nd) (fun some_19 => (js_c (Γ1 := fun (at_20 : Int) => [.b g.1, .own s16, .v x3, .own words_here_4, .v cell_7, .v bad_8, .own some_19, .v at_20, .any]) (j1_set 7 (fun (at_20 : Int) => [.b g.1, .own s16, .v x3, .own words_here_4, .v cell_7, .v bad_8, .own some_19, .v at_20, .any]) (je_mod (jb_e (je_call_t c__law_cell_at (hr.mono (by decide)) (ja_cons_t (jb_var 0) (ja_cons_t (jb_e (je_add_t (jb_e (je_var 2)) (jb_e je_int))) ja_nil)))) (jb_e (je_add_t (jb_e (je_lenl_t T.n_len (jb_own 6))) (jb_e je_int)))) sc_law.nd) (fun at_20 => (js_c (Γ1 := fun (some_23 : (List Str)) => [.b g.1, .own s16, .v x3, .own words_here_4, .v cell_7, .v bad_8, .own some_23, .v at_20, .any]) (j1_seto 6 (fun (some_23 : (List Str)) => [.b g.1, .own s16, .v x3, .own words_here_4, .v cell_7, .v bad_8, .own some_23, .v at_20, .any]) (jo_catl (jb_o (jo_catl (jb_o (jo_catl_t (jb_o (jo_cutl_t (jb_own 6) jp_none (jp_some_t (jb_e (je_var 7))))) (jb_o (jo_lst (ll_cons_t (je_var 5) ll_nil))))) (jb_o (jo_cutl_t (jb_own 6) (jp_some_t (jb_e (je_var 7))) jp_none)))) (jb_o (jo_lst (ll_cons_t je_str ll_nil)))) sc_law.nd) (fun some_23 => (js_ifr (jt_w (jw_and (jt_ne (jb_e (je_strip_t (jb_e (je_var 5)) (jb_e je_str))) (jb_e je_str)) (jw_and (jt_ne (jb_e (je_ixs_t (jb_e (je_var 5)) (jb_e je_int) (fun _ _ => rfl))) (jb_e je_str)) (jw_and1 (jt_not (jt_e (jb_e (je_call c__law_refused (hr.mono (by decide)) (ja_cons (jb_e (je_join_t (jb_e je_str) (jb_own 6))) (ja_cons (jb_e (je_add_t (jb_e (je_var 7)) (jb_e je_int))) (ja_cons (jb_e je_bl) ja_nil))))))))))) (jn_map_t Fl.rt (jn_ret je_bl)) (js_nil (sub_drop 2 (h := (sub_drop 3 (h := (sub_drop 4 (h := (sub_drop 5 (h := (sub_drop 6 (h := (sub_drop 7 (h := sub_rfl)))))))))))))))))))))))))))))))))) (fun s40 => (jn_sub (sub_fz 1 (h := sub_rfl)) (jn_ret (je_eq (jb_e (je_lenl T.n_len (jb_o (jo_rs (jxo_call c_read_rules (hr.mono (by decide)) (ja_cons (jb_e (je_join_t (jb_e je_str) (jb_e (je_var 1)))) ja_nil)))))) (jb_e (je_lenl T.n_len (jb_o (jo_lc (own := [("_law_row", 8)]) (ts := [8]) [.b g.1, .v s40, .any, .any, .any, .any, .any, .any, .any] (fun (x44 : Str) => [.b g.1, .v s40, .any, .any, .any, .any, .any, .any, .v x44]) rfl sc_law.nd (ji_list (je_var 1)) (blkOk_by (N := n_law) (sc := defScope s_law) (by decide +kernel)) rfl (fun q => jg_name 8 sc_law.nd) (fun q x44 => (jts_one (jt_ne_t (jb_e (je_var 8)) (jb_e je_str)))) (fun q x44 => (je_var 8)))))))))))))
end
abbrev si_NoRow : Stmt := (clsBody (topS 2)).getD 0 (.Pass ⟨0, 0, 0, 0⟩)
abbrev si_Rule : Stmt := (clsBody (topS 23)).getD 0 (.Pass ⟨0, 0, 0, 0⟩)
abbrev si_Former : Stmt := (clsBody (topS 29)).getD 0 (.Pass ⟨0, 0, 0, 0⟩)
theorem ok_init_Former {P : Program} {w : World} {K : PySem.W.Frag} {mg : Str → Option Value} {base : Heap} {f : Addr} {fd : FuncData} (F : Fun K "__init__" "Former.__init__" si_Former f fd) (RI : RIn P w K mg base) : FnOk P w K mg base CX0 2 f fd ["self", "weight"] (spF1 K) := by
  obtain ⟨C0, mc, fR, fdR, hm, cr, cv, hk, hb, FR⟩ := RI
  refine F.ok (N := ["self", "weight"]) ⟨rfl, rfl, rfl, by decide +kernel, rfl, by decide +kernel, by decide +kernel⟩ (fun vs H Q E h => ?_) (fun cdv A outer s H vs Q E hr h => ?_)
  · obtain ⟨a, C, dx, w, rfl, _⟩ := h
    rfl
  · obtain ⟨a, C, dx, w', rfl, ha, k, go⟩ := h
    refine ⟨_, pss_cons (ps_expr (pe_cfn (pe_glob (v := .ref C0) rfl hm rfl (by decide)) cr cv hk FR (hr.mono (by decide)) hb pass0 (pa_cons (pv 0 rfl (by first | exact Or.inl rfl | exact Or.inr (Or.inl rfl) | exact Or.inr (Or.inr rfl)) (by decide) (by decide)) (pa_cons (pv 1 rfl (by first | exact Or.inl rfl | exact Or.inr (Or.inl rfl) | exact Or.inr (Or.inr rfl)) (by decide) (by decide)) (pa_cons pe_str pa_nil rfl) rfl) rfl)) rfl) pss_nil, ?_⟩
    exact ⟨rfl, .ref a, rfl, .int w', rfl, a, C, dx, w', "name", rfl, ha, k, go⟩
theorem all_mk {l : PySem.W.OpenLaw} {w : World} {K : PySem.W.Frag} {h : Heap} {mg : Str → Option Value} {fa : Addr} (X : K.In h) (G : h.Ns mainGlobals mg) (hfa : mg "law" = some (.ref fa))
    {f1 : Addr} {od1 an1 : Option Addr} {sl1 : Array (Option Value)} {oc1 kV1 dc1 pm1 cd1 ct1 : Value} (a1 : PySem.W.nsIn K mainGlobals "_law_words" = some (some (.ref f1))) (l1 : K.lookup f1 = some ⟨oc1, od1, .func (PySem.W.fnOf "_law_words" "_law_words" (defArgs s__law_words) (defBody s__law_words) (defScope s__law_words) .none kV1 dc1 pm1 an1 cd1 ct1), sl1⟩) (c1 : PySem.W.codeIn K cd1 "_law_words" = true) (k1 : PySem.W.keepIn K (.ref f1) = true)
    {f2 : Addr} {od2 an2 : Option Addr} {sl2 : Array (Option Value)} {oc2 kV2 dc2 pm2 cd2 ct2 : Value} (a2 : PySem.W.nsIn K mainGlobals "_law_cell_at" = some (some (.ref f2))) (l2 : K.lookup f2 = some ⟨oc2, od2, .func (PySem.W.fnOf "_law_cell_at" "_law_cell_at" (defArgs s__law_cell_at) (defBody s__law_cell_at) (defScope s__law_cell_at) .none kV2 dc2 pm2 an2 cd2 ct2), sl2⟩) (c2 : PySem.W.codeIn K cd2 "_law_cell_at" = true) (k2 : PySem.W.keepIn K (.ref f2) = true)
    {f3 : Addr} {od3 an3 : Option Addr} {sl3 : Array (Option Value)} {oc3 kV3 dc3 pm3 cd3 ct3 : Value} (a3 : PySem.W.nsIn K mainGlobals "_law_bad_number" = some (some (.ref f3))) (l3 : K.lookup f3 = some ⟨oc3, od3, .func (PySem.W.fnOf "_law_bad_number" "_law_bad_number" (defArgs s__law_bad_number) (defBody s__law_bad_number) (defScope s__law_bad_number) .none kV3 dc3 pm3 an3 cd3 ct3), sl3⟩) (c3 : PySem.W.codeIn K cd3 "_law_bad_number" = true) (k3 : PySem.W.keepIn K (.ref f3) = true)
    {f4 : Addr} {od4 an4 : Option Addr} {sl4 : Array (Option Value)} {oc4 kV4 dc4 pm4 cd4 ct4 : Value} (a4 : PySem.W.nsIn K mainGlobals "_law_spoiled" = some (some (.ref f4))) (l4 : K.lookup f4 = some ⟨oc4, od4, .func (PySem.W.fnOf "_law_spoiled" "_law_spoiled" (defArgs s__law_spoiled) (defBody s__law_spoiled) (defScope s__law_spoiled) .none kV4 dc4 pm4 an4 cd4 ct4), sl4⟩) (c4 : PySem.W.codeIn K cd4 "_law_spoiled" = true) (k4 : PySem.W.keepIn K (.ref f4) = true)
    {f5 : Addr} {od5 an5 : Option Addr} {sl5 : Array (Option Value)} {oc5 kV5 dc5 pm5 cd5 ct5 : Value} (a5 : PySem.W.nsIn K mainGlobals "is_passed_by" = some (some (.ref f5))) (l5 : K.lookup f5 = some ⟨oc5, od5, .func (PySem.W.fnOf "is_passed_by" "is_passed_by" (defArgs s_is_passed_by) (defBody s_is_passed_by) (defScope s_is_passed_by) .none kV5 dc5 pm5 an5 cd5 ct5), sl5⟩) (c5 : PySem.W.codeIn K cd5 "is_passed_by" = true) (k5 : PySem.W.keepIn K (.ref f5) = true)
    {f6 : Addr} {od6 an6 : Option Addr} {sl6 : Array (Option Value)} {oc6 kV6 dc6 pm6 cd6 ct6 : Value} (a6 : PySem.W.nsIn K mainGlobals "number_by" = some (some (.ref f6))) (l6 : K.lookup f6 = some ⟨oc6, od6, .func (PySem.W.fnOf "number_by" "number_by" (defArgs s_number_by) (defBody s_number_by) (defScope s_number_by) .none kV6 dc6 pm6 an6 cd6 ct6), sl6⟩) (c6 : PySem.W.codeIn K cd6 "number_by" = true) (k6 : PySem.W.keepIn K (.ref f6) = true)
    {f7 : Addr} {od7 an7 : Option Addr} {sl7 : Array (Option Value)} {oc7 kV7 dc7 pm7 cd7 ct7 : Value} (a7 : PySem.W.nsIn K mainGlobals "rule_by" = some (some (.ref f7))) (l7 : K.lookup f7 = some ⟨oc7, od7, .func (PySem.W.fnOf "rule_by" "rule_by" (defArgs s_rule_by) (defBody s_rule_by) (defScope s_rule_by) .none kV7 dc7 pm7 an7 cd7 ct7), sl7⟩) (c7 : PySem.W.codeIn K cd7 "rule_by" = true) (k7 : PySem.W.keepIn K (.ref f7) = true)
    {f8 : Addr} {od8 an8 : Option Addr} {sl8 : Array (Option Value)} {oc8 kV8 dc8 pm8 cd8 ct8 : Value} (a8 : PySem.W.nsIn K mainGlobals "read_rule" = some (some (.ref f8))) (l8 : K.lookup f8 = some ⟨oc8, od8, .func (PySem.W.fnOf "read_rule" "read_rule" (defArgs s_read_rule) (defBody s_read_rule) (defScope s_read_rule) .none kV8 dc8 pm8 an8 cd8 ct8), sl8⟩) (c8 : PySem.W.codeIn K cd8 "read_rule" = true) (k8 : PySem.W.keepIn K (.ref f8) = true)
    {f9 : Addr} {od9 an9 : Option Addr} {sl9 : Array (Option Value)} {oc9 kV9 dc9 pm9 cd9 ct9 : Value} (a9 : PySem.W.nsIn K mainGlobals "rule_at" = some (some (.ref f9))) (l9 : K.lookup f9 = some ⟨oc9, od9, .func (PySem.W.fnOf "rule_at" "rule_at" (defArgs s_rule_at) (defBody s_rule_at) (defScope s_rule_at) .none kV9 dc9 pm9 an9 cd9 ct9), sl9⟩) (c9 : PySem.W.codeIn K cd9 "rule_at" = true) (k9 : PySem.W.keepIn K (.ref f9) = true)
    {f10 : Addr} {od10 an10 : Option Addr} {sl10 : Array (Option Value)} {oc10 kV10 dc10 pm10 cd10 ct10 : Value} (a10 : PySem.W.nsIn K mainGlobals "read_rules" = some (some (.ref f10))) (l10 : K.lookup f10 = some ⟨oc10, od10, .func (PySem.W.fnOf "read_rules" "read_rules" (defArgs s_read_rules) (defBody s_read_rules) (defScope s_read_rules) .none kV10 dc10 pm10 an10 cd10 ct10), sl10⟩) (c10 : PySem.W.codeIn K cd10 "read_rules" = true) (k10 : PySem.W.keepIn K (.ref f10) = true)
    {f11 : Addr} {od11 an11 : Option Addr} {sl11 : Array (Option Value)} {oc11 kV11 dc11 pm11 cd11 ct11 : Value} (a11 : PySem.W.nsIn K mainGlobals "_law_whole" = some (some (.ref f11))) (l11 : K.lookup f11 = some ⟨oc11, od11, .func (PySem.W.fnOf "_law_whole" "_law_whole" (defArgs s__law_whole) (defBody s__law_whole) (defScope s__law_whole) .none kV11 dc11 pm11 an11 cd11 ct11), sl11⟩) (c11 : PySem.W.codeIn K cd11 "_law_whole" = true) (k11 : PySem.W.keepIn K (.ref f11) = true)
    {f12 : Addr} {od12 an12 : Option Addr} {sl12 : Array (Option Value)} {oc12 kV12 dc12 pm12 cd12 ct12 : Value} (a12 : PySem.W.nsIn K mainGlobals "_law_refused" = some (some (.ref f12))) (l12 : K.lookup f12 = some ⟨oc12, od12, .func (PySem.W.fnOf "_law_refused" "_law_refused" (defArgs s__law_refused) (defBody s__law_refused) (defScope s__law_refused) .none kV12 dc12 pm12 an12 cd12 ct12), sl12⟩) (c12 : PySem.W.codeIn K cd12 "_law_refused" = true) (k12 : PySem.W.keepIn K (.ref f12) = true)
    {f13 : Addr} {od13 an13 : Option Addr} {sl13 : Array (Option Value)} {oc13 kV13 dc13 pm13 cd13 ct13 : Value} (a13 : PySem.W.nsIn K mainGlobals "law" = some (some (.ref f13))) (l13 : K.lookup f13 = some ⟨oc13, od13, .func (PySem.W.fnOf "law" "law" (defArgs s_law) (defBody s_law) (defScope s_law) .none kV13 dc13 pm13 an13 cd13 ct13), sl13⟩) (c13 : PySem.W.codeIn K cd13 "law" = true) (k13 : PySem.W.keepIn K (.ref f13) = true)
    {I_Former : Addr} {iod_Former ian_Former : Option Addr} {isl_Former : Array (Option Value)} {ioc_Former ikv_Former idc_Former ipm_Former icd_Former ict_Former : Value}
    {I_Rule : Addr} {iod_Rule ian_Rule : Option Addr} {isl_Rule : Array (Option Value)} {ioc_Rule ikv_Rule idc_Rule ipm_Rule icd_Rule ict_Rule : Value}
    {A_FolkError : Addr}
    (ns_FolkError : PySem.W.nsIn K mainGlobals "FolkError" = some (some (.ref A_FolkError)))
    {A_Former : Addr}
    (ns_Former : PySem.W.nsIn K mainGlobals "Former" = some (some (.ref A_Former)))
    {A_Rule : Addr}
    (ns_Rule : PySem.W.nsIn K mainGlobals "Rule" = some (some (.ref A_Rule)))
    {A_Like : Addr}
    (ns_Like : PySem.W.nsIn K mainGlobals "Like" = some (some (.ref A_Like)))
    {A_Near : Addr}
    (ns_Near : PySem.W.nsIn K mainGlobals "Near" = some (some (.ref A_Near)))
    {A_NoName : Addr}
    (ns_NoName : PySem.W.nsIn K mainGlobals "NoName" = some (some (.ref A_NoName)))
    {A_NoPair : Addr}
    (ns_NoPair : PySem.W.nsIn K mainGlobals "NoPair" = some (some (.ref A_NoPair)))
    {A_NoRow : Addr}
    (ns_NoRow : PySem.W.nsIn K mainGlobals "NoRow" = some (some (.ref A_NoRow)))
    {A_NoText : Addr}
    (ns_NoText : PySem.W.nsIn K mainGlobals "NoText" = some (some (.ref A_NoText)))
    {A_Other : Addr}
    (ns_Other : PySem.W.nsIn K mainGlobals "Other" = some (some (.ref A_Other)))
    {A_Same : Addr}
    (ns_Same : PySem.W.nsIn K mainGlobals "Same" = some (some (.ref A_Same)))
    (kp_NoRow : PySem.W.keepIn K (.ref A_NoRow) = true)
    (eb_NoRow : PySem.W.subIn K (.ref A_NoRow) (.type "BaseException") = some true)
    (ty_NoRow : PySem.W.typeIn K (.ref A_NoRow) = some (.type "type"))
    {nm_NoRow q_NoRow : Str} {N_NoRow I_NoRow : Addr} {bs_NoRow sb_NoRow : List Value} {sn_NoRow : List Str} {ab_NoRow : Bool} {co_NoRow : Option Bool} {dd_NoRow : Option Addr} {m0_NoRow m1_NoRow m2_NoRow m3_NoRow m5_NoRow : Option Value} {iod_NoRow ian_NoRow : Option Addr} {isl_NoRow : Array (Option Value)} {ioc_NoRow ikv_NoRow idc_NoRow ipm_NoRow icd_NoRow ict_NoRow : Value}
    (xl_NoRow : K.lookup A_NoRow = some (excClassObj nm_NoRow q_NoRow A_NoRow N_NoRow bs_NoRow [.ref A_FolkError, .type "ValueError", .type "Exception", .type "BaseException", .type "object"] true sn_NoRow sb_NoRow ab_NoRow co_NoRow dd_NoRow m0_NoRow m1_NoRow m2_NoRow m3_NoRow m5_NoRow "ValueError.__new__"))
    (sa_NoRow : PySem.W.findIn K (.ref A_NoRow) "__setattr__" = some (some (.builtin "object.__setattr__")))
    (ii_NoRow : PySem.W.findIn K (.ref A_NoRow) "__init__" = some (some (.ref I_NoRow)))
    (it_NoRow : PySem.W.typeIn K (.ref I_NoRow) = some (.type "function"))
    (il_NoRow : K.lookup I_NoRow = some ⟨ioc_NoRow, iod_NoRow, .func (PySem.W.fnOf "__init__" "NoRow.__init__" (defArgs si_NoRow) (defBody si_NoRow) (defScope si_NoRow) .none ikv_NoRow idc_NoRow ipm_NoRow ian_NoRow icd_NoRow ict_NoRow), isl_NoRow⟩)
    (ic_NoRow : PySem.W.codeIn K icd_NoRow "NoRow.__init__" = true)
    (ik_NoRow : PySem.W.keepIn K (.ref I_NoRow) = true)
    (no_NoRow : PySem.W.findIn K (.ref A_NoRow) "row" = some none)
    (oc_sp : PySem.W.specialIn K (.builtin "object.__class__") "__get__" = some (some (.builtin "getset_descriptor.__get__")))
    (oc_tk : PySem.W.takesIn K (.builtin "object.__class__") = some true)
    (ka_NoRow : PySem.W.isClsIn K A_NoRow = true)
    (kb_NoRow : PySem.W.findIn K (.ref A_NoRow) "__getattribute__" = some (some (.builtin "BaseException.__getattribute__")))
    (kc_NoRow : PySem.W.findIn K (.ref A_NoRow) "__getattr__" = some none)
    (kd_NoRow : PySem.W.findIn K (.ref A_NoRow) "__class__" = some (some (.builtin "object.__class__")))
    (ke_NoRow : PySem.W.mroIn K A_NoRow (.type "object") = some true)
    (kf_NoRow : PySem.W.hasDictIn K A_NoRow = true)
    (ka_FolkError : PySem.W.isClsIn K A_FolkError = true)
    (ty_FolkError : PySem.W.typeIn K (.ref A_FolkError) = some (.type "type"))
    (eb_FolkError : PySem.W.subIn K (.ref A_FolkError) (.type "BaseException") = some true)
    (k_NoRow_FolkError : PySem.W.subIn K (.ref A_NoRow) (.ref A_FolkError) = some true)
    (ka_NoName : PySem.W.isClsIn K A_NoName = true)
    (ty_NoName : PySem.W.typeIn K (.ref A_NoName) = some (.type "type"))
    (eb_NoName : PySem.W.subIn K (.ref A_NoName) (.type "BaseException") = some true)
    (k_NoRow_NoName : PySem.W.subIn K (.ref A_NoRow) (.ref A_NoName) = some false)
    (ka_NoPair : PySem.W.isClsIn K A_NoPair = true)
    (ty_NoPair : PySem.W.typeIn K (.ref A_NoPair) = some (.type "type"))
    (eb_NoPair : PySem.W.subIn K (.ref A_NoPair) (.type "BaseException") = some true)
    (k_NoRow_NoPair : PySem.W.subIn K (.ref A_NoRow) (.ref A_NoPair) = some false)
    (k_NoRow_NoRow : PySem.W.subIn K (.ref A_NoRow) (.ref A_NoRow) = some true)
    (ka_NoText : PySem.W.isClsIn K A_NoText = true)
    (ty_NoText : PySem.W.typeIn K (.ref A_NoText) = some (.type "type"))
    (eb_NoText : PySem.W.subIn K (.ref A_NoText) (.type "BaseException") = some true)
    (k_NoRow_NoText : PySem.W.subIn K (.ref A_NoRow) (.ref A_NoText) = some false)
    (k_NoRow_ValueError : PySem.W.subIn K (.ref A_NoRow) (.type "ValueError") = some true)
    (se_NoRow : PySem.W.subIn K (.ref A_NoRow) (.ref A_NoRow) = some true)
    (f_NoRow_row : PySem.W.findIn K (.ref A_NoRow) "row" = some none)
    (kp_Same : PySem.W.keepIn K (.ref A_Same) = true)
    (rg_Same : PySem.W.plainGet K A_Same Str.empty = true)
    (rh_Same : PySem.W.hasDictIn K A_Same = true)
    (ro_Same : PySem.W.plainOver K A_Same = true)
    (ra_Same : PySem.W.findIn K (.ref A_Same) "__setattr__" = some (some (.builtin "object.__setattr__")))
    (rw_Same : PySem.W.findIn K (.ref A_Same) "weight" = some none)
    (rf_Same : PySem.W.findIn K (.ref A_Same) "field" = some none)
    (rc_Same : PySem.W.findIn K (.ref A_Same) "__class__" = some (some (.builtin "object.__class__")))
    (rm_Same : PySem.W.mroIn K A_Same (.type "object") = some true)
    (rk_Same : PySem.W.makesIn K A_Same = true)
    (ii_Same : PySem.W.findIn K (.ref A_Same) "__init__" = some (some (.ref I_Rule)))
    (fi_Rule : PySem.W.isFn K (.ref I_Rule) = true)
    (il_Rule : K.lookup I_Rule = some ⟨ioc_Rule, iod_Rule, .func (PySem.W.fnOf "__init__" "Rule.__init__" (defArgs si_Rule) (defBody si_Rule) (defScope si_Rule) .none ikv_Rule idc_Rule ipm_Rule ian_Rule icd_Rule ict_Rule), isl_Rule⟩)
    (ic_Rule : PySem.W.codeIn K icd_Rule "Rule.__init__" = true)
    (ik_Rule : PySem.W.keepIn K (.ref I_Rule) = true)
    (kp_Like : PySem.W.keepIn K (.ref A_Like) = true)
    (rg_Like : PySem.W.plainGet K A_Like Str.empty = true)
    (rh_Like : PySem.W.hasDictIn K A_Like = true)
    (ro_Like : PySem.W.plainOver K A_Like = true)
    (ra_Like : PySem.W.findIn K (.ref A_Like) "__setattr__" = some (some (.builtin "object.__setattr__")))
    (rw_Like : PySem.W.findIn K (.ref A_Like) "weight" = some none)
    (rf_Like : PySem.W.findIn K (.ref A_Like) "field" = some none)
    (rc_Like : PySem.W.findIn K (.ref A_Like) "__class__" = some (some (.builtin "object.__class__")))
    (rm_Like : PySem.W.mroIn K A_Like (.type "object") = some true)
    (rk_Like : PySem.W.makesIn K A_Like = true)
    (ii_Like : PySem.W.findIn K (.ref A_Like) "__init__" = some (some (.ref I_Rule)))
    (kp_Near : PySem.W.keepIn K (.ref A_Near) = true)
    (rg_Near : PySem.W.plainGet K A_Near Str.empty = true)
    (rh_Near : PySem.W.hasDictIn K A_Near = true)
    (ro_Near : PySem.W.plainOver K A_Near = true)
    (ra_Near : PySem.W.findIn K (.ref A_Near) "__setattr__" = some (some (.builtin "object.__setattr__")))
    (rw_Near : PySem.W.findIn K (.ref A_Near) "weight" = some none)
    (rf_Near : PySem.W.findIn K (.ref A_Near) "field" = some none)
    (rc_Near : PySem.W.findIn K (.ref A_Near) "__class__" = some (some (.builtin "object.__class__")))
    (rm_Near : PySem.W.mroIn K A_Near (.type "object") = some true)
    (rk_Near : PySem.W.makesIn K A_Near = true)
    (ii_Near : PySem.W.findIn K (.ref A_Near) "__init__" = some (some (.ref I_Rule)))
    (kp_Other : PySem.W.keepIn K (.ref A_Other) = true)
    (rg_Other : PySem.W.plainGet K A_Other Str.empty = true)
    (rh_Other : PySem.W.hasDictIn K A_Other = true)
    (ro_Other : PySem.W.plainOver K A_Other = true)
    (ra_Other : PySem.W.findIn K (.ref A_Other) "__setattr__" = some (some (.builtin "object.__setattr__")))
    (rw_Other : PySem.W.findIn K (.ref A_Other) "weight" = some none)
    (rf_Other : PySem.W.findIn K (.ref A_Other) "field" = some none)
    (rc_Other : PySem.W.findIn K (.ref A_Other) "__class__" = some (some (.builtin "object.__class__")))
    (rm_Other : PySem.W.mroIn K A_Other (.type "object") = some true)
    (rk_Other : PySem.W.makesIn K A_Other = true)
    (ii_Other : PySem.W.findIn K (.ref A_Other) "__init__" = some (some (.ref I_Rule)))
    (kp_Former : PySem.W.keepIn K (.ref A_Former) = true)
    (rg_Former : PySem.W.plainGet K A_Former Str.empty = true)
    (rh_Former : PySem.W.hasDictIn K A_Former = true)
    (ro_Former : PySem.W.plainOver K A_Former = true)
    (ra_Former : PySem.W.findIn K (.ref A_Former) "__setattr__" = some (some (.builtin "object.__setattr__")))
    (rw_Former : PySem.W.findIn K (.ref A_Former) "weight" = some none)
    (rf_Former : PySem.W.findIn K (.ref A_Former) "field" = some none)
    (rc_Former : PySem.W.findIn K (.ref A_Former) "__class__" = some (some (.builtin "object.__class__")))
    (rm_Former : PySem.W.mroIn K A_Former (.type "object") = some true)
    (rk_Former : PySem.W.makesIn K A_Former = true)
    (ii_Former : PySem.W.findIn K (.ref A_Former) "__init__" = some (some (.ref I_Former)))
    (rd_Rule : PySem.W.readsIn K A_Rule (.type "type") = true)
    (ga_Rule : PySem.W.specialIn K (.ref A_Rule) "__getattribute__" = some (some (.builtin "type.__getattribute__")))
    (fc_Rule : PySem.W.findCls K (.ref A_Rule) (.type "type") "__init__" = some (.val (.ref I_Rule)))
    (fi_Former : PySem.W.isFn K (.ref I_Former) = true)
    (il_Former : K.lookup I_Former = some ⟨ioc_Former, iod_Former, .func (PySem.W.fnOf "__init__" "Former.__init__" (defArgs si_Former) (defBody si_Former) (defScope si_Former) .none ikv_Former idc_Former ipm_Former ian_Former icd_Former ict_Former), isl_Former⟩)
    (ic_Former : PySem.W.codeIn K icd_Former "Former.__init__" = true)
    (ik_Former : PySem.W.keepIn K (.ref I_Former) = true)
    (z1 : PySem.W.nsIn K mainGlobals "ValueError" = some none)
    (z2 : PySem.W.nsIn K mainGlobals "bool" = some none)
    (z3 : PySem.W.nsIn K mainGlobals "enumerate" = some none)
    (z4 : PySem.W.nsIn K mainGlobals "int" = some none)
    (z5 : PySem.W.nsIn K mainGlobals "isinstance" = some none)
    (z6 : PySem.W.nsIn K mainGlobals "len" = some none)
    (z7 : PySem.W.nsIn K mainGlobals "max" = some none)
    (z8 : PySem.W.nsIn K mainGlobals "min" = some none)
    (z9 : PySem.W.nsIn K mainGlobals "range" = some none)
    (z10 : PySem.W.nsIn K mainGlobals "str" = some none)
    {gt1_0 gt1_1 gt1_2 gt1_3 gt1_4 : Tok} {ga1 : Addr} {gd1 : Option Addr} {gn1 : Nat} {gs1 : Array (Option Value)} (y1 : PySem.W.nsIn K mainGlobals "FIELDS" = some (some (.ref ga1))) (x1 : K.lookup ga1 = some ⟨.type "tuple", gd1, .seq #[.str ("name" : Str) gt1_0, .str ("former" : Str) gt1_1, .str ("way" : Str) gt1_2, .str ("day" : Str) gt1_3, .str ("mark" : Str) gt1_4] gn1, gs1⟩)
    {gt2 : Tok} (y2 : PySem.W.nsIn K mainGlobals "GREATEST" = some (some (.int 1000000000 gt2)))
    : ∃ fd : FuncData, (∀ (s : Shared) (v : Value), BindsTo s fd ⟨[v], []⟩ [("_law_script", v)]) ∧ ∀ base : Heap, K.In base → base.Ns mainGlobals mg → FnOk l.prog w K mg base CX0 9 fa fd ["_law_script"] (spV K m_law) := by
  have e := hfa.symm.trans (PySem.W.mg_of X G a13)
  cases e
  have F1 := fun_mk (st := s__law_words) l1 c1 k1
  have F2 := fun_mk (st := s__law_cell_at) l2 c2 k2
  have F3 := fun_mk (st := s__law_bad_number) l3 c3 k3
  have F4 := fun_mk (st := s__law_spoiled) l4 c4 k4
  have F5 := fun_mk (st := s_is_passed_by) l5 c5 k5
  have F6 := fun_mk (st := s_number_by) l6 c6 k6
  have F7 := fun_mk (st := s_rule_by) l7 c7 k7
  have F8 := fun_mk (st := s_read_rule) l8 c8 k8
  have F9 := fun_mk (st := s_rule_at) l9 c9 k9
  have F10 := fun_mk (st := s_read_rules) l10 c10 k10
  have F11 := fun_mk (st := s__law_whole) l11 c11 k11
  have F12 := fun_mk (st := s__law_refused) l12 c12 k12
  have F13 := fun_mk (st := s_law) l13 c13 k13
  refine ⟨PySem.W.fnOf "law" "law" (defArgs s_law) (defBody s_law) (defScope s_law) .none kV13 dc13 pm13 an13 cd13 ct13, fun s v => .of_eq rfl, fun base _ _ => ?_⟩
  have T : Txt l.prog w K mg base := ⟨trivial, ⟨A_NoRow, I_NoRow, _, ⟨PySem.W.mg_of X G ns_NoRow, ns_NoRow, kp_NoRow, eb_NoRow, ty_NoRow⟩, ⟨⟨_, _, _, _, _, _, _, _, _, _, _, _, _, _, _, xl_NoRow, rfl⟩, sa_NoRow, eb_NoRow, ty_NoRow, kp_NoRow⟩, ii_NoRow, it_NoRow, init_ok ⟨⟨_, _, _, _, _, _, _, _, _, _, _, _, _, _, _, xl_NoRow, rfl⟩, sa_NoRow, eb_NoRow, ty_NoRow, kp_NoRow⟩ no_NoRow (fun_mk (st := si_NoRow) il_NoRow ic_NoRow ik_NoRow) ⟨rfl, rfl, rfl, by decide +kernel, rfl, by decide +kernel, by decide +kernel⟩ rfl (fun _ _ => by first | exact Or.inl rfl | exact Or.inr (Or.inl rfl) | exact Or.inr (Or.inr rfl)) (fun _ _ => by first | exact Or.inl rfl | exact Or.inr (Or.inl rfl) | exact Or.inr (Or.inr rfl)) (by decide) (by decide) (fun _ _ => rfl), (fun_mk (st := si_NoRow) il_NoRow ic_NoRow ik_NoRow).binds (ps := ["self", "row"]) fun _ _ _ _ _ _ us hl => match us, hl with | [_, _], _ => rfl⟩, ⟨A_NoRow, I_NoRow, _, ⟨PySem.W.mg_of X G ns_NoRow, ns_NoRow, kp_NoRow, eb_NoRow, ty_NoRow⟩, ⟨⟨_, _, _, _, _, _, _, _, _, _, _, _, _, _, _, xl_NoRow, rfl⟩, sa_NoRow, eb_NoRow, ty_NoRow, kp_NoRow⟩, ii_NoRow, it_NoRow, init_okH ⟨⟨_, _, _, _, _, _, _, _, _, _, _, _, _, _, _, xl_NoRow, rfl⟩, sa_NoRow, eb_NoRow, ty_NoRow, kp_NoRow⟩ no_NoRow (fun_mk (st := si_NoRow) il_NoRow ic_NoRow ik_NoRow) ⟨rfl, rfl, rfl, by decide +kernel, rfl, by decide +kernel, by decide +kernel⟩ rfl (fun _ _ => by first | exact Or.inl rfl | exact Or.inr (Or.inl rfl) | exact Or.inr (Or.inr rfl)) (fun _ _ => by first | exact Or.inl rfl | exact Or.inr (Or.inl rfl) | exact Or.inr (Or.inr rfl)) (by decide) (by decide) (fun _ _ => rfl), (fun_mk (st := si_NoRow) il_NoRow ic_NoRow ik_NoRow).binds (ps := ["self", "row"]) fun _ _ _ _ _ _ us hl => match us, hl with | [_, _], _ => rfl⟩, (List.forall_mem_cons.mpr ⟨⟨A_NoRow, ns_NoRow, ⟨ka_NoRow, kb_NoRow, kc_NoRow, eb_NoRow, kd_NoRow, oc_sp, oc_tk, ke_NoRow, kf_NoRow⟩⟩, fun _ h => nomatch h⟩), ⟨A_NoName, PySem.W.mg_of X G ns_NoName, (List.forall_mem_cons.mpr ⟨(fun D hD => by cases ns_NoRow.symm.trans hD; exact (kit_own ka_NoName ty_NoName k_NoRow_NoName se_NoRow).trans (by decide +kernel)), fun _ h => nomatch h⟩)⟩, ⟨A_NoPair, PySem.W.mg_of X G ns_NoPair, (List.forall_mem_cons.mpr ⟨(fun D hD => by cases ns_NoRow.symm.trans hD; exact (kit_own ka_NoPair ty_NoPair k_NoRow_NoPair se_NoRow).trans (by decide +kernel)), fun _ h => nomatch h⟩)⟩, ⟨A_NoRow, PySem.W.mg_of X G ns_NoRow, (List.forall_mem_cons.mpr ⟨(fun D hD => by cases ns_NoRow.symm.trans hD; exact (kit_own ka_NoRow ty_NoRow k_NoRow_NoRow se_NoRow).trans (by decide +kernel)), fun _ h => nomatch h⟩)⟩, ⟨A_NoText, PySem.W.mg_of X G ns_NoText, (List.forall_mem_cons.mpr ⟨(fun D hD => by cases ns_NoRow.symm.trans hD; exact (kit_own ka_NoText ty_NoText k_NoRow_NoText se_NoRow).trans (by decide +kernel)), fun _ h => nomatch h⟩)⟩, (List.forall_mem_cons.mpr ⟨(fun D hD => by cases ns_NoRow.symm.trans hD; exact (kit_blt (by decide +kernel) k_NoRow_ValueError).trans (by decide +kernel)), fun _ h => nomatch h⟩), ⟨A_FolkError, PySem.W.mg_of X G ns_FolkError, (List.forall_mem_cons.mpr ⟨(fun D hD => by cases ns_NoRow.symm.trans hD; exact exm_own eb_FolkError ka_FolkError ty_FolkError k_NoRow_FolkError), fun _ h => nomatch h⟩)⟩, ⟨A_NoRow, PySem.W.mg_of X G ns_NoRow, (List.forall_mem_cons.mpr ⟨(fun D hD => by cases ns_NoRow.symm.trans hD; exact exm_own eb_NoRow ka_NoRow ty_NoRow k_NoRow_NoRow), fun _ h => nomatch h⟩)⟩, (List.forall_mem_cons.mpr ⟨(fun D hD => by cases ns_NoRow.symm.trans hD; exact f_NoRow_row), fun _ h => nomatch h⟩), (List.forall_mem_cons.mpr ⟨⟨A_Same, ns_Same, ⟨⟨rg_Same, rh_Same, ro_Same, ra_Same⟩, rw_Same, rf_Same, rc_Same, oc_sp, oc_tk, rm_Same⟩⟩, List.forall_mem_cons.mpr ⟨⟨A_Like, ns_Like, ⟨⟨rg_Like, rh_Like, ro_Like, ra_Like⟩, rw_Like, rf_Like, rc_Like, oc_sp, oc_tk, rm_Like⟩⟩, List.forall_mem_cons.mpr ⟨⟨A_Near, ns_Near, ⟨⟨rg_Near, rh_Near, ro_Near, ra_Near⟩, rw_Near, rf_Near, rc_Near, oc_sp, oc_tk, rm_Near⟩⟩, List.forall_mem_cons.mpr ⟨⟨A_Other, ns_Other, ⟨⟨rg_Other, rh_Other, ro_Other, ra_Other⟩, rw_Other, rf_Other, rc_Other, oc_sp, oc_tk, rm_Other⟩⟩, List.forall_mem_cons.mpr ⟨⟨A_Former, ns_Former, ⟨⟨rg_Former, rh_Former, ro_Former, ra_Former⟩, rw_Former, rf_Former, rc_Former, oc_sp, oc_tk, rm_Former⟩⟩, fun _ h => nomatch h⟩⟩⟩⟩⟩), ⟨A_Same, I_Rule, _, _, PySem.W.mg_of X G ns_Same, ns_Same, ⟨⟨rg_Same, rh_Same, ro_Same, ra_Same⟩, rw_Same, rf_Same, rc_Same, oc_sp, oc_tk, rm_Same⟩, ⟨rk_Same, ii_Same, fi_Rule, kp_Same⟩, (fun_mk (st := si_Rule) il_Rule ic_Rule ik_Rule).binds (ps := ["self", "weight", "field"]) fun _ _ _ _ _ _ us hl => match us, hl with | [_, _, _], _ => rfl, initR_ok (fun_mk (st := si_Rule) il_Rule ic_Rule ik_Rule) ⟨rfl, rfl, rfl, by decide +kernel, rfl, by decide +kernel, by decide +kernel⟩ rfl (fun _ _ => by first | exact Or.inl rfl | exact Or.inr (Or.inl rfl) | exact Or.inr (Or.inr rfl)) (fun _ _ => by first | exact Or.inl rfl | exact Or.inr (Or.inl rfl) | exact Or.inr (Or.inr rfl)) (fun _ _ => by first | exact Or.inl rfl | exact Or.inr (Or.inl rfl) | exact Or.inr (Or.inr rfl)) (fun _ _ => rfl) (fun _ _ => rfl)⟩, ⟨A_Like, I_Rule, _, _, PySem.W.mg_of X G ns_Like, ns_Like, ⟨⟨rg_Like, rh_Like, ro_Like, ra_Like⟩, rw_Like, rf_Like, rc_Like, oc_sp, oc_tk, rm_Like⟩, ⟨rk_Like, ii_Like, fi_Rule, kp_Like⟩, (fun_mk (st := si_Rule) il_Rule ic_Rule ik_Rule).binds (ps := ["self", "weight", "field"]) fun _ _ _ _ _ _ us hl => match us, hl with | [_, _, _], _ => rfl, initR_ok (fun_mk (st := si_Rule) il_Rule ic_Rule ik_Rule) ⟨rfl, rfl, rfl, by decide +kernel, rfl, by decide +kernel, by decide +kernel⟩ rfl (fun _ _ => by first | exact Or.inl rfl | exact Or.inr (Or.inl rfl) | exact Or.inr (Or.inr rfl)) (fun _ _ => by first | exact Or.inl rfl | exact Or.inr (Or.inl rfl) | exact Or.inr (Or.inr rfl)) (fun _ _ => by first | exact Or.inl rfl | exact Or.inr (Or.inl rfl) | exact Or.inr (Or.inr rfl)) (fun _ _ => rfl) (fun _ _ => rfl)⟩, ⟨A_Near, I_Rule, _, _, PySem.W.mg_of X G ns_Near, ns_Near, ⟨⟨rg_Near, rh_Near, ro_Near, ra_Near⟩, rw_Near, rf_Near, rc_Near, oc_sp, oc_tk, rm_Near⟩, ⟨rk_Near, ii_Near, fi_Rule, kp_Near⟩, (fun_mk (st := si_Rule) il_Rule ic_Rule ik_Rule).binds (ps := ["self", "weight", "field"]) fun _ _ _ _ _ _ us hl => match us, hl with | [_, _, _], _ => rfl, initR_ok (fun_mk (st := si_Rule) il_Rule ic_Rule ik_Rule) ⟨rfl, rfl, rfl, by decide +kernel, rfl, by decide +kernel, by decide +kernel⟩ rfl (fun _ _ => by first | exact Or.inl rfl | exact Or.inr (Or.inl rfl) | exact Or.inr (Or.inr rfl)) (fun _ _ => by first | exact Or.inl rfl | exact Or.inr (Or.inl rfl) | exact Or.inr (Or.inr rfl)) (fun _ _ => by first | exact Or.inl rfl | exact Or.inr (Or.inl rfl) | exact Or.inr (Or.inr rfl)) (fun _ _ => rfl) (fun _ _ => rfl)⟩, ⟨A_Other, I_Rule, _, _, PySem.W.mg_of X G ns_Other, ns_Other, ⟨⟨rg_Other, rh_Other, ro_Other, ra_Other⟩, rw_Other, rf_Other, rc_Other, oc_sp, oc_tk, rm_Other⟩, ⟨rk_Other, ii_Other, fi_Rule, kp_Other⟩, (fun_mk (st := si_Rule) il_Rule ic_Rule ik_Rule).binds (ps := ["self", "weight", "field"]) fun _ _ _ _ _ _ us hl => match us, hl with | [_, _, _], _ => rfl, initR_ok (fun_mk (st := si_Rule) il_Rule ic_Rule ik_Rule) ⟨rfl, rfl, rfl, by decide +kernel, rfl, by decide +kernel, by decide +kernel⟩ rfl (fun _ _ => by first | exact Or.inl rfl | exact Or.inr (Or.inl rfl) | exact Or.inr (Or.inr rfl)) (fun _ _ => by first | exact Or.inl rfl | exact Or.inr (Or.inl rfl) | exact Or.inr (Or.inr rfl)) (fun _ _ => by first | exact Or.inl rfl | exact Or.inr (Or.inl rfl) | exact Or.inr (Or.inr rfl)) (fun _ _ => rfl) (fun _ _ => rfl)⟩, ⟨A_Former, I_Former, _, _, PySem.W.mg_of X G ns_Former, ns_Former, ⟨⟨rg_Former, rh_Former, ro_Former, ra_Former⟩, rw_Former, rf_Former, rc_Former, oc_sp, oc_tk, rm_Former⟩, ⟨rk_Former, ii_Former, fi_Former, kp_Former⟩, (fun_mk (st := si_Former) il_Former ic_Former ik_Former).binds (ps := ["self", "weight"]) fun _ _ _ _ _ _ us hl => match us, hl with | [_, _], _ => rfl, ok_init_Former (fun_mk (st := si_Former) il_Former ic_Former ik_Former) ⟨A_Rule, .type "type", I_Rule, _, PySem.W.mg_of X G ns_Rule, ⟨rd_Rule, ga_Rule⟩, ⟨fc_Rule, rfl⟩, ik_Rule, (fun_mk (st := si_Rule) il_Rule ic_Rule ik_Rule).binds (ps := ["self", "weight", "field"]) fun _ _ _ _ _ _ us hl => match us, hl with | [_, _, _], _ => rfl, initR_ok (fun_mk (st := si_Rule) il_Rule ic_Rule ik_Rule) ⟨rfl, rfl, rfl, by decide +kernel, rfl, by decide +kernel, by decide +kernel⟩ rfl (fun _ _ => by first | exact Or.inl rfl | exact Or.inr (Or.inl rfl) | exact Or.inr (Or.inr rfl)) (fun _ _ => by first | exact Or.inl rfl | exact Or.inr (Or.inl rfl) | exact Or.inr (Or.inr rfl)) (fun _ _ => by first | exact Or.inl rfl | exact Or.inr (Or.inl rfl) | exact Or.inr (Or.inr rfl)) (fun _ _ => rfl) (fun _ _ => rfl)⟩⟩, PySem.W.mg_none_of X G z1, PySem.W.mg_none_of X G z2, PySem.W.mg_none_of X G z3, PySem.W.mg_none_of X G z4, PySem.W.mg_none_of X G z5, PySem.W.mg_none_of X G z6, PySem.W.mg_none_of X G z7, PySem.W.mg_none_of X G z8, PySem.W.mg_none_of X G z9, PySem.W.mg_none_of X G z10, ⟨_, PySem.W.mg_of X G y1, fun _ => .inr ⟨_, _, _, x1, rfl, rfl, (show 5 ≤ sizeLine by rw [sizeLine_eq]; decide), .cons ⟨_, rfl⟩ (.cons ⟨_, rfl⟩ (.cons ⟨_, rfl⟩ (.cons ⟨_, rfl⟩ (.cons ⟨_, rfl⟩ (.nil)))))⟩⟩, ⟨_, PySem.W.mg_of X G y2⟩⟩
  have C1 : Cal l.prog w K mg base CX0 1 "_law_words" ["_law_cell"] (spO K m__law_words) := ⟨f1, _, PySem.W.mg_of X G a1, k1, F1.binds (ps := ["_law_cell"]) fun _ _ _ _ _ _ us hl => match us, hl with | [_], _ => rfl, ok__law_words F1 T ⟩
  have C2 : Cal l.prog w K mg base CX0 1 "_law_cell_at" ["_law_script", "_law_k"] (spV K m__law_cell_at) := ⟨f2, _, PySem.W.mg_of X G a2, k2, F2.binds (ps := ["_law_script", "_law_k"]) fun _ _ _ _ _ _ us hl => match us, hl with | [_, _], _ => rfl, ok__law_cell_at F2 T ⟩
  have C3 : Cal l.prog w K mg base CX0 1 "_law_bad_number" ["_law_number", "_law_draw"] (spV K m__law_bad_number) := ⟨f3, _, PySem.W.mg_of X G a3, k3, F3.binds (ps := ["_law_number", "_law_draw"]) fun _ _ _ _ _ _ us hl => match us, hl with | [_, _], _ => rfl, ok__law_bad_number F3 T ⟩
  have C4 : Cal l.prog w K mg base CX0 2 "_law_spoiled" ["_law_words_here", "_law_way", "_law_draw"] (spV K m__law_spoiled) := ⟨f4, _, PySem.W.mg_of X G a4, k4, F4.binds (ps := ["_law_words_here", "_law_way", "_law_draw"]) fun _ _ _ _ _ _ us hl => match us, hl with | [_, _, _], _ => rfl, ok__law_spoiled F4 T C3⟩
  have C5 : Cal l.prog w K mg base CX0 1 "is_passed_by" ["row"] (spV K m_is_passed_by) := ⟨f5, _, PySem.W.mg_of X G a5, k5, F5.binds (ps := ["row"]) fun _ _ _ _ _ _ us hl => match us, hl with | [_], _ => rfl, ok_is_passed_by F5 T ⟩
  have C6 : Cal l.prog w K mg base (L2N.CX l.prog w) 3 "number_by" ["word"] (spX K m_number_by) := ⟨f6, _, PySem.W.mg_of X G a6, k6, F6.binds (ps := ["word"]) fun _ _ _ _ _ _ us hl => match us, hl with | [_], _ => rfl, ok_number_by F6 T ⟩
  have C7 : Cal l.prog w K mg base (L2N.CX l.prog w) 4 "rule_by" ["weight", "field", "sort"] (spX K m_rule_by) := ⟨f7, _, PySem.W.mg_of X G a7, k7, F7.binds (ps := ["weight", "field", "sort"]) fun _ _ _ _ _ _ us hl => match us, hl with | [_, _, _], _ => rfl, ok_rule_by F7 T ⟩
  have C8 : Cal l.prog w K mg base (L2N.CX l.prog w) 5 "read_rule" ["row"] (spX K m_read_rule) := ⟨f8, _, PySem.W.mg_of X G a8, k8, F8.binds (ps := ["row"]) fun _ _ _ _ _ _ us hl => match us, hl with | [_], _ => rfl, ok_read_rule F8 T C6 C7⟩
  have C9 : Cal l.prog w K mg base (L2.CX l.prog w) 6 "rule_at" ["row", "number"] (spX K m_rule_at) := ⟨f9, _, PySem.W.mg_of X G a9, k9, F9.binds (ps := ["row", "number"]) fun _ _ _ _ _ _ us hl => match us, hl with | [_, _], _ => rfl, ok_rule_at F9 T C8⟩
  have C10 : Cal l.prog w K mg base (L2.CX l.prog w) 7 "read_rules" ["text"] (spXO K m_read_rules) := ⟨f10, _, PySem.W.mg_of X G a10, k10, F10.binds (ps := ["text"]) fun _ _ _ _ _ _ us hl => match us, hl with | [_], _ => rfl, ok_read_rules F10 T C5 C9⟩
  have C11 : Cal l.prog w K mg base CX0 1 "_law_whole" ["_law_found"] (spV K m__law_whole) := ⟨f11, _, PySem.W.mg_of X G a11, k11, F11.binds (ps := ["_law_found"]) fun _ _ _ _ _ _ us hl => match us, hl with | [_], _ => rfl, ok__law_whole F11 T ⟩
  have C12 : Cal l.prog w K mg base CX0 8 "_law_refused" ["_law_row", "_law_number", "_law_whole_here"] (spV K m__law_refused) := ⟨f12, _, PySem.W.mg_of X G a12, k12, F12.binds (ps := ["_law_row", "_law_number", "_law_whole_here"]) fun _ _ _ _ _ _ us hl => match us, hl with | [_, _, _], _ => rfl, ok__law_refused F12 T C10 C8 C11⟩
  exact ok_law F13 T C2 C1 C4 C12 C8 C10
end K22

/-! texts as lists of signs; put put -/
namespace MS
open PySem PySem.Builtin PySem.Builtin.Str PySem.StrLaws TL L2 FK
abbrev c1 (c : Nat) : Str := ⟨#[c]⟩
abbrev mks (l : List Nat) : Str := ⟨l.toArray⟩
theorem tl_mks (l : List Nat) : tl (mks l) = l := rfl
theorem mks_tl (x : Str) : mks (tl x) = x := mk_tl x
theorem len_mks (l : List Nat) : (mks l).length = l.length := by rw [len_tl]
theorem sgn_tl (x : Str) : sgn x = (tl x).map c1 := rfl
theorem app_mks (a b : List Nat) : mks a ++ mks b = mks (a ++ b) := ext_tl (by rw [tl_append])
/-- where a sign stands first, -1 if nowhere -/
def fpos (c : Nat) (l : List Nat) : Int := if c ∈ l then (l.idxOf c : Int) else -1
abbrev GREAT : Str := "ABCDEFGHIJKLMNOPQRSTUVWXYZ"
abbrev SMALL : Str := "abcdefghijklmnopqrstuvwxyz"
theorem mem_range (s n c : Nat) : c ∈ List.range' s n ↔ s ≤ c ∧ c < s + n := by
  rw [List.mem_range'_1]
theorem atI_nat' {α : Type} (l : List α) (k : Nat) (h : k < l.length) : atI l (k : Int) = some l[k] := by
  unfold atI ixN
  rw [if_pos (by omega), if_pos (by omega)]
  show l[(k : Int).toNat]? = _
  rw [Int.toNat_natCast, List.getElem?_eq_getElem h]
theorem sAt_nat (x : Str) (k : Nat) (h : k < (tl x).length) (hz : x.length ≤ 16000000) : sAt x (k : Int) = some (c1 (tl x)[k]) := by
  unfold sAt
  rw [if_pos hz, atI_nat' _ k h]
  rfl
/-- a great letter's small one -/
def low (c : Nat) : Nat := if 65 ≤ c ∧ c < 91 then c + 32 else c
/-! ### words -/
def wd (cur : List Nat) : List Nat → List (List Nat)
  | [] => if cur = [] then [] else [cur]
  | c :: r => if c = 32 then (if cur = [] then wd [] r else cur :: wd [] r) else wd (cur ++ [c]) r
/-- words: not empty, without blanks -/
def Wds (W : List (List Nat)) : Prop := ∀ w ∈ W, w ≠ [] ∧ 32 ∉ w
/-- put put -/
def put (l : List Nat) : List Nat := (joinL [32] (wd [] l)).map low
/-! ### the law's own way: sign by sign -/
def pstep (a : List Nat) (c : Nat) : List Nat := if c ≠ 32 ∨ (a ≠ [] ∧ a.getLast? ≠ some 32) then a ++ [low c] else a
def pstrip (a : List Nat) : List Nat := if a.getLast? = some 32 then a.dropLast else a
/-- what the walk has behind some words D and a word begun -/
def stateOf (D : List (List Nat)) (cur : List Nat) : List Nat :=
  if cur = [] then (if D = [] then [] else (joinL [32] D).map low ++ [32]) else (joinL [32] (D ++ [cur])).map low
end MS

namespace MS
open PySem PySem.StrLaws TL L2 FK
/-! ### loops without a stop -/
theorem add_mks (a b : List Nat) (h : a.length + b.length ≤ 16000000) : sAdd (mks a) (mks b) = some (mks (a ++ b)) := by
  unfold sAdd
  rw [if_pos (by rw [len_mks, len_mks]; exact h), app_mks]
/-! ### plain_of -/
theorem lc_filter {α : Type} {t : α → Bool} : ∀ xs : List α, lcM (fun x => some (t x)) (fun x => some x) xs = some (xs.filter t)
  | [] => rfl
  | x :: r => by
    show (if t x = true then (some x).bind fun y => (lcM (fun x => some (t x)) (fun x => some x) r).bind fun ys => some (y :: ys) else lcM (fun x => some (t x)) (fun x => some x) r) = _
    rw [lc_filter r, List.filter_cons]
    cases t x <;> rfl
def gPlain (sm : Str × Unit → Option Str) (x : Str) : Option Str := (Option.bind (Option.bind (sSplit x (" " : Str)) fun (xs3 : List Str) => lcG (fun (x2 : Str) => (some (!decide (x2 = ("" : Str))))) (fun (x2 : Str) => (some x2)) xs3) fun (words_1 : (List Str)) => (Option.bind (some ("" : Str)) fun (t7 : Str) => Option.bind (Option.bind (Option.bind (sJoin (" " : Str) words_1) fun (t4 : Str) => some (sgn t4)) fun (xs6 : List Str) => lcG (fun (x5 : Str) => (some true)) (fun (x5 : Str) => (sm (x5, ()))) xs6) fun (t8 : (List Str)) => (sJoin t7 t8)))
/-! ### the law's own -/
theorem c1_eq (a b : Nat) : (c1 a = c1 b) ↔ a = b := ⟨fun h => by have := congrArg tl h; exact List.singleton_inj.mp this, fun h => by rw [h]⟩
def gLawPlain (sm : Str × Unit → Option Str) (x : Str) : Option Str := (Option.bind (some ("" : Str)) fun (plain_here_1 : Str) => (Option.bind (Option.bind (some (sgn x)) fun (xs9 : List Str) => forS (S := Str) (fun (s2 : Str) (x3 : Str) => (ifM (bOr (some (!decide (x3 = (" " : Str)))) (bAnd (some (!decide (s2 = ("" : Str)))) (Option.bind (sAt s2 (-(1 : Int))) fun (t4 : Str) => Option.bind (some (" " : Str)) fun (t5 : Str) => some (!decide (t4 = t5))))) (Option.bind (Option.bind (some s2) fun (t7 : Str) => Option.bind (sm (x3, ())) fun (t8 : Str) => (sAdd t7 t8)) fun (plain_here_6 : Str) => (some plain_here_6)) (some s2))) xs9 plain_here_1) fun (s10 : Str) => (ifM (bAnd (some (!decide (s10 = ("" : Str)))) (Option.bind (sAt s10 (-(1 : Int))) fun (t11 : Str) => Option.bind (some (" " : Str)) fun (t12 : Str) => some (decide (t11 = t12)))) (sCut s10 none (some (-(1 : Int)))) (some s10))))
/-! ### the law's text -/
def gSign (x : Int) : Option Str := (Option.bind (some (" !\"#$&'()*+,-./0123456789:;<=>?@ABCDEFGHIJKLMNOPQRSTUVWXYZ[\\]^_`" : Str)) fun (some_1 : Str) => (Option.bind (sAdd some_1 ("abcdefghijklmnopqrstuvwxyz{|}~" : Str)) fun (some_2 : Str) => (sAt some_2 (x % 94))))
theorem cut_len {α : Type} (xs : List α) (lo hi : Option Int) : (cutA xs lo hi).length ≤ xs.length := by
  unfold cutA
  rw [List.length_take, List.length_drop]
  omega
/-- texts of one sign -/
def Sgs (ss : List Str) : Prop := ∀ s ∈ ss, ∃ c, s = c1 c
theorem app_eq {α : Type} (xs : List α) (x : α) (h : xs.length < 16000000) : lApp xs x = some (xs ++ [x]) := if_pos h
theorem cutS_mks (l : List Nat) (lo hi : Option Int) : cutS (mks l) lo hi = mks (cutA l lo hi) := by
  refine ext_tl ?_
  unfold cutA
  show _ = (l.drop (HT.sIx l.length 0 lo)).take (HT.sIx l.length l.length hi - HT.sIx l.length 0 lo)
  rw [← len_mks]
  rfl
theorem cut_mks (l : List Nat) (lo hi : Option Int) (h : l.length ≤ 16000000) : sCut (mks l) lo hi = some (mks (cutA l lo hi)) := by
  unfold sCut
  rw [if_pos (by rw [len_mks]; exact h), cutS_mks]
theorem six (n d : Nat) (z : Int) (h : 0 ≤ z) : HT.sIx n d (some z) = min z.toNat n := by
  show (if z < 0 then (z + (n : Int)).toNat else min z.toNat n) = _
  rw [if_neg (by omega)]
theorem bs {α β : Type} (x : α) (f : α → Option β) : Option.bind (some x) f = f x := Option.bind_some x f
end MS

namespace MS
open PySem PySem.StrLaws TL L2 FK
/-! ### loops by places -/
theorem sLen_mks (l : List Nat) (h : l.length ≤ 16000000) : sLen (mks l) = some (l.length : Int) := by
  unfold sLen
  rw [len_mks, if_pos h]
/-! ### the distance of two lists of signs -/
def ne1 (a b : Nat) : Nat := if a = b then 0 else 1
def lev : List Nat → List Nat → Nat
  | [], b => b.length
  | _ :: x, [] => x.length + 1
  | a :: x, b :: y => min (lev x y + ne1 a b) (min (lev x (b :: y) + 1) (lev (a :: x) y + 1))
termination_by a b => a.length + b.length
inductive Ed : List Nat → List Nat → Nat → Prop
  | nil : Ed [] [] 0
  | keep {x y : List Nat} {n : Nat} (a : Nat) : Ed x y n → Ed (a :: x) (a :: y) n
  | turn {x y : List Nat} {n : Nat} (a b : Nat) : Ed x y n → Ed (a :: x) (b :: y) (n + 1)
  | cut {x y : List Nat} {n : Nat} (a : Nat) : Ed x y n → Ed (a :: x) y (n + 1)
  | put {x y : List Nat} {n : Nat} (b : Nat) : Ed x y n → Ed x (b :: y) (n + 1)
theorem Ed.app {x y u v : List Nat} {n m : Nat} (h : Ed x y n) (k : Ed u v m) : Ed (x ++ u) (y ++ v) (n + m) := by
  induction h with
  | nil => rw [Nat.zero_add]; exact k
  | keep a _ ih => exact .keep a ih
  | @turn x y n a b _ ih => rw [show n + 1 + m = n + m + 1 by omega]; exact .turn a b ih
  | @cut x y n a _ ih => rw [show n + 1 + m = n + m + 1 by omega]; exact .cut a ih
  | @put x y n b _ ih => rw [show n + 1 + m = n + m + 1 by omega]; exact .put b ih
theorem Ed.rev {x y : List Nat} {n : Nat} (h : Ed x y n) : Ed x.reverse y.reverse n := by
  induction h with
  | nil => exact .nil
  | keep a _ ih => rw [List.reverse_cons, List.reverse_cons]; exact ih.app (.keep a .nil)
  | turn a b _ ih => rw [List.reverse_cons, List.reverse_cons]; exact ih.app (.turn a b .nil)
  | cut a _ ih => rw [List.reverse_cons]; have := ih.app (.cut a .nil); rw [List.append_nil] at this; exact this
  | put b _ ih => rw [List.reverse_cons]; have := ih.app (.put b .nil); rw [List.append_nil] at this; exact this
theorem Ed.symm {x y : List Nat} {n : Nat} (h : Ed x y n) : Ed y x n := by
  induction h with
  | nil => exact .nil
  | keep a _ ih => exact .keep a ih
  | turn a b _ ih => exact .turn b a ih
  | cut a _ ih => exact .put a ih
  | put b _ ih => exact .cut b ih
theorem Ed.zero {x y : List Nat} {n : Nat} (h : Ed x y n) : n = 0 → x = y := by
  induction h with
  | nil => intro _; rfl
  | keep a _ ih => intro e; rw [ih e]
  | turn a b _ ih => intro e; omega
  | cut a _ ih => intro e; omega
  | put b _ ih => intro e; omega
/-- a way and a way behind it -/
theorem Ed.trans : ∀ {y x z : List Nat} {n m : Nat}, Ed x y n → Ed y z m → ∃ k, k ≤ n + m ∧ Ed x z k := by
  intro y x z n m h
  induction h generalizing z m with
  | nil => intro k; exact ⟨m, by omega, k⟩
  | @cut x y n a _ ih => intro k; obtain ⟨j, hj, e⟩ := ih k; exact ⟨j + 1, by omega, .cut a e⟩
  | @keep x y n a h0 ih =>
    intro k
    generalize hw : a :: y = w at k
    induction k with
    | nil => cases hw
    | @keep y' z n' b k' _ => injection hw with e1 e2; subst e1; subst e2; obtain ⟨j, hj, e⟩ := ih k'; exact ⟨j, by omega, .keep a e⟩
    | @turn y' z n' b c k' _ => injection hw with e1 e2; subst e1; subst e2; obtain ⟨j, hj, e⟩ := ih k'; exact ⟨j + 1, by omega, .turn a c e⟩
    | @cut y' z n' b k' _ => injection hw with e1 e2; subst e1; subst e2; obtain ⟨j, hj, e⟩ := ih k'; exact ⟨j + 1, by omega, .cut a e⟩
    | @put y' z n' b k' ih2 => obtain ⟨j, hj, e⟩ := ih2 hw; exact ⟨j + 1, by omega, .put b e⟩
  | @turn x y n a c h0 ih =>
    intro k
    generalize hw : c :: y = w at k
    induction k with
    | nil => cases hw
    | @keep y' z n' b k' _ => injection hw with e1 e2; subst e1; subst e2; obtain ⟨j, hj, e⟩ := ih k'; exact ⟨j + 1, by omega, .turn a c e⟩
    | @turn y' z n' b d k' _ => injection hw with e1 e2; subst e1; subst e2; obtain ⟨j, hj, e⟩ := ih k'; exact ⟨j + 1, by omega, .turn a d e⟩
    | @cut y' z n' b k' _ => injection hw with e1 e2; subst e1; subst e2; obtain ⟨j, hj, e⟩ := ih k'; exact ⟨j + 1, by omega, .cut a e⟩
    | @put y' z n' b k' ih2 => obtain ⟨j, hj, e⟩ := ih2 hw; exact ⟨j + 1, by omega, .put b e⟩
  | @put x y n c h0 ih =>
    intro k
    generalize hw : c :: y = w at k
    induction k with
    | nil => cases hw
    | @keep y' z n' b k' _ => injection hw with e1 e2; subst e1; subst e2; obtain ⟨j, hj, e⟩ := ih k'; exact ⟨j + 1, by omega, .put c e⟩
    | @turn y' z n' b d k' _ => injection hw with e1 e2; subst e1; subst e2; obtain ⟨j, hj, e⟩ := ih k'; exact ⟨j + 1, by omega, .put d e⟩
    | @cut y' z n' b k' _ => injection hw with e1 e2; subst e1; subst e2; obtain ⟨j, hj, e⟩ := ih k'; exact ⟨j, by omega, e⟩
    | @put y' z n' b k' ih2 => obtain ⟨j, hj, e⟩ := ih2 hw; exact ⟨j + 1, by omega, .put b e⟩
/-! ### reckoned from the heads -/
def fw (a b : List Nat) (i j : Nat) : Nat := lev (a.take i).reverse (b.take j).reverse
def bw (a b : List Nat) (i j : Nat) : Nat := lev (a.drop i) (b.drop j)
/-! ### whiles -/
theorem cut_from {α : Type} (l : List α) (p : Nat) : cutA l (some (p : Int)) none = l.drop p := by
  unfold cutA
  rw [six _ _ _ (by omega), show HT.sIx l.length l.length none = l.length from rfl, Int.toNat_natCast]
  by_cases h : p ≤ l.length
  · rw [Nat.min_eq_left h, List.take_of_length_le (by rw [List.length_drop]; omega)]
  · rw [Nat.min_eq_right (by omega), List.drop_eq_nil_of_le (Nat.le_refl l.length), List.drop_eq_nil_of_le (show l.length ≤ p by omega), List.take_nil]
theorem cut_upto {α : Type} (l : List α) (p : Nat) : cutA l none (some (p : Int)) = l.take p := by
  unfold cutA
  rw [six _ _ _ (by omega), show HT.sIx l.length 0 none = 0 from rfl, Int.toNat_natCast, List.drop_zero, Nat.sub_zero]
  by_cases h : p ≤ l.length
  · rw [Nat.min_eq_left h]
  · rw [Nat.min_eq_right (by omega), List.take_length, List.take_of_length_le (by omega)]
/-! ### at most one change -/
def cpl : List Nat → List Nat → Nat
  | a :: x, b :: y => if a = b then cpl x y + 1 else 0
  | _, _ => 0
/-- the same, or the same but for a first sign -/
def oneOff (x y : List Nat) : Prop := x = y ∨ x.drop 1 = y ∨ x = y.drop 1 ∨ x.drop 1 = y.drop 1
end MS

namespace MS
open PySem PySem.StrLaws TL L2 FK
/-! ### the rows of distances (the program's def) -/
def rowF (a b : List Nat) (i n : Nat) : List Int := (List.range n).map fun j => (fw a b i j : Int)
def gRow1 (s7 : (List (List Int))) (x9 : Int) (g : (Str × Str × Unit)) (s11 : (List Int)) (x13 : Int) : (Option (List Int)) := (Option.bind (Option.bind (Option.bind (atI s7 x9) fun (t15 : (List Int)) => Option.bind (some x13) fun (t16 : Int) => (atI t15 t16)) fun (t20 : Int) => Option.bind (Option.bind (Option.bind (sAt g.1 x9) fun (t17 : Str) => Option.bind (sAt g.2.1 x13) fun (t18 : Str) => some (!decide (t17 = t18))) fun (t19 : Bool) => some (bint t19)) fun (t21 : Int) => some (t20 + t21)) fun (turn_14 : Int) => (Option.bind (Option.bind (Option.bind (some turn_14) fun (t28 : Int) => Option.bind (Option.bind (Option.bind (atI s7 x9) fun (t22 : (List Int)) => Option.bind (some (x13 + (1 : Int))) fun (t23 : Int) => (atI t22 t23)) fun (t24 : Int) => Option.bind (some (1 : Int)) fun (t25 : Int) => some (t24 + t25)) fun (t29 : Int) => Option.bind (Option.bind (atI s11 x13) fun (t26 : Int) => Option.bind (some (1 : Int)) fun (t27 : Int) => some (t26 + t27)) fun (t30 : Int) => some (imin3 t28 t29 t30)) fun (t32 : Int) => (lApp s11 t32)) fun (row_31 : (List Int)) => (some row_31)))
def gRow2 (g : (Str × Str × Unit)) (s7 : (List (List Int))) (x9 : Int) : (Option (List (List Int))) := (Option.bind (some [(x9 + (1 : Int))]) fun (row_10 : (List Int)) => (Option.bind (Option.bind (Option.bind (sLen g.2.1) fun (t12 : Int) => (range1 t12)) fun (xs33 : List Int) => forS (S := (List Int)) (gRow1 s7 x9 g) xs33 row_10) fun (s34 : (List Int)) => (Option.bind (Option.bind (some s34) fun (t36 : (List Int)) => (lApp s7 t36)) fun (rows_35 : (List (List Int))) => (some rows_35))))
def gRows : Str × Str × Unit → Option (List (List Int)) := fun (g : Str × Str × Unit) => (Option.bind (Option.bind (Option.bind (Option.bind (sLen g.2.1) fun (t2 : Int) => Option.bind (some (1 : Int)) fun (t3 : Int) => some (t2 + t3)) fun (t4 : Int) => (lrange1 t4)) fun (t5 : (List Int)) => Option.bind (some ([] : List (List Int))) fun (t6 : List (List Int)) => some (t5 :: t6)) fun (rows_1 : (List (List Int))) => (Option.bind (Option.bind (Option.bind (sLen g.1) fun (t8 : Int) => (range1 t8)) fun (xs37 : List Int) => forS (S := (List (List Int))) (gRow2 g) xs37 rows_1) fun (s38 : (List (List Int))) => (some s38)))
def gDist : Str × Str × Unit → Option Int := fun (g : Str × Str × Unit) => (Option.bind (Option.bind (gRows (g.1, (g.2.1, ()))) fun (t1 : (List (List Int))) => Option.bind (sLen g.1) fun (t2 : Int) => (atI t1 t2)) fun (t3 : (List Int)) => Option.bind (sLen g.2.1) fun (t4 : Int) => (atI t3 t4))
def rowsF (a b : List Nat) (n : Nat) : List (List Int) := (List.range n).map fun i => rowF a b i (b.length + 1)
end MS

/-! that a mirror comes to a value, and what holds of it -/
namespace MS
open PySem PySem.StrLaws TL L2 FK
theorem bsr {α : Type} (m : Option α) : Option.bind m (fun z => some z) = m := by cases m <;> rfl
def Ok {α : Type} (m : Option α) (Q : α → Prop) : Prop := ∃ a, m = some a ∧ Q a
section
variable {α β γ : Type} {m : Option α} {f : α → Option β} {P : α → Prop} {Q : β → Prop} {x y : Option β}
theorem Ok.bind (h : Ok m P) (k : ∀ a, P a → Ok (f a) Q) : Ok (m.bind f) Q := by
  obtain ⟨a, rfl, p⟩ := h
  exact k a p
theorem Ok.ret {a : α} (h : P a) : Ok (some a) P := ⟨a, rfl, h⟩
theorem Ok.mono {P' : α → Prop} (h : Ok m P) (k : ∀ a, P a → P' a) : Ok m P' := by
  obtain ⟨a, e, p⟩ := h
  exact ⟨a, e, k a p⟩
theorem Ok.any (h : Ok m P) : Ok m fun _ => True := h.mono fun _ _ => trivial
theorem Ok.ifs {b : Bool} (h1 : b = true → Ok x Q) (h2 : b = false → Ok y Q) : Ok (ifM (some b) x y) Q := by
  cases b
  · exact h2 rfl
  · exact h1 rfl
theorem Ok.ifd {c : Prop} [Decidable c] (h1 : c → Ok x Q) (h2 : ¬ c → Ok y Q) : Ok (ifM (some (decide c)) x y) Q := .ifs (fun e => h1 (of_decide_eq_true e)) fun e => h2 (of_decide_eq_false e)
theorem Ok.ifm {c : Option Bool} {R : Bool → Prop} (hc : Ok c R) (h1 : R true → Ok x Q) (h2 : R false → Ok y Q) : Ok (ifM c x y) Q := by
  obtain ⟨b, rfl, r⟩ := hc
  cases b
  · exact h2 r
  · exact h1 r
theorem Ok.and {a b : Option Bool} {R S : Bool → Prop} (ha : Ok a R) (hb : R true → Ok b S) : Ok (bAnd a b) fun _ => True := by
  obtain ⟨k, rfl, r⟩ := ha
  cases k
  · exact ⟨false, rfl, trivial⟩
  · exact (hb r).any
theorem Ok.or {a b : Option Bool} {R S : Bool → Prop} (ha : Ok a R) (hb : R false → Ok b S) : Ok (bOr a b) fun _ => True := by
  obtain ⟨k, rfl, r⟩ := ha
  cases k
  · exact (hb r).any
  · exact ⟨true, rfl, trivial⟩
theorem Ok.eq {a : α} (e : m = some a) : Ok m fun z => z = a := ⟨a, e, rfl⟩
end
theorem okAt {α : Type} {l : List α} {i : Int} (h0 : 0 ≤ i) (h1 : i < l.length) : Ok (atI l i) fun x => x ∈ l := by
  obtain ⟨j, rfl⟩ := Int.eq_ofNat_of_zero_le h0
  exact ⟨_, atI_nat' l j (by omega), List.getElem_mem _⟩
theorem okMod {x y : Int} (h : 0 < y) : Ok (imod x y) fun z => z = x % y ∧ 0 ≤ z ∧ z < y := ⟨x % y, if_pos h, rfl, Int.emod_nonneg _ (by omega), Int.emod_lt_of_pos _ h⟩
theorem okCat {α : Type} {x y : List α} (h : x.length + y.length ≤ 16000000) : Ok (lCat x y) fun z => z = x ++ y := ⟨_, if_pos h, rfl⟩
theorem okAdd {x y : Str} (h : x.length + y.length ≤ 16000000) : Ok (sAdd x y) fun z => z = x ++ y ∧ z.length = x.length + y.length := ⟨_, if_pos h, rfl, by
  rw [← mks_tl x, ← mks_tl y, app_mks, len_mks, len_mks, len_mks, List.length_append]⟩
theorem okSAt {x : Str} {i : Int} (h0 : 0 ≤ i) (h1 : i < x.length) (hz : x.length ≤ 16000000) : Ok (sAt x i) fun z => ∃ c, c ∈ tl x ∧ z = c1 c := by
  obtain ⟨j, rfl⟩ := Int.eq_ofNat_of_zero_le h0
  exact ⟨_, sAt_nat x j (by rw [← len_tl]; omega) hz, _, List.getElem_mem _, rfl⟩
theorem okMul {x y : Int} (h : (-(2 ^ 64) < x ∧ x < 2 ^ 64) ∨ (-(2 ^ 64) < y ∧ y < 2 ^ 64)) : Ok (imul x y) fun z => z = x * y := ⟨_, if_pos h, rfl⟩
theorem sum_le {l : List Nat} {k : Nat} (h : ∀ x ∈ l, x ≤ k) : l.sum ≤ l.length * k := by
  induction l with
  | nil => exact Nat.zero_le _
  | cons a r ih =>
    rw [List.sum_cons, List.length_cons, Nat.succ_mul]
    have := h a List.mem_cons_self
    have := ih fun x hx => h x (List.mem_cons_of_mem _ hx)
    omega
theorem join_len_str (x : Str) (ys : List Str) : (Txt.join x ys).length ≤ (ys.map (·.length)).sum + ys.length * x.length := by
  have key : ∀ (s : List Nat) (L : List (List Nat)), (joinL s L).length ≤ (L.map (·.length)).sum + L.length * s.length := by
    intro s L
    induction L with
    | nil => exact Nat.zero_le _
    | cons p r ih =>
      cases r with
      | nil =>
        show p.length ≤ _
        simp
      | cons q r =>
        show (p ++ (s ++ joinL s (q :: r))).length ≤ _
        rw [List.length_append, List.length_append, List.map_cons, List.sum_cons, List.length_cons, Nat.succ_mul]
        omega
  have := key (tl x) (ys.map tl)
  rw [join_eq, len_tl, tl_join]
  rw [List.map_map, List.length_map] at this
  have e : (ys.map ((·.length) ∘ tl)) = ys.map (·.length) := List.map_congr_left fun y _ => (len_tl y).symm
  rw [e, ← len_tl x] at this
  exact this
theorem okJoin {x : Str} {ys : List Str} {k : Nat} (hy : ∀ y ∈ ys, y.length ≤ k) (h : ys.length * (k + x.length) ≤ 16000000) : Ok (sJoin x ys) fun z => z = Txt.join x ys ∧ z.length ≤ ys.length * (k + x.length) := by
  have h1 : (ys.map (·.length)).sum ≤ ys.length * k := by
    have := sum_le (l := ys.map (·.length)) (k := k) fun n hn => by
      obtain ⟨y, hm, rfl⟩ := List.mem_map.mp hn
      exact hy y hm
    rw [List.length_map] at this
    exact this
  have h2 := join_len_str x ys
  rw [Nat.mul_add] at h ⊢
  exact ⟨_, if_pos (by omega), rfl, by omega⟩
/-- all of them -/
theorem okMap {α β : Type} {f : α → Option β} {xs : List α} {Q : β → Prop} (hz : xs.length < 1000000) (hf : ∀ x ∈ xs, Ok (f x) Q) : Ok (lcG (fun _ => some true) f xs) fun ys => ys.length = xs.length ∧ ∀ y ∈ ys, Q y := by
  unfold lcG
  rw [if_pos hz]
  clear hz
  induction xs with
  | nil => exact ⟨[], rfl, rfl, fun y hy => (List.not_mem_nil hy).elim⟩
  | cons x r ih =>
    obtain ⟨ys, ey, hl, hq⟩ := ih fun z hz => hf z (List.mem_cons_of_mem _ hz)
    obtain ⟨y, ef, q⟩ := hf x List.mem_cons_self
    show Ok ((f x).bind fun y => (lcM (fun _ => some true) f r).bind fun ys => some (y :: ys)) _
    rw [ef, ey]
    refine ⟨y :: ys, rfl, by rw [List.length_cons, List.length_cons]; omega, fun z hz => ?_⟩
    rcases List.mem_cons.mp hz with rfl | hz
    · exact q
    · exact hq z hz
/-- a walk that may leave -/
theorem okForF {S α ρ : Type} {f : S → α → Option (Fl S ρ)} {s : S} : ∀ {xs : List α}, (∀ x ∈ xs, f s x = some (Fl.nx s)) → forF f xs s = some (Fl.nx s)
  | [], _ => rfl
  | x :: r, h => by
    show (f s x).bind _ = _
    rw [h x List.mem_cons_self]
    exact okForF fun y hy => h y (List.mem_cons_of_mem _ hy)
end MS

namespace G
open PySem PySem.StrLaws TL L2 FK MS
def m__law_cell_at : Scr × Int × Unit → Option Int := fun (g : Scr × Int × Unit) => (ifM (some (decide (g.2.1 < (g.1.l.length : Int)))) (atI g.1.l g.2.1) (some (0 : Int)))
def b__law_stream_1  (s3 : (Int × (List Int))) (x4 : Int) : (Option (Int × (List Int))) := (Option.bind (Option.bind (Option.bind (Option.bind (imul s3.1 s3.1) fun (t6 : Int) => Option.bind (imul (69621 : Int) s3.1) fun (t7 : Int) => some (t6 + t7)) fun (t8 : Int) => Option.bind (some x4) fun (t9 : Int) => some (t8 + t9)) fun (t10 : Int) => some (t10 % 4294967311)) fun (number_5 : Int) => (Option.bind (Option.bind (some number_5) fun (t12 : Int) => (lApp s3.2 t12)) fun (found_11 : (List Int)) => (some (number_5, found_11))))
def m__law_stream : Int × Int × Unit → Option (List Int) := fun (g : Int × Int × Unit) => (Option.bind (some ([] : (List Int))) fun (found_1 : (List Int)) => (Option.bind (some ((g.1 % 4294967311) + (48271 : Int))) fun (number_2 : Int) => (Option.bind (Option.bind (range1 (g.2.1 + (1 : Int))) fun (xs13 : List Int) => forS (S := (Int × (List Int))) (b__law_stream_1) xs13 (number_2, found_1)) fun (s14 : (Int × (List Int))) => (some (cutA s14.2 (some (1 : Int)) none)))))
def b__law_cards_1 (letters_1 : Str) (draws_2 : (List Int)) (at_7 : Int) (base_10 : Str) (g : (Int × Int × Unit)) (size_3 : Int) (s16 : (List Str)) (x17 : Int) : (Option (List Str)) := (Option.bind (Option.bind (some letters_1) fun (t22 : Str) => Option.bind (Option.bind (Option.bind (atI draws_2 ((2 : Int) + at_7)) fun (t19 : Int) => Option.bind (imul (7 : Int) x17) fun (t20 : Int) => some (t19 + t20)) fun (t21 : Int) => some (t21 % 26)) fun (t23 : Int) => (sAt t22 t23)) fun (sign_18 : Str) => (Option.bind (Option.bind (Option.bind (sCut base_10 none (some at_7)) fun (t25 : Str) => Option.bind (some sign_18) fun (t26 : Str) => (sAdd t25 t26)) fun (t27 : Str) => Option.bind (sCut base_10 (some (at_7 + (1 : Int))) none) fun (t28 : Str) => (sAdd t27 t28)) fun (name_24 : Str) => (Option.bind (ifM (bAnd (Option.bind (Option.bind (Option.bind (atI draws_2 (0 : Int)) fun (t29 : Int) => some (t29 / 12)) fun (t30 : Int) => some (t30 % 2)) fun (t31 : Int) => Option.bind (some (1 : Int)) fun (t32 : Int) => some (decide (t31 = t32))) (some (decide (g.2.1 ≤ size_3)))) (Option.bind (sCut base_10 none (some (size_3 - x17))) fun (name_34 : Str) => (some name_34)) (some name_24)) fun (s33 : Str) => (Option.bind (Option.bind (some s33) fun (t36 : Str) => (lApp s16 t36)) fun (cards_here_35 : (List Str)) => (some cards_here_35)))))
def b__law_cards_2 (letters_1 : Str) (x11 : Int) : (Option Str) := (sAt letters_1 (x11 % 26))
def m__law_cards : Int × Int × Unit → Option (List Str) := fun (g : Int × Int × Unit) => (Option.bind (some ("abcdefghijklmnopqrstuvwxyz" : Str)) fun (letters_1 : Str) => (Option.bind (m__law_stream (g.1, ((14 : Int), ()))) fun (draws_2 : (List Int)) => (Option.bind (Option.bind (some (1 : Int)) fun (t5 : Int) => Option.bind (Option.bind (atI draws_2 (0 : Int)) fun (t4 : Int) => some (t4 % 12)) fun (t6 : Int) => some (t5 + t6)) fun (size_3 : Int) => (Option.bind (Option.bind (atI draws_2 (1 : Int)) fun (t8 : Int) => Option.bind (some size_3) fun (t9 : Int) => (imod t8 t9)) fun (at_7 : Int) => (Option.bind (Option.bind (some ("" : Str)) fun (t13 : Str) => Option.bind (Option.bind (some (cutA draws_2 (some (2 : Int)) (some ((2 : Int) + size_3)))) fun (xs12 : List Int) => lcG (fun (x11 : Int) => (some true)) (b__law_cards_2 letters_1) xs12) fun (t14 : (List Str)) => (sJoin t13 t14)) fun (base_10 : Str) => (Option.bind (some ([] : (List Str))) fun (cards_here_15 : (List Str)) => (Option.bind (Option.bind (range1 g.2.1) fun (xs37 : List Int) => forS (S := (List Str)) (b__law_cards_1 letters_1 draws_2 at_7 base_10 g size_3) xs37 cards_here_15) fun (s38 : (List Str)) => (some s38))))))))
def b_texts_of_1 (g : ((List (T3 Str Str Str)) × Str × Str × Unit)) (x1 : (T3 Str Str Str)) : (Option Bool) := (bAnd (some (decide (x1.a = g.2.1))) (some (decide (x1.b = g.2.2.1))))
def m_texts_of : (List (T3 Str Str Str)) × Str × Str × Unit → Option (List Str) := fun (g : (List (T3 Str Str Str)) × Str × Str × Unit) => (Option.bind (Option.bind (some g.1) fun (xs5 : List (T3 Str Str Str)) => lcG (b_texts_of_1 g) (fun (x1 : (T3 Str Str Str)) => (some x1.c)) xs5) fun (t6 : (List Str)) => (sSort t6))
def b_neighbours_1 (g : ((List (T3 Int Int Int)) × (List (Int × Int)) × Int × Unit)) (s2 : (List Int)) (x3 : (T3 Int Int Int)) : (Option (List Int)) := (ifM (bAnd (some (decide ((0 : Int) < x3.c))) (some (!lMem (x3.a, x3.b) g.2.1))) (Option.bind (ifM (some (decide (x3.a = g.2.2.1))) (Option.bind (Option.bind (some x3.b) fun (t9 : Int) => (lApp s2 t9)) fun (near_8 : (List Int)) => (some near_8)) (some s2)) fun (s7 : (List Int)) => (ifM (some (decide (x3.b = g.2.2.1))) (Option.bind (Option.bind (some x3.a) fun (t11 : Int) => (lApp s7 t11)) fun (near_10 : (List Int)) => (some near_10)) (some s7))) (some s2))
def m_neighbours : (List (T3 Int Int Int)) × (List (Int × Int)) × Int × Unit → Option (List Int) := fun (g : (List (T3 Int Int Int)) × (List (Int × Int)) × Int × Unit) => (Option.bind (some ([] : (List Int))) fun (near_1 : (List Int)) => (Option.bind (Option.bind (some g.1) fun (xs12 : List (T3 Int Int Int)) => forS (S := (List Int)) (b_neighbours_1 g) xs12 near_1) fun (s13 : (List Int)) => (some s13)))
def b_part_from_1  (s4 : (List Int)) (x11 : Int) : (Option (List Int)) := (ifM (some (!decide (x11 ∈ s4))) (Option.bind (Option.bind (some x11) fun (t13 : Int) => (lApp s4 t13)) fun (part_12 : (List Int)) => (some part_12)) (some s4))
def b_part_from_2 (g : ((List (T3 Int Int Int)) × (List (Int × Int)) × Int × Unit)) (s3 : ((List Int) × Int)) : (Option ((List Int) × Int)) := (Option.bind (Option.bind (Option.bind (Option.bind (some g.1) fun (t9 : (List (T3 Int Int Int))) => Option.bind (Option.bind (some g.2.1) fun (t7 : (List (Int × Int))) => Option.bind (Option.bind (atI s3.1 s3.2) fun (t5 : Int) => Option.bind (some ()) fun (t6 : Unit) => some (t5, t6)) fun (t8 : (Int × Unit)) => some (t7, t8)) fun (t10 : ((List (Int × Int)) × (Int × Unit))) => some (t9, t10)) m_neighbours) fun (xs14 : List Int) => forS (S := (List Int)) (b_part_from_1) xs14 s3.1) fun (s15 : (List Int)) => (Option.bind (some (s3.2 + (1 : Int))) fun (at_16 : Int) => (some (s15, at_16))))
def b_part_from_3  (s3 : ((List Int) × Int)) : (Option Bool) := (some (decide (s3.2 < (s3.1.length : Int))))
def m_part_from : (List (T3 Int Int Int)) × (List (Int × Int)) × Int × Unit → Option (List Int) := fun (g : (List (T3 Int Int Int)) × (List (Int × Int)) × Int × Unit) => (Option.bind (some [g.2.2.1]) fun (part_1 : (List Int)) => (Option.bind (some (0 : Int)) fun (at_2 : Int) => (Option.bind (whileS (S := ((List Int) × Int)) (b_part_from_3) (b_part_from_2 g) 1000000 (part_1, at_2)) fun (s17 : ((List Int) × Int)) => (sSort s17.1))))
def b_parts_of_1  (s6 : (Dct Int Bool)) (x7 : Int) : (Option (Dct Int Bool)) := (Option.bind (Option.bind (some true) fun (t9 : Bool) => Option.bind (some x7) fun (t10 : Int) => (dSet s6 t10 t9)) fun (seen_8 : (Dct Int Bool)) => (some seen_8))
def b_parts_of_2 (g : (Int × (List (T3 Int Int Int)) × (List (Int × Int)) × Unit)) (s3 : ((Dct Int Bool) × (List (List Int)))) (x4 : Int) : (Option ((Dct Int Bool) × (List (List Int)))) := (ifM (some (!dHas s3.1.l x4)) (Option.bind (m_part_from (g.2.1, (g.2.2.1, (x4, ())))) fun (part_5 : (List Int)) => (Option.bind (Option.bind (some part_5) fun (xs11 : List Int) => forS (S := (Dct Int Bool)) (b_parts_of_1) xs11 s3.1) fun (s12 : (Dct Int Bool)) => (Option.bind (Option.bind (some part_5) fun (t14 : (List Int)) => (lApp s3.2 t14)) fun (parts_13 : (List (List Int))) => (some (s12, parts_13))))) (some (s3.1, s3.2)))
def m_parts_of : Int × (List (T3 Int Int Int)) × (List (Int × Int)) × Unit → Option (List (List Int)) := fun (g : Int × (List (T3 Int Int Int)) × (List (Int × Int)) × Unit) => (Option.bind (some ([] : (List (List Int)))) fun (parts_1 : (List (List Int))) => (Option.bind (some (⟨[]⟩ : (Dct Int Bool))) fun (seen_2 : (Dct Int Bool)) => (Option.bind (Option.bind (range1 g.1) fun (xs15 : List Int) => forS (S := ((Dct Int Bool) × (List (List Int)))) (b_parts_of_2 g) xs15 (seen_2, parts_1)) fun (s16 : ((Dct Int Bool) × (List (List Int)))) => (some s16.2))))
def b_case_of_1 (s10 : (Dct Int Int)) (x21 : (Int × Int)) : (Option (Int × Int)) := (Option.bind (dGet s10.l x21.1) fun (t24 : Int) => Option.bind (dGet s10.l x21.2) fun (t25 : Int) => some (t24, t25))
def b_case_of_2 (s10 : (Dct Int Int)) (x21 : (Int × Int)) : (Option Bool) := (bAnd (some (dHas s10.l x21.1)) (some (dHas s10.l x21.2)))
def b_case_of_3 (s10 : (Dct Int Int)) (x12 : (T3 Int Int Int)) : (Option (T3 Int Int Int)) := (Option.bind (dGet s10.l x12.a) fun (t16 : Int) => Option.bind (dGet s10.l x12.b) fun (t17 : Int) => Option.bind (some x12.c) fun (t18 : Int) => some (⟨t16, t17, t18⟩ : (T3 Int Int Int)))
def b_case_of_4 (s10 : (Dct Int Int)) (x12 : (T3 Int Int Int)) : (Option Bool) := (bAnd (some (dHas s10.l x12.a)) (some (dHas s10.l x12.b)))
def b_case_of_5  (s2 : (Dct Int Int)) (x3 : (Int × Int)) : (Option (Dct Int Int)) := (Option.bind (Option.bind (some x3.1) fun (t7 : Int) => Option.bind (some x3.2) fun (t8 : Int) => (dSet s2 t8 t7)) fun (places_6 : (Dct Int Int)) => (some places_6))
def m_case_of : (List Int) × (List (T3 Int Int Int)) × (List (Int × Int)) × Unit → Option (T3 Int (List (T3 Int Int Int)) (List (Int × Int))) := fun (g : (List Int) × (List (T3 Int Int Int)) × (List (Int × Int)) × Unit) => (Option.bind (some (⟨[]⟩ : (Dct Int Int))) fun (places_1 : (Dct Int Int)) => (Option.bind (Option.bind (some (enumL g.1)) fun (xs9 : List (Int × Int)) => forS (S := (Dct Int Int)) (b_case_of_5) xs9 places_1) fun (s10 : (Dct Int Int)) => (Option.bind (Option.bind (some g.2.1) fun (xs19 : List (T3 Int Int Int)) => lcG (b_case_of_4 s10) (b_case_of_3 s10) xs19) fun (some_11 : (List (T3 Int Int Int))) => (Option.bind (Option.bind (some g.2.2.1) fun (xs26 : List (Int × Int)) => lcG (b_case_of_2 s10) (b_case_of_1 s10) xs26) fun (few_20 : (List (Int × Int))) => (some (⟨(g.1.length : Int), some_11, few_20⟩ : (T3 Int (List (T3 Int Int Int)) (List (Int × Int)))))))))
def m__law_weight : Int × Unit → Option Int := fun (g : Int × Unit) => (Option.bind (some ((1 : Int) + ((g.1 / 16) % 4))) fun (weight_here_1 : Int) => (Option.bind (ifM (some (decide (((g.1 / 8) % 2) = (1 : Int)))) (Option.bind (some ((1 : Int) + ((g.1 / 16) % (1000000000000000000000000000000 : Int)))) fun (weight_here_3 : Int) => (some weight_here_3)) (some weight_here_1)) fun (s2 : Int) => (atI [(0 : Int), s2, s2, s2, s2, (-s2), (-s2), (-s2)] (g.1 % 8))))
def b__law_case_1 (g : (Scr × Int × Int × Unit)) (x4 : Int) (s5 : (Int × (List (T3 Int Int Int)) × (List (Int × Int)))) (x6 : Int) : (Option (Int × (List (T3 Int Int Int)) × (List (Int × Int)))) := (Option.bind (m__law_cell_at (g.1, (s5.1, ()))) fun (cell_7 : Int) => (Option.bind (some (s5.1 + (1 : Int))) fun (at_8 : Int) => (Option.bind (ifM (some (decide ((0 : Int) < (cell_7 % 8)))) (Option.bind (Option.bind (Option.bind (some x4) fun (t10 : Int) => Option.bind (some x6) fun (t11 : Int) => Option.bind (m__law_weight (cell_7, ())) fun (t12 : Int) => some (⟨t10, t11, t12⟩ : (T3 Int Int Int))) fun (t14 : (T3 Int Int Int)) => (lApp s5.2.1 t14)) fun (pairs_13 : (List (T3 Int Int Int))) => (some pairs_13)) (some s5.2.1)) fun (s9 : (List (T3 Int Int Int))) => (ifM (some (decide (((cell_7 / 64) % 9) = (5 : Int)))) (Option.bind (Option.bind (some (x4, x6)) fun (t16 : (Int × Int)) => (lApp s5.2.2 t16)) fun (aparts_15 : (List (Int × Int))) => (some (at_8, s9, aparts_15))) (some (at_8, s9, s5.2.2))))))
def b__law_case_2 (g : (Scr × Int × Int × Unit)) (s3 : (Int × (List (T3 Int Int Int)) × (List (Int × Int)))) (x4 : Int) : (Option (Int × (List (T3 Int Int Int)) × (List (Int × Int)))) := (Option.bind (Option.bind (range2 (x4 + (1 : Int)) g.2.1) fun (xs17 : List Int) => forS (S := (Int × (List (T3 Int Int Int)) × (List (Int × Int)))) (b__law_case_1 g x4) xs17 (s3.1, s3.2.1, s3.2.2)) fun (s18 : (Int × (List (T3 Int Int Int)) × (List (Int × Int)))) => (some (s18.1, s18.2.1, s18.2.2)))
def m__law_case : Scr × Int × Int × Unit → Option ((List (T3 Int Int Int)) × (List (Int × Int))) := fun (g : Scr × Int × Int × Unit) => (Option.bind (some ([] : (List (T3 Int Int Int)))) fun (pairs_1 : (List (T3 Int Int Int))) => (Option.bind (some ([] : (List (Int × Int)))) fun (aparts_2 : (List (Int × Int))) => (Option.bind (Option.bind (range1 g.2.1) fun (xs19 : List Int) => forS (S := (Int × (List (T3 Int Int Int)) × (List (Int × Int)))) (b__law_case_2 g) xs19 (g.2.2.1, pairs_1, aparts_2)) fun (s20 : (Int × (List (T3 Int Int Int)) × (List (Int × Int)))) => (some (s20.2.1, s20.2.2)))))
end G

namespace G
open PySem PySem.StrLaws TL L2 FK MS
theorem cell_ok (x : Scr) (k : Int) (hk : 0 ≤ k) : Ok (m__law_cell_at (x, (k, ()))) fun z => z = 0 ∨ z ∈ x.l := by
  unfold m__law_cell_at
  refine .ifd (fun h => ?_) (fun h => .ret (.inl rfl))
  exact (okAt hk h).mono fun a h => .inr h
abbrev BIG : Int := 4294967311
abbrev ABC : Str := "abcdefghijklmnopqrstuvwxyz"
theorem abc_len : (ABC).length = 26 := by decide +kernel
theorem abc_at (k : Int) : Ok (sAt ABC (k % 26)) fun z => ∃ c, c ∈ tl ABC ∧ z = c1 c := okSAt (by omega) (by rw [abc_len]; omega) (by rw [abc_len]; decide)
theorem len_c1 (c : Nat) : (c1 c).length = 1 := rfl
end G

namespace MS
open PySem PySem.Builtin PySem.Builtin.Str PySem.StrLaws TL L2 FK
theorem blank_tl : tl (" " : Str) = [32] := by decide +kernel
theorem strip_ok {x : Str} (h : x.length ≤ 16000000) : Ok (sStrip x (" " : Str)) fun z => z.length ≤ x.length ∧ (∀ c ∈ tl z, c ∈ tl x) ∧ (tl z = [] ∨ ((tl z)[0]? ≠ some 32 ∧ (tl z)[(tl z).length - 1]? ≠ some 32)) := by
  refine ⟨_, if_pos h, ?_⟩
  unfold Txt.stripChars
  rw [PyProof.Rows.stripBy_eq]
  obtain ⟨a0, a1, a2⟩ := PyProof.Rows.lo_facts (" " : Str).cps.contains x
  obtain ⟨b0, b1, b2, b3⟩ := PyProof.Rows.hi_facts (" " : Str).cps.contains x _ a0
  generalize stripLo (" " : Str).cps.contains true x = lo at *
  generalize stripHi (" " : Str).cps.contains true x lo = hi at *
  have hg : ∀ c : Nat, (" " : Str).cps.contains c = false → c ≠ 32 := fun c hc e => by rw [e] at hc; exact absurd hc (by decide +kernel)
  have et : tl (strSub x lo hi) = ((tl x).drop lo).take (hi - lo) := tl_strSub x lo hi
  have hl : x.length = (tl x).length := len_tl x
  have hgd : ∀ k, x.cps.getD k 0 = (tl x).getD k 0 := fun k => by
    show _ = x.cps.toList.getD k 0
    simp [Array.getD_eq_getD_getElem?]
  refine ⟨?_, ?_, ?_⟩
  · rw [len_tl, et, hl, List.length_take, List.length_drop]
    omega
  · intro c hc
    rw [et] at hc
    exact List.mem_of_mem_drop (List.mem_of_mem_take hc)
  · rw [et]
    by_cases he : hi = lo
    · exact .inl (by rw [he, Nat.sub_self, List.take_zero])
    · refine .inr ⟨?_, ?_⟩
      · rw [List.getElem?_take, if_pos (by omega), List.getElem?_drop, Nat.add_zero]
        rcases a2 with a2 | a2
        · exact absurd (show hi = lo by omega) he
        · intro z
          refine hg _ a2 ?_
          rw [hgd, List.getD_eq_getElem?_getD, z]
          rfl
      · have hlen : (((tl x).drop lo).take (hi - lo)).length = hi - lo := by rw [List.length_take, List.length_drop]; omega
        rw [hlen, List.getElem?_take, if_pos (by omega), List.getElem?_drop, show lo + (hi - lo - 1) = hi - 1 by omega]
        rcases b3 with b3 | b3
        · exact absurd b3 he
        · intro z
          refine hg _ b3 ?_
          rw [hgd, List.getD_eq_getElem?_getD, z]
          rfl
theorem rangek_up (j : Int) (h1 : 1 ≤ j) (h2 : j ≤ 1000000) : ∃ xs, rangek 0 j 3 = some xs ∧ ∀ x ∈ xs, 0 ≤ x ∧ x < j := by
  have e : Builtin.Range.rangeSize 0 j 3 = (j - 1) / 3 + 1 := by
    unfold Builtin.Range.rangeSize
    rw [if_pos (by decide), if_pos (by omega)]
    rw [show j - 0 - 1 = j - 1 by omega]
  have hs : Builtin.Range.small 0 j 3 = true := by
    unfold Builtin.Range.small
    rw [e]
    simp only [Builtin.Range.rangeFitsLong, Bool.and_eq_true, Bool.or_eq_true, decide_eq_true_eq, beq_iff_eq, show ((3 : Int) > 0) by decide, if_true]
    omega
  refine ⟨_, if_pos ⟨by decide, by decide, hs, by rw [e]; omega⟩, fun x hx => ?_⟩
  obtain ⟨k, hk, rfl⟩ := List.mem_map.mp hx
  have := List.mem_range.mp hk
  rw [e] at this
  omega
end MS

namespace GR
open PySem PySem.StrLaws TL L2 FK MS
def m_is_card : Str × Unit → Option Bool := fun (g : Str × Unit) => (bAnd (Option.bind (some (1 : Int)) fun (t1 : Int) => Option.bind (sLen g.1) fun (t2 : Int) => if (decide (t1 ≤ t2)) = true then Option.bind (some (12 : Int)) fun (t3 : Int) => some (decide (t2 ≤ t3)) else some false) (Option.bind (Option.bind (some (sgn g.1)) fun (xs5 : List Str) => lcG (fun (x4 : Str) => (some true)) (fun (x4 : Str) => (some (sIn x4 ("abcdefghijklmnopqrstuvwxyz" : Str)))) xs5) fun (t6 : (List Bool)) => some (t6.all id)))
def m_is_text : Str × Unit → Option Bool := fun (g : Str × Unit) => (bAnd (Option.bind (some (1 : Int)) fun (t1 : Int) => Option.bind (sLen g.1) fun (t2 : Int) => if (decide (t1 ≤ t2)) = true then Option.bind (some (40 : Int)) fun (t3 : Int) => some (decide (t2 ≤ t3)) else some false) (bAnd (Option.bind (sAt g.1 (0 : Int)) fun (t4 : Str) => Option.bind (some (" " : Str)) fun (t5 : Str) => some (!decide (t4 = t5))) (Option.bind (sAt g.1 (-(1 : Int))) fun (t6 : Str) => Option.bind (some (" " : Str)) fun (t7 : Str) => some (!decide (t6 = t7)))))
def m_fact_of : Str × Unit → Option (Rs (T3 Str Str Str)) := fun (g : Str × Unit) => (Option.bind (sPart g.1 (" " : Str)) fun (p1 : (T3 Str Str Str)) => (Option.bind (sPart p1.c (" " : Str)) fun (p5 : (T3 Str Str Str)) => (ifM (Option.bind (m_is_card (p1.a, ())) fun (t9 : Bool) => some (!t9)) (Option.bind (Option.bind (some (1 : Int)) fun (t10 : Int) => some (⟨("NoRow" : Str), Pd.pl ("row" : Str) t10⟩ : Xv)) fun (t11 : Xv) => some (Rs.ex t11 : (Rs (T3 Str Str Str)))) (ifM (bAnd (some (decide (p5.a ∈ (⟨[("name" : Str), ("former" : Str), ("way" : Str), ("day" : Str), ("mark" : Str)]⟩ : Tl Str).l))) (m_is_text (p5.c, ()))) (some (Rs.ok (⟨p1.a, p5.a, p5.c⟩ : (T3 Str Str Str)))) (ifM (bAnd (some (decide (p5.a ∈ (⟨[("same" : Str), ("apart" : Str)]⟩ : Tl Str).l))) (bAnd (m_is_card (p5.c, ())) (some (!decide (p5.c = p1.a))))) (some (Rs.ok (⟨(smin p1.a p5.c), p5.a, (smax p1.a p5.c)⟩ : (T3 Str Str Str)))) (Option.bind (Option.bind (some (1 : Int)) fun (t14 : Int) => some (⟨("NoRow" : Str), Pd.pl ("row" : Str) t14⟩ : Xv)) fun (t15 : Xv) => some (Rs.ex t15 : (Rs (T3 Str Str Str)))))))))
end GR

/-! rows of facts: what fact_of answers on any row -/
namespace GR
open PySem PySem.Builtin PySem.Builtin.Str PySem.StrLaws TL L2 FK MS
abbrev ABC : Str := "abcdefghijklmnopqrstuvwxyz"
abbrev FIELDS : List Str := [("name" : Str), ("former" : Str), ("way" : Str), ("day" : Str), ("mark" : Str)]
abbrev HAND : List Str := [("same" : Str), ("apart" : Str)]
/-- a card's name -/
def Nm (l : List Nat) : Prop := 1 ≤ l.length ∧ l.length ≤ 12 ∧ ∀ x ∈ l, x ∈ tl ABC
/-- a text -/
def Tx (l : List Nat) : Prop := 1 ≤ l.length ∧ l.length ≤ 40 ∧ l[0]? ≠ some 32 ∧ l[l.length - 1]? ≠ some 32
instance (l : List Nat) : Decidable (Nm l) := by unfold Nm; infer_instance
instance (l : List Nat) : Decidable (Tx l) := by unfold Tx; infer_instance
def hd (r : List Nat) : List Nat := r.takeWhile fun c => decide (c ≠ 32)
def rs (r : List Nat) : List Nat := (r.dropWhile fun c => decide (c ≠ 32)).tail
theorem two (r : List Nat) : 32 ∉ r ∨ ∃ a b, 32 ∉ a ∧ r = a ++ 32 :: b := by
  by_cases h : 32 ∈ r
  · obtain ⟨a, b, e, ha⟩ := List.eq_append_cons_of_mem h
    exact .inr ⟨a, b, ha, e⟩
  · exact .inl h
abbrev Fc := T3 Str Str Str
def no1 : Xv := ⟨"NoRow", .int "row" 1⟩
/-- what fact_of answers on three parts -/
def fo (c f t : List Nat) : Rs Fc := if Nm c then (if mks f ∈ FIELDS ∧ Tx t then .ok ⟨mks c, mks f, mks t⟩ else if mks f ∈ HAND ∧ Nm t ∧ t ≠ c then .ok ⟨smin (mks c) (mks t), mks f, smax (mks c) (mks t)⟩ else .ex no1) else .ex no1
def fo1 (r : List Nat) : Rs Fc := fo (hd r) (hd (rs r)) (rs (rs r))
/-! great letters -/
theorem up_mks : ∀ l : List Nat, (∀ c ∈ l, c < 128) → Txt.upper (mks l) = mks (l.map fun c => if 97 ≤ c ∧ c ≤ 122 then c - 32 else c)
  | [], _ => by decide +kernel
  | c :: l, h => by
    have e : mks (c :: l) = mks [c] ++ mks l := (app_mks [c] l).symm
    rw [e, PySem.W.KOpn.upper_app, PySem.W.KOpn.upper_one (h c List.mem_cons_self), up_mks l fun d hd => h d (List.mem_cons_of_mem _ hd), List.map_cons]
    exact app_mks [_] _
end GR

/-! loops by what was walked -/
namespace MS
open PySem PySem.StrLaws TL L2 FK
/-- what a walk that may leave comes to -/
def Left {S ρ : Type} (A : S → Prop) (B : ρ → Prop) : Fl S ρ → Prop
  | .nx s => A s
  | .ct s => A s
  | .bk s => A s
  | .rt v => B v
/-- what a turn comes to: on, out, or back -/
def Turn {S ρ : Type} (N : S → Prop) (K : S → Prop) (B : ρ → Prop) : Fl S ρ → Prop
  | .nx s => N s
  | .ct s => N s
  | .bk s => K s
  | .rt v => B v
/-- a walk that may leave, but doesn't -/
theorem okForN {S α ρ : Type} {f : S → α → Option (Fl S ρ)} (P : List α → S → Prop) {xs : List α} {s : S} (h : P [] s) (st : ∀ p x q s, xs = p ++ x :: q → P p s → Ok (f s x) fun t => ∃ s', t = .nx s' ∧ P (p ++ [x]) s') : Ok (forF f xs s) fun t => ∃ s', t = .nx s' ∧ P xs s' := by
  have key : ∀ {xs pre : List α} {s : S}, P pre s → (∀ p x q s, pre ++ xs = p ++ x :: q → pre.length ≤ p.length → P p s → Ok (f s x) fun t => ∃ s', t = .nx s' ∧ P (p ++ [x]) s') → Ok (forF f xs s) fun t => ∃ s', t = .nx s' ∧ P (pre ++ xs) s' := by
    intro xs
    induction xs with
    | nil => exact fun {pre s} h _ => ⟨.nx s, rfl, s, rfl, by rw [List.append_nil]; exact h⟩
    | cons x r ih =>
      intro pre s h st
      obtain ⟨t, et, s1, rfl, h1⟩ := st pre x r s rfl (Nat.le_refl _) h
      obtain ⟨t2, e2, s2, rfl, h2⟩ := ih (pre := pre ++ [x]) h1 fun p y q s e hl hp => st p y q s (by rw [← e, List.append_assoc]; rfl) (by rw [List.length_append] at hl; omega) hp
      rw [List.append_assoc] at h2
      refine ⟨_, ?_, s2, rfl, h2⟩
      show (f s x).bind _ = _
      rw [et]
      exact e2
  exact key (pre := []) h fun p x q s e _ hp => st p x q s e hp
theorem okThen {S ρ β : Type} {m : Option (Fl S ρ)} {k : S → Option β} {r : ρ → Option β} {bk ct : S → Option β} {P : S → Prop} {Q : β → Prop} (h : Ok m fun t => ∃ s, t = .nx s ∧ P s) (hk : ∀ s, P s → Ok (k s) Q) : Ok (thenF m k r bk ct) Q := by
  obtain ⟨t, rfl, s, rfl, p⟩ := h
  exact hk s p
theorem or_f (x : Option Bool) : bOr (some false) x = x := by unfold bOr; rw [bs]; exact if_neg Bool.false_ne_true
theorem and_t (x : Option Bool) : bAnd (some true) x = x := by unfold bAnd; rw [bs]; exact if_pos rfl
theorem and_f (x : Option Bool) : bAnd (some false) x = some false := by unfold bAnd; rw [bs]; exact if_neg Bool.false_ne_true
theorem if_t {β : Type} (x y : Option β) : ifM (some true) x y = x := by unfold ifM; rw [bs]; exact if_pos rfl
theorem if_f {β : Type} (x y : Option β) : ifM (some false) x y = y := by unfold ifM; rw [bs]; exact if_neg Bool.false_ne_true
theorem nt : (!true) = false := by decide
theorem nf : (!false) = true := by decide
theorem lc_id {α : Type} {xs : List α} {t : α → Bool} (h : xs.length < 1000000) : lcG (fun x => some (t x)) (fun x => some x) xs = some (xs.filter t) := by
  unfold lcG
  rw [if_pos h, lc_filter]
theorem then_nx {S ρ β : Type} (s : S) (k : S → Option β) (r : ρ → Option β) (b c : S → Option β) : thenF (some (Fl.nx s)) k r b c = k s := by unfold thenF; rw [bs]
theorem then_rt {S ρ β : Type} (v : ρ) (k : S → Option β) (r : ρ → Option β) (b c : S → Option β) : thenF (some (Fl.rt v)) k r b c = r v := by unfold thenF; rw [bs]
theorem okEq {α : Type} {m : Option α} {a : α} (h : Ok m fun z => z = a) : m = some a := by
  obtain ⟨z, e, rfl⟩ := h
  exact e
end MS

/-! texts of plain signs: cut, put together, turned great or small -/
namespace GT
open PySem PySem.StrLaws TL L2 FK MS
def TX (n : Nat) (x : Str) : Prop := ∃ l : List Nat, x = mks l ∧ l.length ≤ n ∧ ∀ c ∈ l, c < 128
theorem TX.mono {n m : Nat} {x : Str} (h : TX n x) (k : n ≤ m) : TX m x := by
  obtain ⟨l, e, h1, h2⟩ := h
  exact ⟨l, e, by omega, h2⟩
theorem TX.len {n : Nat} {x : Str} (h : TX n x) : x.length ≤ n := by
  obtain ⟨l, rfl, h1, _⟩ := h
  rw [len_mks]
  exact h1
theorem TX.add {n m : Nat} {x y : Str} (h : TX n x) (k : TX m y) (hz : n + m ≤ 100000) : Ok (sAdd x y) (TX (n + m)) := by
  obtain ⟨a, rfl, h1, h2⟩ := h
  obtain ⟨b, rfl, k1, k2⟩ := k
  rw [add_mks a b (by omega)]
  refine .ret ⟨a ++ b, rfl, by rw [List.length_append]; omega, fun c hc => ?_⟩
  rcases List.mem_append.mp hc with z | z
  · exact h2 c z
  · exact k2 c z
theorem TX.cut {n : Nat} {x : Str} (h : TX n x) (hz : n ≤ 100000) (lo hi : Option Int) : Ok (sCut x lo hi) (TX n) := by
  obtain ⟨a, rfl, h1, h2⟩ := h
  rw [cut_mks a lo hi (by omega)]
  have := cut_len a lo hi
  exact .ret ⟨_, rfl, by omega, fun c hc => h2 c (List.mem_of_mem_drop (List.mem_of_mem_take hc))⟩
theorem up_mks : ∀ l : List Nat, (∀ c ∈ l, c < 128) → Txt.upper (mks l) = mks (l.map fun c => if 97 ≤ c ∧ c ≤ 122 then c - 32 else c)
  | [], _ => by decide +kernel
  | c :: l, h => by
    have e : mks (c :: l) = mks [c] ++ mks l := (app_mks [c] l).symm
    rw [e, PySem.W.KOpn.upper_app, PySem.W.KOpn.upper_one (h c List.mem_cons_self), up_mks l fun d hd => h d (List.mem_cons_of_mem _ hd), List.map_cons]
    exact app_mks [_] _
theorem TX.up {n : Nat} {x : Str} (h : TX n x) (hz : n ≤ 100000) : Ok (sUp x) (TX n) := by
  obtain ⟨a, rfl, h1, h2⟩ := h
  refine ⟨_, if_pos (by rw [len_mks]; omega), ?_⟩
  rw [up_mks a h2]
  refine ⟨_, rfl, by rw [List.length_map]; exact h1, fun c hc => ?_⟩
  obtain ⟨d, hd, rfl⟩ := List.mem_map.mp hc
  have := h2 d hd
  split <;> omega
theorem lo_low (c : Nat) : PyProof.Rows.lo1 c = low c := by
  unfold PyProof.Rows.lo1 low
  split <;> split <;> omega
theorem low_mks (l : List Nat) (h : ∀ c ∈ l, c < 128) : Txt.lower (mks l) = mks (l.map low) := by
  have e := PyProof.Rows.lower_ascii (x := mks l) (fun c hc => h c hc)
  have e2 : l.map PyProof.Rows.lo1 = l.map low := List.map_congr_left fun c _ => lo_low c
  rw [e, ← e2]
  refine ext_tl ?_
  show ((mks l).cps.map PyProof.Rows.lo1).toList = _
  rw [Array.toList_map]
theorem low_lt {c : Nat} (h : c < 128) : low c < 128 := by
  unfold low
  split <;> omega
theorem sLow_eq (l : List Nat) (h : ∀ c ∈ l, c < 128) (hz : l.length ≤ 100000) : sLow (mks l) = some (mks (l.map low)) := by
  unfold sLow
  rw [if_pos (by rw [len_mks]; omega), low_mks l h]
theorem TX.low {n : Nat} {x : Str} (h : TX n x) (hz : n ≤ 100000) : Ok (sLow x) (TX n) := by
  obtain ⟨a, rfl, h1, h2⟩ := h
  rw [sLow_eq a h2 (by omega)]
  refine .ret ⟨_, rfl, by rw [List.length_map]; exact h1, fun c hc => ?_⟩
  obtain ⟨d, hd, rfl⟩ := List.mem_map.mp hc
  exact low_lt (h2 d hd)
theorem repl_mem {y z : List Nat} (hy : y ≠ []) : ∀ (n : Nat) (l : List Nat), l.length ≤ n → ∀ c ∈ replL y z l, c ∈ l ∨ c ∈ z
  | _, [], _, c, hc => by
    rw [replL_nil] at hc
    cases hc
  | 0, a :: l, hl, _, _ => absurd hl (by simp)
  | n + 1, a :: l, hl, c, hc => by
    have hyl : 0 < y.length := List.length_pos_iff.mpr hy
    by_cases h : (a :: l).take y.length = y
    · rw [replL_hit hy h] at hc
      rcases List.mem_append.mp hc with w | w
      · exact .inr w
      · rcases repl_mem hy n ((a :: l).drop y.length) (by rw [List.length_drop]; omega) c w with w | w
        · exact .inl (List.mem_of_mem_drop w)
        · exact .inr w
    · rw [replL_miss h] at hc
      rcases List.mem_cons.mp hc with w | w
      · exact .inl (w ▸ List.mem_cons_self)
      · rcases repl_mem hy n l (by rw [List.length_cons] at hl; omega) c w with w | w
        · exact .inl (List.mem_cons_of_mem _ w)
        · exact .inr w
theorem TX.repl {n : Nat} {x : Str} (h : TX n x) (hz : n ≤ 10000) : Ok (sRepl x (" " : Str) ("  " : Str)) (TX (n + (n + 1) * 2)) := by
  have hl := h.len
  obtain ⟨a, rfl, h1, h2⟩ := h
  have h2l : ("  " : Str).length = 2 := by decide +kernel
  refine ⟨_, if_pos (by rw [h2l]; omega), tl (Txt.replace (mks a) (" " : Str) ("  " : Str)), (mks_tl _).symm, ?_, fun c hc => ?_⟩
  · have := TK.replace_len (mks a) (" " : Str) ("  " : Str)
    rw [h2l] at this
    rw [← len_tl]
    omega
  · have e : tl (Txt.replace (mks a) (" " : Str) ("  " : Str)) = replL [32] [32, 32] a := by
      have := replace_list (x := mks a) (y := (" " : Str)) (z := ("  " : Str)) (by decide +kernel)
      have e1 : (" " : Str).cps.toList = [32] := by decide +kernel
      have e2 : ("  " : Str).cps.toList = [32, 32] := by decide +kernel
      rw [e1, e2] at this
      exact this
    rw [e] at hc
    rcases repl_mem (by simp) _ a (Nat.le_refl _) c hc with w | w
    · exact h2 c w
    · revert w
      simp only [List.mem_cons, List.not_mem_nil, or_false]
      omega
theorem TX.strip {n : Nat} {x : Str} (h : TX n x) (hz : n ≤ 100000) : Ok (sStrip x (" " : Str)) (TX n) := by
  have hl := h.len
  obtain ⟨a, rfl, h1, h2⟩ := h
  refine (strip_ok (by omega)).mono fun z hz => ⟨tl z, (mks_tl z).symm, by rw [← len_tl]; omega, fun c hc => h2 c (hz.2.1 c hc)⟩
theorem TX.sgn {c : Nat} (h : c < 128) : TX 1 (c1 c) := ⟨[c], rfl, Nat.le_refl _, fun d hd => by rw [List.mem_singleton.mp hd]; exact h⟩
end GT

namespace GU
open PySem PySem.StrLaws TL L2 FK MS

def m_is_passed_by : Str × Unit → Option Bool := fun (g : Str × Unit) => (bOr (Option.bind (sStrip g.1 (" " : Str)) fun (t1 : Str) => Option.bind (some ("" : Str)) fun (t2 : Str) => some (decide (t1 = t2))) (some (Txt.startswith g.1 ("#" : Str))))
def b_number_by_1  (s9 : Unit) (x10 : Str) : (Option (Fl Unit (Rs Int))) := (ifM (Option.bind (Option.bind (some ("0" : Str)) fun (t11 : Str) => Option.bind (some x10) fun (t12 : Str) => if (!sLt t12 t11) = true then Option.bind (some ("9" : Str)) fun (t13 : Str) => some (!sLt t13 t12) else some false) fun (t14 : Bool) => some (!t14)) (Option.bind (Option.bind (Option.bind (some (1 : Int)) fun (t15 : Int) => some (⟨("NoRow" : Str), Pd.pl ("row" : Str) t15⟩ : Xv)) fun (t16 : Xv) => some (Rs.ex t16 : (Rs Int))) fun (t17 : (Rs Int)) => some (Fl.rt t17)) (some (Fl.nx ())))
def m_number_by : Str × Unit → Option (Rs Int) := fun (g : Str × Unit) => (ifM (bOr (Option.bind (Option.bind (some (1 : Int)) fun (t1 : Int) => Option.bind (sLen g.1) fun (t2 : Int) => if (decide (t1 ≤ t2)) = true then Option.bind (some (10 : Int)) fun (t3 : Int) => some (decide (t2 ≤ t3)) else some false) fun (t4 : Bool) => some (!t4)) (Option.bind (sAt g.1 (0 : Int)) fun (t5 : Str) => Option.bind (some ("0" : Str)) fun (t6 : Str) => some (decide (t5 = t6)))) (Option.bind (Option.bind (some (1 : Int)) fun (t7 : Int) => some (⟨("NoRow" : Str), Pd.pl ("row" : Str) t7⟩ : Xv)) fun (t8 : Xv) => some (Rs.ex t8 : (Rs Int))) (thenF (S := Unit) (ρ := (Rs Int)) (Option.bind (some (sgn g.1)) fun (xs18 : List Str) => forF (S := Unit) (ρ := (Rs Int)) (b_number_by_1) xs18 ()) (fun (s19 : Unit) => (ifM (Option.bind (sInt g.1) fun (t20 : Int) => Option.bind (some (1000000000 : Int)) fun (t21 : Int) => some (decide (t21 < t20))) (Option.bind (Option.bind (some (1 : Int)) fun (t22 : Int) => some (⟨("NoRow" : Str), Pd.pl ("row" : Str) t22⟩ : Xv)) fun (t23 : Xv) => some (Rs.ex t23 : (Rs Int))) (Option.bind (sInt g.1) fun (t24 : Int) => some (Rs.ok t24)))) (fun v => some v) (fun _ => none) (fun _ => none)))
def m_rule_by : Int × Str × Str × Unit → Option (Rs Ru) := fun (g : Int × Str × Str × Unit) => (ifM (some (!decide (g.2.1 ∈ (⟨[("name" : Str), ("former" : Str), ("way" : Str), ("day" : Str), ("mark" : Str)]⟩ : Tl Str).l))) (Option.bind (Option.bind (some (1 : Int)) fun (t1 : Int) => some (⟨("NoRow" : Str), Pd.pl ("row" : Str) t1⟩ : Xv)) fun (t2 : Xv) => some (Rs.ex t2 : (Rs Ru))) (ifM (some (decide (g.2.2.1 = ("same" : Str)))) (Option.bind (Option.bind (some g.1) fun (t3 : Int) => Option.bind (some g.2.1) fun (t4 : Str) => some (⟨("Same" : Str), t3, t4⟩ : Ru)) fun (t5 : Ru) => some (Rs.ok t5)) (ifM (some (decide (g.2.2.1 = ("like" : Str)))) (Option.bind (Option.bind (some g.1) fun (t6 : Int) => Option.bind (some g.2.1) fun (t7 : Str) => some (⟨("Like" : Str), t6, t7⟩ : Ru)) fun (t8 : Ru) => some (Rs.ok t8)) (ifM (some (decide (g.2.2.1 = ("near" : Str)))) (Option.bind (Option.bind (some g.1) fun (t9 : Int) => Option.bind (some g.2.1) fun (t10 : Str) => some (⟨("Near" : Str), t9, t10⟩ : Ru)) fun (t11 : Ru) => some (Rs.ok t11)) (ifM (some (decide (g.2.2.1 = ("other" : Str)))) (Option.bind (Option.bind (some g.1) fun (t12 : Int) => Option.bind (some g.2.1) fun (t13 : Str) => some (⟨("Other" : Str), t12, t13⟩ : Ru)) fun (t14 : Ru) => some (Rs.ok t14)) (ifM (bAnd (some (decide (g.2.2.1 = ("former" : Str)))) (some (decide (g.2.1 = ("name" : Str))))) (Option.bind (Option.bind (some g.1) fun (t15 : Int) => some (⟨("Former" : Str), t15, "name"⟩ : Ru)) fun (t16 : Ru) => some (Rs.ok t16)) (Option.bind (Option.bind (some (1 : Int)) fun (t17 : Int) => some (⟨("NoRow" : Str), Pd.pl ("row" : Str) t17⟩ : Xv)) fun (t18 : Xv) => some (Rs.ex t18 : (Rs Ru)))))))))
def m_read_rule : Str × Unit → Option (Rs Ru) := fun (g : Str × Unit) => (Option.bind (sSplit g.1 (" " : Str)) fun (words_1 : (List Str)) => (ifM (bOr (some (!decide ((words_1.length : Int) = (4 : Int)))) (Option.bind (atI words_1 (0 : Int)) fun (t2 : Str) => Option.bind (some (⟨[("for" : Str), ("against" : Str)]⟩ : (Tl Str))) fun (t3 : (Tl Str)) => some (!decide (t2 ∈ t3.l)))) (Option.bind (Option.bind (some (1 : Int)) fun (t4 : Int) => some (⟨("NoRow" : Str), Pd.pl ("row" : Str) t4⟩ : Xv)) fun (t5 : Xv) => some (Rs.ex t5 : (Rs Ru))) (thenF (S := Int) (ρ := (Rs Ru)) (Option.bind (Option.bind (Option.bind (atI words_1 (1 : Int)) fun (t6 : Str) => Option.bind (some ()) fun (t7 : Unit) => some (t6, t7)) m_number_by) fun (t9 : Rs Int) => some t9.fl) (fun (weight_8 : Int) => (Option.bind (ifM (Option.bind (atI words_1 (0 : Int)) fun (t10 : Str) => Option.bind (some ("against" : Str)) fun (t11 : Str) => some (decide (t10 = t11))) (Option.bind (some ((0 : Int) - weight_8)) fun (weight_13 : Int) => (some weight_13)) (some weight_8)) fun (s12 : Int) => (Option.bind (Option.bind (some s12) fun (t18 : Int) => Option.bind (Option.bind (atI words_1 (2 : Int)) fun (t16 : Str) => Option.bind (Option.bind (atI words_1 (3 : Int)) fun (t14 : Str) => Option.bind (some ()) fun (t15 : Unit) => some (t14, t15)) fun (t17 : (Str × Unit)) => some (t16, t17)) fun (t19 : (Str × (Str × Unit))) => some (t18, t19)) m_rule_by))) (fun v => some v) (fun _ => none) (fun _ => none))))
def m_rule_at : Str × Int × Unit → Option Ru := fun (g : Str × Int × Unit) => (Option.bind (m_read_rule (g.1, ())) rsO)
def b_read_rules_1  (s2 : (List Ru)) (x4 : (Int × Str)) : (Option (List Ru)) := (ifM (Option.bind (m_is_passed_by (x4.2, ())) fun (t7 : Bool) => some (!t7)) (Option.bind (Option.bind (m_rule_at (x4.2, ((x4.1 + (1 : Int)), ()))) fun (t9 : Ru) => (lApp s2 t9)) fun (rules_8 : (List Ru)) => (some rules_8)) (some s2))
def m_read_rules : Str × Unit → Option (List Ru) := fun (g : Str × Unit) => (Option.bind (some ([] : (List Ru))) fun (rules_1 : (List Ru)) => (Option.bind (Option.bind (Option.bind (sSplit g.1 ("\n" : Str)) fun (t3 : (List Str)) => some (enumL t3)) fun (xs10 : List (Int × Str)) => forS (S := (List Ru)) (b_read_rules_1) xs10 rules_1) fun (s11 : (List Ru)) => (some s11)))
end GU

/-! rules read from rows -/
namespace GU
open PySem PySem.Builtin PySem.Builtin.Str PySem.StrLaws PySem.NumText TL L2 FK MS
/-! ### passed by or not -/
theorem strip_head (l : List Nat) (c : Nat) (hc : l[0]? = some c) (h32 : c ≠ 32) (hz : l.length ≤ 1000) : ∃ z, sStrip (mks l) (" " : Str) = some z ∧ z ≠ ("" : Str) := by
  refine ⟨_, if_pos (by rw [len_mks]; omega), ?_⟩
  unfold Txt.stripChars
  rw [PyProof.Rows.stripBy_eq]
  obtain ⟨a0, a1, a2⟩ := PyProof.Rows.lo_facts (" " : Str).cps.contains (mks l)
  obtain ⟨b0, b1, b2, b3⟩ := PyProof.Rows.hi_facts (" " : Str).cps.contains (mks l) _ a0
  generalize stripLo (" " : Str).cps.contains true (mks l) = lo at *
  generalize stripHi (" " : Str).cps.contains true (mks l) lo = hi at *
  have hlen : 0 < l.length := by
    cases l with
    | nil => cases hc
    | cons _ _ => exact Nat.succ_pos _
  have hgd : (mks l).cps.getD 0 0 = c := by
    have e : (mks l).cps.getD 0 0 = l.getD 0 0 := by
      show l.toArray.getD 0 0 = _
      simp [Array.getD_eq_getD_getElem?]
    rw [e, List.getD_eq_getElem?_getD, hc]
    rfl
  have hf : (" " : Str).cps.contains c = false := by
    have e : (" " : Str).cps = #[32] := by decide +kernel
    rw [e]
    simp
    exact h32
  have hlo : lo = 0 := by
    rcases Nat.eq_zero_or_pos lo with z | z
    · exact z
    · have := a1 0 z
      rw [hgd, hf] at this
      cases this
  have hhi : 0 < hi := by
    rcases Nat.eq_zero_or_pos hi with z | z
    · have := b2 0 (by omega) (by rw [len_mks]; exact hlen)
      rw [hgd, hf] at this
      cases this
    · exact z
  intro z
  have e := congrArg tl z
  rw [tl_strSub] at e
  have e2 : (((tl (mks l)).drop lo).take (hi - lo)).length = 0 := by
    rw [e]
    rfl
  rw [List.length_take, List.length_drop, tl_mks] at e2
  omega
theorem sw_hash (l : List Nat) : Txt.startswith (mks l) ("#" : Str) = decide (l[0]? = some 35) := by
  unfold Txt.startswith
  have e1 : ("#" : Str) = mks [35] := by decide +kernel
  rw [e1, subAt_eq]
  cases l with
  | nil => rfl
  | cons c r =>
    have e : (mks (c :: r)).length = r.length + 1 := by rw [len_mks]; rfl
    rw [e, show (mks [35]).length = 1 from by rw [len_mks]; rfl, decide_eq_true (show 0 + 1 ≤ r.length + 1 by omega), Bool.true_and]
    show (([c] : List Nat) == [35]) = decide (some c = some 35)
    by_cases h : c = 35
    · subst h
      rfl
    · rw [decide_eq_false fun z => h (Option.some.inj z)]
      simp [h]
theorem pass_no (l : List Nat) (c : Nat) (hc : l[0]? = some c) (h1 : c ≠ 32) (h2 : c ≠ 35) (hz : l.length ≤ 1000) : m_is_passed_by (mks l, ()) = some false := by
  unfold m_is_passed_by
  obtain ⟨z, ez, hzn⟩ := strip_head l c hc h1 hz
  show bOr ((sStrip (mks l) (" " : Str)).bind fun t1 => some (decide (t1 = ("" : Str)))) (some (Txt.startswith (mks l) ("#" : Str))) = some false
  rw [ez]
  simp only [bs]
  rw [decide_eq_false hzn, or_f, sw_hash, hc, decide_eq_false fun e => h2 (Option.some.inj e)]
/-! ### numbers -/
structure Num (n : Int) (D : List Nat) : Prop where
  num : (PySem.Str.ofString (toString n)) = mks D
  len : D.length ≤ 10
  one : 1 ≤ D.length
  dig : ∀ c ∈ D, 48 ≤ c ∧ c ≤ 57
  hd : D[0]? ≠ some 48
  val : PySem.intText? (mks D) = some n
theorem head_digit (m : Nat) (hm : 1 ≤ m) : ((Nat.toDigits 10 m).map Char.toNat)[0]? ≠ some 48 := by
  induction m using Nat.strongRecOn with
  | _ m ih =>
    by_cases h : m < 10
    · rw [Nat.toDigits_of_lt_base h]
      have all : ∀ m : Nat, m < 10 → 1 ≤ m → ([Nat.digitChar m].map Char.toNat)[0]? ≠ some 48 := by decide
      exact all m h hm
    · have hm' : m % 10 < 10 := Nat.mod_lt m (by decide)
      have t : Nat.toDigits 10 (m / 10) ++ Nat.toDigits 10 (m % 10) = Nat.toDigits 10 (10 * (m / 10) + m % 10) := Nat.toDigits_append_toDigits (by decide) (by omega) hm'
      rw [Nat.div_add_mod] at t
      rw [← t, List.map_append]
      have k := ih (m / 10) (by omega) (by omega)
      have hl : 0 < ((Nat.toDigits 10 (m / 10)).map Char.toNat).length := by
        rw [List.length_map]
        exact List.length_pos_iff.mpr (fun e => by
          have v := PySem.W.KIN.val_back (m / 10)
          rw [e] at v
          have v : 0 = m / 10 := v
          omega)
      rw [List.getElem?_append_left hl]
      exact k
theorem num_ok (n : Int) (h1 : 1 ≤ n) (h2 : n ≤ 1000000000) : ∃ D, Num n D := by
  have hr := PySem.W.KIN.num_reads (n := n) (by omega) (by omega)
  have hl := PySem.W.KT.len_num (n := n) (by omega) (by omega)
  obtain ⟨m, rfl⟩ := Int.eq_ofNat_of_zero_le (show 0 ≤ n by omega)
  have hs := PySem.W.KIN.signs_num m
  have e : (PySem.Str.ofString (toString ((m : Nat) : Int))) = mks ((Nat.toDigits 10 m).map Char.toNat) := by
    rw [← hs]
  have hd := head_digit m (by omega)
  refine ⟨_, e, ?_, ?_, fun c hc => ?_, hd, ?_⟩
  · rw [e, len_mks] at hl
    exact hl
  · refine Nat.pos_of_ne_zero fun z => ?_
    have z := List.length_eq_zero_iff.mp z
    have v := PySem.W.KIN.val_back m
    rw [z] at v
    have v : 0 = m := v
    omega
  · obtain ⟨ch, hch, rfl⟩ := List.mem_map.mp hc
    exact PyProof.Rows.digit_range (Nat.isDigit_of_mem_toDigits (by decide) (by decide) hch)
  · rw [← e]
    exact hr
theorem iStr_num {n : Int} {D : List Nat} (h : Num n D) (h1 : 1 ≤ n) (h2 : n ≤ 1000000000) : FK.iStr n = some (mks D) := by
  unfold FK.iStr
  have : n.natAbs.log2 < 64 := (Nat.log2_lt (by omega)).mpr (by omega)
  rw [if_pos (by omega)]
  exact congrArg some h.num
theorem digit_bounds (c : Nat) (h : 48 ≤ c ∧ c ≤ 57) : (!sLt (c1 c) ("0" : Str)) = true ∧ (!sLt ("9" : Str) (c1 c)) = true := by
  have : c = 48 ∨ c = 49 ∨ c = 50 ∨ c = 51 ∨ c = 52 ∨ c = 53 ∨ c = 54 ∨ c = 55 ∨ c = 56 ∨ c = 57 := by omega
  rcases this with rfl | rfl | rfl | rfl | rfl | rfl | rfl | rfl | rfl | rfl <;> decide +kernel
theorem number_ok {n : Int} {D : List Nat} (h : Num n D) (h1 : 1 ≤ n) (h2 : n ≤ 1000000000) : m_number_by (mks D, ()) = some (.ok n) := by
  have hl := h.len
  have ho := h.one
  have hint : sInt (mks D) = some n := by
    unfold sInt
    rw [if_pos (by rw [len_mks]; omega), h.val]
  obtain ⟨c, r, rfl⟩ : ∃ c r, D = c :: r := by
    cases D with
    | nil => cases ho
    | cons c r => exact ⟨c, r, rfl⟩
  have hat : sAt (mks (c :: r)) 0 = some (c1 c) := sAt_nat (mks (c :: r)) 0 (by rw [tl_mks]; exact Nat.succ_pos _) (by rw [len_mks]; omega)
  have h0 : ("0" : Str) = c1 48 := by decide +kernel
  have hc : c ≠ 48 := fun e => h.hd (by rw [e]; rfl)
  unfold m_number_by
  simp only [bs]
  rw [sLen_mks _ (by omega), hat]
  simp only [bs]
  rw [decide_eq_true (show (1 : Int) ≤ ((c :: r).length : Nat) by omega), if_pos rfl, decide_eq_true (show (((c :: r).length : Nat) : Int) ≤ 10 by omega)]
  simp only [bs]
  rw [nt, or_f, h0, decide_eq_false (by rw [c1_eq]; exact hc), if_f, hint]
  have loop : forF (S := Unit) (ρ := (Rs Int)) (b_number_by_1) (sgn (mks (c :: r))) () = some (.nx ()) := okForF fun x hx => by
    rw [sgn_tl, tl_mks] at hx
    obtain ⟨d, hd, rfl⟩ := List.mem_map.mp hx
    obtain ⟨k1, k2⟩ := digit_bounds d (h.dig d hd)
    unfold b_number_by_1
    simp only [bs]
    rw [k1, if_pos rfl]
    simp only [bs]
    rw [k2, nt, if_f]
  rw [loop, then_nx]
  simp only [bs]
  rw [decide_eq_false (show ¬ (1000000000 : Int) < n by omega), if_f]
end GU

namespace GU
open PySem PySem.Builtin PySem.Builtin.Str PySem.StrLaws PySem.NumText TL L2 FK MS
abbrev FLD : List Str := [("name" : Str), ("former" : Str), ("way" : Str), ("day" : Str), ("mark" : Str)]
abbrev SRT : List Str := [("same" : Str), ("like" : Str), ("near" : Str), ("other" : Str), ("former" : Str)]
def clsOf (s : Str) : Str := if s = ("same" : Str) then "Same" else if s = ("like" : Str) then "Like" else if s = ("near" : Str) then "Near" else if s = ("other" : Str) then "Other" else "Former"
theorem rule_by_ok (w : Int) {f s : Str} (hf : f ∈ FLD) (hs : s ∈ SRT) (hn : s = ("former" : Str) → f = ("name" : Str)) : m_rule_by (w, (f, (s, ()))) = some (.ok ⟨clsOf s, w, f⟩) := by
  have e0 : (!decide (f ∈ FLD)) = false := by rw [decide_eq_true hf]; rfl
  have d : ∀ {a b : Str} {x y : Option (Rs Ru)}, decide (a = b) = false → ifM (some (decide (a = b))) x y = y := fun h => by rw [h, if_f]
  have t : ∀ {a : Str} {x y : Option (Rs Ru)}, ifM (some (decide (a = a))) x y = x := by intro a x y; rw [decide_eq_true rfl, if_t]
  have head : ∀ y : Option (Rs Ru), ∀ z : Option (Rs Ru), ifM (some (!decide (f ∈ FLD))) z y = y := fun y z => by rw [e0, if_f]
  unfold m_rule_by
  refine (head _ _).trans ?_
  have ls : decide (("like" : Str) = ("same" : Str)) = false := by decide +kernel
  have ns : decide (("near" : Str) = ("same" : Str)) = false := by decide +kernel
  have nl : decide (("near" : Str) = ("like" : Str)) = false := by decide +kernel
  have os : decide (("other" : Str) = ("same" : Str)) = false := by decide +kernel
  have ol : decide (("other" : Str) = ("like" : Str)) = false := by decide +kernel
  have on : decide (("other" : Str) = ("near" : Str)) = false := by decide +kernel
  have fs : decide (("former" : Str) = ("same" : Str)) = false := by decide +kernel
  have fl : decide (("former" : Str) = ("like" : Str)) = false := by decide +kernel
  have fn : decide (("former" : Str) = ("near" : Str)) = false := by decide +kernel
  have fo : decide (("former" : Str) = ("other" : Str)) = false := by decide +kernel
  rcases List.mem_cons.mp hs with rfl | hs
  · exact t
  rcases List.mem_cons.mp hs with rfl | hs
  · exact (d ls).trans t
  rcases List.mem_cons.mp hs with rfl | hs
  · exact (d ns).trans ((d nl).trans t)
  rcases List.mem_cons.mp hs with rfl | hs
  · exact (d os).trans ((d ol).trans ((d on).trans t))
  rcases List.mem_singleton.mp hs with rfl
  have hn := hn rfl
  subst hn
  refine (d fs).trans ((d fl).trans ((d fn).trans ((d fo).trans ?_)))
  have : bAnd (some (decide (("former" : Str) = ("former" : Str)))) (some (decide (("name" : Str) = ("name" : Str)))) = some true := by
    rw [decide_eq_true rfl, and_t, decide_eq_true rfl]
  show ifM (bAnd (some (decide (("former" : Str) = ("former" : Str)))) (some (decide (("name" : Str) = ("name" : Str))))) _ _ = _
  rw [this, if_t]
  rfl
/-- a rule's row -/
structure RowOf (way : Str) (D : List Nat) (f s : Str) : Prop where
  way : way = ("for" : Str) ∨ way = ("against" : Str)
  len : D.length ≤ 10
  dig : ∀ c ∈ D, 48 ≤ c ∧ c ≤ 57
  fld : f ∈ FLD
  srt : s ∈ SRT
  nam : s = ("former" : Str) → f = ("name" : Str)
def rowT (way : Str) (D : List Nat) (f s : Str) : Str := Txt.join (" " : Str) [way, mks D, f, s]
theorem word_ok {x : Str} (h : x ∈ ([("for" : Str), ("against" : Str)] ++ FLD ++ SRT)) : x.length ≤ 7 ∧ 32 ∉ tl x ∧ 10 ∉ tl x := by
  have all : ∀ x ∈ ([("for" : Str), ("against" : Str)] ++ FLD ++ SRT), x.length ≤ 7 ∧ 32 ∉ tl x ∧ 10 ∉ tl x := by decide +kernel
  exact all x h
section
variable {way : Str} {D : List Nat} {f s : Str}
theorem RowOf.w1 (h : RowOf way D f s) : way.length ≤ 7 ∧ 32 ∉ tl way ∧ 10 ∉ tl way := word_ok (List.mem_append_left _ (List.mem_append_left _ (by rcases h.way with rfl | rfl <;> simp)))
theorem RowOf.w3 (h : RowOf way D f s) : f.length ≤ 7 ∧ 32 ∉ tl f ∧ 10 ∉ tl f := word_ok (List.mem_append_left _ (List.mem_append_right _ h.fld))
theorem RowOf.w4 (h : RowOf way D f s) : s.length ≤ 7 ∧ 32 ∉ tl s ∧ 10 ∉ tl s := word_ok (List.mem_append_right _ h.srt)
theorem row_tl : tl (rowT way D f s) = tl way ++ (32 :: (D ++ (32 :: (tl f ++ (32 :: tl s))))) := by
  unfold rowT
  rw [TL.join_eq, TL.tl_join, blank_tl]
  show joinL [32] [tl way, tl (mks D), tl f, tl s] = _
  rw [tl_mks]
  rfl
theorem row_len (h : RowOf way D f s) : (rowT way D f s).length ≤ 40 := by
  have e : (rowT way D f s).length = (tl (rowT way D f s)).length := len_tl _
  rw [e, row_tl]
  have h1 := h.w1.1
  have h3 := h.w3.1
  have h4 := h.w4.1
  rw [len_tl] at h1 h3 h4
  have h2 := h.len
  simp only [List.length_append, List.length_cons]
  omega
theorem row_nl (h : RowOf way D f s) : 10 ∉ tl (rowT way D f s) := by
  rw [row_tl]
  simp only [List.mem_append, List.mem_cons, not_or]
  exact ⟨h.w1.2.2, by decide, fun z => by have := h.dig 10 z; omega, by decide, h.w3.2.2, by decide, h.w4.2.2⟩
theorem row_join (h : RowOf way D f s) : sJoin (" " : Str) [way, mks D, f, s] = some (rowT way D f s) := by
  unfold sJoin
  refine if_pos ?_
  have h1 := h.w1.1
  have h3 := h.w3.1
  have h4 := h.w4.1
  have h2 := h.len
  have hb : (" " : Str).length = 1 := by decide +kernel
  have hm := len_mks D
  show (way.length + ((mks D).length + (f.length + (s.length + 0)))) + 4 * (" " : Str).length ≤ 16000000
  omega
theorem row_split (h : RowOf way D f s) : sSplit (rowT way D f s) (" " : Str) = some [way, mks D, f, s] := by
  have hl := row_len h
  unfold sSplit
  rw [if_pos ⟨by decide +kernel, by omega⟩]
  unfold rowT
  rw [TL.split_join blank_tl (by decide +kernel) (List.cons_ne_nil _ _) fun p hp => ?_]
  rcases List.mem_cons.mp hp with rfl | hp
  · exact h.w1.2.1
  rcases List.mem_cons.mp hp with rfl | hp
  · rw [tl_mks]
    intro z
    have := h.dig 32 z
    omega
  rcases List.mem_cons.mp hp with rfl | hp
  · exact h.w3.2.1
  · rw [List.mem_singleton.mp hp]
    exact h.w4.2.1
theorem row_shown (h : RowOf way D f s) : m_is_passed_by (rowT way D f s, ()) = some false := by
  have hl := row_len h
  have e := row_tl (way := way) (D := D) (f := f) (s := s)
  have em : rowT way D f s = mks (tl (rowT way D f s)) := (mks_tl _).symm
  have hl2 : (tl (rowT way D f s)).length ≤ 1000 := by rw [len_tl] at hl; omega
  rw [em]
  rcases h.way with rfl | rfl
  · refine pass_no _ 102 ?_ (by decide) (by decide) hl2
    rw [e, show tl ("for" : Str) = [102, 111, 114] from by decide +kernel]
    rfl
  · refine pass_no _ 97 ?_ (by decide) (by decide) hl2
    rw [e, show tl ("against" : Str) = [97, 103, 97, 105, 110, 115, 116] from by decide +kernel]
    rfl
theorem read_ok {n : Int} (h : RowOf way D f s) (hn : Num n D) (h1 : 1 ≤ n) (h2 : n ≤ 1000000000) : m_read_rule (rowT way D f s, ()) = some (.ok ⟨clsOf s, if way = ("against" : Str) then 0 - n else n, f⟩) := by
  unfold m_read_rule
  rw [row_split h]
  simp only [bs]
  have a0 : atI [way, mks D, f, s] 0 = some way := rfl
  have a1 : atI [way, mks D, f, s] 1 = some (mks D) := rfl
  have a2 : atI [way, mks D, f, s] 2 = some f := rfl
  have a3 : atI [way, mks D, f, s] 3 = some s := rfl
  have a4 : (([way, mks D, f, s].length : Nat) : Int) = 4 := rfl
  rw [a0, a1, a2, a3, a4]
  simp only [bs]
  have hw : way ∈ [("for" : Str), ("against" : Str)] := by rcases h.way with rfl | rfl <;> simp
  have e0 : bOr (some (!decide True)) (some (!decide (way ∈ [("for" : Str), ("against" : Str)]))) = some false := by
    rw [decide_eq_true hw]
    rfl
  rw [e0, if_f, number_ok hn h1 h2]
  simp only [bs]
  show thenF (some (Fl.nx n)) _ _ _ _ = _
  rw [then_nx]
  by_cases hag : way = ("against" : Str)
  · rw [decide_eq_true hag, if_t, if_pos hag]
    simp only [bs]
    exact rule_by_ok _ h.fld h.srt h.nam
  · rw [decide_eq_false hag, if_f, if_neg hag]
    simp only [bs]
    exact rule_by_ok _ h.fld h.srt h.nam
end
end GU

/-! rules read from a text -/
namespace GU
open PySem PySem.Builtin PySem.Builtin.Str PySem.StrLaws PySem.NumText TL L2 FK MS
structure Rr (p : Str × Option Ru) : Prop where
  nl : 10 ∉ tl p.1
  len : p.1.length ≤ 40
  ps : m_is_passed_by (p.1, ()) = some p.2.isNone
  ok : ∀ x, p.2 = some x → m_read_rule (p.1, ()) = some (.ok x)
theorem nl_tl : tl ("\n" : Str) = 10 :: [] := by decide +kernel
theorem empty_rr : Rr (("" : Str), none) := ⟨by decide +kernel, by decide +kernel, by decide +kernel, fun f e => by cases e⟩
theorem row_rr {way : Str} {D : List Nat} {f s : Str} {n : Int} (h : RowOf way D f s) (hn : Num n D) (h1 : 1 ≤ n) (h2 : n ≤ 1000000000) : Rr (rowT way D f s, some ⟨clsOf s, if way = ("against" : Str) then 0 - n else n, f⟩) :=
  ⟨row_nl h, row_len h, row_shown h, fun z e => by rw [← Option.some.inj e]; exact read_ok h hn h1 h2⟩
end GU

namespace G
open PySem PySem.StrLaws TL L2 FK MS
def m_tidy : (List (T3 Str Str Str)) × Unit → Option (List (T3 Str Str Str)) := fun (g : (List (T3 Str Str Str)) × Unit) => (tdy g.1)
def b_cards_of_1  (s2 : (Dct Str Bool)) (x3 : (T3 Str Str Str)) : (Option (Dct Str Bool)) := (Option.bind (Option.bind (some true) fun (t8 : Bool) => Option.bind (some x3.a) fun (t9 : Str) => (dSet s2 t9 t8)) fun (cards_7 : (Dct Str Bool)) => (ifM (some (decide (x3.b ∈ (⟨[("same" : Str), ("apart" : Str)]⟩ : Tl Str).l))) (Option.bind (Option.bind (some true) fun (t11 : Bool) => Option.bind (some x3.c) fun (t12 : Str) => (dSet cards_7 t12 t11)) fun (cards_10 : (Dct Str Bool)) => (some cards_10)) (some cards_7)))
def m_cards_of : (List (T3 Str Str Str)) × Unit → Option (List Str) := fun (g : (List (T3 Str Str Str)) × Unit) => (Option.bind (some (⟨[]⟩ : (Dct Str Bool))) fun (cards_1 : (Dct Str Bool)) => (Option.bind (Option.bind (some g.1) fun (xs13 : List (T3 Str Str Str)) => forS (S := (Dct Str Bool)) (b_cards_of_1) xs13 cards_1) fun (s14 : (Dct Str Bool)) => (if s14.l.length < 64 then some (srt (s14.l.map (·.1))) else none)))
end G

namespace G
open PySem PySem.StrLaws TL L2 FK MS
def b__law_fact_1 (signs_2 : Str) (g : (Int × (List Int) × Unit)) (x39 : Int) : (Option Str) := (Option.bind (some signs_2) fun (t43 : Str) => Option.bind (Option.bind (Option.bind (atI g.2.1 (2 : Int)) fun (t40 : Int) => Option.bind (some x39) fun (t41 : Int) => (ifdiv t40 t41)) fun (t42 : Int) => some (t42 % 14)) fun (t44 : Int) => (sAt t43 t44))
def m__law_fact : Int × (List Int) × Unit → Option (T3 Str Str Str) := fun (g : Int × (List Int) × Unit) => (Option.bind (some ("abcdefghijklmnopqrstuvwxyz" : Str)) fun (letters_1 : Str) => (Option.bind (some ("abcXYZ019.-#~@" : Str)) fun (signs_2 : Str) => (Option.bind (some ((1 : Int) + (g.1 % 5))) fun (many_3 : Int) => (Option.bind (Option.bind (some letters_1) fun (t10 : Str) => Option.bind (Option.bind (Option.bind (some (g.1 / 5)) fun (t7 : Int) => Option.bind (Option.bind (atI g.2.1 (0 : Int)) fun (t5 : Int) => Option.bind (some many_3) fun (t6 : Int) => (imod t5 t6)) fun (t8 : Int) => some (t7 + t8)) fun (t9 : Int) => some (t9 % 26)) fun (t11 : Int) => (sAt t10 t11)) fun (card_4 : Str) => (Option.bind (Option.bind (some letters_1) fun (t19 : Str) => Option.bind (Option.bind (Option.bind (some (g.1 / 5)) fun (t16 : Int) => Option.bind (Option.bind (Option.bind (atI g.2.1 (0 : Int)) fun (t13 : Int) => some (t13 / 5)) fun (t14 : Int) => Option.bind (some many_3) fun (t15 : Int) => (imod t14 t15)) fun (t17 : Int) => some (t16 + t17)) fun (t18 : Int) => some (t18 % 26)) fun (t20 : Int) => (sAt t19 t20)) fun (other_12 : Str) => (ifM (bAnd (Option.bind (Option.bind (atI g.2.1 (1 : Int)) fun (t21 : Int) => some (t21 % 5)) fun (t22 : Int) => Option.bind (some (0 : Int)) fun (t23 : Int) => some (decide (t22 = t23))) (some (!decide (card_4 = other_12)))) (Option.bind (some (smin card_4 other_12)) fun (t28 : Str) => Option.bind (Option.bind (some [("same" : Str), ("apart" : Str)]) fun (t26 : (List Str)) => Option.bind (Option.bind (Option.bind (atI g.2.1 (1 : Int)) fun (t24 : Int) => some (t24 / 5)) fun (t25 : Int) => some (t25 % 2)) fun (t27 : Int) => (atI t26 t27)) fun (t29 : Str) => Option.bind (some (smax card_4 other_12)) fun (t30 : Str) => some (⟨t28, t29, t30⟩ : (T3 Str Str Str))) (Option.bind (Option.bind (some ("" : Str)) fun (t46 : Str) => Option.bind (Option.bind (Option.bind (some [(1 : Int), (14 : Int), (196 : Int)]) fun (t36 : (List Int)) => Option.bind (some none) fun (t37 : Option Int) => Option.bind (Option.bind (Option.bind (some (1 : Int)) fun (t34 : Int) => Option.bind (Option.bind (Option.bind (atI g.2.1 (1 : Int)) fun (t32 : Int) => some (t32 / 10)) fun (t33 : Int) => some (t33 % 3)) fun (t35 : Int) => some (t34 + t35)) fun (z : Int) => some (some z)) fun (t38 : Option Int) => some (cutA t36 t37 t38)) fun (xs45 : List Int) => lcG (fun (x39 : Int) => (some true)) (b__law_fact_1 signs_2 g) xs45) fun (t47 : (List Str)) => (sJoin t46 t47)) fun (text_31 : Str) => (Option.bind (ifM (Option.bind (Option.bind (Option.bind (atI g.2.1 (1 : Int)) fun (t48 : Int) => some (t48 / 30)) fun (t49 : Int) => some (t49 % 4)) fun (t50 : Int) => Option.bind (some (0 : Int)) fun (t51 : Int) => some (decide (t50 = t51))) (Option.bind (sUp card_4) fun (text_53 : Str) => (some text_53)) (some text_31)) fun (s52 : Str) => (Option.bind (some card_4) fun (t58 : Str) => Option.bind (Option.bind (some [("name" : Str), ("former" : Str), ("way" : Str), ("day" : Str), ("mark" : Str)]) fun (t56 : (List Str)) => Option.bind (Option.bind (Option.bind (atI g.2.1 (1 : Int)) fun (t54 : Int) => some (t54 / 120)) fun (t55 : Int) => some (t55 % 5)) fun (t57 : Int) => (atI t56 t57)) fun (t59 : Str) => Option.bind (some s52) fun (t60 : Str) => some (⟨t58, t59, t60⟩ : (T3 Str Str Str)))))))))))
def b_changes_of_1 (s15 : (Dct (T3 Str Str Str) Str)) (x16 : (T3 Str Str Str)) : (Option (Str × (T3 Str Str Str))) := (Option.bind (dGet s15.l x16) fun (t17 : Str) => Option.bind (some x16) fun (t18 : (T3 Str Str Str)) => some (t17, t18))
def b_changes_of_2 (g : ((List (T3 Str Str Str)) × (List (T3 Str Str Str)) × Unit)) (s9 : (Dct (T3 Str Str Str) Str)) (x10 : (T3 Str Str Str)) : (Option (Dct (T3 Str Str Str) Str)) := (ifM (some (!decide (x10 ∈ g.1))) (Option.bind (Option.bind (some ("+" : Str)) fun (t12 : Str) => Option.bind (some x10) fun (t13 : (T3 Str Str Str)) => (dSet s9 t13 t12)) fun (changes_11 : (Dct (T3 Str Str Str) Str)) => (some changes_11)) (some s9))
def b_changes_of_3 (g : ((List (T3 Str Str Str)) × (List (T3 Str Str Str)) × Unit)) (s2 : (Dct (T3 Str Str Str) Str)) (x3 : (T3 Str Str Str)) : (Option (Dct (T3 Str Str Str) Str)) := (ifM (some (!decide (x3 ∈ g.2.1))) (Option.bind (Option.bind (some ("-" : Str)) fun (t5 : Str) => Option.bind (some x3) fun (t6 : (T3 Str Str Str)) => (dSet s2 t6 t5)) fun (changes_4 : (Dct (T3 Str Str Str) Str)) => (some changes_4)) (some s2))
def m_changes_of : (List (T3 Str Str Str)) × (List (T3 Str Str Str)) × Unit → Option (List (Str × (T3 Str Str Str))) := fun (g : (List (T3 Str Str Str)) × (List (T3 Str Str Str)) × Unit) => (Option.bind (some (⟨[]⟩ : (Dct (T3 Str Str Str) Str))) fun (changes_1 : (Dct (T3 Str Str Str) Str)) => (Option.bind (Option.bind (some g.1) fun (xs7 : List (T3 Str Str Str)) => forS (S := (Dct (T3 Str Str Str) Str)) (b_changes_of_3 g) xs7 changes_1) fun (s8 : (Dct (T3 Str Str Str) Str)) => (Option.bind (Option.bind (some g.2.1) fun (xs14 : List (T3 Str Str Str)) => forS (S := (Dct (T3 Str Str Str) Str)) (b_changes_of_2 g) xs14 s8) fun (s15 : (Dct (T3 Str Str Str) Str)) => (Option.bind (sSort (s15.l.map (·.1))) fun (xs19 : List (T3 Str Str Str)) => lcG (fun (x16 : (T3 Str Str Str)) => (some true)) (b_changes_of_1 s15) xs19))))
def b_poured_all_1 (g : ((List (T3 Str Str Str)) × (List (List (T3 Str Str Str))) × Unit)) (s7 : (List (T3 Str Str Str))) (x8 : (List (T3 Str Str Str))) : (Option (List (T3 Str Str Str))) := (Option.bind (Option.bind (Option.bind (some x8) fun (xs10 : List (T3 Str Str Str)) => lcG (fun (x9 : (T3 Str Str Str)) => (some (!decide (x9 ∈ g.1)))) (fun (x9 : (T3 Str Str Str)) => (some x9)) xs10) fun (t12 : (List (T3 Str Str Str))) => (lCat s7 t12)) fun (facts_11 : (List (T3 Str Str Str))) => (some facts_11))
def b_poured_all_2 (g : ((List (T3 Str Str Str)) × (List (List (T3 Str Str Str))) × Unit)) (x2 : (T3 Str Str Str)) : (Option Bool) := (Option.bind (Option.bind (some g.2.1) fun (xs4 : List (List (T3 Str Str Str))) => lcG (fun (x3 : (List (T3 Str Str Str))) => (some true)) (fun (x3 : (List (T3 Str Str Str))) => (some (decide (x2 ∈ x3)))) xs4) fun (t5 : (List Bool)) => some (t5.all id))
def m_poured_all : (List (T3 Str Str Str)) × (List (List (T3 Str Str Str))) × Unit → Option (List (T3 Str Str Str)) := fun (g : (List (T3 Str Str Str)) × (List (List (T3 Str Str Str))) × Unit) => (Option.bind (Option.bind (some g.1) fun (xs6 : List (T3 Str Str Str)) => lcG (b_poured_all_2 g) (fun (x2 : (T3 Str Str Str)) => (some x2)) xs6) fun (facts_1 : (List (T3 Str Str Str))) => (Option.bind (Option.bind (some g.2.1) fun (xs13 : List (List (T3 Str Str Str))) => forS (S := (List (T3 Str Str Str))) (b_poured_all_1 g) xs13 facts_1) fun (s14 : (List (T3 Str Str Str))) => (m_tidy (s14, ()))))
def m_poured : (List (T3 Str Str Str)) × (Fz (List (T3 Str Str Str))) × (Fz (List (T3 Str Str Str))) × Unit → Option (List (T3 Str Str Str)) := fun (g : (List (T3 Str Str Str)) × (Fz (List (T3 Str Str Str))) × (Fz (List (T3 Str Str Str))) × Unit) => (m_poured_all (g.1, ([g.2.1.val, g.2.2.1.val], ())))
def m__law_good : (List (T3 Str Str Str)) × (List (T3 Str Str Str)) × Unit → Option Bool := fun (g : (List (T3 Str Str Str)) × (List (T3 Str Str Str)) × Unit) => (bAnd (some true) (bAnd (some (decide (g.1 = g.2.1))) (Option.bind (Option.bind (some g.1) fun (xs2 : List (T3 Str Str Str)) => lcG (fun (x1 : (T3 Str Str Str)) => (some true)) (fun (x1 : (T3 Str Str Str)) => (some true)) xs2) fun (t3 : (List Bool)) => some (t3.all id))))
def m_changed_by : (List (T3 Str Str Str)) × (List (Str × (T3 Str Str Str))) × Unit → Option (List (T3 Str Str Str)) := fun (g : (List (T3 Str Str Str)) × (List (Str × (T3 Str Str Str))) × Unit) => (Option.bind (Option.bind (some g.2.1) fun (xs5 : List (Str × (T3 Str Str Str))) => lcG (fun (x2 : (Str × (T3 Str Str Str))) => (some (decide (x2.1 = ("-" : Str))))) (fun (x2 : (Str × (T3 Str Str Str))) => (some x2.2)) xs5) fun (gone_1 : (List (T3 Str Str Str))) => (Option.bind (Option.bind (some g.2.1) fun (xs10 : List (Str × (T3 Str Str Str))) => lcG (fun (x7 : (Str × (T3 Str Str Str))) => (some (decide (x7.1 = ("+" : Str))))) (fun (x7 : (Str × (T3 Str Str Str))) => (some x7.2)) xs10) fun (come_6 : (List (T3 Str Str Str))) => (Option.bind (Option.bind (Option.bind (Option.bind (some g.1) fun (xs12 : List (T3 Str Str Str)) => lcG (fun (x11 : (T3 Str Str Str)) => (some (!decide (x11 ∈ gone_1)))) (fun (x11 : (T3 Str Str Str)) => (some x11)) xs12) fun (t13 : (List (T3 Str Str Str))) => Option.bind (some come_6) fun (t14 : (List (T3 Str Str Str))) => (lCat t13 t14)) fun (t15 : (List (T3 Str Str Str))) => Option.bind (some ()) fun (t16 : Unit) => some (t15, t16)) m_tidy)))
def m__law_by_facts : (List (Str × (T3 Str Str Str))) × Unit → Option (List (Str × (T3 Str Str Str))) := fun (g : (List (Str × (T3 Str Str Str))) × Unit) => (Option.bind (Option.bind (Option.bind (some g.1) fun (xs4 : List (Str × (T3 Str Str Str))) => lcG (fun (x1 : (Str × (T3 Str Str Str))) => (some true)) (fun (x1 : (Str × (T3 Str Str Str))) => (some (x1.2, x1.1))) xs4) fun (t5 : (List ((T3 Str Str Str) × Str))) => (sSort t5)) fun (xs9 : List ((T3 Str Str Str) × Str)) => lcG (fun (x6 : ((T3 Str Str Str) × Str)) => (some true)) (fun (x6 : ((T3 Str Str Str) × Str)) => (some (x6.2, x6.1))) xs9)
def b__law_one_by_one_1 (g : ((List (T3 Str Str Str)) × (List (List (T3 Str Str Str))) × Unit)) (s3 : (List (T3 Str Str Str))) (x4 : (List (T3 Str Str Str))) : (Option (List (T3 Str Str Str))) := (Option.bind (m_poured (g.1, ((⟨s3⟩ : (Fz (List (T3 Str Str Str)))), ((⟨x4⟩ : (Fz (List (T3 Str Str Str)))), ())))) fun (book_5 : (List (T3 Str Str Str))) => (some book_5))
def m__law_one_by_one : (List (T3 Str Str Str)) × (List (List (T3 Str Str Str))) × Unit → Option (List (T3 Str Str Str)) := fun (g : (List (T3 Str Str Str)) × (List (List (T3 Str Str Str))) × Unit) => (Option.bind (Option.bind (atI g.2.1 (0 : Int)) fun (t2 : (List (T3 Str Str Str))) => some t2) fun (book_1 : (List (T3 Str Str Str))) => (Option.bind (Option.bind (some (cutA g.2.1 (some (1 : Int)) none)) fun (xs6 : List (List (T3 Str Str Str))) => forS (S := (List (T3 Str Str Str))) (b__law_one_by_one_1 g) xs6 book_1) fun (s7 : (List (T3 Str Str Str))) => (some s7)))
end G

namespace MS
open PySem PySem.StrLaws TL L2 FK
section
variable {κ α : Type} [DecidableEq κ]
theorem any_key (l : List (κ × α)) (k : κ) : (l.any fun p => decide (p.1 = k)) = decide (k ∈ l.map (·.1)) := by
  rw [Bool.eq_iff_iff, List.any_eq_true, decide_eq_true_eq, List.mem_map]
  exact ⟨fun ⟨p, h, e⟩ => ⟨p, h, of_decide_eq_true e⟩, fun ⟨p, h, e⟩ => ⟨p, h, decide_eq_true e⟩⟩
theorem keys_put (l : List (κ × α)) (k : κ) (a : α) : (dPut l k a).map (·.1) = if k ∈ l.map (·.1) then l.map (·.1) else l.map (·.1) ++ [k] := by
  unfold dPut
  rw [any_key]
  by_cases h : k ∈ l.map (·.1)
  · rw [if_pos (decide_eq_true h), if_pos h, List.map_map]
    refine List.map_congr_left fun p _ => ?_
    show (if p.1 = k then (p.1, a) else p).1 = p.1
    split <;> rfl
  · rw [if_neg (by rw [decide_eq_false h]; exact Bool.false_ne_true), if_neg h, List.map_append]
    rfl
end
abbrev Fact := T3 Str Str Str
/-- a field of two cards -/
def Hand (f : Str) : Prop := f = "same" ∨ f = "apart"
/-- the cards that facts tell -/
def Told (fs : List Fact) (x : Str) : Prop := ∃ f ∈ fs, x = f.a ∨ (Hand f.b ∧ x = f.c)
theorem told_congr {fs gs : List Fact} (h : ∀ f, f ∈ fs ↔ f ∈ gs) (x : Str) : Told fs x ↔ Told gs x :=
  ⟨fun ⟨f, a, b⟩ => ⟨f, (h f).mp a, b⟩, fun ⟨f, a, b⟩ => ⟨f, (h f).mpr a, b⟩⟩
/-- the cards of a book: sorted, each once -/
def CardsIs (fs : List Fact) (l : List Str) : Prop := Rising l ∧ ∀ x, x ∈ l ↔ Told fs x
theorem CardsIs.uniq {fs gs : List Fact} {l m : List Str} (h1 : CardsIs fs l) (h2 : CardsIs gs m) (e : ∀ f, f ∈ fs ↔ f ∈ gs) : l = m :=
  rising_ext h1.1 h2.1 fun x => by rw [h1.2, h2.2, told_congr e]
end MS
namespace G
open PySem PySem.StrLaws TL L2 FK MS
end G

/-! books poured: what the pouring functions tell -/
namespace G
open PySem PySem.StrLaws TL L2 FK MS
theorem sig14_at (k : Int) : Ok (sAt "abcXYZ019.-#~@" (k % 14)) fun z => z.length ≤ 1 := (okSAt (x := "abcXYZ019.-#~@") (by omega) (by rw [show ("abcXYZ019.-#~@" : Str).length = 14 by decide +kernel]; omega) (by decide +kernel)).mono fun z ⟨c, _, e⟩ => by rw [e]; exact Nat.le_refl 1
theorem mem_cut {α : Type} {l : List α} {lo hi : Option Int} {x : α} (h : x ∈ cutA l lo hi) : x ∈ l := by
  unfold cutA at h
  exact List.mem_of_mem_drop (List.mem_of_mem_take h)
theorem fact_ok (a : Int) (ds : List Int) (h : 3 ≤ ds.length) : Ok (m__law_fact (a, (ds, ()))) fun _ => True := by
  unfold m__law_fact
  simp only [bs, Option.bind_assoc]
  have d : ∀ k : Int, 0 ≤ k → k < 3 → Ok (atI ds k) fun _ => True := fun k h0 h1 => (okAt h0 (by omega)).any
  have q0 := d 0 (by decide) (by decide)
  have q1 := d 1 (by decide) (by decide)
  have q2 := d 2 (by decide) (by decide)
  refine q0.bind fun z0 _ => (okMod (by omega)).bind fun y0 _ => (abc_at _).bind fun card hcard => ?_
  refine q0.bind fun z0 _ => (okMod (by omega)).bind fun y0 _ => (abc_at _).bind fun other _ => ?_
  refine .ifm (R := fun _ => True) ?_ (fun _ => ?_) fun _ => ?_
  · obtain ⟨z, ez, _⟩ := q1
    rw [ez]
    simp only [bs]
    exact Ok.and (R := fun _ => True) (S := fun _ => True) (.ret trivial) fun _ => .ret trivial
  · refine q1.bind fun z _ => (okAt (by omega) (by simp only [List.length_cons, List.length_nil]; omega)).bind fun _ _ => .ret trivial
  · refine q1.bind fun z _ => ?_
    refine (okMap (Q := fun (s : Str) => s.length ≤ 1) (Nat.lt_of_le_of_lt (cut_len _ _ _) (by decide)) fun x hx => ?_).bind fun ys hy => ?_
    · unfold b__law_fact_1
      simp only [bs, Option.bind_assoc]
      refine q2.bind fun w _ => .bind (P := fun _ => True) ⟨_, if_pos ?_, trivial⟩ fun w _ => sig14_at w
      have := mem_cut hx
      simp only [List.mem_cons, List.not_mem_nil, or_false] at this
      omega
    have hl := hy.1 ▸ cut_len [(1 : Int), 14, 196] none (some (1 + z / 10 % 3))
    have e : ("" : Str).length = 0 := rfl
    have e3 : ([(1 : Int), 14, 196]).length = 3 := rfl
    refine (okJoin (k := 1) hy.2 (by rw [e]; omega)).bind fun w hw => ?_
    refine .bind (P := fun _ => True) (.ifm (R := fun _ => True) (q1.bind fun _ _ => .ret trivial) (fun _ => ?_) fun _ => .ret trivial) fun u _ => ?_
    · obtain ⟨c, _, rfl⟩ := hcard
      exact .bind (P := fun _ => True) ⟨_, if_pos (by rw [len_c1]; decide), trivial⟩ fun _ _ => .ret trivial
    · exact q1.bind fun z _ => (okAt (by omega) (by simp only [List.length_cons, List.length_nil]; omega)).bind fun _ _ => .ret trivial
/-! ### drawn books -/
def BooksInv (n : Nat) (L : List Fact) (s : List (List Fact)) : Prop := s.length = n ∧ ∀ l ∈ s, l.Nodup ∧ ∀ x ∈ l, x ∈ L
theorem BooksInv.mono {n : Nat} {L M : List Fact} {s : List (List Fact)} (h : BooksInv n L s) (e : ∀ x ∈ L, x ∈ M) : BooksInv n M s := ⟨h.1, fun l hl => ⟨(h.2 l hl).1, fun x hx => e x ((h.2 l hl).2 x hx)⟩⟩
theorem ixN_nat {n k : Nat} (h : k < n) : ixN n (k : Int) = some k := by
  unfold ixN
  rw [if_pos (by omega), if_pos (by omega)]
  simp
theorem app_ok {n : Nat} {L : List Fact} {s : List (List Fact)} {k : Nat} {f : Fact} (h : BooksInv n L s) (hk : k < n) (hf : f ∈ L) (hL : L.length ≤ 1000000) (l : List Fact) (hl : atI s (k : Int) = some l) (hn : f ∉ l) : Ok (llApp s (k : Int) f) (BooksInv n L) := by
  have hk' : k < s.length := by rw [h.1]; exact hk
  rw [atI_nat' s k hk'] at hl
  cases hl
  have hm : s[k] ∈ s := List.getElem_mem hk'
  obtain ⟨h1, h2⟩ := h.2 _ hm
  have hz := nodup_sub _ _ h1 h2
  unfold llApp
  rw [ixN_nat hk']
  refine ⟨s.set k (s[k] ++ [f]), ?_, by rw [List.length_set]; exact h.1, fun l hl => ?_⟩
  · show (s[k]?).bind _ = _
    rw [List.getElem?_eq_getElem hk']
    show (lApp s[k] f).bind _ = _
    rw [app_eq _ _ (by omega)]
    rfl
  · rcases List.mem_or_eq_of_mem_set hl with y | y
    · exact h.2 l y
    · rw [y]
      refine ⟨List.nodup_append.mpr ⟨h1, List.pairwise_singleton _ _, fun a ha b hb e => hn ?_⟩, fun x hx => ?_⟩
      · rw [← List.mem_singleton.mp hb, ← e]
        exact ha
      · rcases List.mem_append.mp hx with z | z
        · exact h2 x z
        · rw [List.mem_singleton.mp z]
          exact hf
theorem turn_ok {n : Nat} {L : List Fact} {s : List (List Fact)} {k : Nat} {f : Fact} {bit : Option Bool} (hb : Ok bit fun _ => True) (h : BooksInv n L s) (hk : k < n) (hf : f ∈ L) (hL : L.length ≤ 1000000) : Ok (ifM (bAnd bit ((atI s (k : Int)).bind fun t => some (!decide (f ∈ t)))) (llApp s (k : Int) f) (some s)) (BooksInv n L) := by
  have hk' : k < s.length := by rw [h.1]; exact hk
  obtain ⟨b, eb, _⟩ := hb
  rw [eb, atI_nat' s k hk']
  cases b with
  | false =>
    rw [and_f]
    exact .ifs (fun z => by cases z) fun _ => .ret h
  | true =>
    rw [and_t]
    simp only [bs]
    refine .ifs (fun z => app_ok h hk hf hL _ (atI_nat' s k hk') fun y => ?_) fun _ => .ret h
    rw [decide_eq_true y] at z
    cases z
/-- books, each sorted -/
def Books (n : Nat) (L : List Fact) (s : List (List Fact)) : Prop := s.length = n ∧ ∀ l ∈ s, Rising l ∧ ∀ x ∈ l, x ∈ L
theorem Books.len {n : Nat} {L : List Fact} {s : List (List Fact)} (h : Books n L s) {l : List Fact} (hl : l ∈ s) : l.length ≤ L.length := nodup_sub _ _ (h.2 l hl).1.nodup (h.2 l hl).2
/-! ### tidy -/
def Is (P : Fact → Prop) (z : List Fact) : Prop := Rising z ∧ ∀ f, f ∈ z ↔ P f
theorem Is.uniq {P Q : Fact → Prop} {z w : List Fact} (h : Is P z) (k : Is Q w) (e : ∀ f, P f ↔ Q f) : z = w := rising_ext h.1 k.1 fun f => (h.2 f).trans ((e f).trans (k.2 f).symm)
/-! ### poured_all -/
def Poured (base : List Fact) (sides : List (List Fact)) (f : Fact) : Prop := (f ∈ base ∧ ∀ s ∈ sides, f ∈ s) ∨ (f ∉ base ∧ ∃ s ∈ sides, f ∈ s)
end G

/-! joined by edges: by labels, by walking -/
namespace MS
open PySem FK
inductive Conn (E : List (Nat × Nat)) : Nat → Nat → Prop
  | refl (a : Nat) : Conn E a a
  | step {a b c : Nat} : Conn E a b → ((b, c) ∈ E ∨ (c, b) ∈ E) → Conn E a c
section
variable {E : List (Nat × Nat)} {a b c : Nat}
theorem Conn.trans (h : Conn E a b) (k : Conn E b c) : Conn E a c := by
  induction k with
  | refl => exact h
  | step _ e ih => exact ih.step e
theorem Conn.edge (h : (a, b) ∈ E ∨ (b, a) ∈ E) : Conn E a b := (Conn.refl a).step h
theorem Conn.symm (h : Conn E a b) : Conn E b a := by
  induction h with
  | refl => exact .refl _
  | step _ e ih => exact (Conn.edge (e.elim .inr .inl)).trans ih
theorem Conn.mono {F : List (Nat × Nat)} (s : ∀ x ∈ E, x ∈ F) (h : Conn E a b) : Conn F a b := by
  induction h with
  | refl => exact .refl _
  | step _ e ih => exact ih.step (e.elim (fun z => .inl (s _ z)) fun z => .inr (s _ z))
end
/-- labels tell what is joined -/
def Labels (E : List (Nat × Nat)) (n : Nat) (L : List Int) : Prop := L.length = n ∧ ∀ a b, a < n → b < n → (L[a]? = L[b]? ↔ Conn E a b)
end MS

namespace MS
open PySem FK
/-- the blocks of 0 .. n - 1 that p holds of -/
noncomputable def sel (n : Nat) (p : Nat → Prop) : List Int := ((List.range n).filter fun x => dec (p x)).map fun (x : Nat) => (x : Int)
theorem nodup_le' {α : Type} [DecidableEq α] : ∀ {l m : List α}, l.Nodup → (∀ x ∈ l, x ∈ m) → l.length ≤ m.length
  | [], _, _, _ => Nat.zero_le _
  | a :: l, m, hn, hs => by
    have h1 := List.nodup_cons.mp hn
    have ha := hs a List.mem_cons_self
    have := nodup_le' (l := l) (m := m.erase a) h1.2 fun x hx => (List.mem_erase_of_ne fun e => h1.1 (by rw [← e]; exact hx)).mpr (hs x (List.mem_cons_of_mem _ hx))
    rw [List.length_erase_of_mem ha] at this
    have := List.length_pos_of_mem ha
    rw [List.length_cons]
    omega
def Inn (n : Nat) (l : List Int) : Prop := ∀ z ∈ l, 0 ≤ z ∧ z < n
/-! ### a case's links -/
def OkP (m : Nat) (ps : List (T3 Int Int Int)) : Prop := ∀ p ∈ ps, (0 ≤ p.a ∧ p.a < m) ∧ 0 ≤ p.b ∧ p.b < m
def lnk (qs : List (Int × Int)) (p : T3 Int Int Int) : Bool := decide (0 < p.c) && !lMem (p.a, p.b) qs
def edges (ps : List (T3 Int Int Int)) (qs : List (Int × Int)) : List (Nat × Nat) := (ps.filter (lnk qs)).map fun p => (p.a.toNat, p.b.toNat)
def nbs (qs : List (Int × Int)) (x : Int) (p : T3 Int Int Int) : List Int := if lnk qs p = true then (if p.a = x then [p.b] else []) ++ (if p.b = x then [p.a] else []) else []
end MS
namespace G
open PySem FK MS
end G

namespace G
open PySem FK MS
end G

namespace MS
open PySem FK
section
variable {κ α : Type} [Py κ] [DecidableEq κ] [Kq κ] [Py α]
theorem dget_cons (p : κ × α) (l : List (κ × α)) (k : κ) : dGet (p :: l) k = if p.1 = k then some p.2 else dGet l k := by
  unfold dGet
  rw [List.find?_cons]
  by_cases h : p.1 = k
  · rw [if_pos h, decide_eq_true h]
    rfl
  · rw [if_neg h, decide_eq_false h]
theorem any_has (l : List (κ × α)) (k : κ) : (l.any fun p => decide (p.1 = k)) = (dGet l k).isSome := by
  induction l with
  | nil => rfl
  | cons p l ih =>
    rw [List.any_cons, dget_cons, ih]
    by_cases h : p.1 = k
    · rw [if_pos h, decide_eq_true h]
      rfl
    · rw [if_neg h, decide_eq_false h]
      rfl
theorem dget_map (l : List (κ × α)) (k j : κ) (a : α) : dGet (l.map fun p => if p.1 = k then (p.1, a) else p) j = if j = k then (dGet l j).map fun _ => a else dGet l j := by
  induction l with
  | nil => split <;> rfl
  | cons p l ih =>
    rw [List.map_cons, dget_cons, dget_cons, ih]
    by_cases h : p.1 = k
    · rw [if_pos h]
      by_cases hj : p.1 = j
      · rw [if_pos hj, if_pos hj, if_pos (by rw [← hj, h])]
        rfl
      · rw [if_neg hj, if_neg hj]
    · rw [if_neg h]
      by_cases hj : p.1 = j
      · rw [if_pos hj, if_pos hj, if_neg (by rw [← hj]; exact h)]
      · rw [if_neg hj, if_neg hj]
theorem dget_app (l : List (κ × α)) (p : κ × α) (j : κ) : dGet (l ++ [p]) j = (dGet l j).or (if p.1 = j then some p.2 else none) := by
  induction l with
  | nil =>
    rw [List.nil_append, dget_cons]
    split <;> rfl
  | cons q l ih =>
    rw [List.cons_append, dget_cons, dget_cons, ih]
    split <;> rfl
theorem dget_put (l : List (κ × α)) (k j : κ) (a : α) : dGet (dPut l k a) j = if j = k then some a else dGet l j := by
  unfold dPut
  rw [any_has]
  cases h : dGet l k with
  | none =>
    rw [if_neg (by simp), dget_app]
    by_cases hj : j = k
    · rw [if_pos hj, hj, h, if_pos rfl]
      rfl
    · rw [if_neg hj, if_neg (fun e => hj e.symm)]
      cases dGet l j <;> rfl
  | some b =>
    rw [if_pos (show (some b).isSome = true from rfl), dget_map]
    by_cases hj : j = k
    · rw [if_pos hj, if_pos hj, hj, h]
      rfl
    · rw [if_neg hj, if_neg hj]
end
/-- the parts: each told by its first block -/
noncomputable def parts (E : List (Nat × Nat)) (n k : Nat) : List (List Int) := ((List.range k).filter fun b => dec (∀ a, a < b → ¬ Conn E a b)).map fun b => sel n (Conn E b)
end MS
namespace G
open PySem FK MS
end G

/-! the shortest way, by breadth: plain -/
namespace MS
section
variable {α : Type} [DecidableEq α] {E : α → α → Prop}
inductive Wk (E : α → α → Prop) (a : α) : Nat → α → Prop
  | nil : Wk E a 0 a
  | snoc {n : Nat} {b c : α} : Wk E a n b → E b c → Wk E a (n + 1) c
inductive Pth (E : α → α → Prop) (a : α) : List α → α → Prop
  | one : Pth E a [a] a
  | snoc {p : List α} {b c : α} : Pth E a p b → E b c → Pth E a (p ++ [c]) c
variable {a x y : α} {p : List α} {n : Nat}
theorem Pth.pos (h : Pth E a p x) : 0 < p.length := by
  cases h with
  | one => exact Nat.one_pos
  | snoc h e => rw [List.length_append]; exact Nat.succ_pos _
theorem Pth.wk (h : Pth E a p x) : Wk E a (p.length - 1) x := by
  induction h with
  | one => exact .nil
  | @snoc p b c h e ih =>
    have hp := h.pos
    have e1 : (p ++ [c]).length - 1 = (p.length - 1) + 1 := by rw [List.length_append, List.length_singleton]; omega
    rw [e1]
    exact ih.snoc e
theorem Pth.fst (h : Pth E a p x) : p[0]? = some a := by
  induction h with
  | one => rfl
  | snoc h e ih => rw [List.getElem?_append_left h.pos]; exact ih
theorem Pth.lst (h : Pth E a p x) : p[p.length - 1]? = some x := by
  cases h with
  | one => rfl
  | @snoc p b c h e =>
    have e1 : (p ++ [x]).length - 1 = p.length := by rw [List.length_append, List.length_singleton]; omega
    rw [e1, List.getElem?_append_right (Nat.le_refl _), Nat.sub_self]
    rfl
theorem Pth.edges (h : Pth E a p x) : ∀ k, k + 1 < p.length → ∃ u v, p[k]? = some u ∧ p[k + 1]? = some v ∧ E u v := by
  induction h with
  | one => intro k hk; exact absurd hk (by simp)
  | @snoc p b c h e ih =>
    intro k hk
    rw [List.length_append, List.length_singleton] at hk
    by_cases k1 : k + 1 < p.length
    · obtain ⟨u, v, h1, h2, h3⟩ := ih k k1
      exact ⟨u, v, by rw [List.getElem?_append_left (by omega)]; exact h1, by rw [List.getElem?_append_left k1]; exact h2, h3⟩
    · have e1 : k + 1 = p.length := by omega
      have hl := h.lst
      have e2 : p.length - 1 = k := by omega
      rw [e2] at hl
      refine ⟨b, c, by rw [List.getElem?_append_left (by omega)]; exact hl, ?_, e⟩
      rw [e1, List.getElem?_append_right (Nat.le_refl _), Nat.sub_self]
      rfl
theorem Wk.exit {T : α → Prop} (h : Wk E a n y) (ha : T a) (hy : ¬ T y) : ∃ m u z, m + 1 ≤ n ∧ Wk E a m u ∧ T u ∧ E u z ∧ ¬ T z := by
  induction h with
  | nil => exact absurd ha hy
  | @snoc n b c h e ih =>
    by_cases hb : T b
    · exact ⟨n, b, c, Nat.le_refl _, h, hb, e, hy⟩
    · obtain ⟨m, u, z, hm, r⟩ := ih hb
      exact ⟨m, u, z, by omega, r⟩
/-- breadth first: what stands after some of the first at+1 have been looked at -/
structure Bfs (E : α → α → Prop) (U : List α) (a : α) (w : α → Option (List α)) (T : List α) (k : Nat) : Prop where
  nd : T.Nodup
  fst : T[0]? = some a
  has : ∀ x, (w x).isSome = true ↔ x ∈ T
  sub : ∀ x ∈ T, x ∈ U
  way : ∀ (i : Nat) (x : α) (p : List α), T[i]? = some x → w x = some p → Pth E a p x ∧ p.length ≤ i + 1 ∧ ∀ n, Wk E a n x → p.length ≤ n + 1
  mono : ∀ (i j : Nat) (x y : α) (p q : List α), i ≤ j → T[i]? = some x → T[j]? = some y → w x = some p → w y = some q → p.length ≤ q.length
  near : ∀ x p y q, T[k]? = some x → w x = some p → y ∈ T → w y = some q → q.length ≤ p.length + 1
  clo : ∀ (i : Nat) (x y : α), i < k → T[i]? = some x → E x y → y ∈ T
variable {U T : List α} {w : α → Option (List α)} {k : Nat}
theorem Bfs.len (h : Bfs E U a w T k) : T.length ≤ U.length := nodup_le' h.nd h.sub
theorem Bfs.get (h : Bfs E U a w T k) (hx : x ∈ T) : ∃ p, w x = some p := Option.isSome_iff_exists.mp ((h.has x).mpr hx)
theorem Bfs.next (h : Bfs E U a w T k) (hk : T[k]? = some x) (hc : ∀ y, E x y → y ∈ T) : Bfs E U a w T (k + 1) where
  nd := h.nd
  fst := h.fst
  has := h.has
  sub := h.sub
  way := h.way
  mono := h.mono
  near z p y q h1 h2 h3 h4 := by
    obtain ⟨px, hx⟩ := h.get (List.mem_of_getElem? hk)
    have n1 := h.near x px y q hk hx h3 h4
    have n2 := h.mono k (k + 1) x z px p (Nat.le_succ _) hk h1 hx h2
    omega
  clo i z y hi h1 he := by
    by_cases e : i = k
    · subst e
      rw [hk] at h1
      cases h1
      exact hc y he
    · exact h.clo i z y (by omega) h1 he
theorem Bfs.add (h : Bfs E U a w T k) (hk : T[k]? = some x) (hw : w x = some p) (he : E x y) (hy : y ∉ T) (hu : y ∈ U) : Bfs E U a (fun z => if z = y then some (p ++ [y]) else w z) (T ++ [y]) k := by
  have hkl : k < T.length := (List.getElem?_eq_some_iff.mp hk).1
  have old : ∀ {i : Nat} {z : α}, (T ++ [y])[i]? = some z → (i < T.length ∧ T[i]? = some z ∧ z ≠ y) ∨ (i = T.length ∧ z = y) := by
    intro i z hz
    by_cases c : i < T.length
    · rw [List.getElem?_append_left c] at hz
      exact .inl ⟨c, hz, fun e => hy (e ▸ List.mem_of_getElem? hz)⟩
    · have hl := (List.getElem?_eq_some_iff.mp hz).1
      rw [List.length_append, List.length_singleton] at hl
      have e : i = T.length := by omega
      subst e
      rw [List.getElem?_append_right (Nat.le_refl _), Nat.sub_self] at hz
      exact .inr ⟨rfl, (Option.some.inj hz).symm⟩
  have key : ∀ n, Wk E a n y → p.length ≤ n := by
    intro n hn
    obtain ⟨m, u, z, hm, hu, hT, huz, hz⟩ := hn.exit (T := fun z => z ∈ T) (List.mem_of_getElem? h.fst) hy
    obtain ⟨i, hi⟩ := List.mem_iff_getElem?.mp hT
    obtain ⟨q, hq⟩ := h.get hT
    by_cases c : i < k
    · exact absurd (h.clo i u z c hi huz) hz
    · have h1 := h.mono k i x u p q (by omega) hk hi hw hq
      have h2 := (h.way i u q hi hq).2.2 m hu
      omega
  obtain ⟨pp, pl, ps⟩ := h.way k x p hk hw
  have bnd : ∀ z q, z ∈ T → w z = some q → q.length ≤ (p ++ [y]).length := fun z q hz hq => by
    have := h.near x p z q hk hw hz hq
    rw [List.length_append, List.length_singleton]
    exact this
  refine ⟨?_, ?_, ?_, ?_, ?_, ?_, ?_, ?_⟩
  · rw [List.nodup_append]
    refine ⟨h.nd, List.nodup_cons.mpr ⟨List.not_mem_nil, .nil⟩, fun u hu v hv e => ?_⟩
    rw [List.mem_singleton.mp hv] at e
    exact hy (e ▸ hu)
  · rw [List.getElem?_append_left (by omega)]; exact h.fst
  · intro z
    by_cases e : z = y
    · subst e
      simp
    · simp only [if_neg e]
      rw [h.has z, List.mem_append, List.mem_singleton]
      exact ⟨.inl, fun c => c.resolve_right e⟩
  · intro z hz
    rcases List.mem_append.mp hz with hz | hz
    · exact h.sub z hz
    · rw [List.mem_singleton.mp hz]; exact hu
  · intro i z q h1 h2
    rcases old h1 with ⟨hi, h1, hne⟩ | ⟨hi, rfl⟩
    · simp only [if_neg hne] at h2
      exact h.way i z q h1 h2
    · simp only [if_pos] at h2
      cases h2
      refine ⟨pp.snoc he, by rw [List.length_append, List.length_singleton]; omega, fun n hn => ?_⟩
      have := key n hn
      rw [List.length_append, List.length_singleton]
      omega
  · intro i j u v pu pv hij h1 h2 h3 h4
    rcases old h1 with ⟨hi, g1, hne⟩ | ⟨hi, rfl⟩
    · simp only [if_neg hne] at h3
      rcases old h2 with ⟨hj, g2, hne2⟩ | ⟨hj, rfl⟩
      · simp only [if_neg hne2] at h4
        exact h.mono i j u v pu pv hij g1 g2 h3 h4
      · simp only [if_pos] at h4
        cases h4
        exact bnd u pu (List.mem_of_getElem? g1) h3
    · rcases old h2 with ⟨hj, h2, hne2⟩ | ⟨hj, rfl⟩
      · omega
      · rw [h3] at h4
        cases h4
        exact Nat.le_refl _
  · intro u pu v pv h1 h2 h3 h4
    rw [List.getElem?_append_left hkl, hk] at h1
    cases h1
    have hne : x ≠ y := fun e => hy (e ▸ List.mem_of_getElem? hk)
    simp only [if_neg hne] at h2
    rw [hw] at h2
    cases h2
    by_cases e : v = y
    · subst e
      simp only [if_pos] at h4
      cases h4
      rw [List.length_append, List.length_singleton]
      exact Nat.le_refl _
    · simp only [if_neg e] at h4
      have hv : v ∈ T := by
        rcases List.mem_append.mp h3 with h3 | h3
        · exact h3
        · exact absurd (List.mem_singleton.mp h3) e
      exact h.near x p v pv hk hw hv h4
  · intro i u v hi h1 h2
    rw [List.getElem?_append_left (by omega)] at h1
    exact List.mem_append_left _ (h.clo i u v hi h1 h2)
/-- all looked at: nothing else is reached -/
theorem Bfs.all (h : Bfs E U a w T T.length) (hn : Wk E a n y) : y ∈ T := by
  refine Classical.byContradiction fun c => ?_
  obtain ⟨m, u, z, _, _, hT, huz, hz⟩ := hn.exit (T := fun z => z ∈ T) (List.mem_of_getElem? h.fst) c
  obtain ⟨i, hi⟩ := List.mem_iff_getElem?.mp hT
  exact hz (h.clo i u z (List.getElem?_eq_some_iff.mp hi).1 hi huz)
end
end MS

namespace G
open PySem PySem.StrLaws TL L2 FK MS
def OkA (m : Nat) (ps : List (Int × Int)) : Prop := ∀ p ∈ ps, (0 ≤ p.1 ∧ p.1 < m) ∧ 0 ≤ p.2 ∧ p.2 < m
end G

namespace GC
open PySem PySem.StrLaws TL L2 FK MS
open G (m_cards_of b_cards_of_1)
def b_friends_1 (g : ((List (T3 Str Str Str)) × Str × Unit)) (s2 : (List Str)) (x3 : (T3 Str Str Str)) : (Option (List Str)) := (Option.bind (ifM (bAnd (some (decide (x3.b = ("same" : Str)))) (some (decide (x3.a = g.2.1)))) (Option.bind (Option.bind (some x3.c) fun (t9 : Str) => (lApp s2 t9)) fun (told_8 : (List Str)) => (some told_8)) (some s2)) fun (s7 : (List Str)) => (ifM (bAnd (some (decide (x3.b = ("same" : Str)))) (some (decide (x3.c = g.2.1)))) (Option.bind (Option.bind (some x3.a) fun (t11 : Str) => (lApp s7 t11)) fun (told_10 : (List Str)) => (some told_10)) (some s7)))
def m_friends : (List (T3 Str Str Str)) × Str × Unit → Option (List Str) := fun (g : (List (T3 Str Str Str)) × Str × Unit) => (Option.bind (some ([] : (List Str))) fun (told_1 : (List Str)) => (Option.bind (Option.bind (some g.1) fun (xs12 : List (T3 Str Str Str)) => forS (S := (List Str)) (b_friends_1 g) xs12 told_1) fun (s13 : (List Str)) => (some s13)))
def b_chain_of_1 (card_7 : Str) (s11 : ((Dct Str (List Str)) × (List Str))) (x12 : Str) : (Option ((Dct Str (List Str)) × (List Str))) := (ifM (some (!dHas s11.1.l x12)) (Option.bind (Option.bind (Option.bind (dGet s11.1.l card_7) fun (t13 : (List Str)) => Option.bind (some [x12]) fun (t14 : (List Str)) => (lCat t13 t14)) fun (t16 : (List Str)) => Option.bind (some x12) fun (t17 : Str) => (dSet s11.1 t17 t16)) fun (ways_15 : (Dct Str (List Str))) => (Option.bind (Option.bind (some x12) fun (t19 : Str) => (lApp s11.2 t19)) fun (todo_18 : (List Str)) => (some (ways_15, todo_18)))) (some (s11.1, s11.2)))
def b_chain_of_2 (g : ((List (T3 Str Str Str)) × Str × Str × Unit)) (s6 : ((Dct Str (List Str)) × (List Str) × Int)) : (Option (Fl ((Dct Str (List Str)) × (List Str) × Int) (Option (List Str)))) := (Option.bind (atI s6.2.1 s6.2.2) fun (card_7 : Str) => (ifM (some (decide (card_7 = g.2.2.1))) (Option.bind (Option.bind (Option.bind (dGet s6.1.l card_7) fun (t8 : (List Str)) => some t8) fun (t9 : (List Str)) => some (some t9)) fun (t10 : (Option (List Str))) => some (Fl.rt t10)) (Option.bind (Option.bind (m_friends (g.1, (card_7, ()))) fun (xs20 : List Str) => forS (S := ((Dct Str (List Str)) × (List Str))) (b_chain_of_1 card_7) xs20 (s6.1, s6.2.1)) fun (s21 : ((Dct Str (List Str)) × (List Str))) => (Option.bind (some (s6.2.2 + (1 : Int))) fun (at_22 : Int) => (some (Fl.nx (s21.1, s21.2, at_22)))))))
def b_chain_of_3  (s6 : ((Dct Str (List Str)) × (List Str) × Int)) : (Option Bool) := (some (decide (s6.2.2 < (s6.2.1.length : Int))))
def m_chain_of : (List (T3 Str Str Str)) × Str × Str × Unit → Option (Option (List Str)) := fun (g : (List (T3 Str Str Str)) × Str × Str × Unit) => (Option.bind (Option.bind (some g.2.1) fun (t2 : Str) => Option.bind (some [g.2.1]) fun (t3 : (List Str)) => some (⟨[(t2, t3)]⟩ : (Dct Str (List Str)))) fun (ways_1 : (Dct Str (List Str))) => (Option.bind (some [g.2.1]) fun (todo_4 : (List Str)) => (Option.bind (some (0 : Int)) fun (at_5 : Int) => (thenF (S := ((Dct Str (List Str)) × (List Str) × Int)) (ρ := (Option (List Str))) (whileF (S := ((Dct Str (List Str)) × (List Str) × Int)) (ρ := (Option (List Str))) (b_chain_of_3) (b_chain_of_2 g) 1000000 (ways_1, todo_4, at_5)) (fun (s23 : ((Dct Str (List Str)) × (List Str) × Int)) => (some (none : (Option (List Str))))) (fun v => some v) (fun _ => none) (fun _ => none)))))
def m__law_card : Int × Int × Unit → Option Str := fun (g : Int × Int × Unit) => (Option.bind (some ((1 : Int) + (g.1 % 11))) fun (many_1 : Int) => (Option.bind (imod (g.1 / 11) many_1) fun (at_2 : Int) => (Option.bind (Option.bind (sMul ("q" : Str) at_2) fun (t3 : Str) => Option.bind (sAt ("abcdefghij" : Str) g.2.1) fun (t4 : Str) => (sAdd t3 t4)) fun (t9 : Str) => Option.bind (Option.bind (some ("q" : Str)) fun (t7 : Str) => Option.bind (Option.bind (some ((many_1 - (1 : Int)) - at_2)) fun (t5 : Int) => Option.bind (imul ((g.1 / 121) % 2) (g.2.1 % 2)) fun (t6 : Int) => some (t5 + t6)) fun (t8 : Int) => (sMul t7 t8)) fun (t10 : Str) => (sAdd t9 t10))))
def m__law_fact : Int × Int × Int × Bool × Unit → Option (T3 Str Str Str) := fun (g : Int × Int × Int × Bool × Unit) => (Option.bind (imod g.2.2.1 g.2.1) fun (i_1 : Int) => (Option.bind (Option.bind (Option.bind (some (i_1 + (1 : Int))) fun (t3 : Int) => Option.bind (imod (g.2.2.1 / 10) (g.2.1 - (1 : Int))) fun (t4 : Int) => some (t3 + t4)) fun (t5 : Int) => Option.bind (some g.2.1) fun (t6 : Int) => (imod t5 t6)) fun (j_2 : Int) => (Option.bind (some ((g.2.2.1 / 100) % 8)) fun (way_7 : Int) => (ifM (some (decide (((5 : Int) + (bint g.2.2.2.1)) < way_7))) (Option.bind (m__law_card (g.1, (i_1, ()))) fun (t8 : Str) => Option.bind (some ("mark" : Str)) fun (t9 : Str) => Option.bind (some ("x" : Str)) fun (t10 : Str) => some (⟨t8, t9, t10⟩ : (T3 Str Str Str))) (Option.bind (some ("same" : Str)) fun (field_11 : Str) => (Option.bind (ifM (bAnd (some g.2.2.2.1) (some (decide ((4 : Int) < way_7)))) (Option.bind (some ("apart" : Str)) fun (field_13 : Str) => (some field_13)) (some field_11)) fun (s12 : Str) => (Option.bind (m__law_card (g.1, ((imin2 i_1 j_2), ()))) fun (t14 : Str) => Option.bind (some s12) fun (t15 : Str) => Option.bind (m__law_card (g.1, ((imax2 i_1 j_2), ()))) fun (t16 : Str) => some (⟨t14, t15, t16⟩ : (T3 Str Str Str)))))))))
def b__law_book_1  (s2 : (List (T3 Str Str Str))) (x3 : (T3 Str Str Str)) : (Option (List (T3 Str Str Str))) := (ifM (bOr (some (decide ((s2.length : Int) = (0 : Int)))) (Option.bind (atI s2 (-(1 : Int))) fun (t4 : (T3 Str Str Str)) => Option.bind (some x3) fun (t5 : (T3 Str Str Str)) => some (!decide (t4 = t5)))) (Option.bind (Option.bind (some x3) fun (t7 : (T3 Str Str Str)) => (lApp s2 t7)) fun (book_here_6 : (List (T3 Str Str Str))) => (some book_here_6)) (some s2))
def m__law_book : (List (T3 Str Str Str)) × Unit → Option (List (T3 Str Str Str)) := fun (g : (List (T3 Str Str Str)) × Unit) => (Option.bind (some ([] : (List (T3 Str Str Str)))) fun (book_here_1 : (List (T3 Str Str Str))) => (Option.bind (Option.bind (sSort g.1) fun (xs8 : List (T3 Str Str Str)) => forS (S := (List (T3 Str Str Str))) (b__law_book_1) xs8 book_here_1) fun (s9 : (List (T3 Str Str Str))) => (some s9)))
def b__law_labels_1 (old_20 : Str) (x16 : (T3 Str Str Str)) (s21 : (Dct Str Str)) (x22 : Str) : (Option (Dct Str Str)) := (ifM (Option.bind (dGet s21.l x22) fun (t23 : Str) => Option.bind (some old_20) fun (t24 : Str) => some (decide (t23 = t24))) (Option.bind (Option.bind (dGet s21.l x16.c) fun (t26 : Str) => Option.bind (some x22) fun (t27 : Str) => (dSet s21 t27 t26)) fun (labels_here_25 : (Dct Str Str)) => (some labels_here_25)) (some s21))
def b__law_labels_2  (s15 : (Dct Str Str)) (x16 : (T3 Str Str Str)) : (Option (Dct Str Str)) := (ifM (some (decide (x16.b = ("same" : Str)))) (Option.bind (dGet s15.l x16.a) fun (old_20 : Str) => (Option.bind (Option.bind (some (s15.l.map (·.1))) fun (xs28 : List Str) => forS (S := (Dct Str Str)) (b__law_labels_1 old_20 x16) xs28 s15) fun (s29 : (Dct Str Str)) => (some s29))) (some s15))
def b__law_labels_3  (s2 : (Dct Str Str)) (x3 : (T3 Str Str Str)) : (Option (Dct Str Str)) := (Option.bind (Option.bind (some x3.a) fun (t8 : Str) => Option.bind (some x3.a) fun (t9 : Str) => (dSet s2 t9 t8)) fun (labels_here_7 : (Dct Str Str)) => (ifM (some (decide (x3.b ∈ (⟨[("same" : Str), ("apart" : Str)]⟩ : (Tl Str)).l))) (Option.bind (Option.bind (some x3.c) fun (t11 : Str) => Option.bind (some x3.c) fun (t12 : Str) => (dSet labels_here_7 t12 t11)) fun (labels_here_10 : (Dct Str Str)) => (some labels_here_10)) (some labels_here_7)))
def m__law_labels : (List (T3 Str Str Str)) × Unit → Option (Dct Str Str) := fun (g : (List (T3 Str Str Str)) × Unit) => (Option.bind (some (⟨[]⟩ : (Dct Str Str))) fun (labels_here_1 : (Dct Str Str)) => (Option.bind (Option.bind (some g.1) fun (xs13 : List (T3 Str Str Str)) => forS (S := (Dct Str Str)) (b__law_labels_3) xs13 labels_here_1) fun (s14 : (Dct Str Str)) => (Option.bind (Option.bind (some g.1) fun (xs30 : List (T3 Str Str Str)) => forS (S := (Dct Str Str)) (b__law_labels_2) xs30 s14) fun (s31 : (Dct Str Str)) => (some s31))))
def m__law_is_told : (List (T3 Str Str Str)) × Str × Str × Unit → Option Bool := fun (g : (List (T3 Str Str Str)) × Str × Str × Unit) => (bOr (some (decide ((⟨g.2.1, ("same" : Str), g.2.2.1⟩ : (T3 Str Str Str)) ∈ g.1))) (some (decide ((⟨g.2.2.1, ("same" : Str), g.2.1⟩ : (T3 Str Str Str)) ∈ g.1))))
def b__law_rounds_1 (s3 : ((List Str) × Int)) (g : ((List (T3 Str Str Str)) × (List Str) × Str × Str × Unit)) (s5 : (List Str)) (x6 : Str) : (Option (List Str)) := (ifM (bAnd (some (!decide (x6 ∈ s3.1))) (Option.bind (Option.bind (some s3.1) fun (xs8 : List Str) => lcG (fun (x7 : Str) => (some true)) (fun (x7 : Str) => (m__law_is_told (g.1, (x6, (x7, ()))))) xs8) fun (t9 : (List Bool)) => some (t9.any id))) (Option.bind (Option.bind (some x6) fun (t11 : Str) => (lApp s5 t11)) fun (new_10 : (List Str)) => (some new_10)) (some s5))
def b__law_rounds_2 (g : ((List (T3 Str Str Str)) × (List Str) × Str × Str × Unit)) (s3 : ((List Str) × Int)) : (Option ((List Str) × Int)) := (Option.bind (some ([] : (List Str))) fun (new_4 : (List Str)) => (Option.bind (Option.bind (some g.2.1) fun (xs12 : List Str) => forS (S := (List Str)) (b__law_rounds_1 s3 g) xs12 new_4) fun (s13 : (List Str)) => (Option.bind (lCat s3.1 s13) fun (seen_14 : (List Str)) => (Option.bind (some (s3.2 + (1 : Int))) fun (rounds_here_15 : Int) => (some (seen_14, rounds_here_15))))))
def b__law_rounds_3 (g : ((List (T3 Str Str Str)) × (List Str) × Str × Str × Unit)) (s3 : ((List Str) × Int)) : (Option Bool) := (some (!decide (g.2.2.2.1 ∈ s3.1)))
def m__law_rounds : (List (T3 Str Str Str)) × (List Str) × Str × Str × Unit → Option Int := fun (g : (List (T3 Str Str Str)) × (List Str) × Str × Str × Unit) => (Option.bind (some [g.2.2.1]) fun (seen_1 : (List Str)) => (Option.bind (some (1 : Int)) fun (rounds_here_2 : Int) => (Option.bind (whileS (S := ((List Str) × Int)) (b__law_rounds_3 g) (b__law_rounds_2 g) 1000000 (seen_1, rounds_here_2)) fun (s16 : ((List Str) × Int)) => (some s16.2))))
def b_root_of_1 (g : ((Dct Str Str) × Str × Unit)) (s1 : Str) : (Option Str) := (Option.bind (dGet g.1.l s1) fun (card_4 : Str) => (some card_4))
def b_root_of_2 (g : ((Dct Str Str) × Str × Unit)) (s1 : Str) : (Option Bool) := (Option.bind (dGet g.1.l s1) fun (t2 : Str) => Option.bind (some s1) fun (t3 : Str) => some (!decide (t2 = t3)))
def m_root_of : (Dct Str Str) × Str × Unit → Option Str := fun (g : (Dct Str Str) × Str × Unit) => (Option.bind (whileS (S := Str) (b_root_of_2 g) (b_root_of_1 g) 1000000 g.2.1) fun (s5 : Str) => (some s5))
def b_parents_of_1  (s9 : (Dct Str Str)) (x10 : (T3 Str Str Str)) : (Option (Dct Str Str)) := (ifM (some (decide (x10.b = ("same" : Str)))) (Option.bind (Option.bind (m_root_of (s9, (x10.c, ()))) fun (t15 : Str) => Option.bind (m_root_of (s9, (x10.a, ()))) fun (t16 : Str) => (dSet s9 t16 t15)) fun (parents_14 : (Dct Str Str)) => (some parents_14)) (some s9))
def b_parents_of_2  (s2 : (Dct Str Str)) (x3 : Str) : (Option (Dct Str Str)) := (Option.bind (Option.bind (some x3) fun (t5 : Str) => Option.bind (some x3) fun (t6 : Str) => (dSet s2 t6 t5)) fun (parents_4 : (Dct Str Str)) => (some parents_4))
def m_parents_of : (List (T3 Str Str Str)) × Unit → Option (Dct Str Str) := fun (g : (List (T3 Str Str Str)) × Unit) => (Option.bind (some (⟨[]⟩ : (Dct Str Str))) fun (parents_1 : (Dct Str Str)) => (Option.bind (Option.bind (m_cards_of (g.1, ())) fun (xs7 : List Str) => forS (S := (Dct Str Str)) (b_parents_of_2) xs7 parents_1) fun (s8 : (Dct Str Str)) => (Option.bind (Option.bind (some g.1) fun (xs17 : List (T3 Str Str Str)) => forS (S := (Dct Str Str)) (b_parents_of_1) xs17 s8) fun (s18 : (Dct Str Str)) => (some s18))))
def b_blocks_of_1 (parents_1 : (Dct Str Str)) (s12 : (Dct Str (List Str))) (x13 : Str) : (Option (Dct Str (List Str))) := (Option.bind (Option.bind (m_root_of (parents_1, (x13, ()))) fun (t15 : Str) => Option.bind (some x13) fun (t16 : Str) => (ddApp s12 t15 t16)) fun (found_14 : (Dct Str (List Str))) => (some found_14))
def b_blocks_of_2 (parents_1 : (Dct Str Str)) (s2 : Unit) (x3 : (T3 Str Str Str)) : (Option Unit) := (ifM (bAnd (some (decide (x3.b = ("apart" : Str)))) (Option.bind (m_root_of (parents_1, (x3.a, ()))) fun (t7 : Str) => Option.bind (m_root_of (parents_1, (x3.c, ()))) fun (t8 : Str) => some (decide (t7 = t8)))) (none : Option Unit) (some ()))
def m_blocks_of : (List (T3 Str Str Str)) × Unit → Option (List (List Str)) := fun (g : (List (T3 Str Str Str)) × Unit) => (Option.bind (m_parents_of (g.1, ())) fun (parents_1 : (Dct Str Str)) => (Option.bind (Option.bind (some g.1) fun (xs9 : List (T3 Str Str Str)) => forS (S := Unit) (b_blocks_of_2 parents_1) xs9 ()) fun (s10 : Unit) => (Option.bind (some (⟨[]⟩ : (Dct Str (List Str)))) fun (found_11 : (Dct Str (List Str))) => (Option.bind (Option.bind (m_cards_of (g.1, ())) fun (xs17 : List Str) => forS (S := (Dct Str (List Str))) (b_blocks_of_1 parents_1) xs17 found_11) fun (s18 : (Dct Str (List Str))) => (Option.bind (some ((⟨s18.l⟩ : Kd Str (List Str)).l.map (·.2))) fun (xs20 : List (List Str)) => lcG (fun (x19 : (List Str)) => (some true)) (fun (x19 : (List Str)) => (some x19)) xs20)))))
def b__law_due_1 (g : ((Dct Str Str) × Unit)) (x4 : Str) (x6 : Str) : (Option Bool) := (Option.bind (dGet g.1.l x6) fun (t7 : Str) => Option.bind (dGet g.1.l x4) fun (t8 : Str) => some (decide (t7 = t8)))
def b__law_due_2 (g : ((Dct Str Str) × Unit)) (s3 : ((List Str) × (List (List Str)))) (x4 : Str) : (Option ((List Str) × (List (List Str)))) := (ifM (some (!decide (x4 ∈ s3.1))) (Option.bind (Option.bind (dSrt g.1) fun (xs9 : List Str) => lcG (b__law_due_1 g x4) (fun (x6 : Str) => (some x6)) xs9) fun (block_5 : (List Str)) => (Option.bind (lCat s3.1 block_5) fun (seen_10 : (List Str)) => (Option.bind (Option.bind (some block_5) fun (t12 : (List Str)) => (lApp s3.2 t12)) fun (due_here_11 : (List (List Str))) => (some (seen_10, due_here_11))))) (some (s3.1, s3.2)))
def m__law_due : (Dct Str Str) × Unit → Option (List (List Str)) := fun (g : (Dct Str Str) × Unit) => (Option.bind (some ([] : (List (List Str)))) fun (due_here_1 : (List (List Str))) => (Option.bind (some ([] : (List Str))) fun (seen_2 : (List Str)) => (Option.bind (Option.bind (dSrt g.1) fun (xs13 : List Str) => forS (S := ((List Str) × (List (List Str)))) (b__law_due_2 g) xs13 (seen_2, due_here_1)) fun (s14 : ((List Str) × (List (List Str)))) => (some s14.2))))
def b__law_is_blocks_1  (s3 : Unit) (x4 : Str) : (Option (Fl Unit Bool)) := (ifM (some (!true)) (some (Fl.rt false)) (some (Fl.nx ())))
def b__law_is_blocks_2  (s1 : Unit) (x2 : (List Str)) : (Option (Fl Unit Bool)) := (ifM (bOr (some (!true)) (some (decide ((x2.length : Int) = (0 : Int))))) (some (Fl.rt false)) (thenF (S := Unit) (ρ := Bool) (Option.bind (some x2) fun (xs5 : List Str) => forF (S := Unit) (ρ := Bool) (b__law_is_blocks_1) xs5 ()) (fun (s6 : Unit) => (some (Fl.nx ()))) (fun v => some (Fl.rt v)) (fun _ => none) (fun _ => none)))
def m__law_is_blocks : (List (List Str)) × Unit → Option Bool := fun (g : (List (List Str)) × Unit) => (ifM (some (!true)) (some false) (thenF (S := Unit) (ρ := Bool) (Option.bind (some g.1) fun (xs7 : List (List Str)) => forF (S := Unit) (ρ := Bool) (b__law_is_blocks_2) xs7 ()) (fun (s8 : Unit) => (some true)) (fun v => some v) (fun _ => none) (fun _ => none)))
end GC

namespace GC
open PySem PySem.StrLaws TL L2 FK MS
abbrev F3 := T3 Str Str Str
def fp (x : Str) (p : F3) (y : Str) : Prop := p.b = ("same" : Str) ∧ ((p.a = x ∧ p.c = y) ∨ (p.c = x ∧ p.a = y))
def Ed (bk : List F3) (x y : Str) : Prop := ∃ p ∈ bk, fp x p y
/-! ### the way -/
variable {bk : List F3} {U : List Str} {one : Str} {k : Nat}
/-- what chain_of must tell -/
def Good (bk : List F3) (U : List Str) (one other : Str) (r : Option (List Str)) : Prop := match r with
  | none => ∀ n, ¬ Wk (Ed bk) one n other
  | some p => Pth (Ed bk) one p other ∧ p.length ≤ U.length ∧ ∀ n, Wk (Ed bk) one n other → p.length ≤ n + 1
/-! ### rounds -/
def tb (bk : List F3) (x y : Str) : Bool := decide ((⟨x, ("same" : Str), y⟩ : F3) ∈ bk) || decide ((⟨y, ("same" : Str), x⟩ : F3) ∈ bk)
theorem Ed.symm {x y : Str} (h : Ed bk x y) : Ed bk y x := by
  obtain ⟨p, hp, hb, h | h⟩ := h
  · exact ⟨p, hp, hb, .inr ⟨h.2, h.1⟩⟩
  · exact ⟨p, hp, hb, .inl ⟨h.2, h.1⟩⟩
def nw (bk : List F3) (seen : List Str) (x : Str) : Bool := !decide (x ∈ seen) && (seen.map fun u => tb bk x u).any id
/-! ### labels -/
theorem keys_put {κ α : Type} [Py κ] [DecidableEq κ] [Kq κ] [Py α] (l : List (κ × α)) (k : κ) (a : α) : (dPut l k a).map (·.1) = if (dGet l k).isSome = true then l.map (·.1) else l.map (·.1) ++ [k] := by
  unfold dPut
  rw [any_has]
  split
  · rw [List.map_map]
    refine List.map_congr_left fun p _ => ?_
    show (if p.1 = k then (p.1, a) else p).1 = p.1
    split <;> rfl
  · rw [List.map_append]
    rfl
theorem has_iff {κ α : Type} [Py κ] [DecidableEq κ] [Kq κ] [Py α] : ∀ (l : List (κ × α)) (k : κ), (dGet l k).isSome = true ↔ k ∈ l.map (·.1)
  | [], k => by simp [dGet]
  | p :: l, k => by
    rw [dget_cons, List.map_cons, List.mem_cons]
    by_cases h : p.1 = k
    · rw [if_pos h]
      exact ⟨fun _ => .inl h.symm, fun _ => rfl⟩
    · rw [if_neg h, has_iff l k]
      exact ⟨.inr, fun c => c.resolve_left fun e => h e.symm⟩
def re (old new v : Str) : Str := if v = old then new else v
def Cn (bk : List F3) (x y : Str) : Prop := ∃ n, Wk (Ed bk) x n y
theorem Cn.refl (bk : List F3) (x : Str) : Cn bk x x := ⟨0, .nil⟩
theorem Cn.step {x y z : Str} (h : Cn bk x y) (e : Ed bk y z) : Cn bk x z := by
  obtain ⟨n, h⟩ := h
  exact ⟨n + 1, h.snoc e⟩
theorem Cn.rec' {x : Str} {P : Str → Prop} (h0 : P x) (st : ∀ y z, P y → Ed bk y z → P z) {y : Str} (h : Cn bk x y) : P y := by
  obtain ⟨n, h⟩ := h
  induction h with
  | nil => exact h0
  | snoc _ e ih => exact st _ _ ih e
theorem Cn.trans {x y z : Str} (h : Cn bk x y) (k : Cn bk y z) : Cn bk x z := k.rec' (P := fun z => Cn bk x z) h fun _ _ h e => h.step e
theorem Cn.symm {x y : Str} (h : Cn bk x y) : Cn bk y x := h.rec' (P := fun y => Cn bk y x) (.refl _ _) fun _ _ h e => ((Cn.refl _ _).step e.symm).trans h
theorem Cn.mono {bk2 : List F3} (s : ∀ p ∈ bk, p ∈ bk2) {x y : Str} (h : Cn bk x y) : Cn bk2 x y := h.rec' (P := fun y => Cn bk2 x y) (.refl _ _) fun _ _ h ⟨p, hp, e⟩ => h.step ⟨p, s p hp, e⟩
theorem cn_snoc {p : F3} {x y : Str} : Cn (bk ++ [p]) x y ↔ Cn bk x y ∨ (p.b = ("same" : Str) ∧ ((Cn bk x p.a ∧ Cn bk p.c y) ∨ (Cn bk x p.c ∧ Cn bk p.a y))) := by
  constructor
  · intro h
    refine h.rec' (P := fun y => Cn bk x y ∨ (p.b = ("same" : Str) ∧ ((Cn bk x p.a ∧ Cn bk p.c y) ∨ (Cn bk x p.c ∧ Cn bk p.a y)))) (.inl (.refl _ _)) fun y z ih ⟨q, hq, e⟩ => ?_
    rcases List.mem_append.mp hq with hq | hq
    · have e : Ed bk y z := ⟨q, hq, e⟩
      rcases ih with ih | ⟨hb, ⟨h1, h2⟩ | ⟨h1, h2⟩⟩
      · exact .inl (ih.step e)
      · exact .inr ⟨hb, .inl ⟨h1, h2.step e⟩⟩
      · exact .inr ⟨hb, .inr ⟨h1, h2.step e⟩⟩
    · have hq := List.mem_singleton.mp hq
      subst hq
      obtain ⟨hb, ⟨rfl, rfl⟩ | ⟨rfl, rfl⟩⟩ := e
      · rcases ih with ih | ⟨_, ⟨h1, h2⟩ | ⟨h1, h2⟩⟩
        · exact .inr ⟨hb, .inl ⟨ih, .refl _ _⟩⟩
        · exact .inr ⟨hb, .inl ⟨h1, .refl _ _⟩⟩
        · exact .inl h1
      · rcases ih with ih | ⟨_, ⟨h1, h2⟩ | ⟨h1, h2⟩⟩
        · exact .inr ⟨hb, .inr ⟨ih, .refl _ _⟩⟩
        · exact .inl h1
        · exact .inr ⟨hb, .inr ⟨h1, .refl _ _⟩⟩
  · have sub : ∀ q ∈ bk, q ∈ bk ++ [p] := fun q hq => List.mem_append_left _ hq
    rintro (h | ⟨hb, ⟨h1, h2⟩ | ⟨h1, h2⟩⟩)
    · exact h.mono sub
    · exact ((h1.mono sub).step ⟨p, List.mem_append_right _ (List.mem_singleton.mpr rfl), hb, .inl ⟨rfl, rfl⟩⟩).trans (h2.mono sub)
    · exact ((h1.mono sub).step ⟨p, List.mem_append_right _ (List.mem_singleton.mpr rfl), hb, .inr ⟨rfl, rfl⟩⟩).trans (h2.mono sub)
def keys (d : Dct Str Str) : List Str := d.l.map (·.1)
def LB (bk : List F3) (d : Dct Str Str) : Prop := ∀ x y, x ∈ keys d → y ∈ keys d → (dGet d.l x = dGet d.l y ↔ Cn bk x y)
def LS (U : List Str) (d : Dct Str Str) : Prop := (∀ z v, dGet d.l z = some v → v = z) ∧ (keys d).Nodup ∧ ∀ z ∈ keys d, z ∈ U
theorem LS.len {U : List Str} {d : Dct Str Str} (h : LS U d) : d.l.length ≤ U.length := by
  have := nodup_le' h.2.1 h.2.2
  unfold keys at this
  rwa [List.length_map] at this
theorem LS.put {U : List Str} {d : Dct Str Str} {z : Str} (h : LS U d) (hz : z ∈ U) : LS U ⟨dPut d.l z z⟩ ∧ z ∈ keys ⟨dPut d.l z z⟩ ∧ ∀ x ∈ keys d, x ∈ keys ⟨dPut d.l z z⟩ := by
  have e : keys ⟨dPut d.l z z⟩ = if (dGet d.l z).isSome = true then keys d else keys d ++ [z] := keys_put d.l z z
  refine ⟨⟨fun x v hv => ?_, ?_, ?_⟩, ?_, ?_⟩
  · have hv : dGet (dPut d.l z z) x = some v := hv
    rw [dget_put] at hv
    by_cases c : x = z
    · rw [if_pos c] at hv
      cases hv
      exact c.symm
    · rw [if_neg c] at hv
      exact h.1 x v hv
  · rw [e]
    split
    · exact h.2.1
    · rename_i c
      rw [List.nodup_append]
      refine ⟨h.2.1, List.nodup_cons.mpr ⟨List.not_mem_nil, .nil⟩, fun u hu v hv ee => ?_⟩
      rw [List.mem_singleton.mp hv] at ee
      exact c ((has_iff d.l z).mpr (ee ▸ hu))
  · rw [e]
    split
    · exact h.2.2
    · intro x hx
      rcases List.mem_append.mp hx with hx | hx
      · exact h.2.2 x hx
      · rw [List.mem_singleton.mp hx]; exact hz
  · rw [e]
    split
    · rename_i c
      exact (has_iff d.l z).mp c
    · exact List.mem_append_right _ (List.mem_singleton.mpr rfl)
  · intro x hx
    rw [e]
    split
    · exact hx
    · exact List.mem_append_left _ hx
/-! ### facts -/
theorem mul_len (n : Int) (h : n ≤ 100) : (Txt.mul ("q" : Str) n).length ≤ 100 := by
  have := PyProof.Rows.len_mul_leN (x := ("q" : Str)) (n := n) (L := 1) (N := 100) (by decide) h
  omega
theorem card_ok (c k : Int) (h0 : 0 ≤ k) (h1 : k < 10) : Ok (m__law_card (c, (k, ()))) fun _ => True := by
  have hm : 0 < (1 : Int) + c % 11 := by omega
  unfold m__law_card
  simp only [bs, bsr, Option.bind_assoc]
  refine (okMod hm).bind fun a ha => ?_
  obtain ⟨_, a0, a1⟩ := ha
  have q1 : ("q" : Str).length ≤ 4000 := by decide
  have e1 : sMul ("q" : Str) a = some (Txt.mul ("q" : Str) a) := if_pos ⟨q1, by omega, by omega⟩
  rw [e1]
  simp only [bs]
  refine (okSAt h0 (by show k < (("abcdefghij" : Str).length : Int); rw [show ("abcdefghij" : Str).length = 10 from by decide]; omega) (by decide)).bind fun z hz => ?_
  obtain ⟨cz, _, hz⟩ := hz
  have hl := mul_len a (by omega)
  have hz1 : z.length = 1 := by rw [hz]; rfl
  refine (okAdd (by omega)).bind fun y hy => ?_
  refine (okMul (.inr (by omega))).bind fun m hm2 => ?_
  have hm3 : m ≤ 1 ∧ 0 ≤ m := by
    rw [hm2]
    have h2 : c / 121 % 2 = 0 ∨ c / 121 % 2 = 1 := by omega
    have h3 : k % 2 = 0 ∨ k % 2 = 1 := by omega
    rcases h2 with h2 | h2 <;> rcases h3 with h3 | h3 <;> rw [h2, h3] <;> decide
  have e2 : sMul ("q" : Str) ((1 : Int) + c % 11 - 1 - a + m) = some (Txt.mul ("q" : Str) ((1 : Int) + c % 11 - 1 - a + m)) := if_pos ⟨q1, by omega, by omega⟩
  rw [e2]
  simp only [bs]
  have hl2 := mul_len ((1 : Int) + c % 11 - 1 - a + m) (by omega)
  exact (okAdd (by rw [hy.2]; omega)).any
def Us (c : Int) : List Str := (List.range 10).map fun (k : Nat) => (m__law_card (c, ((k : Int), ()))).getD ("" : Str)
theorem card_in (c k : Int) (h0 : 0 ≤ k) (h1 : k < 10) : Ok (m__law_card (c, (k, ()))) fun z => z ∈ Us c := by
  obtain ⟨z, e, _⟩ := card_ok c k h0 h1
  refine ⟨z, e, ?_⟩
  show z ∈ Us c
  unfold Us
  rw [List.mem_map]
  refine ⟨k.toNat, List.mem_range.mpr (by omega), ?_⟩
  rw [Int.toNat_of_nonneg h0, e]
  rfl
def PU (c : Int) (p : F3) : Prop := p.a ∈ Us c ∧ (p.b ∈ [("same" : Str), ("apart" : Str)] → p.c ∈ Us c)
theorem mark_out : ¬ ("mark" : Str) ∈ [("same" : Str), ("apart" : Str)] := by decide
theorem fact_ok (c many w : Int) (b : Bool) (h2 : 2 ≤ many) (h10 : many ≤ 10) : Ok (m__law_fact (c, (many, (w, (b, ()))))) (PU c) := by
  unfold m__law_fact
  simp only [bs, bsr, Option.bind_assoc]
  refine (okMod (by omega)).bind fun i hi => ?_
  refine (okMod (by omega)).bind fun j0 hj0 => ?_
  refine (okMod (by omega)).bind fun j hj => ?_
  refine .ifd (fun _ => ?_) fun _ => ?_
  · refine (card_in c i (by omega) (by omega)).bind fun z hz => ?_
    exact .ret ⟨hz, fun h => absurd h mark_out⟩
  · have hmin : 0 ≤ imin2 i j ∧ imin2 i j < 10 := by unfold imin2; split <;> omega
    have hmax : 0 ≤ imax2 i j ∧ imax2 i j < 10 := by unfold imax2; split <;> omega
    have fin : ∀ f : Str, Ok (Option.bind (m__law_card (c, ((imin2 i j), ()))) fun t14 => Option.bind (m__law_card (c, ((imax2 i j), ()))) fun t16 => some (⟨t14, f, t16⟩ : F3)) (PU c) := fun f => by
      refine (card_in c _ hmin.1 hmin.2).bind fun z hz => ?_
      refine (card_in c _ hmax.1 hmax.2).bind fun y hy => ?_
      exact .ret ⟨hz, fun _ => hy⟩
    refine Ok.bind (P := fun _ => True) ?_ fun f _ => fin f
    unfold bAnd ifM
    simp only [bs]
    cases b <;> simp only [Bool.false_eq_true, if_false, if_true, bs]
    · exact .ret trivial
    · split
      · exact .ret trivial
      · exact .ret trivial
end GC

/-! blocks: cards joined by parents; groups of a list by a relation -/
namespace GC
open PySem PySem.StrLaws TL L2 FK MS
inductive Up (P : List (Str × Str)) : Str → Nat → Str → Prop
  | root {x : Str} : dGet P x = some x → Up P x 0 x
  | step {x y r : Str} {n : Nat} : dGet P x = some y → y ≠ x → Up P y n r → Up P x (n + 1) r
theorem Up.fn {P : List (Str × Str)} {x r s : Str} {n m : Nat} (h : Up P x n r) : Up P x m s → r = s := by
  induction h generalizing m s with
  | root e =>
    intro k
    cases k with
    | root e2 => rfl
    | step e2 ne _ =>
      rw [e] at e2
      cases e2
      exact absurd rfl ne
  | step e ne _ ih =>
    intro k
    cases k with
    | root e2 =>
      rw [e] at e2
      cases e2
      exact absurd rfl ne
    | step e2 _ k2 =>
      rw [e] at e2
      cases e2
      exact ih k2
theorem Up.isRoot {P : List (Str × Str)} {x r : Str} {n : Nat} (h : Up P x n r) : dGet P r = some r := by
  induction h with
  | root e => exact e
  | step _ _ _ ih => exact ih
/-- a root put below another one -/
theorem Up.put {P : List (Str × Str)} {a c : Str} (ha : dGet P a = some a) (hc : dGet P c = some c) (ne : a ≠ c) {x r : Str} {n : Nat} (h : Up P x n r) : (r ≠ a → Up (dPut P a c) x n r) ∧ (r = a → Up (dPut P a c) x (n + 1) c) := by
  have hc' : dGet (dPut P a c) c = some c := by
    rw [dget_put, if_neg (Ne.symm ne)]
    exact hc
  induction h with
  | @root x e =>
    refine ⟨fun z => .root ?_, fun z => ?_⟩
    · rw [dget_put, if_neg z]
      exact e
    · rw [z]
      refine .step (y := c) ?_ (Ne.symm ne) (.root hc')
      rw [dget_put, if_pos rfl]
  | @step x y r n e ney _ ih =>
    have xa : x ≠ a := fun z => by
      rw [z, ha] at e
      cases e
      exact ney z.symm
    have e' : dGet (dPut P a c) x = some y := by
      rw [dget_put, if_neg xa]
      exact e
    exact ⟨fun z => .step e' ney (ih.1 z), fun z => .step e' ney (ih.2 z)⟩
/-- each card is led to a root; two to the same one just where they are joined -/
def Led (C : List Str) (pre : List F3) (k : Nat) (P : List (Str × Str)) : Prop :=
  (∀ x ∈ C, ∃ n r, n ≤ k ∧ r ∈ C ∧ Up P x n r) ∧ ∀ x ∈ C, ∀ y ∈ C, ∀ n r m s, Up P x n r → Up P y m s → (r = s ↔ Cn pre x y)
theorem Led.no {C : List Str} {pre : List F3} {k : Nat} {P : List (Str × Str)} (h : Led C pre k P) {f : F3} (hf : f.b ≠ "same") : Led C (pre ++ [f]) (k + 1) P :=
  ⟨fun x hx => let ⟨n, r, a, b, c⟩ := h.1 x hx; ⟨n, r, by omega, b, c⟩, fun x hx y hy n r m s u v => (h.2 x hx y hy n r m s u v).trans (cn_snoc.trans ⟨fun z => z.elim id fun z => absurd z.1 hf, .inl⟩).symm⟩
theorem Led.join {C : List Str} {pre : List F3} {k : Nat} {P : List (Str × Str)} (h : Led C pre k P) {f : F3} (hf : f.b = "same") {n m : Nat} {a c : Str} (hfa : f.a ∈ C) (hfc : f.c ∈ C) (ua : Up P f.a n a) (uc : Up P f.c m c) (hc : c ∈ C) : Led C (pre ++ [f]) (k + 1) (dPut P a c) := by
  have ra := ua.isRoot
  have rc := uc.isRoot
  by_cases e : a = c
  · subst e
    have same : ∀ z, dGet (dPut P a a) z = dGet P z := fun z => by
      rw [dget_put]
      split
      · rename_i e
        rw [e, ra]
      · rfl
    have up : ∀ {x r : Str} {n : Nat}, Up P x n r → Up (dPut P a a) x n r := fun {x r n} u => by
      induction u with
      | root e => exact .root (by rw [same]; exact e)
      | step e ne _ ih => exact .step (by rw [same]; exact e) ne ih
    have up' : ∀ {x r : Str} {n : Nat}, Up (dPut P a a) x n r → Up P x n r := fun {x r n} u => by
      induction u with
      | root e => exact .root (by rw [← same]; exact e)
      | step e ne _ ih => exact .step (by rw [← same]; exact e) ne ih
    have j : Cn pre f.a f.c := (h.2 _ hfa _ hfc _ _ _ _ ua uc).mp rfl
    refine ⟨fun x hx => let ⟨n, r, q1, q2, q3⟩ := h.1 x hx; ⟨n, r, by omega, q2, up q3⟩, fun x hx y hy n r m s u v => (h.2 x hx y hy n r m s (up' u) (up' v)).trans (cn_snoc.trans ⟨fun z => z.elim id fun z => ?_, .inl⟩).symm⟩
    rcases z.2 with ⟨z1, z2⟩ | ⟨z1, z2⟩
    · exact (z1.trans j).trans z2
    · exact (z1.trans j.symm).trans z2
  · have lead : ∀ x ∈ C, ∃ n r, n ≤ k ∧ r ∈ C ∧ Up P x n r ∧ ∃ n', n' ≤ k + 1 ∧ Up (dPut P a c) x n' (if r = a then c else r) := fun x hx => by
      obtain ⟨n, r, q1, q2, q3⟩ := h.1 x hx
      obtain ⟨p1, p2⟩ := q3.put ra rc e
      refine ⟨n, r, q1, q2, q3, ?_⟩
      by_cases z : r = a
      · rw [if_pos z]
        exact ⟨n + 1, by omega, p2 z⟩
      · rw [if_neg z]
        exact ⟨n, by omega, p1 z⟩
    refine ⟨fun x hx => ?_, fun x hx y hy n r m s u v => ?_⟩
    · obtain ⟨n, r, _, q2, _, n', q4, q5⟩ := lead x hx
      refine ⟨n', _, q4, ?_, q5⟩
      split
      · exact hc
      · exact q2
    · obtain ⟨n1, r1, _, _, x3, n1', _, x5⟩ := lead x hx
      obtain ⟨n2, r2, _, _, y3, n2', _, y5⟩ := lead y hy
      have er := u.fn x5
      have es := v.fn y5
      rw [er, es, cn_snoc]
      have k0 := h.2 x hx y hy _ _ _ _ x3 y3
      have kxa := h.2 x hx _ hfa _ _ _ _ x3 ua
      have kxc := h.2 x hx _ hfc _ _ _ _ x3 uc
      have kay := h.2 _ hfa y hy _ _ _ _ ua y3
      have kcy := h.2 _ hfc y hy _ _ _ _ uc y3
      rw [← k0, ← kxa, ← kxc, ← kay, ← kcy]
      simp only [hf, true_and]
      by_cases z1 : r1 = a <;> by_cases z2 : r2 = a <;> simp only [z1, z2, if_true, if_false] <;> constructor
      all_goals first
        | (intro w; simp_all; done)
        | (intro w; rcases w with w | ⟨w1, w2⟩ | ⟨w1, w2⟩ <;> simp_all; done)
        | (intro w; subst w; simp_all; done)
        | (intro w; right; simp_all [eq_comm]; done)
        | (intro w; rcases w with w | ⟨w1, w2⟩ | ⟨w1, w2⟩ <;> (subst_vars; simp_all [eq_comm]); done)
/-! ### groups of a list -/
def frs (r : Str → Str → Bool) : List Str → List Str → List Str
  | acc, [] => acc
  | acc, x :: l => frs r (if acc.any (fun c => r c x) = true then acc else acc ++ [x]) l
/-- the groups of C by r -/
def Bl (r : Str → Str → Bool) (C : List Str) : List (List Str) := (frs r [] C).map fun c => C.filter (r c)
end GC

/-! blocks_of and the law's own groups: the same -/
namespace MS
open FK
end MS
namespace GC
open PySem PySem.StrLaws TL L2 FK MS
/-- the blocks of a book with the cards C -/
noncomputable def Blocks (bk : List F3) (C : List Str) : List (List Str) := Bl (fun x y => dec (Cn bk x y)) C
end GC

namespace GE
open PySem PySem.StrLaws TL L2 FK MS GC
open G (m_cards_of)
def b_blocks_of_1 (parents_1 : (Dct Str Str)) (s16 : (Dct Str (List Str))) (x17 : Str) : (Option (Dct Str (List Str))) := (Option.bind (Option.bind (m_root_of (parents_1, (x17, ()))) fun (t19 : Str) => Option.bind (some x17) fun (t20 : Str) => (ddApp s16 t19 t20)) fun (found_18 : (Dct Str (List Str))) => (some found_18))
def b_blocks_of_2 (parents_1 : (Dct Str Str)) (g : ((List (T3 Str Str Str)) × Unit)) (s2 : Unit) (x3 : (T3 Str Str Str)) : (Option (Fl Unit (Rs (List (List Str))))) := (ifM (bAnd (some (decide (x3.b = ("apart" : Str)))) (Option.bind (m_root_of (parents_1, (x3.a, ()))) fun (t7 : Str) => Option.bind (m_root_of (parents_1, (x3.c, ()))) fun (t8 : Str) => some (decide (t7 = t8)))) (Option.bind (Option.bind (Option.bind (Option.bind (m_chain_of (g.1, (x3.a, (x3.c, ())))) fun (t9 : (Option (List Str))) => t9) fun (t10 : (List Str)) => some (⟨("Odds" : Str), Pd.pl ("chain" : Str) t10⟩ : Xv)) fun (t11 : Xv) => some (Rs.ex t11 : (Rs (List (List Str))))) fun (t12 : (Rs (List (List Str)))) => some (Fl.rt t12)) (some (Fl.nx ())))
def m_blocks_of : (List (T3 Str Str Str)) × Unit → Option (Rs (List (List Str))) := fun (g : (List (T3 Str Str Str)) × Unit) => (Option.bind (m_parents_of (g.1, ())) fun (parents_1 : (Dct Str Str)) => (thenF (S := Unit) (ρ := (Rs (List (List Str)))) (Option.bind (some g.1) fun (xs13 : List (T3 Str Str Str)) => forF (S := Unit) (ρ := (Rs (List (List Str)))) (b_blocks_of_2 parents_1 g) xs13 ()) (fun (s14 : Unit) => (Option.bind (some (⟨[]⟩ : (Dct Str (List Str)))) fun (found_15 : (Dct Str (List Str))) => (Option.bind (Option.bind (m_cards_of (g.1, ())) fun (xs21 : List Str) => forS (S := (Dct Str (List Str))) (b_blocks_of_1 parents_1) xs21 found_15) fun (s22 : (Dct Str (List Str))) => (Option.bind (Option.bind (some ((⟨s22.l⟩ : Kd Str (List Str)).l.map (·.2))) fun (xs24 : List (List Str)) => lcG (fun (x23 : (List Str)) => (some true)) (fun (x23 : (List Str)) => (some x23)) xs24) fun (t25 : (List (List Str))) => some (Rs.ok t25))))) (fun v => some v) (fun _ => none) (fun _ => none)))
end GE

/-! blocks, or the refusal Odds -/
namespace GE
open PySem PySem.StrLaws TL L2 FK MS GC
/-- a fact by which the book is at odds -/
noncomputable def bad (bk : List F3) (f : F3) : Bool := decide (f.b = "apart") && dec (Cn bk f.a f.c)
section
variable {bk : List F3} {C : List Str} {P : Dct Str Str}
end
/-- what is known of a book of these cards -/
structure Kn (bk : List F3) (C : List Str) (d : Dct Str Str) : Prop where
  cards : G.m_cards_of (bk, ()) = some C
  is : CardsIs bk C
  len : C.length ≤ 10
  lab : GC.m__law_labels (bk, ()) = some d
  dl : d.l.length ≤ 10
  keys : srt (keys d) = C
  lb : LB bk d
  has : ∀ p ∈ bk, p.a ∈ GC.keys d ∧ (p.b = "apart" → p.c ∈ GC.keys d)
  ed : ∀ x y, Ed bk x y → y ∈ C
  due : GC.m__law_due (d, ()) = some (Blocks bk C)
/-! ### the cards' order -/
def Pre (c : Int) : List Nat := tl (Txt.mul ("q" : Str) (c / 11 % (1 + c % 11)))
end GE

namespace K22
open PySem PySem.StrLaws TL L2 FK MS
open GR (no1)
open GU (RowOf Num rowT FLD SRT clsOf)
theorem cell_g : m__law_cell_at = G.m__law_cell_at := rfl
/-! ### a text of rows, of which one may be none -/
/-- what a row is: passed by; a fact; none -/
abbrev Kd := Option (Option Ru)
structure Rw (p : Str × Kd) : Prop where
  nl : 10 ∉ tl p.1
  len : p.1.length ≤ 150
  ps : m_is_passed_by (p.1, ()) = some p.2.isNone
  ok : ∀ f, p.2 = some (some f) → m_read_rule (p.1, ()) = some (.ok f)
  no : p.2 = some none → m_read_rule (p.1, ()) = some (.ex no1)
theorem rw_of {r : Str} {o : Option Ru} (h : GU.Rr (r, o)) : Rw (r, o.map some) where
  nl := h.nl
  len := Nat.le_trans h.len (by decide)
  ps := by
    have e := h.ps
    cases o <;> exact e
  ok f e := by
    cases o with
    | none => cases e
    | some g =>
      cases e
      exact h.ok f rfl
  no e := by
    cases o <;> cases e
def atRow (n : Int) : Xv := ⟨"NoRow", .int "row" n⟩
def fin : List (Str × Kd) → Nat → List Ru → Fl (List Ru) (Rs (List Ru))
  | [], _, acc => .nx acc
  | p :: rows, k, acc => match p.2 with
    | none => fin rows (k + 1) acc
    | some (some f) => fin rows (k + 1) (acc ++ [f])
    | some none => .rt (.ex (atRow ((k : Int) + 1)))
theorem loop_ok : ∀ (rows : List (Str × Kd)) (k : Nat) (acc : List Ru), (∀ p ∈ rows, Rw p) → acc.length + rows.length ≤ 1000 → forF b_read_rules_1 (enumF k (rows.map (·.1))) acc = some (fin rows k acc)
  | [], k, acc, _, _ => rfl
  | (r, kd) :: rows, k, acc, h, hl => by
    have hp := h _ List.mem_cons_self
    have hr : ∀ q ∈ rows, Rw q := fun q hq => h q (List.mem_cons_of_mem _ hq)
    rw [List.length_cons] at hl
    have ps := hp.ps
    show forF b_read_rules_1 (((k : Int), r) :: enumF (k + 1) (rows.map (·.1))) acc = _
    cases kd with
    | none =>
      have e : b_read_rules_1 acc ((k : Int), r) = some (.nx acc) := by
        unfold b_read_rules_1
        simp only [bs]
        rw [ps]
        rfl
      unfold forF
      rw [e]
      exact loop_ok rows (k + 1) acc hr (by omega)
    | some o =>
      cases o with
      | some f =>
        have e : b_read_rules_1 acc ((k : Int), r) = some (.nx (acc ++ [f])) := by
          unfold b_read_rules_1
          simp only [bs]
          rw [ps]
          show ifM (some (!false)) _ _ = _
          rw [nf, if_t]
          unfold m_rule_at tryR rsB
          simp only [bs]
          rw [hp.ok f rfl]
          simp only [bs]
          rw [app_eq _ _ (by omega)]
          rfl
        unfold forF
        rw [e]
        exact loop_ok rows (k + 1) (acc ++ [f]) hr (by rw [List.length_append, List.length_singleton]; omega)
      | none =>
        have e : b_read_rules_1 acc ((k : Int), r) = some (.rt (.ex (atRow ((k : Int) + 1)))) := by
          unfold b_read_rules_1
          simp only [bs]
          rw [ps]
          show ifM (some (!false)) _ _ = _
          rw [nf, if_t]
          unfold m_rule_at tryR rsB
          simp only [bs]
          rw [hp.no rfl]
          simp only [bs]
          rw [if_pos (show no1.c ∈ [("NoRow" : Str)] from List.mem_singleton.mpr rfl)]
          rfl
        unfold forF
        rw [e]
        rfl
theorem fin_good : ∀ (rows : List (Str × Option Ru)) (k : Nat) (acc : List Ru), fin (rows.map fun q => (q.1, q.2.map some)) k acc = .nx (acc ++ rows.filterMap (·.2))
  | [], k, acc => by
    rw [List.filterMap_nil, List.append_nil]
    rfl
  | (r, none) :: rows, k, acc => by
    show fin (rows.map _) (k + 1) acc = _
    rw [fin_good rows, List.filterMap_cons_none (f := fun x : Str × Option Ru => x.2) (a := (r, none)) rfl]
  | (r, some f) :: rows, k, acc => by
    show fin (rows.map _) (k + 1) (acc ++ [f]) = _
    rw [fin_good rows, List.filterMap_cons_some (f := fun x : Str × Option Ru => x.2) (a := (r, some f)) (b := f) rfl, List.append_assoc]
    rfl
theorem fin_bad (b : Str) (post : List (Str × Kd)) : ∀ (rows : List (Str × Option Ru)) (k : Nat) (acc : List Ru), fin (rows.map (fun q => (q.1, q.2.map some)) ++ (b, some none) :: post) k acc = .rt (.ex (atRow ((k : Int) + (rows.length : Int) + 1)))
  | [], k, acc => by
    show Fl.rt (Rs.ex (atRow ((k : Int) + 1))) = _
    rw [show (k : Int) + (([] : List (Str × Option Ru)).length : Int) + 1 = (k : Int) + 1 by simp]
  | (r, none) :: rows, k, acc => by
    show fin (rows.map _ ++ _) (k + 1) acc = _
    rw [fin_bad b post rows, show ((k + 1 : Nat) : Int) + (rows.length : Int) + 1 = (k : Int) + (((r, none) :: rows : List (Str × Option Ru)).length : Int) + 1 by rw [List.length_cons]; omega]
  | (r, some f) :: rows, k, acc => by
    show fin (rows.map _ ++ _) (k + 1) (acc ++ [f]) = _
    rw [fin_bad b post rows, show ((k + 1 : Nat) : Int) + (rows.length : Int) + 1 = (k : Int) + (((r, some f) :: rows : List (Str × Option Ru)).length : Int) + 1 by rw [List.length_cons]; omega]
theorem nl_tl : tl ("\n" : Str) = 10 :: [] := by decide +kernel
theorem join_ok (rows : List (Str × Kd)) (h : ∀ p ∈ rows, Rw p) (hn : rows.length ≤ 400) : sJoin ("\n" : Str) (rows.map (·.1)) = some (Txt.join "\n" (rows.map (·.1))) := by
  obtain ⟨z, e, hz⟩ := okJoin (x := ("\n" : Str)) (ys := rows.map (·.1)) (k := 150) (fun y hy => by
    obtain ⟨p, hp, rfl⟩ := List.mem_map.mp hy
    exact (h p hp).len) (by rw [List.length_map, show ("\n" : Str).length = 1 from by decide +kernel]; omega)
  rw [e, hz.1]
theorem read_any (rows : List (Str × Kd)) (h : ∀ p ∈ rows, Rw p) (hn : rows.length ≤ 400) (hne : rows ≠ []) : m_read_rules (Txt.join "\n" (rows.map (·.1)), ()) = match fin rows 0 [] with
    | .nx s => some (.ok s)
    | .rt v => some v
    | _ => none := by
  unfold m_read_rules
  have hz : (Txt.join "\n" (rows.map (·.1))).length ≤ 15000000 := by
    have h1 := join_len_str ("\n" : Str) (rows.map (·.1))
    have h2 := sum_le (l := (rows.map (·.1)).map (·.length)) (k := 150) fun x hx => by
      obtain ⟨y, hy, rfl⟩ := List.mem_map.mp hx
      obtain ⟨p, hp, rfl⟩ := List.mem_map.mp hy
      exact (h p hp).len
    rw [List.length_map, List.length_map] at h2
    rw [List.length_map, show ("\n" : Str).length = 1 from by decide +kernel] at h1
    omega
  have e : sSplit (Txt.join "\n" (rows.map (·.1))) ("\n" : Str) = some (rows.map (·.1)) := by
    unfold sSplit
    rw [if_pos ⟨by decide +kernel, hz⟩, TL.split_join nl_tl (by decide +kernel) (fun z => hne (List.map_eq_nil_iff.mp z)) fun p hp => by
      obtain ⟨q, hq, rfl⟩ := List.mem_map.mp hp
      exact (h q hq).nl]
  simp only [bs]
  rw [e]
  simp only [bs]
  unfold enumL
  rw [loop_ok rows 0 [] h (by rw [List.length_nil]; omega)]
  cases fin rows 0 [] <;> rfl
theorem read_good (rows : List (Str × Option Ru)) (h : ∀ p ∈ rows, GU.Rr p) (hn : rows.length ≤ 400) : m_read_rules (Txt.join "\n" (rows.map (·.1)), ()) = some (.ok (rows.filterMap (·.2))) := by
  have go : ∀ rows : List (Str × Option Ru), (∀ p ∈ rows, GU.Rr p) → rows.length ≤ 400 → rows ≠ [] → m_read_rules (Txt.join "\n" (rows.map (·.1)), ()) = some (.ok (rows.filterMap (·.2))) := fun rows h hn hne => by
    have e : (rows.map fun q => (q.1, q.2.map some)).map (·.1) = rows.map (·.1) := by
      rw [List.map_map]
      rfl
    have k := read_any (rows.map fun q => (q.1, q.2.map some)) (fun p hp => by
      obtain ⟨q, hq, rfl⟩ := List.mem_map.mp hp
      exact rw_of (h q hq)) (by rw [List.length_map]; exact hn) (fun z => hne (List.map_eq_nil_iff.mp z))
    rw [e, fin_good] at k
    exact k
  by_cases hne : rows = []
  · subst hne
    exact go [("", none)] (fun p hp => by rw [List.mem_singleton.mp hp]; exact GU.empty_rr) (by decide) (by simp)
  · exact go rows h hn hne
theorem read_bad {b : Str} (hb : Rw (b, some none)) (rows : List (Str × Option Ru)) (post : List (Str × Kd)) (h : ∀ p ∈ rows, GU.Rr p) (h2 : ∀ p ∈ post, Rw p) (hn : rows.length + post.length ≤ 390) : sJoin ("\n" : Str) (rows.map (·.1) ++ b :: post.map (·.1)) = some (Txt.join "\n" (rows.map (·.1) ++ b :: post.map (·.1))) ∧ m_read_rules (Txt.join "\n" (rows.map (·.1) ++ b :: post.map (·.1)), ()) = some (.ex (atRow ((rows.length : Int) + 1))) := by
  have e : (rows.map (fun q => (q.1, q.2.map some)) ++ ((b, some none) : Str × Kd) :: post).map (·.1) = rows.map (·.1) ++ b :: post.map (·.1) := by
    rw [List.map_append, List.map_map]
    rfl
  have all : ∀ p ∈ rows.map (fun q => (q.1, q.2.map some)) ++ ((b, some none) : Str × Kd) :: post, Rw p := fun p hp => by
    rcases List.mem_append.mp hp with z | z
    · obtain ⟨q, hq, rfl⟩ := List.mem_map.mp z
      exact rw_of (h q hq)
    · rcases List.mem_cons.mp z with z | z
      · rw [z]; exact hb
      · exact h2 p z
  have hlen : (rows.map (fun q => (q.1, q.2.map some)) ++ ((b, some none) : Str × Kd) :: post).length ≤ 400 := by
    rw [List.length_append, List.length_map, List.length_cons]
    omega
  have k := read_any _ all hlen (by simp)
  have j := join_ok _ all hlen
  rw [e] at j k
  refine ⟨j, ?_⟩
  rw [k, fin_bad]
  show some (Rs.ex (atRow (((0 : Nat) : Int) + (rows.length : Int) + 1))) = _
  rw [show ((0 : Nat) : Int) + (rows.length : Int) + 1 = (rows.length : Int) + 1 by omega]
/-! ### refused -/
theorem no_in : ("NoRow" : Str) ∈ [("NoRow" : Str)] := List.mem_singleton.mpr rfl
theorem refused2 {t : Str} {n : Int} (h : m_read_rules (t, ()) = some (.ex (atRow n))) : m__law_refused (t, (n, (true, ()))) = some true := by
  unfold m__law_refused
  simp only [bs, if_t]
  rw [h]
  unfold ruU keepX keepV isX xGet atRow
  have e0 : decide (("NoRow" : Str) ∈ ([] : List Str)) = false := rfl
  have e1 : Gd.gt (β := Int) "row" (Pl.int "row" n) = some n := if_pos rfl
  simp only [if_pos no_in, bs, decide_eq_true no_in, e0, e1, nt, or_f, if_f]
  rfl
theorem refused1 {t : Str} (h : m_read_rule (t, ()) = some (.ex no1)) : m__law_refused (t, (1, (false, ()))) = some true := by
  unfold m__law_refused
  simp only [bs, if_f]
  rw [h]
  unfold ruU keepX keepV isX xGet no1
  have e0 : decide (("NoRow" : Str) ∈ ([] : List Str)) = false := rfl
  have e1 : Gd.gt (β := Int) "row" (Pl.int "row" 1) = some 1 := if_pos rfl
  simp only [if_pos no_in, bs, decide_eq_true no_in, e0, e1, nt, or_f, if_f]
  rfl
/-! ### numbers that are none -/
theorem forF_any {α ρ : Type} {f : Unit → α → Option (Fl Unit ρ)} {v : ρ} {p : α → Bool} : ∀ {xs : List α}, (∀ x ∈ xs, f () x = some (if p x = true then .rt v else .nx ())) → forF f xs () = some (if xs.any p = true then .rt v else .nx ())
  | [], _ => rfl
  | x :: xs, h => by
    unfold forF
    rw [h x List.mem_cons_self, List.any_cons]
    cases p x with
    | true => rfl
    | false => exact forF_any fun y hy => h y (List.mem_cons_of_mem _ hy)
def noD (x : Str) : Bool := !((!sLt x ("0" : Str)) && !sLt ("9" : Str) x)
theorem sign_eq (x : Str) : b_number_by_1 () x = some (if noD x = true then .rt (.ex no1) else .nx ()) := by
  unfold b_number_by_1 noD
  simp only [bs]
  cases sLt x ("0" : Str) with
  | true => rfl
  | false =>
    cases sLt ("9" : Str) x with
    | true => rfl
    | false => rfl
theorem nb_any (l : List Nat) (hne : l ≠ []) (hz : l.length ≤ 1000) (h : 10 < l.length ∨ l[0]? = some 48 ∨ ∃ c ∈ l, noD (c1 c) = true) : m_number_by (mks l, ()) = some (.ex no1) := by
  obtain ⟨c, r, rfl⟩ : ∃ c r, l = c :: r := by
    cases l with
    | nil => exact absurd rfl hne
    | cons c r => exact ⟨c, r, rfl⟩
  have hat : sAt (mks (c :: r)) 0 = some (c1 c) := sAt_nat (mks (c :: r)) 0 (by rw [tl_mks]; exact Nat.succ_pos _) (by rw [len_mks]; omega)
  have h0 : ("0" : Str) = c1 48 := by decide +kernel
  unfold m_number_by
  simp only [bs]
  rw [sLen_mks _ (by omega), hat]
  simp only [bs]
  rw [decide_eq_true (show (1 : Int) ≤ ((c :: r).length : Nat) by rw [List.length_cons]; omega), if_pos rfl]
  simp only [bs]
  by_cases h10 : (((c :: r).length : Nat) : Int) ≤ 10
  · rw [decide_eq_true h10, nt, or_f]
    by_cases hc : c = 48
    · rw [decide_eq_true (show c1 c = ("0" : Str) by rw [hc, h0]), if_t]
      rfl
    · rw [decide_eq_false (show ¬ c1 c = ("0" : Str) by rw [h0]; exact fun z => hc ((c1_eq _ _).mp z)), if_f]
      have hex : ∃ c' ∈ c :: r, noD (c1 c') = true := by
        rcases h with h | h | h
        · omega
        · exact absurd (Option.some.inj h) hc
        · exact h
      have hany : (sgn (mks (c :: r))).any noD = true := by
        obtain ⟨d, hd, e⟩ := hex
        rw [sgn_tl, tl_mks]
        exact List.any_eq_true.mpr ⟨c1 d, List.mem_map.mpr ⟨d, hd, rfl⟩, e⟩
      rw [forF_any (v := Rs.ex no1) (p := noD) fun x _ => sign_eq x, if_pos hany, then_rt]
  · rw [decide_eq_false h10]
    rfl
def noI (m : Option (Rs Int)) : Bool := match m with
  | some (.ex ⟨c, .int f n⟩) => decide (c = "NoRow") && (decide (f = "row") && decide (n = 1))
  | _ => false
theorem noI_of {m : Option (Rs Int)} (h : noI m = true) : m = some (.ex no1) := by
  unfold noI at h
  split at h
  · obtain ⟨h1, h⟩ := (Bool.and_eq_true _ _).mp h
    obtain ⟨h2, h3⟩ := (Bool.and_eq_true _ _).mp h
    rw [of_decide_eq_true h1, of_decide_eq_true h2, of_decide_eq_true h3]
    rfl
  · cases h
structure Wd (w : Str) : Prop where
  b : 32 ∉ tl w
  n : 10 ∉ tl w
  l : w.length ≤ 13
def NbNo (z : Str) : Prop := Wd z ∧ m_number_by (z, ()) = some (.ex no1)
theorem nb_const : ∀ z ∈ [("0" : Str), "1000000001", "10000000000", "1_0", "00", "x", "1e3", "99999999999"], 32 ∉ tl z ∧ 10 ∉ tl z ∧ z.length ≤ 13 ∧ noI (m_number_by (z, ())) = true := by decide +kernel
theorem nb_c {z : Str} (h : z ∈ [("0" : Str), "1000000001", "10000000000", "1_0", "00", "x", "1e3", "99999999999"]) : NbNo z := by
  obtain ⟨h1, h2, h3, h4⟩ := nb_const z h
  exact ⟨⟨h1, h2, h3⟩, noI_of h4⟩
theorem nb_l {l : List Nat} (hne : l ≠ []) (hl : l.length ≤ 13) (hd : ∀ c ∈ l, c ≠ 32 ∧ c ≠ 10) (h : l[0]? = some 48 ∨ ∃ c ∈ l, noD (c1 c) = true) : NbNo (mks l) :=
  ⟨⟨by rw [tl_mks]; exact fun z => (hd _ z).1 rfl, by rw [tl_mks]; exact fun z => (hd _ z).2 rfl, by rw [len_mks]; exact hl⟩, nb_any l hne (by omega) (.inr h)⟩
theorem bad_number_ok {D : List Nat} (h1 : 1 ≤ D.length) (h10 : D.length ≤ 10) (hd : ∀ c ∈ D, 48 ≤ c ∧ c ≤ 57) (d : Int) : Ok (m__law_bad_number (mks D, (d, ()))) NbNo := by
  have n0 : ("0" : Str) = mks [48] := by decide +kernel
  have n1 : ("-" : Str) = mks [45] := by decide +kernel
  have n2 : ("+" : Str) = mks [43] := by decide +kernel
  have n3 : ("." : Str) = mks [46] := by decide +kernel
  have n4 : (",0" : Str) = mks [44, 48] := by decide +kernel
  have a0 : sAdd ("0" : Str) (mks D) = some (mks (48 :: D)) := by rw [n0]; exact add_mks [48] D (by rw [List.length_singleton]; omega)
  have a1 : sAdd ("-" : Str) (mks D) = some (mks (45 :: D)) := by rw [n1]; exact add_mks [45] D (by rw [List.length_singleton]; omega)
  have a2 : sAdd ("+" : Str) (mks D) = some (mks (43 :: D)) := by rw [n2]; exact add_mks [43] D (by rw [List.length_singleton]; omega)
  have a3 : sAdd (mks D) ("." : Str) = some (mks (D ++ [46])) := by rw [n3]; exact add_mks D [46] (by rw [List.length_singleton]; omega)
  have a4 : sAdd (mks D) (",0" : Str) = some (mks (D ++ [44, 48])) := by rw [n4]; exact add_mks D [44, 48] (by simp only [List.length_cons, List.length_nil]; omega)
  have hD : ∀ c ∈ D, c ≠ 32 ∧ c ≠ 10 := fun c hc => by
    have := hd c hc
    omega
  unfold m__law_bad_number
  simp only [bs, a0, a1, a2, a3, a4]
  refine (okCat (by simp only [List.length_cons, List.length_nil]; omega)).bind fun ws hw => ?_
  refine (okAt (by omega) (by rw [hw]; simp only [List.length_append, List.length_cons, List.length_nil]; omega)).mono fun z hz => ?_
  rw [hw] at hz
  simp only [List.cons_append, List.nil_append, List.mem_cons, List.not_mem_nil, or_false] at hz
  have c0 : ∀ {x : Nat} {y : List Nat}, x ≠ 32 ∧ x ≠ 10 → (∀ c ∈ y, c ≠ 32 ∧ c ≠ 10) → ∀ c ∈ x :: y, c ≠ 32 ∧ c ≠ 10 := fun h1 h2 c hc => by
    rcases List.mem_cons.mp hc with e | e
    · rw [e]; exact h1
    · exact h2 c e
  have cap : ∀ {x y : List Nat}, (∀ c ∈ x, c ≠ 32 ∧ c ≠ 10) → (∀ c ∈ y, c ≠ 32 ∧ c ≠ 10) → ∀ c ∈ x ++ y, c ≠ 32 ∧ c ≠ 10 := fun h1 h2 c hc => by
    rcases List.mem_append.mp hc with e | e
    · exact h1 c e
    · exact h2 c e
  rcases hz with e | e | e | e | e | e | e | e | e | e | e | e | e <;> rw [e]
  · exact nb_c (by decide)
  · exact nb_l (by simp) (by rw [List.length_cons]; omega) (c0 (by decide) hD) (.inl rfl)
  · exact nb_c (by decide)
  · exact nb_c (by decide)
  · exact nb_l (by simp) (by rw [List.length_cons]; omega) (c0 (by decide) hD) (.inr ⟨45, List.mem_cons_self, by decide +kernel⟩)
  · exact nb_l (by simp) (by rw [List.length_cons]; omega) (c0 (by decide) hD) (.inr ⟨43, List.mem_cons_self, by decide +kernel⟩)
  · exact nb_l (by simp) (by rw [List.length_append, List.length_singleton]; omega) (cap hD (by decide)) (.inr ⟨46, by simp, by decide +kernel⟩)
  · exact nb_c (by decide)
  · exact nb_c (by decide)
  · exact nb_c (by decide)
  · exact nb_c (by decide)
  · exact nb_c (by decide)
  · exact nb_l (by simp) (by simp only [List.length_append, List.length_cons, List.length_nil]; omega) (cap hD (by decide)) (.inr ⟨44, by simp, by decide +kernel⟩)
/-! ### rules that are none -/
theorem rb_field (n : Int) {c d : Str} (h : c ∉ FLD) : m_rule_by (n, (c, (d, ()))) = some (.ex no1) := by
  unfold m_rule_by
  show ifM (some (!decide (c ∈ FLD))) _ _ = _
  rw [decide_eq_false h]
  rfl
theorem rb_sort (n : Int) {c d : Str} (h : d ∉ SRT ∨ (d = "former" ∧ c ≠ "name")) : m_rule_by (n, (c, (d, ()))) = some (.ex no1) := by
  have q : d ≠ "same" ∧ d ≠ "like" ∧ d ≠ "near" ∧ d ≠ "other" ∧ (d = "former" → c ≠ "name") := by
    rcases h with h | ⟨h, k⟩
    · exact ⟨fun e => h (by rw [e]; simp), fun e => h (by rw [e]; simp), fun e => h (by rw [e]; simp), fun e => h (by rw [e]; simp), fun e => absurd (by rw [e]; simp) h⟩
    · rw [h]
      exact ⟨by decide, by decide, by decide, by decide, fun _ => k⟩
  obtain ⟨q1, q2, q3, q4, q5⟩ := q
  unfold m_rule_by
  show ifM (some (!decide (c ∈ FLD))) _ (ifM (some (decide (d = "same"))) _ (ifM (some (decide (d = "like"))) _ (ifM (some (decide (d = "near"))) _ (ifM (some (decide (d = "other"))) _ (ifM (bAnd (some (decide (d = "former"))) (some (decide (c = "name")))) _ _))))) = _
  rw [decide_eq_false q1, decide_eq_false q2, decide_eq_false q3, decide_eq_false q4, if_f, if_f, if_f, if_f]
  have e : bAnd (some (decide (d = "former"))) (some (decide (c = "name"))) = some false := by
    by_cases hd : d = "former"
    · rw [decide_eq_true hd, decide_eq_false (q5 hd)]
      rfl
    · rw [decide_eq_false hd]
      rfl
  rw [e, if_f]
  cases decide (c ∈ FLD) <;> rfl
/-! ### rows that are none -/
def No (ws : List Str) : Prop := ws.length ≠ 4 ∨ ∃ a b c d, ws = [a, b, c, d] ∧ (a ∉ [("for" : Str), ("against" : Str)] ∨ m_number_by (b, ()) = some (.ex no1) ∨ ((∃ n, m_number_by (b, ()) = some (.ok n)) ∧ ∀ n, m_rule_by (n, (c, (d, ()))) = some (.ex no1)))
def Sp (z : Str) : Prop := ∃ ws : List Str, z = Txt.join " " ws ∧ ws ≠ [] ∧ ws.length ≤ 8 ∧ (∀ w ∈ ws, Wd w) ∧ No ws
theorem join_tl (ws : List Str) : tl (Txt.join " " ws) = joinL [32] (ws.map tl) := by rw [TL.join_eq, TL.tl_join, blank_tl]
theorem j_ok : ∀ ws : List Str, (∀ w ∈ ws, Wd w) → 10 ∉ joinL [32] (ws.map tl) ∧ (joinL [32] (ws.map tl)).length ≤ 14 * ws.length
  | [], _ => ⟨fun h => (by cases h), Nat.zero_le _⟩
  | [p], h => by
    have hp := h p List.mem_cons_self
    have := hp.l
    rw [len_tl] at this
    exact ⟨hp.n, by show (tl p).length ≤ 14 * 1; omega⟩
  | p :: q :: r, h => by
    obtain ⟨i1, i2⟩ := j_ok (q :: r) fun w hw => h w (List.mem_cons_of_mem _ hw)
    have hp := h p List.mem_cons_self
    have := hp.l
    rw [len_tl] at this
    show 10 ∉ tl p ++ ([32] ++ joinL [32] ((q :: r).map tl)) ∧ (tl p ++ ([32] ++ joinL [32] ((q :: r).map tl))).length ≤ 14 * ((q :: r).length + 1)
    refine ⟨fun z => ?_, ?_⟩
    · rcases List.mem_append.mp z with z | z
      · exact hp.n z
      · rcases List.mem_append.mp z with z | z
        · cases List.mem_singleton.mp z
        · exact i1 z
    · rw [List.length_append, List.length_append, List.length_singleton]
      omega
theorem sp_len {z : Str} (h : Sp z) : 10 ∉ tl z ∧ z.length ≤ 112 := by
  obtain ⟨ws, rfl, _, hl, hw, _⟩ := h
  obtain ⟨i1, i2⟩ := j_ok ws hw
  rw [len_tl, join_tl]
  exact ⟨i1, by omega⟩
theorem sp_read {z : Str} (h : Sp z) : m_read_rule (z, ()) = some (.ex no1) := by
  have hz := (sp_len h).2
  obtain ⟨ws, rfl, hne, hl, hw, hno⟩ := h
  have e : sSplit (Txt.join " " ws) (" " : Str) = some ws := by
    unfold sSplit
    rw [if_pos ⟨by decide +kernel, by omega⟩, TL.split_join blank_tl (by decide +kernel) hne fun p hp => (hw p hp).b]
  unfold m_read_rule
  rw [e]
  simp only [bs]
  rcases hno with hno | ⟨a, b, c, d, rfl, hno⟩
  · rw [decide_eq_false (show ¬ ((ws.length : Int) = 4) by omega)]
    rfl
  · have a0 : atI [a, b, c, d] 0 = some a := rfl
    have a1 : atI [a, b, c, d] 1 = some b := rfl
    have a2 : atI [a, b, c, d] 2 = some c := rfl
    have a3 : atI [a, b, c, d] 3 = some d := rfl
    have a4 : (([a, b, c, d].length : Nat) : Int) = 4 := rfl
    rw [a0, a1, a2, a3, a4]
    simp only [bs]
    by_cases ha : a ∈ [("for" : Str), ("against" : Str)]
    · have e0 : bOr (some (!decide True)) (some (!decide (a ∈ [("for" : Str), ("against" : Str)]))) = some false := by
        rw [decide_eq_true ha]
        rfl
      rw [e0, if_f]
      rcases hno with hno | hno | ⟨⟨n, hn⟩, hno⟩
      · exact absurd ha hno
      · rw [hno]
        simp only [bs]
        exact then_rt _ _ _ _ _
      · rw [hn]
        simp only [bs]
        show thenF (some (Fl.nx n)) _ _ _ _ = _
        rw [then_nx]
        cases decide (a = ("against" : Str)) with
        | true =>
          rw [if_t]
          simp only [bs]
          exact hno _
        | false =>
          rw [if_f]
          simp only [bs]
          exact hno _
    · have e0 : bOr (some (!decide True)) (some (!decide (a ∈ [("for" : Str), ("against" : Str)]))) = some true := by
        rw [decide_eq_false ha]
        rfl
      rw [e0, if_t]
      rfl
/-! ### a row spoiled -/
structure Gd4 (ws : List Str) : Prop where
  ex : ∃ (way : Str) (D : List Nat) (f s : Str) (n : Int), ws = [way, mks D, f, s] ∧ RowOf way D f s ∧ Num n D ∧ 1 ≤ n ∧ n ≤ 1000000000
theorem wd_s {x : Str} (h : x.length ≤ 7 ∧ 32 ∉ tl x ∧ 10 ∉ tl x) : Wd x := ⟨h.2.1, h.2.2, by omega⟩
theorem wd_d {D : List Nat} (h10 : D.length ≤ 10) (hd : ∀ c ∈ D, 48 ≤ c ∧ c ≤ 57) : Wd (mks D) :=
  ⟨by rw [tl_mks]; exact fun z => by have := hd _ z; omega, by rw [tl_mks]; exact fun z => by have := hd _ z; omega, by rw [len_mks]; omega⟩
theorem sj (ws : List Str) (h : ∀ w ∈ ws, Wd w) (hl : ws.length ≤ 8) : sJoin (" " : Str) ws = some (Txt.join " " ws) := by
  obtain ⟨z, e, hz⟩ := okJoin (x := (" " : Str)) (ys := ws) (k := 13) (fun y hy => (h y hy).l) (by rw [show (" " : Str).length = 1 from by decide +kernel]; omega)
  rw [e, hz.1]
theorem all4 {a b c d : Str} (ha : Wd a) (hb : Wd b) (hc : Wd c) (hd : Wd d) : ∀ w ∈ [a, b, c, d], Wd w := fun w hw => by
  simp only [List.mem_cons, List.not_mem_nil, or_false] at hw
  rcases hw with e | e | e | e <;> rw [e] <;> assumption
theorem sp4 {a b c d : Str} (ha : Wd a) (hb : Wd b) (hc : Wd c) (hd : Wd d) (h : a ∉ [("for" : Str), ("against" : Str)] ∨ m_number_by (b, ()) = some (.ex no1) ∨ ((∃ n, m_number_by (b, ()) = some (.ok n)) ∧ ∀ n, m_rule_by (n, (c, (d, ()))) = some (.ex no1))) : Ok (sJoin (" " : Str) [a, b, c, d]) Sp := by
  rw [sj _ (all4 ha hb hc hd) (by show 4 ≤ 8; decide)]
  exact .ret ⟨[a, b, c, d], rfl, by simp, by show 4 ≤ 8; decide, all4 ha hb hc hd, .inr ⟨a, b, c, d, rfl, h⟩⟩
theorem spn {ws : List Str} {z : Str} (e : tl z = joinL [32] (ws.map tl)) (hne : ws ≠ []) (hl : ws.length ≤ 8) (h : ∀ w ∈ ws, Wd w) (h4 : ws.length ≠ 4) : Sp z := ⟨ws, ext_tl (by rw [e, join_tl]), hne, hl, h, .inl h4⟩
theorem wd0 : Wd "" := ⟨by decide +kernel, by decide +kernel, by decide +kernel⟩
theorem tl_e : tl ("" : Str) = [] := by decide +kernel
theorem spoiled_ok {way : Str} {D : List Nat} {f s : Str} {n : Int} (h : RowOf way D f s) (hn : Num n D) (h1 : 1 ≤ n) (h2 : n ≤ 1000000000) (w d : Int) (w0 : 0 ≤ w) (w8 : w < 8) : Ok (m__law_spoiled ([way, mks D, f, s], (w, (d, ())))) Sp := by
  have wa := wd_s h.w1
  have wb := wd_d h.len h.dig
  have wc := wd_s h.w3
  have we := wd_s h.w4
  have hway : way ∈ [("for" : Str), ("against" : Str)] := by rcases h.way with e | e <;> rw [e] <;> simp
  have hnum : ∃ n, m_number_by (mks D, ()) = some (.ok n) := ⟨n, GU.number_ok hn h1 h2⟩
  have hl := GU.row_len h
  have rt : tl (rowT way D f s) = tl way ++ ([32] ++ (tl (mks D) ++ ([32] ++ (tl f ++ ([32] ++ tl s))))) := by
    rw [GU.row_tl, tl_mks]
    rfl
  have rl : (rowT way D f s).length ≤ 1000 := by omega
  have c1 : cutA [way, mks D, f, s] none (some (3 : Int)) = [way, mks D, f] := rfl
  have c2 : cutA [way, mks D, f, s] (some (1 : Int)) none = [mks D, f, s] := rfl
  have c3 : cutA [way, mks D, f, s] (some (2 : Int)) none = [f, s] := rfl
  have c4 : cutA [way, mks D, f, s] none (some (2 : Int)) = [way, mks D] := rfl
  have a0 : atI [way, mks D, f, s] (0 : Int) = some way := rfl
  have a1 : atI [way, mks D, f, s] (1 : Int) = some (mks D) := rfl
  have a3 : atI [way, mks D, f, s] (3 : Int) = some s := rfl
  have j3 : sJoin (" " : Str) [way, mks D, f] = some (Txt.join " " [way, mks D, f]) := sj _ (fun w hw => by
    simp only [List.mem_cons, List.not_mem_nil, or_false] at hw
    rcases hw with e | e | e <;> rw [e] <;> assumption) (by show 3 ≤ 8; decide)
  have j3' : sJoin (" " : Str) [mks D, f, s] = some (Txt.join " " [mks D, f, s]) := sj _ (fun w hw => by
    simp only [List.mem_cons, List.not_mem_nil, or_false] at hw
    rcases hw with e | e | e <;> rw [e] <;> assumption) (by show 3 ≤ 8; decide)
  have jt3 : (Txt.join " " [mks D, f, s]).length ≤ 100 := by
    rw [len_tl]
    have := (j_ok [mks D, f, s] fun w hw => by
      simp only [List.mem_cons, List.not_mem_nil, or_false] at hw
      rcases hw with e | e | e <;> rw [e] <;> assumption).2
    rw [join_tl]
    exact Nat.le_trans this (by show 14 * 3 ≤ 100; decide)
  have cat : ∀ x y : List Str, x.length + y.length ≤ 100 → lCat x y = some (x ++ y) := fun x y h => if_pos (by omega)
  have sadd : ∀ x y : Str, x.length + y.length ≤ 2000 → sAdd x y = some (x ++ y) := fun x y h => if_pos (by omega)
  unfold m__law_spoiled
  simp only [bs]
  rw [GU.row_join h]
  simp only [bs, c1, c2, c3, c4, a0, a1, a3, j3]
  refine .ifd (fun _ => ?_) fun n0 => .ifd (fun _ => ?_) fun n1 => .ifd (fun _ => ?_) fun n2 => .ifd (fun _ => ?_) fun n3 => .ifd (fun _ => ?_) fun n4 => .ifd (fun _ => ?_) fun n5 => .ifd (fun _ => ?_) fun n6 => ?_
  · rw [sadd _ _ (by rw [show (" name" : Str).length = 5 from by decide +kernel]; omega)]
    simp only [bs]
    refine (okAt (by omega) (by simp only [List.length_cons, List.length_nil]; omega)).mono fun z hz => ?_
    simp only [List.mem_cons, List.not_mem_nil, or_false] at hz
    have cw : ∀ x ∈ [("for" : Str), "5", "name"], 32 ∉ tl x ∧ 10 ∉ tl x ∧ x.length ≤ 13 := by decide +kernel
    have wk : ∀ x ∈ [("for" : Str), "5", "name"], Wd x := fun x hx => ⟨(cw x hx).1, (cw x hx).2.1, (cw x hx).2.2⟩
    rcases hz with e | e | e | e | e | e <;> rw [e]
    · exact spn (ws := [""]) (by decide +kernel) (by simp) (by decide) (fun w hw => by rw [List.mem_singleton.mp hw]; exact wd0) (by decide)
    · exact spn (ws := ["", ""]) (by decide +kernel) (by simp) (by decide) (fun w hw => by
        simp only [List.mem_cons, List.not_mem_nil, or_false] at hw
        rcases hw with e | e <;> rw [e] <;> exact wd0) (by decide)
    · exact spn (ws := ["for"]) (by decide +kernel) (by simp) (by decide) (fun w hw => by rw [List.mem_singleton.mp hw]; exact wk _ (by simp)) (by decide)
    · refine spn (ws := [way, mks D, f]) (join_tl _) (by simp) (by show 3 ≤ 8; decide) (fun w hw => ?_) (by show 3 ≠ 4; decide)
      simp only [List.mem_cons, List.not_mem_nil, or_false] at hw
      rcases hw with e | e | e <;> rw [e] <;> assumption
    · refine spn (ws := [way, mks D, f, s, "name"]) ?_ (by simp) (by show 5 ≤ 8; decide) (fun w hw => ?_) (by show 5 ≠ 4; decide)
      · rw [tl_append, rt, show tl (" name" : Str) = [32] ++ tl ("name" : Str) by decide +kernel]
        show _ = tl way ++ ([32] ++ (tl (mks D) ++ ([32] ++ (tl f ++ ([32] ++ (tl s ++ ([32] ++ tl ("name" : Str))))))))
        simp only [List.append_assoc]
      · simp only [List.mem_cons, List.not_mem_nil, or_false] at hw
        rcases hw with e | e | e | e | e <;> rw [e] <;> first | assumption | exact wk _ (by simp)
    · refine spn (ws := ["for", "5"]) (by decide +kernel) (by simp) (by decide) (fun w hw => ?_) (by decide)
      simp only [List.mem_cons, List.not_mem_nil, or_false] at hw
      rcases hw with e | e <;> rw [e] <;> exact wk _ (by simp)
  · have cw : ∀ x ∈ [("For" : Str), ("fo" : Str), ("with" : Str), ("againsts" : Str), ("FOR" : Str), ("if" : Str)], 32 ∉ tl x ∧ 10 ∉ tl x ∧ x.length ≤ 13 ∧ x ∉ [("for" : Str), ("against" : Str)] := by decide +kernel
    simp only [Option.bind_assoc, bs]
    refine (okAt (by omega) (by simp only [List.length_cons, List.length_nil]; omega)).bind fun x hx => ?_
    obtain ⟨x1, x2, x3, x4⟩ := cw x hx
    rw [cat _ _ (by show 1 + 3 ≤ 100; decide)]
    exact sp4 ⟨x1, x2, x3⟩ wb wc we (.inl x4)
  · simp only [Option.bind_assoc, bs]
    refine (bad_number_ok hn.one h.len h.dig d).bind fun x hx => ?_
    rw [cat _ _ (by show 2 + 2 ≤ 100; decide)]
    exact sp4 wa hx.1 wc we (.inr (.inl hx.2))
  · have cw : ∀ x ∈ [("names" : Str), ("Name" : Str), ("same" : Str), ("NAME" : Str), ("apart" : Str), ("sort" : Str)], 32 ∉ tl x ∧ 10 ∉ tl x ∧ x.length ≤ 13 ∧ x ∉ FLD := by decide +kernel
    simp only [Option.bind_assoc, bs]
    refine (okAt (by omega) (by simp only [List.length_cons, List.length_nil]; omega)).bind fun x hx => ?_
    obtain ⟨x1, x2, x3, x4⟩ := cw x hx
    rw [cat _ _ (by show 2 + 2 ≤ 100; decide)]
    exact sp4 wa wb ⟨x1, x2, x3⟩ we (.inr (.inr ⟨hnum, fun n => rb_field n x4⟩))
  · have cw : ∀ x ∈ [("Same" : Str), ("likes" : Str), ("nea" : Str), ("others" : Str), ("equal" : Str), ("name" : Str)], 32 ∉ tl x ∧ 10 ∉ tl x ∧ x.length ≤ 13 ∧ x ∉ SRT := by decide +kernel
    simp only [Option.bind_assoc, bs]
    refine (okAt (by omega) (by simp only [List.length_cons, List.length_nil]; omega)).bind fun x hx => ?_
    obtain ⟨x1, x2, x3, x4⟩ := cw x hx
    rw [cat _ _ (by show 3 + 1 ≤ 100; decide)]
    exact sp4 wa wb wc ⟨x1, x2, x3⟩ (.inr (.inr ⟨hnum, fun n => rb_sort n (.inl x4)⟩))
  · have cw : ∀ x ∈ [("former" : Str), ("way" : Str), ("day" : Str), ("mark" : Str)], 32 ∉ tl x ∧ 10 ∉ tl x ∧ x.length ≤ 13 ∧ x ≠ "name" := by decide +kernel
    have wf : Wd "former" := ⟨by decide +kernel, by decide +kernel, by decide +kernel⟩
    simp only [Option.bind_assoc, bs]
    refine (okAt (by omega) (by simp only [List.length_cons, List.length_nil]; omega)).bind fun x hx => ?_
    obtain ⟨x1, x2, x3, x4⟩ := cw x hx
    rw [cat _ _ (by show 2 + 2 ≤ 100; decide)]
    exact sp4 wa wb ⟨x1, x2, x3⟩ wf (.inr (.inr ⟨hnum, fun n => rb_sort n (.inr ⟨rfl, x4⟩)⟩))
  · have l1 : (" " : Str).length = 1 := by decide +kernel
    have l2 : ("  " : Str).length = 2 := by decide +kernel
    have t2 : tl ("  " : Str) = [32, 32] := by decide +kernel
    have jj : sJoin ("  " : Str) [way, mks D, f, s] = some (Txt.join "  " [way, mks D, f, s]) := by
      obtain ⟨z, e, hz⟩ := okJoin (x := ("  " : Str)) (ys := [way, mks D, f, s]) (k := 13) (fun y hy => (all4 wa wb wc we y hy).l) (by rw [l2]; show 4 * (13 + 2) ≤ _; decide)
      rw [e, hz.1]
    have lw := wa.l
    rw [sadd _ _ (by omega), sadd _ _ (by omega), jj, j3', sadd way _ (by omega)]
    simp only [bs]
    have law' : (way ++ ("  " : Str)).length ≤ 100 := by
      rw [len_tl, tl_append, List.length_append, ← len_tl, ← len_tl, l2]
      omega
    rw [sadd _ _ (by omega)]
    simp only [bs]
    refine (okAt (by omega) (by simp only [List.length_cons, List.length_nil]; omega)).mono fun z hz => ?_
    simp only [List.mem_cons, List.not_mem_nil, or_false] at hz
    have j3t : tl (Txt.join " " [mks D, f, s]) = tl (mks D) ++ ([32] ++ (tl f ++ ([32] ++ tl s))) := join_tl _
    rcases hz with e | e | e | e <;> rw [e]
    · refine spn (ws := ["", way, mks D, f, s]) ?_ (by simp) (by show 5 ≤ 8; decide) (fun w hw => ?_) (by show 5 ≠ 4; decide)
      · rw [tl_append, rt, blank_tl]
        show _ = tl ("" : Str) ++ ([32] ++ (tl way ++ ([32] ++ (tl (mks D) ++ ([32] ++ (tl f ++ ([32] ++ tl s)))))))
        rw [tl_e]
        rfl
      · simp only [List.mem_cons, List.not_mem_nil, or_false] at hw
        rcases hw with e | e | e | e | e <;> rw [e] <;> first | assumption | exact wd0
    · refine spn (ws := [way, mks D, f, s, ""]) ?_ (by simp) (by show 5 ≤ 8; decide) (fun w hw => ?_) (by show 5 ≠ 4; decide)
      · rw [tl_append, rt, blank_tl]
        show _ = tl way ++ ([32] ++ (tl (mks D) ++ ([32] ++ (tl f ++ ([32] ++ (tl s ++ ([32] ++ tl ("" : Str))))))))
        rw [tl_e]
        simp only [List.append_assoc, List.append_nil]
      · simp only [List.mem_cons, List.not_mem_nil, or_false] at hw
        rcases hw with e | e | e | e | e <;> rw [e] <;> first | assumption | exact wd0
    · refine spn (ws := [way, "", mks D, "", f, "", s]) ?_ (by simp) (by show 7 ≤ 8; decide) (fun w hw => ?_) (by show 7 ≠ 4; decide)
      · rw [TL.join_eq, TL.tl_join, t2]
        show tl way ++ ([32, 32] ++ (tl (mks D) ++ ([32, 32] ++ (tl f ++ ([32, 32] ++ tl s))))) = tl way ++ ([32] ++ (tl ("" : Str) ++ ([32] ++ (tl (mks D) ++ ([32] ++ (tl ("" : Str) ++ ([32] ++ (tl f ++ ([32] ++ (tl ("" : Str) ++ ([32] ++ tl s)))))))))))
        rw [tl_e]
        rfl
      · simp only [List.mem_cons, List.not_mem_nil, or_false] at hw
        rcases hw with e | e | e | e | e | e | e <;> rw [e] <;> first | assumption | exact wd0
    · refine spn (ws := [way, "", mks D, f, s]) ?_ (by simp) (by show 5 ≤ 8; decide) (fun w hw => ?_) (by show 5 ≠ 4; decide)
      · rw [tl_append, tl_append, j3t, t2]
        show _ = tl way ++ ([32] ++ (tl ("" : Str) ++ ([32] ++ (tl (mks D) ++ ([32] ++ (tl f ++ ([32] ++ tl s)))))))
        rw [tl_e]
        simp only [List.append_assoc]
        rfl
      · simp only [List.mem_cons, List.not_mem_nil, or_false] at hw
        rcases hw with e | e | e | e | e <;> rw [e] <;> first | assumption | exact wd0
  · have lh : ("#" : Str).length = 1 := by decide +kernel
    have th : tl ("#" : Str) = [35] := by decide +kernel
    rw [sadd _ _ (by omega)]
    have hl7 := h.w1.1
    have hw35 : Wd (("#" : Str) ++ way) := by
      refine ⟨?_, ?_, ?_⟩
      · rw [tl_append, th]
        intro z
        rcases List.mem_append.mp z with z | z
        · cases List.mem_singleton.mp z
        · exact wa.b z
      · rw [tl_append, th]
        intro z
        rcases List.mem_append.mp z with z | z
        · cases List.mem_singleton.mp z
        · exact wa.n z
      · rw [len_tl, tl_append, List.length_append, ← len_tl, ← len_tl, lh]
        omega
    refine .ret ⟨[("#" : Str) ++ way, mks D, f, s], ext_tl ?_, by simp, by show 4 ≤ 8; decide, all4 hw35 wb wc we, .inr ⟨_, _, _, _, rfl, .inl fun z => ?_⟩⟩
    · rw [join_tl, tl_append, rt, th]
      show _ = tl (("#" : Str) ++ way) ++ ([32] ++ (tl (mks D) ++ ([32] ++ (tl f ++ ([32] ++ tl s)))))
      rw [tl_append, th, List.append_assoc]
    · have q : ∀ x ∈ [("for" : Str), ("against" : Str)], (tl x)[0]? ≠ some 35 := by decide +kernel
      refine q _ z ?_
      rw [tl_append, th]
      rfl
/-! ### the law -/
theorem words_ok (c : Int) : Ok (m__law_words (c, ())) fun ws => ∃ (way : Str) (D : List Nat) (f s : Str) (n : Int), ws = [way, mks D, f, s] ∧ RowOf way D f s ∧ Num n D ∧ 1 ≤ n ∧ n ≤ 1000000000 := by
  unfold m__law_words
  simp only [bs]
  refine (okAt (by omega) (by simp only [List.length_cons, List.length_nil]; omega)).bind fun way hway => ?_
  obtain ⟨D, hD⟩ := GU.num_ok (1 + c / 2 % 1000000000) (by omega) (by omega)
  rw [GU.iStr_num hD (by omega) (by omega)]
  simp only [bs]
  refine (okAt (l := FLD) (by omega) (by show _ < ((5 : Nat) : Int); omega)).bind fun f hf => ?_
  refine (okAt (l := SRT) (by omega) (by show _ < ((5 : Nat) : Int); omega)).bind fun s hs => ?_
  have hw : way = "for" ∨ way = "against" := by simpa only [List.mem_cons, List.not_mem_nil, or_false] using hway
  refine .bind (P := fun g => g ∈ FLD ∧ (s = "former" → g = "name")) ?_ fun g ⟨hg, hn⟩ => .ret ⟨way, D, g, s, _, rfl, ⟨hw, hD.len, hD.dig, hg, hs, hn⟩, hD, by omega, by omega⟩
  refine .ifd (fun _ => .ret ⟨by simp, fun _ => rfl⟩) fun h => .ret ⟨hf, fun e => absurd e h⟩
theorem range3 (j : Int) (h1 : 1 ≤ j) (h2 : j ≤ 60) : ∃ xs, rangek 0 j 3 = some xs ∧ xs.length ≤ 20 ∧ ∀ x ∈ xs, 0 ≤ x := by
  have e : Builtin.Range.rangeSize 0 j 3 = (j - 1) / 3 + 1 := by
    unfold Builtin.Range.rangeSize
    rw [if_pos (by decide), if_pos (by omega), show j - 0 - 1 = j - 1 by omega]
  obtain ⟨xs, ex, hx⟩ := rangek_up j h1 (by omega)
  refine ⟨xs, ex, ?_, fun x h => (hx x h).1⟩
  unfold rangek at ex
  split at ex
  · have ex := (Option.some.inj ex).symm
    rw [ex, List.length_map, List.length_range, e]
    omega
  · cases ex
theorem map_cut {α β : Type} (g : α → β) (l : List α) (lo hi : Option Int) : cutA (l.map g) lo hi = (cutA l lo hi).map g := by
  unfold cutA
  rw [List.length_map, List.map_take, List.map_drop]
theorem bl_rr : GU.Rr (("  " : Str), none) := ⟨by decide +kernel, by decide +kernel, by decide +kernel, fun x e => by cases e⟩
structure LI (s : List Str) (R : List (Str × Option Ru)) (m : Nat) : Prop where
  rows : s = R.map (·.1)
  ok : ∀ q ∈ R, GU.Rr q
  bl : ∀ q ∈ R, q.2 = none ↔ q.1 = "  "
  len : R.length ≤ 2 * m
theorem LI.snoc {s : List Str} {R : List (Str × Option Ru)} {m k : Nat} (h : LI s R m) (q : Str × Option Ru) (hq : GU.Rr q) (hb : q.2 = none ↔ q.1 = "  ") (hl : R.length + 1 ≤ 2 * k) : LI (s ++ [q.1]) (R ++ [q]) k where
  rows := by rw [h.rows, List.map_append]; rfl
  ok r hr := by
    rcases List.mem_append.mp hr with z | z
    · exact h.ok r z
    · rw [List.mem_singleton.mp z]; exact hq
  bl r hr := by
    rcases List.mem_append.mp hr with z | z
    · exact h.bl r z
    · rw [List.mem_singleton.mp z]; exact hb
  len := by rw [List.length_append, List.length_singleton]; exact hl
theorem cnt : ∀ R : List (Str × Option Ru), (∀ q ∈ R, q.2 = none ↔ q.1 = "  ") → (R.filterMap (·.2)).length = ((R.map (·.1)).filter fun x => !decide (x = ("  " : Str))).length
  | [], _ => rfl
  | (r, none) :: R, h => by
    have e : r = "  " := (h _ List.mem_cons_self).mp rfl
    have ih := cnt R fun q hq => h q (List.mem_cons_of_mem _ hq)
    rw [List.filterMap_cons_none (f := fun x : Str × Option Ru => x.2) (a := (r, none)) rfl, List.map_cons, List.filter_cons, if_neg (by rw [decide_eq_true (show ((r, none) : Str × Option Ru).1 = "  " from e)]; decide)]
    exact ih
  | (r, some f) :: R, h => by
    have e : r ≠ "  " := fun e => by cases (h _ List.mem_cons_self).mpr e
    have ih := cnt R fun q hq => h q (List.mem_cons_of_mem _ hq)
    rw [List.filterMap_cons_some (f := fun x : Str × Option Ru => x.2) (a := (r, some f)) (b := f) rfl, List.map_cons, List.filter_cons, if_pos (by rw [decide_eq_false (show ¬ ((r, some f) : Str × Option Ru).1 = "  " from e)]; rfl), List.length_cons, List.length_cons, ih]
theorem for_rw : Rw (("for" : Str), some none) := ⟨by decide +kernel, by decide +kernel, by decide +kernel, fun f e => (by cases e), fun _ => sp_read (spn (ws := ["for"]) (by decide +kernel) (by simp) (by decide) (fun w hw => by rw [List.mem_singleton.mp hw]; exact ⟨by decide +kernel, by decide +kernel, by decide +kernel⟩) (by decide))⟩
theorem up_rw {R : List (Str × Option Ru)} (h : ∀ q ∈ R, GU.Rr q) : ∀ p ∈ R.map (fun q => ((q.1, q.2.map some) : Str × Kd)), Rw p := fun p hp => by
  obtain ⟨q, hq, rfl⟩ := List.mem_map.mp hp
  exact rw_of (h q hq)
theorem up_map (R : List (Str × Option Ru)) : (R.map (fun q => ((q.1, q.2.map some) : Str × Kd))).map (·.1) = R.map (·.1) := by
  rw [List.map_map]
  rfl
theorem text_no {z : Str} (hz : Sp z) {R : List (Str × Option Ru)} (hR : ∀ q ∈ R, GU.Rr q) (hl : R.length ≤ 100) (k : Nat) (hk : k ≤ R.length) {txt : List Str} (et : txt = (R.take k).map (·.1) ++ z :: ((R.drop k).map (·.1) ++ [("for" : Str)])) : bAnd (Option.bind (sStrip z (" " : Str)) fun (t28 : Str) => some (!decide (t28 = ("" : Str)))) (bAnd (Option.bind (sAt z (0 : Int)) fun (t30 : Str) => some (!decide (t30 = ("#" : Str)))) (Option.bind (Option.bind (Option.bind (sJoin ("\n" : Str) txt) fun (t36 : Str) => some (t36, (((k : Int) + 1, (true, ())) : Int × Bool × Unit))) m__law_refused) fun (t38 : Bool) => some (!t38))) = some false := by
  obtain ⟨l10, l112⟩ := sp_len hz
  obtain ⟨w, ew, _⟩ := strip_ok (x := z) (by omega)
  rw [ew]
  simp only [bs]
  by_cases hw : w = ""
  · rw [decide_eq_true hw]
    rfl
  rw [decide_eq_false hw, nf, and_t]
  have hne : tl z ≠ [] := fun e => by
    have ez : z = "" := ext_tl (by rw [e]; rfl)
    rw [ez] at ew
    have : sStrip ("" : Str) (" " : Str) = some ("" : Str) := by decide +kernel
    rw [this] at ew
    exact hw (Option.some.inj ew).symm
  obtain ⟨c, r, ec⟩ : ∃ c r, tl z = c :: r := by
    cases h : tl z with
    | nil => exact absurd h hne
    | cons c r => exact ⟨c, r, rfl⟩
  have hat : sAt z 0 = some (c1 c) := by
    have := sAt_nat z 0 (by rw [ec]; exact Nat.succ_pos _) (by omega)
    have e2 : (tl z)[0]'(by rw [ec]; exact Nat.succ_pos _) = c := by simp only [ec, List.getElem_cons_zero]
    rw [e2] at this
    exact this
  rw [hat]
  simp only [bs]
  by_cases h35 : c1 c = "#"
  · rw [decide_eq_true h35]
    rfl
  rw [decide_eq_false h35, nf, and_t]
  have hp : m_is_passed_by (z, ()) = some false := by
    unfold m_is_passed_by
    simp only [bs]
    rw [ew]
    simp only [bs]
    rw [decide_eq_false hw, or_f, ← mks_tl z, GU.sw_hash, ec]
    refine congrArg some (decide_eq_false fun e => h35 ?_)
    have e : c = 35 := Option.some.inj e
    rw [e]
    decide +kernel
  have hrw : Rw (z, some none) := ⟨l10, by show z.length ≤ 150; omega, hp, fun f e => (by cases e), fun _ => sp_read hz⟩
  have ok1 : ∀ q ∈ R.take k, GU.Rr q := fun q hq => hR q (List.mem_of_mem_take hq)
  have ok2 : ∀ q ∈ R.drop k, GU.Rr q := fun q hq => hR q (List.mem_of_mem_drop hq)
  have lk : (R.take k).length = k := by rw [List.length_take]; omega
  have ld : (R.drop k).length = R.length - k := List.length_drop
  obtain ⟨j1, j2⟩ := read_bad hrw (R.take k) ((R.drop k).map (fun q : Str × Option Ru => ((q.1, q.2.map some) : Str × Kd)) ++ [((("for" : Str), some none) : Str × Kd)]) ok1 (fun p hp => by
    rcases List.mem_append.mp hp with y | y
    · exact up_rw ok2 p y
    · rw [List.mem_singleton.mp y]; exact for_rw) (by rw [List.length_append, List.length_map, List.length_singleton]; omega)
  have em : ((R.drop k).map (fun q : Str × Option Ru => ((q.1, q.2.map some) : Str × Kd)) ++ [((("for" : Str), some none) : Str × Kd)]).map (·.1) = (R.drop k).map (·.1) ++ [("for" : Str)] := by
    rw [List.map_append, up_map]
    rfl
  rw [em, ← et] at j1 j2
  rw [lk] at j2
  rw [j1]
  simp only [bs]
  rw [refused2 j2]
  rfl
theorem turn_ok (ns : List Int) {s : List Str} {R : List (Str × Option Ru)} {m : Nat} (h : LI s R m) (hm : m ≤ 20) (x : Int) (hx : 0 ≤ x) : Ok (b_law_1 (⟨ns⟩, ()) s x) fun t => ∃ s', t = .nx s' ∧ ∃ R', LI s' R' (m + 1) := by
  obtain ⟨c0, e0, _⟩ := G.cell_ok ⟨ns⟩ x hx
  obtain ⟨c1, e1, _⟩ := G.cell_ok ⟨ns⟩ (x + 1) (by omega)
  obtain ⟨c2, e2, _⟩ := G.cell_ok ⟨ns⟩ (x + 2) (by omega)
  obtain ⟨_, ew, way, D, f, s4, n, rfl, hrow, hnum, h1, h2⟩ := words_ok c0
  obtain ⟨z, ez, hz⟩ := spoiled_ok hrow hnum h1 h2 (c1 % 8) (c1 / 8) (by omega) (by omega)
  have a2 : atI [way, mks D, f, s4] 2 = some f := rfl
  have hlen := h.len
  have hsl : s.length = R.length := by rw [h.rows, List.length_map]
  have rd : m_read_rule (rowT way D f s4, ()) = some (.ok ⟨clsOf s4, if way = ("against" : Str) then 0 - n else n, f⟩) := GU.read_ok hrow hnum h1 h2
  have hcls : clsOf s4 ∈ [("Same" : Str), ("Like" : Str), ("Near" : Str), ("Other" : Str), ("Former" : Str)] := by
    unfold clsOf
    by_cases q1 : s4 = "same"
    · rw [if_pos q1]; simp
    · rw [if_neg q1]
      by_cases q2 : s4 = "like"
      · rw [if_pos q2]; simp
      · rw [if_neg q2]
        by_cases q3 : s4 = "near"
        · rw [if_pos q3]; simp
        · rw [if_neg q3]
          by_cases q4 : s4 = "other"
          · rw [if_pos q4]; simp
          · rw [if_neg q4]; simp
  have hru : ruG [("Same" : Str), ("Like" : Str), ("Near" : Str), ("Other" : Str), ("Former" : Str)] Ru.f ⟨clsOf s4, if way = ("against" : Str) then 0 - n else n, f⟩ = some f := if_pos hcls
  have hne : rowT way D f s4 ≠ "  " := fun e => by
    have h1 := GU.row_shown hrow
    rw [e] at h1
    have h2 : GU.m_is_passed_by (("  " : Str), ()) = some true := by decide +kernel
    rw [h2] at h1
    cases h1
  unfold b_law_1
  rw [cell_g]
  simp only [e0, e1, e2, bs]
  rw [ew]
  simp only [bs]
  rw [ez]
  simp only [bs]
  rw [refused1 (sp_read hz)]
  simp only [bs]
  rw [nt, if_f, GU.row_join hrow]
  simp only [bs]
  rw [rd]
  simp only [rsO, bs]
  rw [hru, a2]
  simp only [bs]
  rw [show (!decide True) = false from rfl, if_f, app_eq _ _ (by omega)]
  simp only [bs]
  refine .bind (P := fun s16 => ∃ R', LI s16 R' (m + 1)) ?_ fun s16 ⟨R', h'⟩ => ?_
  · have g1 := h.snoc (k := m + 1) (rowT way D f s4, some ⟨clsOf s4, if way = ("against" : Str) then 0 - n else n, f⟩) (GU.row_rr hrow hnum h1 h2) ⟨fun e => (by cases e), fun e => absurd e hne⟩ (by omega)
    refine .ifd (fun _ => ?_) fun _ => .ret ⟨_, g1⟩
    rw [app_eq _ _ (by rw [List.length_append, List.length_singleton]; omega)]
    refine .ret ⟨_, g1.snoc (k := m + 1) (("  " : Str), none) bl_rr ⟨fun _ => rfl, fun _ => rfl⟩ (by rw [List.length_append, List.length_singleton]; omega)⟩
  have hl' := h'.len
  rw [h'.rows, map_cut]
  generalize hR6 : cutA R' (some (-(6 : Int))) none = R6
  have l6 : R6.length ≤ R'.length := by rw [← hR6]; exact cut_len _ _ _
  have ok6 : ∀ q ∈ R6, GU.Rr q := fun q hq => h'.ok q (by rw [← hR6] at hq; exact G.mem_cut hq)
  refine (okMod (by omega)).bind fun at_ hat => ?_
  have ha2 := hat.2.2
  rw [List.length_map] at ha2
  obtain ⟨k, rfl⟩ : ∃ k : Nat, at_ = (k : Int) := ⟨at_.toNat, by have := hat.2.1; omega⟩
  have hk : k ≤ R6.length := by omega
  rw [cut_upto, cut_from]
  have cat : ∀ x y : List Str, x.length + y.length ≤ 200 → lCat x y = some (x ++ y) := fun x y h => if_pos (by omega)
  rw [cat _ [z] (by rw [List.length_take, List.length_map, List.length_singleton]; omega)]
  simp only [bs]
  rw [cat _ _ (by rw [List.length_append, List.length_take, List.length_drop, List.length_map, List.length_singleton]; omega)]
  simp only [bs]
  rw [cat _ _ (by rw [List.length_append, List.length_append, List.length_take, List.length_drop, List.length_map, List.length_singleton]; show _ + 1 ≤ 200; omega)]
  simp only [bs]
  rw [text_no hz ok6 (by omega) k hk (by rw [List.map_take, List.map_drop]; simp only [List.append_assoc, List.cons_append, List.nil_append]), if_f]
  exact .ret ⟨_, rfl, R', by rw [← h'.rows]; exact h'⟩
theorem law_true (ns : List Int) (_h : ns.length ≤ 63) : m_law (⟨ns⟩, ()) = some true := by
  refine okEq ?_
  unfold m_law
  simp only [bs]
  have hj : ∃ j : Int, imax2 (1 : Int) (imin2 (ns.length : Int) (60 : Int)) = j ∧ 1 ≤ j ∧ j ≤ 60 := by
    refine ⟨_, rfl, ?_⟩
    unfold imax2 imin2
    split <;> split <;> omega
  obtain ⟨j, ej, h1, h2⟩ := hj
  rw [ej]
  obtain ⟨xs, exs, hl, hxs⟩ := range3 j h1 h2
  rw [exs]
  simp only [bs]
  refine okThen (okForN (fun (p : List Int) (s : List Str) => ∃ R, LI s R p.length) ⟨[], rfl, fun q hq => (by cases hq), fun q hq => (by cases hq), Nat.zero_le _⟩ fun p x q s e ⟨R, h⟩ => ?_) fun s ⟨R, h⟩ => ?_
  · have hp : p.length ≤ 20 := by rw [e, List.length_append] at hl; omega
    have hx := hxs x (by rw [e]; exact List.mem_append_right _ List.mem_cons_self)
    refine (turn_ok ns h hp x hx).mono fun t ⟨s', et, R', h'⟩ => ⟨s', et, R', by rw [List.length_append, List.length_singleton]; exact h'⟩
  · have hlen := h.len
    have j3 := join_ok (R.map fun q => ((q.1, q.2.map some) : Str × Kd)) (up_rw h.ok) (by rw [List.length_map]; omega)
    rw [up_map] at j3
    rw [h.rows, j3]
    simp only [bs]
    rw [read_good R h.ok (by omega)]
    simp only [rsO, bs]
    rw [lc_id (t := fun x : Str => !decide (x = ("  " : Str))) (by rw [List.length_map]; omega)]
    simp only [bs]
    refine .ret (decide_eq_true ?_)
    rw [cnt R h.bl]
end K22

open PySem PySem.W PyProof.Rows
set_option maxHeartbeats 0 in
theorem PySem.Challenge.cw_folk_k22_rules_refused_holds : PySem.Challenge.rw_folk_k22_rules_refused.Holds := by
  w_on; o_law; k_head; (case hw => w_witness2)
  k_fill
  refine L2.walk_of (l := PySem.Challenge.rw_folk_k22_rules_refused) (n := 63) (k := 9) (x := "_law_script") (CX := fun _ => L2.CX0) (sp := fun w => FK.spV _ K22.m_law) rfl (by decide) rfl ⟨rfl, by decide, by decide⟩ (fun w h Y => PySem.W.kIn_of Y) ?F (fun _ H a ns hl _ hS => FK.law_in hS (K22.law_true ns hl)) (fun _ _ _ _ _ h => h)
  case F =>
    intro w mg fa h KX G hmg
    refine' K22.all_mk KX G hmg ?a1 ?l1 ?c1 ?k1 ?a2 ?l2 ?c2 ?k2 ?a3 ?l3 ?c3 ?k3 ?a4 ?l4 ?c4 ?k4 ?a5 ?l5 ?c5 ?k5 ?a6 ?l6 ?c6 ?k6 ?a7 ?l7 ?c7 ?k7 ?a8 ?l8 ?c8 ?k8 ?a9 ?l9 ?c9 ?k9 ?a10 ?l10 ?c10 ?k10 ?a11 ?l11 ?c11 ?k11 ?a12 ?l12 ?c12 ?k12 ?a13 ?l13 ?c13 ?k13 ?ns_FolkError ?ns_Former ?ns_Rule ?ns_Like ?ns_Near ?ns_NoName ?ns_NoPair ?ns_NoRow ?ns_NoText ?ns_Other ?ns_Same ?kp_NoRow ?eb_NoRow ?ty_NoRow ?xl_NoRow ?sa_NoRow ?ii_NoRow ?it_NoRow ?il_NoRow ?ic_NoRow ?ik_NoRow ?no_NoRow ?oc_sp ?oc_tk ?ka_NoRow ?kb_NoRow ?kc_NoRow ?kd_NoRow ?ke_NoRow ?kf_NoRow ?ka_FolkError ?ty_FolkError ?eb_FolkError ?k_NoRow_FolkError ?ka_NoName ?ty_NoName ?eb_NoName ?k_NoRow_NoName ?ka_NoPair ?ty_NoPair ?eb_NoPair ?k_NoRow_NoPair ?k_NoRow_NoRow ?ka_NoText ?ty_NoText ?eb_NoText ?k_NoRow_NoText ?k_NoRow_ValueError ?se_NoRow ?f_NoRow_row ?kp_Same ?rg_Same ?rh_Same ?ro_Same ?ra_Same ?rw_Same ?rf_Same ?rc_Same ?rm_Same ?rk_Same ?ii_Same ?fi_Rule ?il_Rule ?ic_Rule ?ik_Rule ?kp_Like ?rg_Like ?rh_Like ?ro_Like ?ra_Like ?rw_Like ?rf_Like ?rc_Like ?rm_Like ?rk_Like ?ii_Like ?kp_Near ?rg_Near ?rh_Near ?ro_Near ?ra_Near ?rw_Near ?rf_Near ?rc_Near ?rm_Near ?rk_Near ?ii_Near ?kp_Other ?rg_Other ?rh_Other ?ro_Other ?ra_Other ?rw_Other ?rf_Other ?rc_Other ?rm_Other ?rk_Other ?ii_Other ?kp_Former ?rg_Former ?rh_Former ?ro_Former ?ra_Former ?rw_Former ?rf_Former ?rc_Former ?rm_Former ?rk_Former ?ii_Former ?rd_Rule ?ga_Rule ?fc_Rule ?fi_Former ?il_Former ?ic_Former ?ik_Former ?z1 ?z2 ?z3 ?z4 ?z5 ?z6 ?z7 ?z8 ?z9 ?z10 ?y1 ?x1 ?y2
    (case a1 => k_is); (case l1 => k_is); (case c1 => k_is); (case k1 => k_is); (case a2 => k_is); (case l2 => k_is); (case c2 => k_is); (case k2 => k_is); (case a3 => k_is); (case l3 => k_is); (case c3 => k_is); (case k3 => k_is); (case a4 => k_is); (case l4 => k_is); (case c4 => k_is); (case k4 => k_is); (case a5 => k_is); (case l5 => k_is); (case c5 => k_is); (case k5 => k_is); (case a6 => k_is); (case l6 => k_is); (case c6 => k_is); (case k6 => k_is); (case a7 => k_is); (case l7 => k_is); (case c7 => k_is); (case k7 => k_is); (case a8 => k_is); (case l8 => k_is); (case c8 => k_is); (case k8 => k_is); (case a9 => k_is); (case l9 => k_is); (case c9 => k_is); (case k9 => k_is); (case a10 => k_is); (case l10 => k_is); (case c10 => k_is); (case k10 => k_is); (case a11 => k_is); (case l11 => k_is); (case c11 => k_is); (case k11 => k_is); (case a12 => k_is); (case l12 => k_is); (case c12 => k_is); (case k12 => k_is); (case a13 => k_is); (case l13 => k_is); (case c13 => k_is); (case k13 => k_is); (case ns_FolkError => k_is); (case ns_Former => k_is); (case ns_Rule => k_is); (case ns_Like => k_is); (case ns_Near => k_is); (case ns_NoName => k_is); (case ns_NoPair => k_is); (case ns_NoRow => k_is); (case ns_NoText => k_is); (case ns_Other => k_is); (case ns_Same => k_is); (case kp_NoRow => k_is); (case eb_NoRow => k_is); (case ty_NoRow => k_is); (case xl_NoRow => k_is); (case sa_NoRow => k_is); (case ii_NoRow => k_is); (case it_NoRow => k_is); (case il_NoRow => k_is); (case ic_NoRow => k_is); (case ik_NoRow => k_is); (case no_NoRow => k_is); (case oc_sp => k_is); (case oc_tk => k_is); (case ka_NoRow => k_is); (case kb_NoRow => k_is); (case kc_NoRow => k_is); (case kd_NoRow => k_is); (case ke_NoRow => k_is); (case kf_NoRow => k_is); (case ka_FolkError => k_is); (case ty_FolkError => k_is); (case eb_FolkError => k_is); (case k_NoRow_FolkError => k_is); (case ka_NoName => k_is); (case ty_NoName => k_is); (case eb_NoName => k_is); (case k_NoRow_NoName => k_is); (case ka_NoPair => k_is); (case ty_NoPair => k_is); (case eb_NoPair => k_is); (case k_NoRow_NoPair => k_is); (case k_NoRow_NoRow => k_is); (case ka_NoText => k_is); (case ty_NoText => k_is); (case eb_NoText => k_is); (case k_NoRow_NoText => k_is); (case k_NoRow_ValueError => k_is); (case se_NoRow => k_is); (case f_NoRow_row => k_is); (case kp_Same => k_is); (case rg_Same => k_is); (case rh_Same => k_is); (case ro_Same => k_is); (case ra_Same => k_is); (case rw_Same => k_is); (case rf_Same => k_is); (case rc_Same => k_is); (case rm_Same => k_is); (case rk_Same => k_is); (case ii_Same => k_is); (case fi_Rule => k_is); (case il_Rule => k_is); (case ic_Rule => k_is); (case ik_Rule => k_is); (case kp_Like => k_is); (case rg_Like => k_is); (case rh_Like => k_is); (case ro_Like => k_is); (case ra_Like => k_is); (case rw_Like => k_is); (case rf_Like => k_is); (case rc_Like => k_is); (case rm_Like => k_is); (case rk_Like => k_is); (case ii_Like => k_is); (case kp_Near => k_is); (case rg_Near => k_is); (case rh_Near => k_is); (case ro_Near => k_is); (case ra_Near => k_is); (case rw_Near => k_is); (case rf_Near => k_is); (case rc_Near => k_is); (case rm_Near => k_is); (case rk_Near => k_is); (case ii_Near => k_is); (case kp_Other => k_is); (case rg_Other => k_is); (case rh_Other => k_is); (case ro_Other => k_is); (case ra_Other => k_is); (case rw_Other => k_is); (case rf_Other => k_is); (case rc_Other => k_is); (case rm_Other => k_is); (case rk_Other => k_is); (case ii_Other => k_is); (case kp_Former => k_is); (case rg_Former => k_is); (case rh_Former => k_is); (case ro_Former => k_is); (case ra_Former => k_is); (case rw_Former => k_is); (case rf_Former => k_is); (case rc_Former => k_is); (case rm_Former => k_is); (case rk_Former => k_is); (case ii_Former => k_is); (case rd_Rule => k_is); (case ga_Rule => k_is); (case fc_Rule => k_is); (case fi_Former => k_is); (case il_Former => k_is); (case ic_Former => k_is); (case ik_Former => k_is); (case z1 => k_is); (case z2 => k_is); (case z3 => k_is); (case z4 => k_is); (case z5 => k_is); (case z6 => k_is); (case z7 => k_is); (case z8 => k_is); (case z9 => k_is); (case z10 => k_is); (case y1 => k_is); (case x1 => k_is); (case y2 => k_is)
