import PyProof.Rows.All
import Wide.All
import OpenK.AllK
import Wide.FinOn
import HandS.ForMost
import HandS.IsInst
import HandS.Exc
import HandS.Flt
import KE.DatumMoreOrd
import HandS.Wide
import HandS.ExcCtx
import HandS.Style
import HandS.Conv
import HandS.Deep
import HandS.StrMore
import HandS.Text
import PyProof.NeKinds
import KE.SortData
import HandS.TupAny
import HandS.RevTup
import HandS.Rev
import HandS.Dict
import HandS.More
import KE.KeyNested
import HandS.TupSets
import KE.KDictCopyH
import KE.KDictSum
import HandS.SetKeys
import HandS.TryOnly
import HandS.Iter
import HandS.WordsExc
import HandS.ExcInit
import HandS.RaiseMore
import KE.KExcIs
import KE.KIsAll
import HandS.Spec
import HandS.ReplaceLit
import HandS.ClsMeth
import KE.DatumOrd
import HandS.SortKw
import HandS.DictTup
import HandS.TupLen
import HandS.SetFor
import PyProof.SetRoads
import HandS.SuiteRaise
import HandS.ExcInitHot
import KE.GoesDict
import KE.KDictPairs
import PyProof.Rows.StrCut
import KE.KSort
import HandS.Codes
import HandS.ReplaceList
import KE.KStrOpen
import KE.KIntText
import PySem.Challenge.RW_folk_k42_nevers_shown
set_option Elab.async false
set_option linter.all false
set_option maxRecDepth 100000
set_option maxHeartbeats 4000000
namespace FK
open PySem PySem.Spec PyProof.Rows L2

/-! ### heaps: R what is frozen, H all that is known -/
def Ex (H H' : Hp) : Prop := ∀ a o, H a = some o → H' a = some o
theorem Ex.refl (H : Hp) : Ex H H := fun _ _ h => h
theorem Ex.trans {H H1 H2 : Hp} (a : Ex H H1) (b : Ex H1 H2) : Ex H H2 := fun x o h => b x o (a x o h)
theorem Ex.new {H : Hp} {p : Addr} {o : HO} (h : H p = none) : Ex H (upd H p o) := fun a u e => by
  rw [upd_ne (ne_of_none e h)]
  exact e
theorem Ex.up {R H : Hp} {p : Addr} {o : HO} (e : Ex R H) : Ex (upd R p o) (upd H p o) := fun a u h => by
  by_cases q : a = p
  · subst q
    rw [upd_same] at h ⊢
    exact h
  · rw [upd_ne q] at h ⊢
    exact e a u h
theorem Ex.put {R H : Hp} {p : Addr} {o : HO} (e : Ex R H) (h : H p = some o) : Ex (upd R p o) H := fun a u q => by
  by_cases z : a = p
  · subst z
    rw [upd_same] at q
    rw [← q]
    exact h
  · rw [upd_ne z] at q
    exact e a u q
theorem Ex.none {H H' : Hp} {p : Addr} (e : Ex H H') (h : H' p = none) : H p = none := by
  cases q : H p with
  | none => rfl
  | some o =>
    rw [e p o q] at h
    cases h
theorem Ex.mut {H H' : Hp} {p : Addr} {o : HO} (e : Ex H H') (h : H p = Option.none) : Ex H (upd H' p o) := fun a u q => by
  rw [upd_ne (ne_of_none q h)]
  exact e a u q
/-- a tuple: never changed, so it may be frozen at any time -/
def isT : HO → Bool
  | .tup _ => true
  | _ => false
structure Ext (R H R' H' : Hp) : Prop where
  r : Ex R R'
  h : Ex H H'
  i : Ex R' H'
  n : ∀ a o, isT o = false → H a = some o → R a = none → R' a = none
theorem Ext.refl {R H : Hp} (i : Ex R H) : Ext R H R H := ⟨.refl R, .refl H, i, fun _ _ _ _ h => h⟩
theorem Ext.trans {R H R1 H1 R2 H2 : Hp} (a : Ext R H R1 H1) (b : Ext R1 H1 R2 H2) : Ext R H R2 H2 :=
  ⟨a.r.trans b.r, a.h.trans b.h, b.i, fun x o t h q => b.n x o t (a.h x o h) (a.n x o t h q)⟩
/-- a new thing, not frozen | frozen -/
theorem Ext.own {R H : Hp} {p : Addr} {o : HO} (i : Ex R H) (h : H p = none) : Ext R H R (upd H p o) :=
  ⟨.refl R, .new h, i.trans (.new h), fun _ _ _ _ q => q⟩
theorem Ext.new {R H : Hp} {p : Addr} {o : HO} (i : Ex R H) (h : H p = none) : Ext R H (upd R p o) (upd H p o) :=
  ⟨.new (i.none h), .new h, i.up, fun a u _ q z => by
    rw [upd_ne (ne_of_none q h)]
    exact z⟩

theorem Ext.frt {R H : Hp} {b : Addr} {vs : List V} (i : Ex R H) (h : H b = some (.tup vs)) : Ext R H (upd R b (.tup vs)) H := ⟨fun a u q => by
  by_cases e : a = b
  · rw [e] at q ⊢
    rw [upd_same]
    exact h.symm.trans (i b u q)
  · rw [upd_ne e]
    exact q, .refl H, i.put h, fun a u t q z => by
  have ne : a ≠ b := fun e => by
    rw [e, h] at q
    cases q
    cases t
  rw [upd_ne ne]
  exact z⟩

/-! ### what a value stands for -/
class Py (α : Type) where
  rep : PySem.W.Frag → Hp → V → α → Prop
  bor : PySem.W.Frag → Hp → Hp → V → α → Prop
  mono : ∀ {K : PySem.W.Frag} {R R' : Hp} {v : V} {a : α}, Ex R R' → rep K R v a → rep K R' v a
  bmono : ∀ {K : PySem.W.Frag} {R R' H H' : Hp} {v : V} {a : α}, Ex R R' → Ex H H' → bor K R H v a → bor K R' H' v a
  lend : ∀ {K : PySem.W.Frag} {R H : Hp} {v : V} {a : α}, Ex R H → rep K R v a → bor K R H v a
/-- what is changed in place: told by its record -/
class Ob (α : Type) where
  ho : PySem.W.Frag → Hp → HO → α → Prop
  mono : ∀ {K : PySem.W.Frag} {R R' : Hp} {o : HO} {a : α}, Ex R R' → ho K R o a → ho K R' o a
  nt : ∀ {K : PySem.W.Frag} {R : Hp} {o : HO} {a : α}, ho K R o a → isT o = false
abbrev rep {α : Type} [Py α] (K : PySem.W.Frag) (R : Hp) (v : V) (a : α) : Prop := Py.rep K R v a
abbrev bor {α : Type} [Py α] (K : PySem.W.Frag) (R H : Hp) (v : V) (a : α) : Prop := Py.bor K R H v a
abbrev ho {α : Type} [Ob α] (K : PySem.W.Frag) (R : Hp) (o : HO) (a : α) : Prop := Ob.ho K R o a
theorem rd_ex {H H' : Hp} {a : Addr} {u : HO} (e : Ex H H') (h : Rd H a u) : Rd H' a u := by
  rcases h with h | ⟨o, h⟩
  · exact .inl (e a _ h)
  · exact .inr ⟨o, e a _ h⟩
/-- what may be read -/
abbrev RdK (_ : PySem.W.Frag) (H : Hp) (p : Addr) (o : HO) : Prop := Rd H p o
theorem sql_ex {K : PySem.W.Frag} {H H' : Hp} {p : Addr} {xs : List V} (e : Ex H H') (h : SqL K H p xs) : SqL K H' p xs := h.elim (fun z => .inl (rd_ex e z)) .inr
instance instPyOb {α : Type} [Ob α] : Py α where
  rep := fun K R v a => ∃ p o, v = .ref p ∧ RdK K R p o ∧ Ob.ho K R o a
  bor := fun K R H v a => ∃ p o, v = .ref p ∧ RdK K H p o ∧ Ob.ho K R o a
  mono := fun e ⟨p, o, h, r, q⟩ => ⟨p, o, h, rd_ex e r, Ob.mono e q⟩
  bmono := fun e e2 ⟨p, o, h, r, q⟩ => ⟨p, o, h, rd_ex e2 r, Ob.mono e q⟩
  lend := fun e ⟨p, o, h, r, q⟩ => ⟨p, o, h, rd_ex e r, q⟩
@[reducible] def flatPy {α : Type} (f : α → V) : Py α where
  rep := fun _ _ v a => v = f a
  bor := fun _ _ _ v a => v = f a
  mono := fun _ h => h
  bmono := fun _ _ h => h
  lend := fun _ h => h
instance instPyInt : Py Int := flatPy V.int
instance instPyBool : Py Bool := flatPy V.bl
instance instPyStr : Py Str := flatPy V.str
instance instPyUnit : Py Unit := flatPy fun _ => V.non
inductive AllR {α : Type} [Py α] (K : PySem.W.Frag) (R : Hp) : List V → List α → Prop
  | nil : AllR K R [] []
  | cons {v : V} {vs : List V} {a : α} {as : List α} : rep K R v a → AllR K R vs as → AllR K R (v :: vs) (a :: as)
section
variable {α : Type} [Py α] {K : PySem.W.Frag} {R R' : Hp}
theorem AllR.mono (e : Ex R R') : ∀ {vs : List V} {as : List α}, AllR K R vs as → AllR K R' vs as
  | _, _, .nil => .nil
  | _, _, .cons h t => .cons (Py.mono e h) (t.mono e)
theorem AllR.len : ∀ {vs : List V} {as : List α}, AllR K R vs as → vs.length = as.length
  | _, _, .nil => rfl
  | _, _, .cons _ t => congrArg (· + 1) t.len
theorem AllR.get : ∀ {vs : List V} {as : List α} {i : Nat} {a : α}, AllR K R vs as → as[i]? = some a → ∃ v, vs[i]? = some v ∧ rep K R v a
  | _, _, i, a, .nil, e => by simp at e
  | _, _, 0, a, .cons (v := v) h _, e => by
    have e' := Option.some.inj e
    subst e'
    exact ⟨v, rfl, h⟩
  | _, _, i + 1, a, .cons _ t, e => t.get (i := i) (a := a) e
theorem AllR.app : ∀ {vs ws : List V} {as bs : List α}, AllR K R vs as → AllR K R ws bs → AllR K R (vs ++ ws) (as ++ bs)
  | _, _, _, _, .nil, q => q
  | _, _, _, _, .cons h t, q => .cons h (t.app q)
theorem AllR.drop : ∀ {vs : List V} {as : List α} (n : Nat), AllR K R vs as → AllR K R (vs.drop n) (as.drop n)
  | _, _, 0, q => q
  | _, _, _ + 1, .nil => .nil
  | _, _, n + 1, .cons _ t => t.drop n
theorem AllR.take : ∀ {vs : List V} {as : List α} (n : Nat), AllR K R vs as → AllR K R (vs.take n) (as.take n)
  | _, _, 0, _ => .nil
  | _, _, _ + 1, .nil => .nil
  | _, _, n + 1, .cons h t => .cons h (t.take n)
theorem AllR.rev : ∀ {vs : List V} {as : List α}, AllR K R vs as → AllR K R vs.reverse as.reverse
  | _, _, .nil => .nil
  | _, _, .cons h t => by
    rw [List.reverse_cons, List.reverse_cons]
    exact t.rev.app (.cons h .nil)
theorem AllR.map_eq {f : α → V} (h : ∀ v a, rep K R v a → v = f a) : ∀ {vs : List V} {as : List α}, AllR K R vs as → vs = as.map f
  | _, _, .nil => rfl
  | _, _, .cons q t => by
    rw [List.map_cons, ← t.map_eq h, h _ _ q]
theorem AllR.of_map {f : α → V} (h : ∀ a, rep K R (f a) a) : ∀ as : List α, AllR K R (as.map f) as
  | [] => .nil
  | a :: as => .cons (h a) (AllR.of_map h as)
end
instance instObList {α : Type} [Py α] : Ob (List α) where
  ho := fun K R o as => ∃ vs, o = .lst vs ∧ AllR K R vs as
  mono := fun e ⟨vs, h, q⟩ => ⟨vs, h, q.mono e⟩
  nt := fun ⟨vs, h, _⟩ => by rw [h]; rfl
@[reducible] def tupPy {α : Type} (f : PySem.W.Frag → Hp → List V → α → Prop) (m : ∀ {K : PySem.W.Frag} {R R' : Hp} {vs : List V} {a : α}, Ex R R' → f K R vs a → f K R' vs a) : Py α where
  rep := fun K R v a => ∃ p vs, v = .ref p ∧ SqT K R p vs ∧ f K R vs a
  bor := fun K R _ v a => ∃ p vs, v = .ref p ∧ SqT K R p vs ∧ f K R vs a
  mono := fun e ⟨p, vs, h, q, z⟩ => ⟨p, vs, h, q.elim (fun r => .inl (rd_ex e r)) .inr, m e z⟩
  bmono := fun e _ ⟨p, vs, h, q, z⟩ => ⟨p, vs, h, q.elim (fun r => .inl (rd_ex e r)) .inr, m e z⟩
  lend := fun _ h => h
/-- a tuple made here -/
@[reducible] def dirPy {α : Type} (f : PySem.W.Frag → Hp → List V → α → Prop) (m : ∀ {K : PySem.W.Frag} {R R' : Hp} {vs : List V} {a : α}, Ex R R' → f K R vs a → f K R' vs a) : Py α where
  rep := fun K R v a => ∃ p vs, v = .ref p ∧ R p = some (.tup vs) ∧ f K R vs a
  bor := fun K R _ v a => ∃ p vs, v = .ref p ∧ R p = some (.tup vs) ∧ f K R vs a
  mono := fun e ⟨p, vs, h, q, z⟩ => ⟨p, vs, h, e _ _ q, m e z⟩
  bmono := fun e _ ⟨p, vs, h, q, z⟩ => ⟨p, vs, h, e _ _ q, m e z⟩
  lend := fun _ h => h
theorem dsq {K : PySem.W.Frag} {R : Hp} {p : Addr} {vs : List V} (h : R p = some (.tup vs)) : SqT K R p vs := .inl (.inl h)
instance instPy2 {α β : Type} [Py α] [Py β] : Py (α × β) := dirPy (fun K R vs a => ∃ x y, vs = [x, y] ∧ rep K R x a.1 ∧ rep K R y a.2)
  fun e ⟨x, y, h, p, q⟩ => ⟨x, y, h, Py.mono e p, Py.mono e q⟩
abbrev T3 := PySem.W.T3
instance instPy3 {α β γ : Type} [Py α] [Py β] [Py γ] : Py (T3 α β γ) := dirPy (fun K R vs a => ∃ x y z, vs = [x, y, z] ∧ rep K R x a.a ∧ rep K R y a.b ∧ rep K R z a.c)
  fun e ⟨x, y, z, h, p, q, r⟩ => ⟨x, y, z, h, Py.mono e p, Py.mono e q, Py.mono e r⟩
/-- the script: a list of ints that the law is handed -/
structure Scr where
  l : List Int
instance instPyScr : Py Scr where
  rep := fun K R v a => ∃ p, v = .ref p ∧ SqL K R p (a.l.map V.int)
  bor := fun K _ H v a => ∃ p, v = .ref p ∧ SqL K H p (a.l.map V.int)
  mono := fun e ⟨p, h, q⟩ => ⟨p, h, sql_ex e q⟩
  bmono := fun _ e ⟨p, h, q⟩ => ⟨p, h, sql_ex e q⟩
  lend := fun e ⟨p, h, q⟩ => ⟨p, h, sql_ex e q⟩
theorem seq_rd {K : PySem.W.Frag} {H : Hp} {p : Addr} {vs : List V} (h : Rd H p (.lst vs)) : SqL K H p vs := .inl h

/-- a thing of one's own, with things of one's own in it (at ps) -/
class Od (α : Type) where
  dh : PySem.W.Frag → Hp → Hp → HO → List Addr → α → Prop
  mono : ∀ {K : PySem.W.Frag} {R R' H H' : Hp} {o : HO} {ps : List Addr} {a : α}, Ex R R' → (∀ c ∈ ps, ∀ u, H c = some u → H' c = some u) → dh K R H o ps a → dh K R' H' o ps a
  there : ∀ {K : PySem.W.Frag} {R H : Hp} {o : HO} {ps : List Addr} {a : α}, dh K R H o ps a → ∀ c ∈ ps, ∃ u, H c = some u ∧ isT u = false
  nt : ∀ {K : PySem.W.Frag} {R H : Hp} {o : HO} {ps : List Addr} {a : α}, dh K R H o ps a → isT o = false
/-! ### slots -/
inductive Slot : Type 1
  | any
  | v {α : Type} [Py α] (a : α)
  | b {α : Type} [Py α] (a : α)
  | own {α : Type} [Ob α] (a : α)
  | deep {α : Type} [Od α] (a : α)
def SlotOk (K : PySem.W.Frag) (R0 H0 R H : Hp) (x : Option V) (s : Slot) (os : List Addr) : Prop :=
  match s with
  | .any => os = []
  | @Slot.v _ i a => os = [] ∧ ∃ v, x = some v ∧ @Py.rep _ i K R v a
  | @Slot.b _ i a => os = [] ∧ ∃ v, x = some v ∧ @Py.bor _ i K R0 H0 v a
  | @Slot.own _ i a => ∃ p o, os = [p] ∧ x = some (.ref p) ∧ H p = some o ∧ @Ob.ho _ i K R o a
  | @Slot.deep _ i a => ∃ p o ps, os = p :: ps ∧ x = some (.ref p) ∧ H p = some o ∧ @Od.dh _ i K R H o ps a
def SlotsOk (K : PySem.W.Frag) (R0 H0 R H : Hp) : List Slot → L2.St → List Addr → Prop
  | [], [], os => os = []
  | s :: Γ, x :: σ, os => ∃ o1 o2, os = o1 ++ o2 ∧ SlotOk K R0 H0 R H x s o1 ∧ SlotsOk K R0 H0 R H Γ σ o2
  | _, _, _ => False
structure Sat (K : PySem.W.Frag) (R0 H0 : Hp) (Γ : List Slot) (σ : L2.St) (R H : Hp) : Prop where
  sl : ∃ os, SlotsOk K R0 H0 R H Γ σ os ∧ os.Nodup ∧ ∀ p ∈ os, R p = none ∧ H0 p = none
  e0 : Ext R0 H0 R H
section
variable {K : PySem.W.Frag} {R0 H0 R H R' H' : Hp} {Γ : List Slot} {σ : L2.St} {os : List Addr}
theorem SlotOk.ext {x : Option V} {s : Slot} (er : Ex R R') (eh : ∀ p ∈ os, ∀ o, H p = some o → H' p = some o) (h : SlotOk K R0 H0 R H x s os) : SlotOk K R0 H0 R' H' x s os := by
  cases s with
  | any => exact h
  | v a =>
    obtain ⟨e, v, e2, q⟩ := h
    exact ⟨e, v, e2, Py.mono er q⟩
  | b a => exact h
  | own a =>
    obtain ⟨p, o, e, e2, h, q⟩ := h
    exact ⟨p, o, e, e2, eh p (by rw [e]; exact List.mem_singleton.mpr rfl) o h, Ob.mono er q⟩
  | deep a =>
    obtain ⟨p, o, ps, e, e2, h, q⟩ := h
    subst e
    exact ⟨p, o, ps, rfl, e2, eh p List.mem_cons_self o h, Od.mono er (fun c hc u hu => eh c (List.mem_cons_of_mem _ hc) u hu) q⟩
theorem SlotsOk.ext (er : Ex R R') : ∀ {Γ : List Slot} {σ : L2.St} {os : List Addr}, (∀ p ∈ os, ∀ o, H p = some o → H' p = some o) → SlotsOk K R0 H0 R H Γ σ os → SlotsOk K R0 H0 R' H' Γ σ os
  | [], [], _, _, h => h
  | [], _ :: _, _, _, h => h.elim
  | _ :: _, [], _, _, h => h.elim
  | s :: Γ, x :: σ, os, eh, h => by
    obtain ⟨o1, o2, e, h1, h2⟩ := h
    subst e
    exact ⟨o1, o2, rfl, h1.ext er fun p hp => eh p (List.mem_append_left _ hp), h2.ext er fun p hp => eh p (List.mem_append_right _ hp)⟩
theorem SlotsOk.there : ∀ {Γ : List Slot} {σ : L2.St} {os : List Addr}, SlotsOk K R0 H0 R H Γ σ os → ∀ p ∈ os, ∃ o, H p = some o ∧ isT o = false
  | [], [], os, h, p, hp => by
    have h : os = [] := h
    subst h
    cases hp
  | [], _ :: _, _, h, _, _ => h.elim
  | _ :: _, [], _, h, _, _ => h.elim
  | s :: Γ, x :: σ, os, h, p, hp => by
    obtain ⟨o1, o2, e, h1, h2⟩ := h
    subst e
    rcases List.mem_append.mp hp with hp | hp
    · cases s with
      | any =>
        have h1 : o1 = [] := h1
        subst h1
        cases hp
      | v a =>
        obtain ⟨e, _⟩ := h1
        subst e
        cases hp
      | b a =>
        obtain ⟨e, _⟩ := h1
        subst e
        cases hp
      | own a =>
        obtain ⟨q, o, e, _, h, g⟩ := h1
        subst e
        cases List.mem_singleton.mp hp
        exact ⟨o, h, Ob.nt g⟩
      | deep a =>
        obtain ⟨q, o, ps, e, _, h, g⟩ := h1
        subst e
        rcases List.mem_cons.mp hp with hp | hp
        · subst hp
          exact ⟨o, h, Od.nt g⟩
        · exact Od.there g p hp
    · exact h2.there p hp
theorem Sat.ext (S : Sat K R0 H0 Γ σ R H) (e : Ext R H R' H') : Sat K R0 H0 Γ σ R' H' := by
  obtain ⟨⟨os, s, nd, fr⟩, e0⟩ := S
  refine ⟨⟨os, s.ext e.r (fun p _ o h => e.h p o h), nd, fun p hp => ?_⟩, e0.trans e⟩
  obtain ⟨o, ho, t⟩ := s.there p hp
  exact ⟨e.n p o t ho (fr p hp).1, (fr p hp).2⟩
theorem Sat.i (S : Sat K R0 H0 Γ σ R H) : Ex R H := S.e0.i
/-- the slot at i, and the rest with another one in its place -/
theorem SlotsOk.at : ∀ {Γ : List Slot} {σ : L2.St} {os : List Addr} {i : Nat} {s : Slot}, SlotsOk K R0 H0 R H Γ σ os → Γ[i]? = some s → ∃ x o1 oa ob, σ[i]? = some x ∧ os = oa ++ (o1 ++ ob) ∧ SlotOk K R0 H0 R H x s o1 ∧
    ∀ (R' H' : Hp) (s' : Slot) (x' : Option V) (o1' : List Addr), Ex R R' → (∀ p ∈ oa ++ ob, ∀ o, H p = some o → H' p = some o) → SlotOk K R0 H0 R' H' x' s' o1' → SlotsOk K R0 H0 R' H' (Γ.set i s') (σ.set i x') (oa ++ (o1' ++ ob))
  | [], [], _, i, s, _, e => by simp at e
  | [], _ :: _, _, _, _, h, _ => h.elim
  | _ :: _, [], _, _, _, h, _ => h.elim
  | s0 :: Γ, x :: σ, os, 0, s, h, e => by
    obtain ⟨o1, o2, e1, h1, h2⟩ := h
    have e : s0 = s := Option.some.inj e
    subst e
    refine ⟨x, o1, [], o2, rfl, e1, h1, fun R' H' s' x' o1' er k q => ⟨o1', o2, rfl, q, h2.ext er fun p hp => k p hp⟩⟩
  | s0 :: Γ, x :: σ, os, i + 1, s, h, e => by
    obtain ⟨o1, o2, e1, h1, h2⟩ := h
    obtain ⟨y, p1, pa, pb, g1, g2, g3, g4⟩ := SlotsOk.at (i := i) (s := s) h2 e
    refine ⟨y, p1, o1 ++ pa, pb, g1, by rw [e1, g2, List.append_assoc], g3, fun R' H' s' x' o1' er k q => ?_⟩
    refine ⟨o1, pa ++ (o1' ++ pb), by rw [List.append_assoc], h1.ext er fun p hp => k p (List.mem_append_left _ (List.mem_append_left _ hp)), g4 R' H' s' x' o1' er (fun p hp => k p ?_) q⟩
    rw [List.append_assoc]
    exact List.mem_append_right _ hp
variable (S : Sat K R0 H0 Γ σ R H)
include S
theorem Sat.get_v {α : Type} [Py α] {a : α} {i : Nat} (e : Γ[i]? = some (.v a)) : ∃ v, σ[i]? = some (some v) ∧ rep K R v a := by
  obtain ⟨⟨os, s, nd, fr⟩, e0⟩ := S
  obtain ⟨x, o1, oa, ob, h1, h2, ⟨_, v, hx, hr⟩, h4⟩ := s.at e
  subst hx
  exact ⟨v, h1, hr⟩
theorem Sat.get_b {α : Type} [Py α] {a : α} {i : Nat} (e : Γ[i]? = some (.b a)) : ∃ v, σ[i]? = some (some v) ∧ bor K R0 H0 v a := by
  obtain ⟨⟨os, s, nd, fr⟩, e0⟩ := S
  obtain ⟨x, o1, oa, ob, h1, h2, ⟨_, v, hx, hr⟩, h4⟩ := s.at e
  subst hx
  exact ⟨v, h1, hr⟩
/-- what is owned may be changed; or given away, frozen -/
theorem Sat.get_own {α : Type} [Ob α] {a : α} {i : Nat} (e : Γ[i]? = some (.own a)) : ∃ p o, σ[i]? = some (some (.ref p)) ∧ H p = some o ∧ ho K R o a ∧ R p = none ∧ H0 p = none ∧
    ∀ (R' H' : Hp) {β : Type} [Ob β] (o' : HO) (b : β), Ext R H R' H' → ho K R' o' b → Sat K R0 H0 (Γ.set i (.own b)) σ R' (upd H' p o') := by
  obtain ⟨⟨os, s, nd, fr⟩, e0⟩ := S
  obtain ⟨x, o1, oa, ob, h1, h2, ⟨p, o, e1, hx, hp, hr⟩, h4⟩ := s.at e
  subst hx e1 h2
  have hm : p ∈ oa ++ ([p] ++ ob) := List.mem_append_right _ (List.mem_append_left _ (List.mem_singleton.mpr rfl))
  obtain ⟨f1, f2⟩ := fr p hm
  refine ⟨p, o, h1, hp, hr, f1, f2, fun R' H' β _ o' b ex q => ?_⟩
  have f3 : R' p = none := ex.n p o (Ob.nt hr) hp f1
  have hset : σ.set i (some (.ref p)) = σ := by
    refine List.ext_getElem? fun j => ?_
    rw [List.getElem?_set]
    split
    · rename_i hij
      subst hij
      split
      · exact h1.symm
      · rename_i hj
        exact (List.getElem?_eq_none_iff.mpr (Nat.le_of_not_lt hj)).symm
    · rfl
  refine ⟨⟨oa ++ ([p] ++ ob), ?_, nd, fun z hz => ?_⟩, ?_⟩
  · have g := h4 R' (upd H' p o') (.own b) (some (.ref p)) [p] ex.r (fun z hz u hu => ?_) ⟨p, o', rfl, rfl, upd_same, q⟩
    · rw [hset] at g
      exact g
    · have hne : z ≠ p := fun hzp => by
        subst hzp
        have hc := List.nodup_append.mp nd
        rcases List.mem_append.mp hz with hz | hz
        · exact hc.2.2 z hz z (List.mem_append_left _ (List.mem_singleton.mpr rfl)) rfl
        · have := (List.nodup_append.mp hc.2.1).2.2 z (List.mem_singleton.mpr rfl) z hz
          exact this rfl
      rw [upd_ne hne]
      exact ex.h z u hu
  · obtain ⟨u, hu, t⟩ := s.there z hz
    exact ⟨ex.n z u t hu (fr z hz).1, (fr z hz).2⟩
  · refine ⟨e0.r.trans ex.r, (e0.h.trans ex.h).mut f2, fun z u hz => ?_, fun z u t hz hn => ex.n z u t (e0.h z u hz) (e0.n z u t hz hn)⟩
    rw [upd_ne (ne_of_none hz f3)]
    exact ex.i z u hz
/-- a slot forgotten -/
theorem Sat.set_any {i : Nat} (x : Option V) (hi : i < Γ.length) : Sat K R0 H0 (Γ.set i .any) (σ.set i x) R H := by
  obtain ⟨⟨os, s, nd, fr⟩, e0⟩ := S
  obtain ⟨y, o1, oa, ob, h1, h2, _, h4⟩ := s.at (s := Γ[i]) (List.getElem?_eq_getElem hi)
  subst h2
  refine ⟨⟨oa ++ ([] ++ ob), h4 R H .any x [] (.refl _) (fun _ _ _ q => q) rfl, ?_, fun p hp => fr p ?_⟩, e0⟩
  · exact nd.sublist (List.Sublist.append (List.Sublist.refl _) (List.Sublist.append (List.nil_sublist _) (List.Sublist.refl _)))
  · exact (List.Sublist.append (List.Sublist.refl _) (List.Sublist.append (List.nil_sublist _) (List.Sublist.refl _))).mem hp
theorem Sat.set_v {α : Type} [Py α] {a : α} {v : V} {i : Nat} (hi : i < Γ.length) (h : rep K R v a) : Sat K R0 H0 (Γ.set i (.v a)) (σ.set i (some v)) R H := by
  obtain ⟨⟨os, s, nd, fr⟩, e0⟩ := S
  obtain ⟨y, o1, oa, ob, h1, h2, _, h4⟩ := s.at (s := Γ[i]) (List.getElem?_eq_getElem hi)
  subst h2
  refine ⟨⟨oa ++ ([] ++ ob), h4 R H (.v a) (some v) [] (.refl _) (fun _ _ _ q => q) ⟨rfl, v, rfl, h⟩, ?_, fun p hp => fr p ?_⟩, e0⟩
  · exact nd.sublist (List.Sublist.append (List.Sublist.refl _) (List.Sublist.append (List.nil_sublist _) (List.Sublist.refl _)))
  · exact (List.Sublist.append (List.Sublist.refl _) (List.Sublist.append (List.nil_sublist _) (List.Sublist.refl _))).mem hp
/-- a new thing of one's own into a slot -/
theorem Sat.set_own {α : Type} [Ob α] {a : α} {p : Addr} {o : HO} {i : Nat} {R' H' : Hp} (hi : i < Γ.length) (ex : Ext R H R' H') (hn : H p = none) (hp : H' p = some o) (hR : R' p = none) (h : ho K R' o a) : Sat K R0 H0 (Γ.set i (.own a)) (σ.set i (some (.ref p))) R' H' := by
  have S2 := S.ext ex
  obtain ⟨⟨os, s, nd, fr⟩, e0⟩ := S
  have th := s.there
  obtain ⟨y, o1, oa, ob, h1, h2, _, h4⟩ := s.at (s := Γ[i]) (List.getElem?_eq_getElem hi)
  subst h2
  have sub : (oa ++ ob).Sublist (oa ++ (o1 ++ ob)) := List.Sublist.append (List.Sublist.refl _) (List.sublist_append_right _ _)
  have npm : p ∉ oa ++ ob := fun hm => by
    obtain ⟨u, hu, _⟩ := th p (sub.mem hm)
    rw [hn] at hu
    cases hu
  refine ⟨⟨oa ++ ([p] ++ ob), h4 R' H' (.own a) (some (.ref p)) [p] ex.r (fun z _ u q => ex.h z u q) ⟨p, o, rfl, rfl, hp, h⟩, ?_, fun z hz => ?_⟩, S2.e0⟩
  · have pm : (p :: (oa ++ ob)).Perm (oa ++ ([p] ++ ob)) := List.perm_middle.symm
    exact pm.nodup_iff.mp (List.nodup_cons.mpr ⟨npm, nd.sublist sub⟩)
  · rcases List.mem_append.mp hz with hz | hz
    · obtain ⟨u, hu, t⟩ := th z (List.mem_append_left _ hz)
      exact ⟨ex.n z u t hu (fr z (List.mem_append_left _ hz)).1, (fr z (List.mem_append_left _ hz)).2⟩
    · rcases List.mem_cons.mp hz with hz | hz
      · subst hz
        exact ⟨hR, e0.h.none hn⟩
      · have hm : z ∈ oa ++ (o1 ++ ob) := List.mem_append_right _ (List.mem_append_right _ hz)
        obtain ⟨u, hu, t⟩ := th z hm
        exact ⟨ex.n z u t hu (fr z hm).1, (fr z hm).2⟩
omit S
end
end FK

namespace FK
open PySem PySem.Spec PyProof.Rows L2

/-! ### the text's own transformers -/
def eSem (X : Cx) (e : Expr) : TE := fun σ H Q => ∀ pins s, Inv X pins σ H s → wpAny (model X.prog X.w) X.A (eval e X.env) (EP X pins σ Q) X.xe s
def tSem (X : Cx) (e : Expr) : TT := fun σ H Q => ∀ pins s, Inv X pins σ H s → wpAny (model X.prog X.w) X.A (isTrue e X.env (eval e X.env)) (TP X pins σ Q) X.xe s
def wSem (X : Cx) (e : Expr) : TT := fun σ H Q => ∀ whole pins s, Inv X pins σ H s → wpAny (model X.prog X.w) X.A (isTrue e X.env whole) (TP X pins σ Q) X.xe s
def aSem (X : Cx) (es : List Expr) : TA := fun σ H Q => ∀ (pos : Pos) pins s, Inv X pins σ H s → wpAny (model X.prog X.w) X.A (spliced (backTo pos (starEach es X.env))) (AP X pins σ Q) X.xe s
def sSem (X : Cx) (st : List Stmt) : TS := fun D σ H => ∀ pins s, Inv X pins σ H s → wpAny (model X.prog X.w) X.A (execs st X.env) (SP X pins D) X.xe s
def s1Sem (X : Cx) (st : Stmt) : TS := fun D σ H => ∀ pins s, Inv X pins σ H s → wpAny (model X.prog X.w) X.A (exec st X.env) (SP X pins D) X.xe s
def iSem (X : Cx) (tg iter : Expr) : TI := fun σ H R => ∀ pins s, Inv X pins σ H s →
    wpAny (model X.prog X.w) X.A (eval iter X.env) (fun v s1 => wpAny (model X.prog X.w) X.A (pyIter v) (PIE X pins σ tg R) X.xe s1) X.xe s
def gSem (X : Cx) (tg : Expr) : TG := fun v σ H Q => ∀ pins s (u : Value), Inv X pins σ H s → RelV v u → wpAny (model X.prog X.w) X.A (assign tg X.env u) (fun _ s' => ∃ σ' H', Inv X pins σ' H' s' ∧ Q σ' H') X.xe s
def oSem (X : Cx) (e : Option Expr) : TO := fun σ H Q => ∀ pins s, Inv X pins σ H s → wpAny (model X.prog X.w) X.A (evalPart e X.env) (fun u s' => ∃ o H', Inv X pins σ H' s' ∧ IsPart u o ∧ Q o H') X.xe s
section
variable {X : Cx}
theorem eS {e : Expr} : PE X e (eSem X e) := ⟨fun pins s σ H Q I h => h pins s I⟩
theorem tS {e : Expr} : PT X e (tSem X e) := ⟨fun pins s σ H Q I h => h pins s I⟩
theorem wS {e : Expr} : PW X e (wSem X e) := ⟨fun wh pins s σ H Q I h => h wh pins s I⟩
theorem aS {es : List Expr} : PA X es (aSem X es) := ⟨fun pos pins s σ H Q I h => h pos pins s I⟩
theorem sS {st : List Stmt} : PSs X st (sSem X st) := ⟨fun pins s σ H D I h => h pins s I⟩
theorem s1S {st : Stmt} : PS X st (s1Sem X st) := ⟨fun pins s σ H D I h => h pins s I⟩
theorem iS {tg e : Expr} : PI X tg e (iSem X tg e) := ⟨fun pins s σ H R I h => h pins s I⟩
theorem gS {tg : Expr} : PG X tg (gSem X tg) := ⟨fun pins s σ H v u Q I r h => h pins s u I r⟩
theorem oS {e : Option Expr} : PO X e (oSem X e) := ⟨fun pins s σ H Q I h => h pins s I⟩
theorem PE_to {e : Expr} {t : TE} (h : PE X e t) {σ : L2.St} {H : Hp} {Q : VK} (q : t σ H Q) : eSem X e σ H Q := fun pins s I => h.run pins s σ H Q I q
theorem PT_to {e : Expr} {t : TT} (h : PT X e t) {σ : L2.St} {H : Hp} {Q : Bool → Hp → Prop} (q : t σ H Q) : tSem X e σ H Q := fun pins s I => h.run pins s σ H Q I q
theorem PW_to {e : Expr} {t : TT} (h : PW X e t) {σ : L2.St} {H : Hp} {Q : Bool → Hp → Prop} (q : t σ H Q) : wSem X e σ H Q := fun wh pins s I => h.run wh pins s σ H Q I q
theorem PA_to {es : List Expr} {t : TA} (h : PA X es t) {σ : L2.St} {H : Hp} {Q : List V → Hp → Prop} (q : t σ H Q) : aSem X es σ H Q := fun pos pins s I => h.run pos pins s σ H Q I q
theorem PSs_to {st : List Stmt} {t : TS} (h : PSs X st t) {σ : L2.St} {H : Hp} {D : Ends} (q : t D σ H) : sSem X st D σ H := fun pins s I => h.run pins s σ H D I q
theorem PS_to {st : Stmt} {t : TS} (h : PS X st t) {σ : L2.St} {H : Hp} {D : Ends} (q : t D σ H) : s1Sem X st D σ H := fun pins s I => h.run pins s σ H D I q
theorem PI_to {tg e : Expr} {t : TI} (h : PI X tg e t) {σ : L2.St} {H : Hp} {R : It → Hp → Prop} (q : t σ H R) : iSem X tg e σ H R := fun pins s I => h.run pins s σ H R I q
end

/-! ### the judgements: e gives what m says, in any state that Γ tells -/
/-- a frozen value | one that may be read | a new thing of one's own | a test | arguments -/
structure JE (X : Cx) (R0 H0 : Hp) (Γ : List Slot) (e : Expr) {α : Type} [Py α] (m : Option α) : Prop where
  run : ∀ σ R H, Sat X.K R0 H0 Γ σ R H → ∀ a, m = some a → ∀ Q : VK, (∀ v R' H', Ext R H R' H' → rep X.K R' v a → Q v H') → eSem X e σ H Q
instance {X : Cx} {R0 H0 : Hp} {Γ : List Slot} {e : Expr} {α : Type} [Py α] {m : Option α} : CoeFun (JE X R0 H0 Γ e m) fun _ => ∀ σ R H, Sat X.K R0 H0 Γ σ R H → ∀ a, m = some a → ∀ Q : VK, (∀ v R' H', Ext R H R' H' → rep X.K R' v a → Q v H') → eSem X e σ H Q := ⟨JE.run⟩
structure JB (X : Cx) (R0 H0 : Hp) (Γ : List Slot) (e : Expr) {α : Type} [Py α] (m : Option α) : Prop where
  run : ∀ σ R H, Sat X.K R0 H0 Γ σ R H → ∀ a, m = some a → ∀ Q : VK, (∀ v R' H', Ext R H R' H' → bor X.K R' H' v a → Q v H') → eSem X e σ H Q
instance {X : Cx} {R0 H0 : Hp} {Γ : List Slot} {e : Expr} {α : Type} [Py α] {m : Option α} : CoeFun (JB X R0 H0 Γ e m) fun _ => ∀ σ R H, Sat X.K R0 H0 Γ σ R H → ∀ a, m = some a → ∀ Q : VK, (∀ v R' H', Ext R H R' H' → bor X.K R' H' v a → Q v H') → eSem X e σ H Q := ⟨JB.run⟩
structure JO (X : Cx) (R0 H0 : Hp) (Γ : List Slot) (e : Expr) {α : Type} [Ob α] (m : Option α) : Prop where
  run : ∀ σ R H, Sat X.K R0 H0 Γ σ R H → ∀ a, m = some a → ∀ Q : VK, (∀ p o R' H', Ext R H R' H' → H p = none → H' p = some o → R' p = none → ho X.K R' o a → Q (.ref p) H') → eSem X e σ H Q
instance {X : Cx} {R0 H0 : Hp} {Γ : List Slot} {e : Expr} {α : Type} [Ob α] {m : Option α} : CoeFun (JO X R0 H0 Γ e m) fun _ => ∀ σ R H, Sat X.K R0 H0 Γ σ R H → ∀ a, m = some a → ∀ Q : VK, (∀ p o R' H', Ext R H R' H' → H p = none → H' p = some o → R' p = none → ho X.K R' o a → Q (.ref p) H') → eSem X e σ H Q := ⟨JO.run⟩
structure JT (X : Cx) (R0 H0 : Hp) (Γ : List Slot) (e : Expr) (m : Option Bool) : Prop where
  run : ∀ σ R H, Sat X.K R0 H0 Γ σ R H → ∀ a, m = some a → ∀ Q : Bool → Hp → Prop, (∀ R' H', Ext R H R' H' → Q a H') → tSem X e σ H Q
instance {X : Cx} {R0 H0 : Hp} {Γ : List Slot} {e : Expr} {m : Option Bool} : CoeFun (JT X R0 H0 Γ e m) fun _ => ∀ σ R H, Sat X.K R0 H0 Γ σ R H → ∀ a, m = some a → ∀ Q : Bool → Hp → Prop, (∀ R' H', Ext R H R' H' → Q a H') → tSem X e σ H Q := ⟨JT.run⟩
structure JW (X : Cx) (R0 H0 : Hp) (Γ : List Slot) (e : Expr) (m : Option Bool) : Prop where
  run : ∀ σ R H, Sat X.K R0 H0 Γ σ R H → ∀ a, m = some a → ∀ Q : Bool → Hp → Prop, (∀ R' H', Ext R H R' H' → Q a H') → wSem X e σ H Q
instance {X : Cx} {R0 H0 : Hp} {Γ : List Slot} {e : Expr} {m : Option Bool} : CoeFun (JW X R0 H0 Γ e m) fun _ => ∀ σ R H, Sat X.K R0 H0 Γ σ R H → ∀ a, m = some a → ∀ Q : Bool → Hp → Prop, (∀ R' H', Ext R H R' H' → Q a H') → wSem X e σ H Q := ⟨JW.run⟩
structure JP (X : Cx) (R0 H0 : Hp) (Γ : List Slot) (e : Option Expr) (m : Option (Option Int)) : Prop where
  run : ∀ σ R H, Sat X.K R0 H0 Γ σ R H → ∀ a, m = some a → ∀ Q : Option Int → Hp → Prop, (∀ R' H', Ext R H R' H' → Q a H') → oSem X e σ H Q
instance {X : Cx} {R0 H0 : Hp} {Γ : List Slot} {e : Option Expr} {m : Option (Option Int)} : CoeFun (JP X R0 H0 Γ e m) fun _ => ∀ σ R H, Sat X.K R0 H0 Γ σ R H → ∀ a, m = some a → ∀ Q : Option Int → Hp → Prop, (∀ R' H', Ext R H R' H' → Q a H') → oSem X e σ H Q := ⟨JP.run⟩
class Ar (γ : Type) where
  ok : PySem.W.Frag → Hp → Hp → List V → γ → Prop
  mono : ∀ {K : PySem.W.Frag} {R R' H H' : Hp} {vs : List V} {g : γ}, Ex R R' → Ex H H' → ok K R H vs g → ok K R' H' vs g
  slots : γ → List Slot
  sl : ∀ {K : PySem.W.Frag} {R H R' H' : Hp} {vs : List V} {g : γ}, ok K R H vs g → ∀ {Γ : List Slot} {σ : L2.St} {os : List Addr}, SlotsOk K R H R' H' Γ σ os → SlotsOk K R H R' H' (slots g ++ Γ) (vs.map some ++ σ) os
instance instArU : Ar Unit where
  ok := fun _ _ _ vs _ => vs = []
  mono := fun _ _ h => h
  slots := fun _ => []
  sl := fun {K R H R' H' vs g} h {Γ σ os} s => by
    subst h
    exact s
instance instArC {α γ : Type} [Py α] [Ar γ] : Ar (α × γ) where
  ok := fun K R H vs g => ∃ v r, vs = v :: r ∧ bor K R H v g.1 ∧ Ar.ok K R H r g.2
  mono := fun e1 e2 ⟨v, r, h, b, q⟩ => ⟨v, r, h, Py.bmono e1 e2 b, Ar.mono e1 e2 q⟩
  slots := fun g => .b g.1 :: Ar.slots g.2
  sl := fun {K R H R' H' vs g} h {Γ σ os} s => by
    obtain ⟨v, r, rfl, b, q⟩ := h
    exact ⟨[], os, rfl, ⟨rfl, v, rfl, b⟩, Ar.sl q s⟩
structure JA (X : Cx) (R0 H0 : Hp) (Γ : List Slot) (es : List Expr) {γ : Type} [Ar γ] (m : Option γ) : Prop where
  run : ∀ σ R H, Sat X.K R0 H0 Γ σ R H → ∀ g, m = some g → ∀ Q : List V → Hp → Prop, (∀ vs R' H', Ext R H R' H' → Ar.ok X.K R' H' vs g → Q vs H') → aSem X es σ H Q
instance {X : Cx} {R0 H0 : Hp} {Γ : List Slot} {es : List Expr} {γ : Type} [Ar γ] {m : Option γ} : CoeFun (JA X R0 H0 Γ es m) fun _ => ∀ σ R H, Sat X.K R0 H0 Γ σ R H → ∀ g, m = some g → ∀ Q : List V → Hp → Prop, (∀ vs R' H', Ext R H R' H' → Ar.ok X.K R' H' vs g → Q vs H') → aSem X es σ H Q := ⟨JA.run⟩
/-- an exception of the program: its class's name, what it carries -/
inductive Pl
  | no
  | int (f : Str) (x : Int)
  | str (f : Str) (x : Str)
  | txts (f : Str) (x : List Str)
structure Xv where
  c : Str
  p : Pl
def PlOk (K : PySem.W.Frag) (R : Hp) (d : Option Addr) : Pl → Prop
  | .no => d = none
  | .int f x => ∃ dd, d = some dd ∧ R dd = some (.xd [(f, .int x)])
  | .str f x => ∃ dd, d = some dd ∧ R dd = some (.xd [(f, .str x)])
  | .txts f x => ∃ dd v, d = some dd ∧ R dd = some (.xd [(f, v)]) ∧ rep K R v x
def XOk (K : PySem.W.Frag) (R : Hp) (cls : Value) (d : Option Addr) (x : Xv) : Prop := ∃ C, PySem.W.nsIn K mainGlobals x.c = some (some (.ref C)) ∧ cls = .ref C ∧ PlOk K R d x.p
theorem XOk.mono {K : PySem.W.Frag} {R R' : Hp} {cls : Value} {d : Option Addr} {x : Xv} (e : Ex R R') (h : XOk K R cls d x) : XOk K R' cls d x := by
  obtain ⟨c, p⟩ := x
  obtain ⟨C, h1, h2, h3⟩ := h
  refine ⟨C, h1, h2, ?_⟩
  cases p with
  | no => exact h3
  | int f i =>
    obtain ⟨dd, a, b⟩ := h3
    exact ⟨dd, a, e _ _ b⟩
  | str f i =>
    obtain ⟨dd, a, b⟩ := h3
    exact ⟨dd, a, e _ _ b⟩
  | txts f l =>
    obtain ⟨dd, v, a, b, r⟩ := h3
    exact ⟨dd, v, a, e _ _ b, Py.mono e r⟩
/-- rt, ro, rd: what is given back; ex, et: an exception, in a def | in the body of a try; exn: one without a context -/
inductive Out : Type 1
  | nx (Γ : List Slot)
  | rt {α : Type} [Py α] (a : α)
  | ro {α : Type} [Ob α] (a : α)
  | rd {α : Type} [Od α] (a : α)
  | bk (Γ : List Slot)
  | ct (Γ : List Slot)
  | ex (x : Xv)
  | et (Γ : List Slot) (x : Xv)
  | exn (x : Xv)
def Req (X : Cx) (R0 H0 Rb : Hp) (D : Ends) (o : Out) : Prop := match o with
  | .nx Γ => ∀ σ R H, Ex Rb R → Sat X.K R0 H0 Γ σ R H → D.nx σ H
  | @Out.rt _ i a => ∀ v R H, Ext R0 H0 R H → @Py.rep _ i X.K R v a → D.rt v H
  | @Out.ro _ i a => ∀ p o R H, Ext R0 H0 R H → H0 p = none → H p = some o → R p = none → @Ob.ho _ i X.K R o a → D.rt (.ref p) H
  | @Out.rd _ i a => ∀ p o ps R H, Ext R0 H0 R H → (∀ c ∈ p :: ps, H0 c = none) → (p :: ps).Nodup → H p = some o → (∀ c ∈ p :: ps, R c = none) → @Od.dh _ i X.K R H o ps a → D.rt (.ref p) H
  | .bk Γ => ∀ σ R H, Ex Rb R → Sat X.K R0 H0 Γ σ R H → D.bk σ H
  | .ct Γ => ∀ σ R H, Ex Rb R → Sat X.K R0 H0 Γ σ R H → D.ct σ H
  | .ex x => Takes X fun cls d _ H => ∃ R, Ext R0 H0 R H ∧ XOk X.K R cls d x
  | .et Γ x => Takes X fun cls d σ H => ∃ R, Ex Rb R ∧ Sat X.K R0 H0 Γ σ R H ∧ XOk X.K R cls d x
  | .exn x => L2N.Takes X fun cls d _ H => ∃ R, Ext R0 H0 R H ∧ XOk X.K R cls d x
theorem Req.mono {X : Cx} {R0 H0 R R' : Hp} {D : Ends} {o : Out} (e : Ex R R') (h : Req X R0 H0 R D o) : Req X R0 H0 R' D o := by
  cases o with
  | nx Γ => exact fun σ R2 H e2 S => h σ R2 H (e.trans e2) S
  | rt a => exact h
  | ro a => exact h
  | rd a => exact h
  | bk Γ => exact fun σ R2 H e2 S => h σ R2 H (e.trans e2) S
  | ct Γ => exact fun σ R2 H e2 S => h σ R2 H (e.trans e2) S
  | ex x => exact h
  | et Γ x => exact Takes.imp h fun cls d σ H ⟨R2, e2, q⟩ => ⟨R2, e.trans e2, q⟩
  | exn x => exact h
/-- statements: the outcome that m says -/
structure JS (X : Cx) (R0 H0 : Hp) (Γ : List Slot) (st : List Stmt) {β : Type} (m : Option β) (out : β → Out) : Prop where
  run : ∀ σ R H, Sat X.K R0 H0 Γ σ R H → ∀ b, m = some b → ∀ D : Ends, Req X R0 H0 R D (out b) → sSem X st D σ H
instance {X : Cx} {R0 H0 : Hp} {Γ : List Slot} {st : List Stmt} {β : Type} {m : Option β} {out : β → Out} : CoeFun (JS X R0 H0 Γ st m out) fun _ => ∀ σ R H, Sat X.K R0 H0 Γ σ R H → ∀ b, m = some b → ∀ D : Ends, Req X R0 H0 R D (out b) → sSem X st D σ H := ⟨JS.run⟩
structure J1 (X : Cx) (R0 H0 : Hp) (Γ : List Slot) (st : Stmt) {β : Type} (m : Option β) (out : β → Out) : Prop where
  run : ∀ σ R H, Sat X.K R0 H0 Γ σ R H → ∀ b, m = some b → ∀ D : Ends, Req X R0 H0 R D (out b) → s1Sem X st D σ H
instance {X : Cx} {R0 H0 : Hp} {Γ : List Slot} {st : Stmt} {β : Type} {m : Option β} {out : β → Out} : CoeFun (J1 X R0 H0 Γ st m out) fun _ => ∀ σ R H, Sat X.K R0 H0 Γ σ R H → ∀ b, m = some b → ∀ D : Ends, Req X R0 H0 R D (out b) → s1Sem X st D σ H := ⟨J1.run⟩

theorem bind_some' {α β : Type} {m : Option α} {f : α → Option β} {b : β} (h : m.bind f = some b) : ∃ a, m = some a ∧ f a = some b := by
  cases m with
  | none => cases h
  | some a => exact ⟨a, rfl, h⟩
class Flat (α : Type) [Py α] : Prop where
  flat : ∀ {K : PySem.W.Frag} {R H : Hp} {v : V} {a : α}, bor K R H v a → rep K R v a
instance : Flat Int := ⟨fun h => h⟩
instance : Flat Bool := ⟨fun h => h⟩
instance : Flat Str := ⟨fun h => h⟩
instance : Flat Unit := ⟨fun h => h⟩
instance {α β : Type} [Py α] [Py β] : Flat (α × β) := ⟨fun h => h⟩
instance {α β γ : Type} [Py α] [Py β] [Py γ] : Flat (T3 α β γ) := ⟨fun h => h⟩

def imod (x y : Int) : Option Int := if 0 < y then some (x % y) else none
def ifdiv (x y : Int) : Option Int := if 0 < y ∧ y < 2 ^ 64 then some (x / y) else none
def imul (x y : Int) : Option Int := if (-(2 ^ 64) < x ∧ x < 2 ^ 64) ∨ (-(2 ^ 64) < y ∧ y < 2 ^ 64) then some (x * y) else none
section
variable {X : Cx} {R0 H0 : Hp} {Γ : List Slot} {e a b : Expr} {pos : Pos}
/-! ### between the judgements -/
theorem jb_e {α : Type} [Py α] {m : Option α} (h : JE X R0 H0 Γ e m) : JB X R0 H0 Γ e m := .mk fun σ R H S a ea Q q => h σ R H S a ea Q fun v R' H' x r => q v R' H' x (Py.lend x.i r)
theorem je_f {α : Type} [Py α] [Flat α] {m : Option α} (h : JB X R0 H0 Γ e m) : JE X R0 H0 Γ e m := .mk fun σ R H S a ea Q q => h σ R H S a ea Q fun v R' H' x r => q v R' H' x (Flat.flat r)
theorem je_o {α : Type} [Ob α] {m : Option α} (h : JO X R0 H0 Γ e m) : JE X R0 H0 Γ e m := .mk fun σ R H S a ea Q q => h σ R H S a ea Q fun p o R' H' x np hp hr hh => by
  refine q (.ref p) (upd R' p o) H' ⟨x.r.trans (.new hr), x.h, x.i.put hp, fun z u t hz hn => ?_⟩ ⟨p, o, rfl, .inl upd_same, Ob.mono (.new hr) hh⟩
  rw [upd_ne (ne_of_none hz np)]
  exact x.n z u t hz hn
theorem jb_o {α : Type} [Ob α] {m : Option α} (h : JO X R0 H0 Γ e m) : JB X R0 H0 Γ e m := jb_e (je_o h)
/-! ### names and constants -/
theorem je_var (i : Nat) {x : Str} {α : Type} [Py α] {c : α} (hΓ : Γ[i]? = some (.v c) := by rfl) (hN : X.N[i]? = some x := by rfl) (hv : Vis X.env.scope x := by first | exact Or.inl rfl | exact Or.inr (Or.inl rfl) | exact Or.inr (Or.inr rfl)) (hd : (x == ("__debug__" : Str)) = false := by decide)
    (hcd : (x == ("__classdict__" : Str)) = false := by decide) : JE X R0 H0 Γ (.Name x pos) (some c) := .mk fun σ R H S a ea Q q => by
  cases ea
  obtain ⟨v, hs, r⟩ := S.get_v hΓ
  exact PE_to (pv i hN hv hd hcd) ⟨v, hs, q v R H (.refl S.i) r⟩
theorem jb_var (i : Nat) {x : Str} {α : Type} [Py α] {c : α} (hΓ : Γ[i]? = some (.b c) := by rfl) (hN : X.N[i]? = some x := by rfl) (hv : Vis X.env.scope x := by first | exact Or.inl rfl | exact Or.inr (Or.inl rfl) | exact Or.inr (Or.inr rfl)) (hd : (x == ("__debug__" : Str)) = false := by decide)
    (hcd : (x == ("__classdict__" : Str)) = false := by decide) : JB X R0 H0 Γ (.Name x pos) (some c) := .mk fun σ R H S a ea Q q => by
  cases ea
  obtain ⟨v, hs, r⟩ := S.get_b hΓ
  exact PE_to (pv i hN hv hd hcd) ⟨v, hs, q v R H (.refl S.i) (Py.bmono S.e0.r S.e0.h r)⟩
theorem jb_own (i : Nat) {x : Str} {α : Type} [Ob α] {c : α} (hΓ : Γ[i]? = some (.own c) := by rfl) (hN : X.N[i]? = some x := by rfl) (hv : Vis X.env.scope x := by first | exact Or.inl rfl | exact Or.inr (Or.inl rfl) | exact Or.inr (Or.inr rfl)) (hd : (x == ("__debug__" : Str)) = false := by decide)
    (hcd : (x == ("__classdict__" : Str)) = false := by decide) : JB X R0 H0 Γ (.Name x pos) (some c) := .mk fun σ R H S a ea Q q => by
  cases ea
  obtain ⟨p, o, hs, hp, hh, _⟩ := S.get_own hΓ
  exact PE_to (pv i hN hv hd hcd) ⟨.ref p, hs, q (.ref p) R H (.refl S.i) ⟨p, o, rfl, .inl hp, hh⟩⟩
theorem je_int {i : Int} {j : Nat} : JE X R0 H0 Γ (.Constant (.int i) j pos) (some i) := .mk fun σ R H S a ea Q q => by
  cases ea
  exact PE_to pe_int (q _ R H (.refl S.i) rfl)
theorem je_str {i : Str} {j : Nat} : JE X R0 H0 Γ (.Constant (.str i) j pos) (some i) := .mk fun σ R H S a ea Q q => by
  cases ea
  exact PE_to pe_str (q _ R H (.refl S.i) rfl)
theorem je_bl {i : Bool} {j : Nat} : JE X R0 H0 Γ (.Constant (.bool i) j pos) (some i) := .mk fun σ R H S a ea Q q => by
  cases ea
  exact PE_to pe_bl (q _ R H (.refl S.i) rfl)
/-! ### two operands -/
theorem je_op2 {α β γ : Type} [Py α] [Py β] [Py γ] {op : Operator} {r : R2} {ma : Option α} {mb : Option β} {f : α → β → Option γ} (ho : OpR X (binaryOp op) r)
    (hr : ∀ (R H : Hp) (v w : V) (x : α) (y : β) (z : γ), Ex R H → bor X.K R H v x → bor X.K R H w y → f x y = some z → ∀ Q : VK, (∀ u R' H', Ext R H R' H' → rep X.K R' u z → Q u H') → r v w H Q)
    (ha : JB X R0 H0 Γ a ma) (hb : JB X R0 H0 Γ b mb) : JE X R0 H0 Γ (.BinOp a op b pos) (ma.bind fun x => mb.bind fun y => f x y) := .mk fun σ R H S z ez Q q => by
  obtain ⟨x, ex, ez⟩ := bind_some' ez
  obtain ⟨y, ey, ez⟩ := bind_some' ez
  refine PE_to (pe_op ho eS eS) (ha σ R H S x ex _ fun v R1 H1 e1 r1 => hb σ R1 H1 (S.ext e1) y ey _ fun w R2 H2 e2 r2 => ?_)
  exact hr R2 H2 v w x y z e2.i (Py.bmono e2.r e2.h r1) r2 ez Q fun u R3 H3 e3 r3 => q u R3 H3 ((e1.trans e2).trans e3) r3
theorem je_cmp2 {α β γ : Type} [Py α] [Py β] [Py γ] {op : CmpOp} {r : R2} {ma : Option α} {mb : Option β} {f : α → β → Option γ} (ho : OpR X (compareOp op) r) (hm : behindInMarks op b = false)
    (hr : ∀ (R H : Hp) (v w : V) (x : α) (y : β) (z : γ), Ex R H → bor X.K R H v x → bor X.K R H w y → f x y = some z → ∀ Q : VK, (∀ u R' H', Ext R H R' H' → rep X.K R' u z → Q u H') → r v w H Q)
    (ha : JB X R0 H0 Γ a ma) (hb : JB X R0 H0 Γ b mb) : JE X R0 H0 Γ (.Compare a [op] [b] pos) (ma.bind fun x => mb.bind fun y => f x y) := .mk fun σ R H S z ez Q q => by
  obtain ⟨x, ex, ez⟩ := bind_some' ez
  obtain ⟨y, ey, ez⟩ := bind_some' ez
  refine PE_to (pe_cmpR ho eS eS hm) (ha σ R H S x ex _ fun v R1 H1 e1 r1 => hb σ R1 H1 (S.ext e1) y ey _ fun w R2 H2 e2 r2 => ?_)
  exact hr R2 H2 v w x y z e2.i (Py.bmono e2.r e2.h r1) r2 ez Q fun u R3 H3 e3 r3 => q u R3 H3 ((e1.trans e2).trans e3) r3
theorem jt_cmp2 {α β : Type} [Py α] [Py β] {op : CmpOp} {r : R2} {ma : Option α} {mb : Option β} {f : α → β → Option Bool} (ho : OpR X (compareOp op) r) (hm : behindInMarks op b = false)
    (hr : ∀ (R H : Hp) (v w : V) (x : α) (y : β) (z : Bool), Ex R H → bor X.K R H v x → bor X.K R H w y → f x y = some z → ∀ Q : VK, (∀ u R' H', Ext R H R' H' → rep X.K R' u z → Q u H') → r v w H Q)
    (ha : JB X R0 H0 Γ a ma) (hb : JB X R0 H0 Γ b mb) : JT X R0 H0 Γ (.Compare a [op] [b] pos) (ma.bind fun x => mb.bind fun y => f x y) := .mk fun σ R H S z ez Q q => by
  obtain ⟨x, ex, ez⟩ := bind_some' ez
  obtain ⟨y, ey, ez⟩ := bind_some' ez
  refine PT_to (pt_cmpR ho eS eS hm) (ha σ R H S x ex _ fun v R1 H1 e1 r1 => hb σ R1 H1 (S.ext e1) y ey _ fun w R2 H2 e2 r2 => ?_)
  exact hr R2 H2 v w x y z e2.i (Py.bmono e2.r e2.h r1) r2 ez _ fun u R3 H3 e3 r3 => ⟨z, r3, q R3 H3 ((e1.trans e2).trans e3)⟩
/-! ### whole numbers -/
theorem ri0 {g : Int → Int → Int} {K : PySem.W.Frag} (R H : Hp) (v w : V) (x y z : Int) (i : Ex R H) (h1 : bor K R H v x) (h2 : bor K R H w y) (h3 : some (g x y) = some z) (Q : VK) (q : ∀ u R' H', Ext R H R' H' → rep K R' u z → Q u H') : rI0 (fun i j => .int (g i j)) v w H Q := by
  cases h3
  exact ⟨x, y, h1, h2, q _ R H (.refl i) rfl⟩
theorem rib0 {g : Int → Int → Bool} {K : PySem.W.Frag} (R H : Hp) (v w : V) (x y : Int) (z : Bool) (i : Ex R H) (h1 : bor K R H v x) (h2 : bor K R H w y) (h3 : some (g x y) = some z) (Q : VK) (q : ∀ u R' H', Ext R H R' H' → rep K R' u z → Q u H') : rI0 (fun i j => .bl (g i j)) v w H Q := by
  cases h3
  exact ⟨x, y, h1, h2, q _ R H (.refl i) rfl⟩
variable {ma mb : Option Int} {x y : Int}
theorem je_add (ha : JB X R0 H0 Γ a ma) (hb : JB X R0 H0 Γ b mb) : JE X R0 H0 Γ (.BinOp a .Add b pos) (ma.bind fun x => mb.bind fun y => some (x + y)) := je_op2 op_add ri0 ha hb
theorem je_add_t (ha : JB X R0 H0 Γ a (some x)) (hb : JB X R0 H0 Γ b (some y)) : JE X R0 H0 Γ (.BinOp a .Add b pos) (some (x + y)) := je_add ha hb
theorem je_sub (ha : JB X R0 H0 Γ a ma) (hb : JB X R0 H0 Γ b mb) : JE X R0 H0 Γ (.BinOp a .Sub b pos) (ma.bind fun x => mb.bind fun y => some (x - y)) := je_op2 op_sub ri0 ha hb
theorem je_sub_t (ha : JB X R0 H0 Γ a (some x)) (hb : JB X R0 H0 Γ b (some y)) : JE X R0 H0 Γ (.BinOp a .Sub b pos) (some (x - y)) := je_sub ha hb
theorem JE.eq {α : Type} [Py α] {m m' : Option α} (h : JE X R0 H0 Γ e m) (q : m = m') : JE X R0 H0 Γ e m' := by
  rw [← q]
  exact h
theorem je_mod (ha : JB X R0 H0 Γ a ma) (hb : JB X R0 H0 Γ b mb) : JE X R0 H0 Γ (.BinOp a .Mod b pos) (ma.bind fun x => mb.bind fun y => imod x y) := je_op2 op_mod (fun R H v w x y z i h1 h2 h3 Q q => by
  unfold imod at h3
  by_cases hy : 0 < y
  · rw [if_pos hy] at h3
    cases h3
    exact ⟨x, y, h1, h2, hy, q _ R H (.refl i) rfl⟩
  · rw [if_neg hy] at h3
    cases h3) ha hb
theorem je_mod_t (ha : JB X R0 H0 Γ a (some x)) (hb : JB X R0 H0 Γ b (some y)) : JE X R0 H0 Γ (.BinOp a .Mod b pos) (imod x y) := je_mod ha hb
/-- by a written positive number -/
theorem je_modc_t {c : Int} {j : Nat} {p2 : Pos} (ha : JB X R0 H0 Γ a (some x)) (hc : 0 < c := by decide) : JE X R0 H0 Γ (.BinOp a .Mod (.Constant (.int c) j p2) pos) (some (x % c)) := (je_mod_t ha (jb_e je_int)).eq (if_pos hc)
theorem je_modc {c : Int} {j : Nat} {p2 : Pos} (ha : JB X R0 H0 Γ a ma) (hc : 0 < c := by decide) : JE X R0 H0 Γ (.BinOp a .Mod (.Constant (.int c) j p2) pos) (ma.bind fun x => some (x % c)) := (je_mod ha (jb_e je_int)).eq (by
  cases ma with
  | none => rfl
  | some x => exact if_pos hc)
theorem cdivw {y : Int} (h : 0 < y) (h2 : y < 2 ^ 64) : y.natAbs.log2 < 9000 := by
  have : y.natAbs.log2 < 64 := (Nat.log2_lt (by omega)).mpr (by omega)
  omega
theorem je_fdiv (ha : JB X R0 H0 Γ a ma) (hb : JB X R0 H0 Γ b mb) : JE X R0 H0 Γ (.BinOp a .FloorDiv b pos) (ma.bind fun x => mb.bind fun y => ifdiv x y) := je_op2 op_fdivW (fun R H v w x y z i h1 h2 h3 Q q => by
  unfold ifdiv at h3
  by_cases hy : 0 < y ∧ y < 2 ^ 64
  · rw [if_pos hy] at h3
    cases h3
    exact ⟨x, y, h1, h2, ⟨hy.1, cdivw hy.1 hy.2⟩, q _ R H (.refl i) rfl⟩
  · rw [if_neg hy] at h3
    cases h3) ha hb
theorem je_fdivc_t {c : Int} {j : Nat} {p2 : Pos} (ha : JB X R0 H0 Γ a (some x)) (hc : 0 < c ∧ c < 2 ^ 64 := by decide) : JE X R0 H0 Γ (.BinOp a .FloorDiv (.Constant (.int c) j p2) pos) (some (x / c)) := (je_fdiv ha (jb_e je_int)).eq (if_pos hc)
theorem je_mul (ha : JB X R0 H0 Γ a ma) (hb : JB X R0 H0 Γ b mb) : JE X R0 H0 Γ (.BinOp a .Mult b pos) (ma.bind fun x => mb.bind fun y => imul x y) := je_op2 op_mul (fun R H v w x y z i h1 h2 h3 Q q => by
  unfold imul at h3
  by_cases hy : (-(2 ^ 64) < x ∧ x < 2 ^ 64) ∨ (-(2 ^ 64) < y ∧ y < 2 ^ 64)
  · rw [if_pos hy] at h3
    cases h3
    exact ⟨x, y, h1, h2, hy, q _ R H (.refl i) rfl⟩
  · rw [if_neg hy] at h3
    cases h3) ha hb
theorem je_mulc_t {c : Int} {j : Nat} {p2 : Pos} (ha : JB X R0 H0 Γ a (some x)) (hc : -(2 ^ 64) < c ∧ c < 2 ^ 64 := by decide) : JE X R0 H0 Γ (.BinOp a .Mult (.Constant (.int c) j p2) pos) (some (x * c)) := (je_mul ha (jb_e je_int)).eq (if_pos (.inr hc))
end
end FK

namespace FK
open PySem PySem.Spec PyProof.Rows L2

inductive Fl (S ρ : Type) where
  | nx (s : S) | rt (r : ρ) | bk (s : S) | ct (s : S)
def outF {S ρ : Type} (Γ : S → List Slot) (ret : ρ → Out) : Fl S ρ → Out
  | .nx s => .nx (Γ s)
  | .rt r => ret r
  | .bk s => .bk (Γ s)
  | .ct s => .ct (Γ s)
/-- a block that never falls through -/
structure JN (X : Cx) (R0 H0 : Hp) (Γ : List Slot) (st : List Stmt) {β : Type} (m : Option β) (out : β → Out) : Prop where
  run : ∀ σ R H, Sat X.K R0 H0 Γ σ R H → ∀ b, m = some b → ∀ (D : Ends) (n : L2.St → Hp → Prop), Req X R0 H0 R D (out b) → sSem X st { D with nx := n } σ H
instance {X : Cx} {R0 H0 : Hp} {Γ : List Slot} {st : List Stmt} {β : Type} {m : Option β} {out : β → Out} : CoeFun (JN X R0 H0 Γ st m out) fun _ => ∀ σ R H, Sat X.K R0 H0 Γ σ R H → ∀ b, m = some b → ∀ (D : Ends) (n : L2.St → Hp → Prop), Req X R0 H0 R D (out b) → sSem X st { D with nx := n } σ H := ⟨JN.run⟩
def Sub (Γ Γ' : List Slot) : Prop := ∀ K R0 H0 σ R H, Sat K R0 H0 Γ σ R H → ∃ R', Ex R R' ∧ Sat K R0 H0 Γ' σ R' H
theorem sub_rfl {Γ : List Slot} : Sub Γ Γ := fun K R0 H0 σ R H S => ⟨R, .refl R, S⟩
theorem set_same {σ : L2.St} {i : Nat} {x : Option V} (h : σ[i]? = some x) : σ.set i x = σ := by
  refine List.ext_getElem? fun j => ?_
  rw [List.getElem?_set]
  split
  · rename_i hij
    subst hij
    split
    · exact h.symm
    · rename_i hj
      exact (List.getElem?_eq_none_iff.mpr (Nat.le_of_not_lt hj)).symm
  · rfl
theorem Sat.slot {K : PySem.W.Frag} {R0 H0 R H : Hp} {Γ : List Slot} {σ : L2.St} (S : Sat K R0 H0 Γ σ R H) {i : Nat} (hi : i < Γ.length) : ∃ x, σ[i]? = some x := by
  obtain ⟨⟨os, s, nd, fr⟩, e0⟩ := S
  obtain ⟨y, o1, oa, ob, h1, _⟩ := s.at (s := Γ[i]) (List.getElem?_eq_getElem hi)
  exact ⟨y, h1⟩
theorem sub_drop {Γ Γ' : List Slot} (i : Nat) (hi : i < Γ.length := by exact Nat.le_of_ble_eq_true rfl) (h : Sub (Γ.set i .any) Γ') : Sub Γ Γ' := fun K R0 H0 σ R H S => by
  obtain ⟨x, hx⟩ := S.slot hi
  have g := S.set_any x hi
  rw [set_same hx] at g
  exact h K R0 H0 σ R H g
section
variable {X : Cx} {R0 H0 : Hp} {Γ : List Slot} {e a b : Expr} {pos : Pos} {st : Stmt} {rest : List Stmt} {β : Type} {out : β → Out} {ret : β → Out}
theorem js_n {m : Option β} (h : JN X R0 H0 Γ rest m out) : JS X R0 H0 Γ rest m out := .mk fun σ R H S b eb D q => h σ R H S b eb D D.nx q
theorem js_nil {Γ' : List Slot} {x : β} (hs : Sub Γ Γ') (ho : out x = .nx Γ' := by rfl) : JS X R0 H0 Γ [] (some x) out := .mk fun σ R H S b eb D q => by
  cases eb
  rw [ho] at q
  obtain ⟨R', e', S'⟩ := hs X.K R0 H0 σ R H S
  exact PSs_to pss_nil (q σ R' H e' S')
theorem jn_sub {Γ' : List Slot} {m : Option β} (hs : Sub Γ Γ') (h : JN X R0 H0 Γ' rest m out) : JN X R0 H0 Γ rest m out := .mk fun σ R H S b eb D n q => by
  obtain ⟨R', e', S'⟩ := hs X.K R0 H0 σ R H S
  exact h σ R' H S' b eb D n (q.mono e')
theorem Req.nx {D : Ends} {Rb : Hp} {n : L2.St → Hp → Prop} {o : Out} (h : Req X R0 H0 Rb D o) (hn : ∀ Γ, o ≠ .nx Γ) : Req X R0 H0 Rb { D with nx := n } o := by
  cases o with
  | nx Γ => exact absurd rfl (hn Γ)
  | rt a => exact h
  | ro a => exact h
  | rd a => exact h
  | ex x => exact h
  | et Γ x => exact h
  | exn x => exact h
  | bk Γ => exact h
  | ct Γ => exact h
/-- a statement that always goes on, then the rest -/
theorem js_c {S : Type} {Γ1 : S → List Slot} {m1 : Option S} {m2 : S → Option β} (h1 : J1 X R0 H0 Γ st m1 fun s => .nx (Γ1 s)) (h2 : ∀ s, JS X R0 H0 (Γ1 s) rest (m2 s) out) : JS X R0 H0 Γ (st :: rest) (m1.bind m2) out := .mk fun σ R H S b eb D q => by
  obtain ⟨s, es, eb⟩ := bind_some' eb
  exact PSs_to (pss_cons s1S sS) (h1 σ R H S s es _ fun σ' R' H' e' S' => h2 s σ' R' H' S' b eb D (q.mono e'))
theorem jn_c {S : Type} {Γ1 : S → List Slot} {m1 : Option S} {m2 : S → Option β} (h1 : J1 X R0 H0 Γ st m1 fun s => .nx (Γ1 s)) (h2 : ∀ s, JN X R0 H0 (Γ1 s) rest (m2 s) out) : JN X R0 H0 Γ (st :: rest) (m1.bind m2) out := .mk fun σ R H S b eb D n q => by
  obtain ⟨s, es, eb⟩ := bind_some' eb
  exact PSs_to (pss_cons s1S sS) (h1 σ R H S s es _ fun σ' R' H' e' S' => h2 s σ' R' H' S' b eb D n (q.mono e'))
/-- a statement that may return (or leave the loop), then the rest -/
def thenF {S ρ : Type} (m : Option (Fl S ρ)) (k : S → Option β) (r : ρ → Option β) (bk ct : S → Option β) : Option β := m.bind fun f => match f with
  | .nx s => k s
  | .rt v => r v
  | .bk s => bk s
  | .ct s => ct s
theorem js_f {S ρ : Type} {Γ1 : S → List Slot} {m1 : Option (Fl S ρ)} {m2 : S → Option β} {ret : ρ → Out} {r : ρ → β} (h1 : J1 X R0 H0 Γ st m1 (outF Γ1 ret)) (h2 : ∀ s, JS X R0 H0 (Γ1 s) rest (m2 s) out) (hr : ∀ v, out (r v) = ret v := by intro _; rfl) (hn : ∀ v Γ, ret v ≠ .nx Γ := by intro _ _ h; cases h) :
    JS X R0 H0 Γ (st :: rest) (thenF m1 m2 (fun v => some (r v)) (fun _ => none) (fun _ => none)) out := .mk fun σ R H S b eb D q => by
  obtain ⟨f, ef, eb⟩ := bind_some' eb
  refine PSs_to (pss_cons s1S sS) (h1 σ R H S f ef _ ?_)
  cases f with
  | nx s => exact fun σ' R' H' e' S' => h2 s σ' R' H' S' b eb D (q.mono e')
  | rt v =>
    have eb : some (r v) = some b := eb
    cases eb
    rw [hr v] at q
    exact q.nx (hn v)
  | bk s => cases eb
  | ct s => cases eb
theorem jn_f {S ρ : Type} {Γ1 : S → List Slot} {m1 : Option (Fl S ρ)} {m2 : S → Option β} {ret : ρ → Out} {r : ρ → β} (h1 : J1 X R0 H0 Γ st m1 (outF Γ1 ret)) (h2 : ∀ s, JN X R0 H0 (Γ1 s) rest (m2 s) out) (hr : ∀ v, out (r v) = ret v := by intro _; rfl) (hn : ∀ v Γ, ret v ≠ .nx Γ := by intro _ _ h; cases h) :
    JN X R0 H0 Γ (st :: rest) (thenF m1 m2 (fun v => some (r v)) (fun _ => none) (fun _ => none)) out := .mk fun σ R H S b eb D n q => by
  obtain ⟨f, ef, eb⟩ := bind_some' eb
  refine PSs_to (pss_cons s1S sS) (h1 σ R H S f ef _ ?_)
  cases f with
  | nx s => exact fun σ' R' H' e' S' => h2 s σ' R' H' S' b eb D n (q.mono e')
  | rt v =>
    have eb : some (r v) = some b := eb
    cases eb
    rw [hr v] at q
    exact q.nx (hn v)
  | bk s => cases eb
  | ct s => cases eb
/-! ### if -/
def ifM (c : Option Bool) (x y : Option β) : Option β := c.bind fun b => if b then x else y
theorem ifM_t (c : Bool) (x y : Option β) : ifM (some c) x y = if c then x else y := rfl
/-- one branch never falls through -/
theorem js_ifr {mc : Option Bool} {A : List Stmt} {m1 m2 : Option β} (hc : JT X R0 H0 Γ e mc) (h1 : JN X R0 H0 Γ A m1 out) (h2 : JS X R0 H0 Γ rest m2 out) : JS X R0 H0 Γ (.If e A [] pos :: rest) (ifM mc m1 m2) out := .mk fun σ R H S b eb D q => by
  obtain ⟨c, ec, eb⟩ := bind_some' eb
  refine PSs_to (pss_cons (ps_if tS sS pss_nil) sS) (hc σ R H S c ec _ fun R' H' x => ?_)
  cases c with
  | true => exact h1 σ R' H' (S.ext x) b eb D _ (q.mono x.r)
  | false => exact h2 σ R' H' (S.ext x) b eb D (q.mono x.r)
theorem jn_ifr {mc : Option Bool} {A : List Stmt} {m1 m2 : Option β} (hc : JT X R0 H0 Γ e mc) (h1 : JN X R0 H0 Γ A m1 out) (h2 : JN X R0 H0 Γ rest m2 out) : JN X R0 H0 Γ (.If e A [] pos :: rest) (ifM mc m1 m2) out := .mk fun σ R H S b eb D n q => by
  obtain ⟨c, ec, eb⟩ := bind_some' eb
  refine PSs_to (pss_cons (ps_if tS sS pss_nil) sS) (hc σ R H S c ec _ fun R' H' x => ?_)
  cases c with
  | true => exact h1 σ R' H' (S.ext x) b eb D _ (q.mono x.r)
  | false => exact h2 σ R' H' (S.ext x) b eb D n (q.mono x.r)
/-- both go on (or any outcome): the outcomes' one type -/
theorem j1_if {mc : Option Bool} {A B : List Stmt} {m1 m2 : Option β} (hc : JT X R0 H0 Γ e mc) (h1 : JS X R0 H0 Γ A m1 out) (h2 : JS X R0 H0 Γ B m2 out) : J1 X R0 H0 Γ (.If e A B pos) (ifM mc m1 m2) out := .mk fun σ R H S b eb D q => by
  obtain ⟨c, ec, eb⟩ := bind_some' eb
  refine PS_to (ps_if tS sS sS) (hc σ R H S c ec _ fun R' H' x => ?_)
  cases c with
  | true => exact h1 σ R' H' (S.ext x) b eb D (q.mono x.r)
  | false => exact h2 σ R' H' (S.ext x) b eb D (q.mono x.r)
/-! ### return, break, continue -/
theorem jn_ret {α : Type} [Py α] {m : Option α} (h : JE X R0 H0 Γ e m) : JN X R0 H0 Γ (.Return (some e) pos :: rest) m fun a => .rt a := .mk fun σ R H S b eb D n q =>
  PSs_to (pss_cons (ps_ret eS) sS) (h σ R H S b eb _ fun v R' H' x r => q v R' H' (S.e0.trans x) r)
theorem jn_reto {α : Type} [Ob α] {m : Option α} (h : JO X R0 H0 Γ e m) : JN X R0 H0 Γ (.Return (some e) pos :: rest) m fun a => .ro a := .mk fun σ R H S b eb D n q =>
  PSs_to (pss_cons (ps_ret eS) sS) (h σ R H S b eb _ fun p o R' H' x np hp hr r => q p o R' H' (S.e0.trans x) (S.e0.h.none np) hp hr r)
theorem jn_retv (i : Nat) {x : Str} {p1 : Pos} {α : Type} [Ob α] {c : α} (hΓ : Γ[i]? = some (.own c) := by rfl) (hN : X.N[i]? = some x := by rfl) (hv : Vis X.env.scope x := by first | exact Or.inl rfl | exact Or.inr (Or.inl rfl) | exact Or.inr (Or.inr rfl)) (hd : (x == ("__debug__" : Str)) = false := by decide)
    (hcd : (x == ("__classdict__" : Str)) = false := by decide) : JN X R0 H0 Γ (.Return (some (.Name x p1)) pos :: rest) (some c) fun a => .ro a := .mk fun σ R H S b eb D n q => by
  cases eb
  obtain ⟨p, o, hs, hp, hh, h1, h2, _⟩ := S.get_own hΓ
  exact PSs_to (pss_cons (ps_ret (pv i hN hv hd hcd)) sS) ⟨.ref p, hs, q p o R H S.e0 h2 hp h1 hh⟩
/-- an outcome told in another type -/
theorem jn_map {β' : Type} {out' : β' → Out} {m : Option β} (f : β → β') (h : JN X R0 H0 Γ rest m out) (hf : ∀ b, out' (f b) = out b := by intro _; rfl) : JN X R0 H0 Γ rest (m.bind fun b => some (f b)) out' := .mk fun σ R H S b eb D n q => by
  obtain ⟨c, ec, eb⟩ := bind_some' eb
  cases eb
  rw [hf] at q
  exact h σ R H S c ec D n q
theorem jn_map_t {β' : Type} {out' : β' → Out} {x : β} (f : β → β') (h : JN X R0 H0 Γ rest (some x) out) (hf : ∀ b, out' (f b) = out b := by intro _; rfl) : JN X R0 H0 Γ rest (some (f x)) out' := jn_map f h hf
theorem js_map {β' : Type} {out' : β' → Out} {m : Option β} (f : β → β') (h : JS X R0 H0 Γ rest m out) (hf : ∀ b, out' (f b) = out b := by intro _; rfl) : JS X R0 H0 Γ rest (m.bind fun b => some (f b)) out' := .mk fun σ R H S b eb D q => by
  obtain ⟨c, ec, eb⟩ := bind_some' eb
  cases eb
  rw [hf] at q
  exact h σ R H S c ec D q
/-! ### name = value -/
theorem j1_set (i : Nat) {x : Str} {p1 : Pos} {α : Type} [Py α] {m : Option α} (Γ' : α → List Slot) (he : JE X R0 H0 Γ e m) (hN : X.N.Nodup) (hΓ : ∀ a, Γ' a = Γ.set i (.v a) := by intro _; rfl) (hi : X.N[i]? = some x := by rfl) (hl : i < Γ.length := by exact Nat.le_of_ble_eq_true rfl) (hx : Loc X.env.scope x := by first | exact Or.inl rfl | exact Or.inr rfl)
    (hs : swapsWith e (some (.Name x p1)) pos.line X.env = pure false := by rfl) (hf : X.fn x = true ∨ X.env.scope.names.lookup x = some .local := by first | exact .inl rfl | exact .inr rfl) : J1 X R0 H0 Γ (.Assign [.Name x p1] e pos) m fun a => .nx (Γ' a) := .mk fun σ R H S b eb D q => by
  have q : ∀ σ R' H, Ex R R' → Sat X.K R0 H0 (Γ' b) σ R' H → D.nx σ H := q
  rw [hΓ b] at q
  exact PS_to (ps_set hN hi hx eS hs hf) (he σ R H S b eb _ fun v R' H' z r => q _ R' H' z.r ((S.ext z).set_v hl r))
theorem j1_seto (i : Nat) {x : Str} {p1 : Pos} {α : Type} [Ob α] {m : Option α} (Γ' : α → List Slot) (he : JO X R0 H0 Γ e m) (hN : X.N.Nodup) (hΓ : ∀ a, Γ' a = Γ.set i (.own a) := by intro _; rfl) (hi : X.N[i]? = some x := by rfl) (hl : i < Γ.length := by exact Nat.le_of_ble_eq_true rfl) (hx : Loc X.env.scope x := by first | exact Or.inl rfl | exact Or.inr rfl)
    (hs : swapsWith e (some (.Name x p1)) pos.line X.env = pure false := by rfl) (hf : X.fn x = true ∨ X.env.scope.names.lookup x = some .local := by first | exact .inl rfl | exact .inr rfl) : J1 X R0 H0 Γ (.Assign [.Name x p1] e pos) m fun a => .nx (Γ' a) := .mk fun σ R H S b eb D q => by
  have q : ∀ σ R' H, Ex R R' → Sat X.K R0 H0 (Γ' b) σ R' H → D.nx σ H := q
  rw [hΓ b] at q
  exact PS_to (ps_set hN hi hx eS hs hf) (he σ R H S b eb _ fun p o R' H' z np hp hr r => q _ R' H' z.r (S.set_own hl z np hp hr r))
/-! ### tests -/
theorem jt_e {m : Option Bool} (h : JB X R0 H0 Γ e m) (he : ∀ whole, isTrue e X.env whole = (do let v ← whole; standAt e.pos; holding [v] (truthy v)) := by intro _; rfl) : JT X R0 H0 Γ e m := .mk fun σ R H S b eb Q q =>
  PT_to (pt_val eS he) (h σ R H S b eb _ fun v R' H' x r => ⟨b, r, q R' H' x⟩)
def bAnd (x y : Option Bool) : Option Bool := x.bind fun b => if b then y else some false
def bOr (x y : Option Bool) : Option Bool := x.bind fun b => if b then some true else y
theorem jt_w {m : Option Bool} {op : BoolOp} {es : List Expr} (h : JW X R0 H0 Γ (.BoolOp op es pos) m) : JT X R0 H0 Γ (.BoolOp op es pos) m := .mk fun σ R H S b eb Q q =>
  PT_to (PW.pt wS) (h σ R H S b eb Q q)
theorem jw_and1 {m : Option Bool} (h : JT X R0 H0 Γ a m) : JW X R0 H0 Γ (.BoolOp .And [a] pos) m := .mk fun σ R H S b eb Q q => PW_to (pw_and1 tS) (h σ R H S b eb Q q)
theorem jw_or1 {m : Option Bool} (h : JT X R0 H0 Γ a m) : JW X R0 H0 Γ (.BoolOp .Or [a] pos) m := .mk fun σ R H S b eb Q q => PW_to (pw_or1 tS) (h σ R H S b eb Q q)
theorem jw_and {es : List Expr} {m1 m2 : Option Bool} (h1 : JT X R0 H0 Γ a m1) (h2 : JW X R0 H0 Γ (.BoolOp .And (b :: es) pos) m2) : JW X R0 H0 Γ (.BoolOp .And (a :: b :: es) pos) (bAnd m1 m2) := .mk fun σ R H S z ez Q q => by
  obtain ⟨c, ec, ez⟩ := bind_some' ez
  refine PW_to (pw_and tS wS) (h1 σ R H S c ec _ fun R' H' x => ?_)
  cases c with
  | true => exact h2 σ R' H' (S.ext x) z ez Q fun R2 H2 x2 => q R2 H2 (x.trans x2)
  | false =>
    cases ez
    exact q R' H' x
theorem jw_or {es : List Expr} {m1 m2 : Option Bool} (h1 : JT X R0 H0 Γ a m1) (h2 : JW X R0 H0 Γ (.BoolOp .Or (b :: es) pos) m2) : JW X R0 H0 Γ (.BoolOp .Or (a :: b :: es) pos) (bOr m1 m2) := .mk fun σ R H S z ez Q q => by
  obtain ⟨c, ec, ez⟩ := bind_some' ez
  refine PW_to (pw_or tS wS) (h1 σ R H S c ec _ fun R' H' x => ?_)
  cases c with
  | false => exact h2 σ R' H' (S.ext x) z ez Q fun R2 H2 x2 => q R2 H2 (x.trans x2)
  | true =>
    cases ez
    exact q R' H' x
theorem jt_not {m : Option Bool} (h : JT X R0 H0 Γ a m) : JT X R0 H0 Γ (.UnaryOp .Not a pos) (m.bind fun b => some (!b)) := .mk fun σ R H S z ez Q q => by
  obtain ⟨c, ec, ez⟩ := bind_some' ez
  cases ez
  exact PT_to (pt_not tS) (h σ R H S c ec _ fun R' H' x => q R' H' x)
theorem jt_not_t {x : Bool} (h : JT X R0 H0 Γ a (some x)) : JT X R0 H0 Γ (.UnaryOp .Not a pos) (some (!x)) := jt_not h
/-- as values -/
theorem je_one {m : Option Bool} {op : BoolOp} (h : JB X R0 H0 Γ a m) : JE X R0 H0 Γ (.BoolOp op [a] pos) m := .mk fun σ R H S z ez Q q => PE_to (pe_one eS) (h σ R H S z ez Q q)
theorem je_and {es : List Expr} {m1 m2 : Option Bool} (h1 : JB X R0 H0 Γ a m1) (h2 : JE X R0 H0 Γ (.BoolOp .And (b :: es) pos) m2) : JE X R0 H0 Γ (.BoolOp .And (a :: b :: es) pos) (bAnd m1 m2) := .mk fun σ R H S z ez Q q => by
  obtain ⟨c, ec, ez⟩ := bind_some' ez
  refine PE_to (pe_and eS eS) (h1 σ R H S c ec _ fun v R' H' x r => ⟨c, r, ?_⟩)
  cases c with
  | true => exact h2 σ R' H' (S.ext x) z ez Q fun v R2 H2 x2 => q v R2 H2 (x.trans x2)
  | false =>
    cases ez
    exact q _ R' H' x rfl
theorem je_or {es : List Expr} {m1 m2 : Option Bool} (h1 : JB X R0 H0 Γ a m1) (h2 : JE X R0 H0 Γ (.BoolOp .Or (b :: es) pos) m2) : JE X R0 H0 Γ (.BoolOp .Or (a :: b :: es) pos) (bOr m1 m2) := .mk fun σ R H S z ez Q q => by
  obtain ⟨c, ec, ez⟩ := bind_some' ez
  refine PE_to (pe_or eS eS) (h1 σ R H S c ec _ fun v R' H' x r => ⟨c, r, ?_⟩)
  cases c with
  | false => exact h2 σ R' H' (S.ext x) z ez Q fun v R2 H2 x2 => q v R2 H2 (x.trans x2)
  | true =>
    cases ez
    exact q _ R' H' x rfl
end
end FK

namespace FK
open PySem PySem.Spec PyProof.Rows L2

/-! ### targets -/
structure JG (X : Cx) (R0 H0 : Hp) (Γ : List Slot) (tg : Expr) (ts : List Nat) {α : Type} [Py α] (up : α → List Slot) : Prop where
  run : ∀ σ R H, Sat X.K R0 H0 Γ σ R H → ∀ v a, rep X.K R v a → ∀ Q : L2.St → Hp → Prop, (∀ σ', (∀ vs, (∀ t ∈ ts, t ∈ vs) → wipe σ' vs = wipe σ vs) → Sat X.K R0 H0 (up a) σ' R H → Q σ' H) → gSem X tg v σ H Q
instance {X : Cx} {R0 H0 : Hp} {Γ : List Slot} {tg : Expr} {ts : List Nat} {α : Type} [Py α] {up : α → List Slot} : CoeFun (JG X R0 H0 Γ tg ts up) fun _ => ∀ σ R H, Sat X.K R0 H0 Γ σ R H → ∀ v a, rep X.K R v a → ∀ Q : L2.St → Hp → Prop, (∀ σ', (∀ vs, (∀ t ∈ ts, t ∈ vs) → wipe σ' vs = wipe σ vs) → Sat X.K R0 H0 (up a) σ' R H → Q σ' H) → gSem X tg v σ H Q := ⟨JG.run⟩
theorem wipe_at (σ : L2.St) (j : Nat) : ∀ vs : List Nat, (wipe σ vs)[j]? = if j ∈ vs then (if j < σ.length then some none else none) else σ[j]?
  | [] => by rw [if_neg (by simp)]; rfl
  | v :: vs => by
    show ((wipe σ vs).set v none)[j]? = _
    rw [List.getElem?_set, wipe_length, wipe_at σ j vs]
    by_cases h : v = j
    · subst h
      rw [if_pos rfl, if_pos (show v ∈ v :: vs from List.mem_cons_self)]
    · rw [if_neg h]
      by_cases h2 : j ∈ vs
      · rw [if_pos h2, if_pos (List.mem_cons_of_mem _ h2)]
      · rw [if_neg h2, if_neg (by simp [h2]; exact fun z => h z.symm)]
theorem wipe_set {σ : L2.St} {i : Nat} {x : Option V} {vs : List Nat} (h : i ∈ vs) : wipe (σ.set i x) vs = wipe σ vs := by
  refine List.ext_getElem? fun j => ?_
  rw [wipe_at, wipe_at, List.length_set, List.getElem?_set]
  by_cases h2 : j ∈ vs
  · rw [if_pos h2, if_pos h2]
  · rw [if_neg h2, if_neg h2, if_neg (fun z => h2 (by rw [← z]; exact h))]
theorem PG_to {X : Cx} {tg : Expr} {g : TG} (h : PG X tg g) {v : V} {σ : L2.St} {H : Hp} {Q : L2.St → Hp → Prop} (q : g v σ H Q) : gSem X tg v σ H Q := fun pins s u I r => h.run pins s σ H v u Q I r q
section
variable {X : Cx} {R0 H0 : Hp} {Γ : List Slot} {e a b : Expr} {pos : Pos} {st : Stmt} {rest : List Stmt} {β : Type} {out : β → Out}
theorem jg_name (i : Nat) {x : Str} {α : Type} [Py α] (hN : X.N.Nodup) {up : α → List Slot} (hu : ∀ a, up a = Γ.set i (.v a) := by intro _; rfl) (hi : X.N[i]? = some x := by rfl) (hl : i < Γ.length := by exact Nat.le_of_ble_eq_true rfl) (hx : Loc X.env.scope x := by first | exact Or.inl rfl | exact Or.inr rfl)
    (hf : X.fn x = true ∨ X.env.scope.names.lookup x = some .local := by first | exact .inl rfl | exact .inr rfl) : JG X R0 H0 Γ (.Name x pos) [i] up := .mk fun σ R H S v a r Q q => by
  rw [hu] at q
  exact PG_to (pg_name hN hi hx hf) (q _ (fun vs h => wipe_set (h i (by simp))) (S.set_v hl r))
theorem jg_2 {t1 t2 : Expr} {k : Nat} {s1 s2 : List Nat} {α β : Type} [Py α] [Py β] {u1 : α → List Slot} {u2 : α × β → List Slot} (hc : X.calm = true) (h1 : JG X R0 H0 Γ t1 s1 u1) (h2 : ∀ a, JG X R0 H0 (u1 a) t2 s2 (fun b => u2 (a, b)))
    (hn : (assignEach [t1, t2] X.env).length = 2 := by rfl) (hst : (assignEach [t1, t2] X.env).findIdx? (·.1) = none := by rfl) (hs : (assignEach [t1, t2] X.env).map (·.2) = assign t1 X.env :: (assignEach [t2] X.env).map (·.2) := by rfl) (hs2 : (assignEach [t2] X.env).map (·.2) = assign t2 X.env :: (assignEach [] X.env).map (·.2) := by rfl) :
    JG X R0 H0 Γ (.Tuple [t1, t2] k pos) (s1 ++ s2) u2 := .mk fun σ R H S v a r Q q => by
  obtain ⟨p, vs, rfl, hp, x, y, rfl, r1, r2⟩ := r
  refine PG_to (pg_tup hc (pgs_cons gS (pgs_cons gS pgs_nil hs2) hs) hn hst) ⟨p, [x, y], rfl, ?_, rfl, x, [y], rfl, h1 σ R H S x a.1 r1 _ fun σ1 w1 S1 => ⟨y, [], rfl, h2 a.1 σ1 R H S1 y a.2 r2 _ fun σ2 w2 S2 => ⟨rfl, q σ2 (fun vs h => (w2 vs fun t ht => h t (List.mem_append_right _ ht)).trans (w1 vs fun t ht => h t (List.mem_append_left _ ht))) S2⟩⟩⟩
  exact dsq (S.i _ _ hp)
theorem jg_3 {t1 t2 t3 : Expr} {k : Nat} {s1 s2 s3 : List Nat} {α β γ : Type} [Py α] [Py β] [Py γ] {u1 : α → List Slot} {u2 : α → β → List Slot} {u3 : T3 α β γ → List Slot} (hc : X.calm = true) (h1 : JG X R0 H0 Γ t1 s1 u1) (h2 : ∀ a, JG X R0 H0 (u1 a) t2 s2 (fun b => u2 a b)) (h3 : ∀ a b, JG X R0 H0 (u2 a b) t3 s3 (fun c => u3 ⟨a, b, c⟩))
    (hn : (assignEach [t1, t2, t3] X.env).length = 3 := by rfl) (hst : (assignEach [t1, t2, t3] X.env).findIdx? (·.1) = none := by rfl) (hs : (assignEach [t1, t2, t3] X.env).map (·.2) = assign t1 X.env :: (assignEach [t2, t3] X.env).map (·.2) := by rfl)
    (hs2 : (assignEach [t2, t3] X.env).map (·.2) = assign t2 X.env :: (assignEach [t3] X.env).map (·.2) := by rfl) (hs3 : (assignEach [t3] X.env).map (·.2) = assign t3 X.env :: (assignEach [] X.env).map (·.2) := by rfl) :
    JG X R0 H0 Γ (.Tuple [t1, t2, t3] k pos) (s1 ++ (s2 ++ s3)) u3 := .mk fun σ R H S v a r Q q => by
  obtain ⟨p, vs, rfl, hp, x, y, z, rfl, r1, r2, r3⟩ := r
  refine PG_to (pg_tup hc (pgs_cons gS (pgs_cons gS (pgs_cons gS pgs_nil hs3) hs2) hs) hn hst) ⟨p, [x, y, z], rfl, ?_, rfl, x, [y, z], rfl, h1 σ R H S x a.a r1 _ fun σ1 w1 S1 => ⟨y, [z], rfl, h2 a.a σ1 R H S1 y a.b r2 _ fun σ2 w2 S2 => ⟨z, [], rfl, h3 a.a a.b σ2 R H S2 z a.c r3 _ fun σ3 w3 S3 => ⟨rfl, q σ3 (fun vs h => ((w3 vs fun t ht => h t (List.mem_append_right _ (List.mem_append_right _ ht))).trans (w2 vs fun t ht => h t (List.mem_append_right _ (List.mem_append_left _ ht)))).trans (w1 vs fun t ht => h t (List.mem_append_left _ ht))) S3⟩⟩⟩⟩
  exact dsq (S.i _ _ hp)
end

/-! ### what is walked -/
def ItOk (K : PySem.W.Frag) (H0 : Hp) {α : Type} [Py α] (J : It) (xs : List α) (R1 : Hp) : Prop := ∀ i R2 H2, Ex R1 R2 → Ex H0 H2 → Ex R2 H2 →
  (∀ x, xs[i]? = some x → J.go i H2 ∧ ∀ v H3, J.yld i H2 v H3 → ∃ R3, Ext R2 H2 R3 H3 ∧ rep K R3 v x) ∧ (xs.length ≤ i → J.stop i H2)
structure JI (X : Cx) (R0 H0 : Hp) (Γ : List Slot) (tg iter : Expr) {α : Type} [Py α] (m : Option (List α)) : Prop where
  run : ∀ σ R H, Sat X.K R0 H0 Γ σ R H → ∀ xs, m = some xs → ∀ Q : It → Hp → Prop, (∀ J R' H', Ext R H R' H' → ItOk X.K H0 J xs R' → Q J H') → iSem X tg iter σ H Q
instance {X : Cx} {R0 H0 : Hp} {Γ : List Slot} {tg iter : Expr} {α : Type} [Py α] {m : Option (List α)} : CoeFun (JI X R0 H0 Γ tg iter m) fun _ => ∀ σ R H, Sat X.K R0 H0 Γ σ R H → ∀ xs, m = some xs → ∀ Q : It → Hp → Prop, (∀ J R' H', Ext R H R' H' → ItOk X.K H0 J xs R' → Q J H') → iSem X tg iter σ H Q := ⟨JI.run⟩
theorem itl_ok {K : PySem.W.Frag} {H0 R1 : Hp} {α : Type} [Py α] {p : Addr} {vs : List V} {xs : List α} (h : ∀ R2 H2, Ex R1 R2 → Ex H0 H2 → Ex R2 H2 → SqL K H2 p vs) (hr : AllR K R1 vs xs) : ItOk K H0 (Itl K p) xs R1 := fun i R2 H2 e1 e2 e3 => by
  have q := h R2 H2 e1 e2 e3
  refine ⟨fun x hx => ?_, fun hi => ⟨vs, q, by rw [hr.len]; exact hi⟩⟩
  obtain ⟨v, hv, r⟩ := hr.get hx
  refine ⟨⟨vs, v, q, hv⟩, fun w H3 hy => ?_⟩
  obtain ⟨rfl, hy⟩ := hy
  have e := hy vs q
  rw [hv] at e
  cases e
  exact ⟨R2, .refl e3, Py.mono e1 r⟩
section
variable {X : Cx} {R0 H0 : Hp} {Γ : List Slot} {e a b tg : Expr} {pos : Pos} {st : Stmt} {rest : List Stmt} {β : Type} {out : β → Out}
/-- a list: frozen | handed in -/
theorem ji_list {α : Type} [Py α] {m : Option (List α)} (h : JE X R0 H0 Γ e m) : JI X R0 H0 Γ tg e m := .mk fun σ R H S xs ex Q q =>
  PI_to (pi_list eS) (h σ R H S xs ex _ fun v R' H' x r => by
    obtain ⟨p, o, rfl, hp, vs, rfl, hv⟩ := r
    exact ⟨p, rfl, ⟨vs, sql_ex x.i (seq_rd hp)⟩, q _ R' H' x (itl_ok (fun R2 H2 e1 _ e3 => sql_ex (e1.trans e3) (seq_rd hp)) hv)⟩)
theorem ji_param (i : Nat) {x : Str} {α : Type} [Py α] {c : List α} (hΓ : Γ[i]? = some (.b c) := by rfl) (hN : X.N[i]? = some x := by rfl) (hv : Vis X.env.scope x := by first | exact Or.inl rfl | exact Or.inr (Or.inl rfl) | exact Or.inr (Or.inr rfl)) (hd : (x == ("__debug__" : Str)) = false := by decide)
    (hcd : (x == ("__classdict__" : Str)) = false := by decide) : JI X R0 H0 Γ tg (.Name x pos) (some c) := .mk fun σ R H S xs ex Q q => by
  cases ex
  obtain ⟨v, hs, p, o, rfl, hp, vs, rfl, r⟩ := S.get_b hΓ
  refine PI_to (pi_list (pv i hN hv hd hcd)) ⟨.ref p, hs, p, rfl, ⟨vs, sql_ex S.e0.h (seq_rd hp)⟩, q _ R H (.refl S.i) (itl_ok (fun R2 H2 e1 e2 e3 => sql_ex e2 (seq_rd hp)) (r.mono S.e0.r))⟩
/-- a text, sign by sign -/
def sgn (x : Str) : List Str := x.cps.toList.map fun c => ⟨#[c]⟩
/-- range(n) | range(a, b) -/
def rng (lo : Int) (n : Nat) : List Int := (List.range n).map fun (k : Nat) => lo + k
theorem itr_ok {K : PySem.W.Frag} {R1 : Hp} {lo : Int} {n : Nat} : ItOk K H0 (Itr lo n) (rng lo n) R1 := fun i R2 H2 e1 e2 e3 => by
  refine ⟨fun x hx => ?_, fun hi => ?_⟩
  · unfold rng at hx
    rw [List.getElem?_map] at hx
    by_cases hn : i < n
    · rw [List.getElem?_range hn] at hx
      cases hx
      refine ⟨hn, fun w H3 hw => ?_⟩
      obtain ⟨rfl, rfl⟩ := hw
      exact ⟨R2, .refl e3, rfl⟩
    · rw [List.getElem?_eq_none (by rw [List.length_range]; omega)] at hx
      cases hx
  · unfold rng at hi
    rw [List.length_map, List.length_range] at hi
    exact hi
def range1 (j : Int) : Option (List Int) := if -(2 ^ 62) ≤ j ∧ j < 2 ^ 62 then some (rng 0 j.toNat) else none
def range2 (i j : Int) : Option (List Int) := if -(2 ^ 62) ≤ i ∧ i < 2 ^ 62 ∧ -(2 ^ 62) ≤ j ∧ j < 2 ^ 62 then some (rng i (j - i).toNat) else none
theorem ji_range1 {p : Pos} {m : Option Int} (hm : X.mg "range" = none) (h : JB X R0 H0 Γ a m) (hg : Gl X "range" := by rfl) (hs : starEach [a] X.env = [(false, eval a X.env)] := by rfl) (hs2 : starEach (a :: []) X.env = (false, eval a X.env) :: starEach [] X.env := by rfl) :
    JI X R0 H0 Γ tg (.Call (.Name "range" p) [a] [] pos) (m.bind range1) := .mk fun σ R H S xs ex Q q => by
  obtain ⟨j, em, ex⟩ := bind_some' ex
  unfold range1 at ex
  by_cases hj : -(2 ^ 62) ≤ j ∧ j < 2 ^ 62
  · rw [if_pos hj] at ex
    cases ex
    refine PI_to (pi_range1 hg hm (pa_cons eS pa_nil hs2) hs) (h σ R H S j em _ fun v R' H' z r => ⟨j, ?_, hj.1, hj.2, q _ R' H' z itr_ok⟩)
    have r : v = .int j := r
    rw [r]
  · rw [if_neg hj] at ex
    cases ex
theorem ji_range1_t {p : Pos} {n : Int} (hm : X.mg "range" = none) (h : JB X R0 H0 Γ a (some n)) (hg : Gl X "range" := by rfl) (hs : starEach [a] X.env = [(false, eval a X.env)] := by rfl) (hs2 : starEach (a :: []) X.env = (false, eval a X.env) :: starEach [] X.env := by rfl) :
    JI X R0 H0 Γ tg (.Call (.Name "range" p) [a] [] pos) (range1 n) := ji_range1 hm h hg hs hs2
/-! ### for -/
def forS {S α : Type} (f : S → α → Option S) : List α → S → Option S
  | [], s => some s
  | x :: r, s => (f s x).bind (forS f r)
def forF {S α ρ : Type} (f : S → α → Option (Fl S ρ)) : List α → S → Option (Fl S ρ)
  | [], s => some (.nx s)
  | x :: r, s => (f s x).bind fun z => match z with
    | .nx s => forF f r s
    | .ct s => forF f r s
    | .bk s => some (.nx s)
    | .rt v => some (.rt v)
theorem drop_cons {α : Type} {xs : List α} {i : Nat} {x : α} (h : xs[i]? = some x) : xs.drop i = x :: xs.drop (i + 1) := by
  obtain ⟨hi, e⟩ := List.getElem?_eq_some_iff.mp h
  rw [List.drop_eq_getElem_cons hi, e]
theorem Req.loop {X : Cx} {R0 H0 Ra Rb : Hp} {D D' : Ends} {o : Out} (h : Req X R0 H0 Ra D o) (h1 : ∀ Γ, o ≠ .nx Γ) (h2 : ∀ Γ, o ≠ .bk Γ) (h3 : ∀ Γ, o ≠ .ct Γ) (h4 : ∀ Γ x, o ≠ .et Γ x) (e : D'.rt = D.rt := by rfl) : Req X R0 H0 Rb D' o := by
  cases o with
  | nx Γ => exact absurd rfl (h1 Γ)
  | rt a =>
    intro v R H x r
    rw [e]
    exact h v R H x r
  | ro a =>
    intro p o R H x np hp hr r
    rw [e]
    exact h p o R H x np hp hr r
  | rd a =>
    intro p o ps R H x nn nd hp hr r
    rw [e]
    exact h p o ps R H x nn nd hp hr r
  | bk Γ => exact absurd rfl (h2 Γ)
  | ct Γ => exact absurd rfl (h3 Γ)
  | ex x => exact h
  | exn x => exact h
  | et Γ x => exact absurd rfl (h4 Γ x)
theorem j1_forF {iter : Expr} {body : List Stmt} {S ρ α : Type} [Py α] {mi : Option (List α)} {f : S → α → Option (Fl S ρ)} (s0 : S) (Γh : S → List Slot) (up : S → α → List Slot) {ts : List Nat} {ret : ρ → Out} (hp : PassesOwn (model X.prog X.w) X.A X.env X.xe) (hc : X.calm = true) (h0 : Sub Γ (Γh s0))
    (hi : JI X R0 H0 Γ tg iter mi) (hg : ∀ s, JG X R0 H0 (Γh s) tg ts (up s)) (hb : ∀ s x, JS X R0 H0 (up s x) body (f s x) (outF Γh ret)) (hr : ∀ v Γ, ret v ≠ .nx Γ := by intro _ _ h; cases h) (hr2 : ∀ v Γ, ret v ≠ .bk Γ := by intro _ _ h; cases h) (hr3 : ∀ v Γ, ret v ≠ .ct Γ := by intro _ _ h; cases h) (hr4 : ∀ v Γ x, ret v ≠ .et Γ x := by intro _ _ _ h; cases h)
    (hs : ∀ x, foldedSetIterable iter X.env x = pure x := by intro _; rfl) : J1 X R0 H0 Γ (.For tg iter body [] pos) (mi.bind fun xs => forF f xs s0) (outF Γh ret) := .mk fun σ R H Sa b eb D q => by
  obtain ⟨xs, ex, eb⟩ := bind_some' eb
  refine PS_to (ps_for hp hc iS gS sS hs) (hi σ R H Sa xs ex _ fun J R1 H1 x1 hJ => ?_)
  obtain ⟨Rz, ez, Sz⟩ := h0 X.K R0 H0 σ R1 H1 (Sa.ext x1)
  refine ⟨fun i m σ H => m = xs.length - i ∧ i ≤ xs.length ∧ ∃ R s, Sat X.K R0 H0 (Γh s) σ R H ∧ Ex R1 R ∧ forF f (xs.drop i) s = some b, ⟨xs.length, by simp, Nat.zero_le _, Rz, s0, Sz, ez, eb⟩, ?_⟩
  rintro i m σ2 H2 ⟨rfl, hi, R2, s, S2, e2, ef⟩
  obtain ⟨g1, g2⟩ := hJ i R2 H2 e2 S2.e0.h S2.i
  by_cases hlt : i < xs.length
  · refine .inr ?_
    have hx : xs[i]? = some xs[i] := List.getElem?_eq_getElem hlt
    obtain ⟨go, yl⟩ := g1 _ hx
    rw [drop_cons hx] at ef
    obtain ⟨z, e3, ef⟩ := bind_some' ef
    refine ⟨go, fun σ' H' => ∃ R s, Sat X.K R0 H0 (Γh s) σ' R H' ∧ Ex R1 R ∧ forF f (xs.drop (i + 1)) s = some b, fun σ' H' p' => ⟨xs.length - (i + 1), by omega, rfl, hlt, p'⟩, fun v H3 hy => ?_⟩
    obtain ⟨R3, x3, r3⟩ := yl v H3 hy
    refine hg s σ2 R3 H3 (S2.ext x3) v xs[i] r3 _ fun σ4 _ S4 => ?_
    refine hb s xs[i] σ4 R3 H3 S4 z e3 _ ?_
    have w : ∀ {σ' : L2.St} {R' H' : Hp} {s' : S}, forF f (xs.drop (i + 1)) s' = some b → Ex R3 R' → Sat X.K R0 H0 (Γh s') σ' R' H' → ∃ R s, Sat X.K R0 H0 (Γh s) σ' R H' ∧ Ex R1 R ∧ forF f (xs.drop (i + 1)) s = some b :=
      fun {σ' R' H' s'} h e' S' => ⟨R', s', S', (e2.trans x3.r).trans e', h⟩
    cases z with
    | nx s' => exact fun σ' R' H' e' S' => w ef e' S'
    | ct s' => exact fun σ' R' H' e' S' => w ef e' S'
    | bk s' =>
      cases ef
      exact fun σ' R' H' e' S' => q σ' R' H' (((x1.r.trans e2).trans x3.r).trans e') S'
    | rt v =>
      cases ef
      exact Req.loop (show Req X R0 H0 R D (ret v) from q) (hr v) (hr2 v) (hr3 v) (hr4 v)
  · have e : i = xs.length := by omega
    subst e
    rw [List.drop_length] at ef
    cases ef
    exact .inl ⟨g2 (Nat.le_refl _), q σ2 R2 H2 (x1.r.trans e2) S2⟩

theorem forS_F {S α ρ : Type} {f : S → α → Option S} : ∀ (xs : List α) (s b : S), forS f xs s = some b → forF (ρ := ρ) (fun s x => (f s x).bind fun z => some (.nx z)) xs s = some (.nx b)
  | [], s, b, h => by
    cases h
    rfl
  | x :: r, s, b, h => by
    obtain ⟨z, e, h⟩ := bind_some' h
    show (((f s x).bind fun z => some (Fl.nx z)).bind _) = some (Fl.nx b)
    rw [e]
    exact forS_F r z b h
theorem j1_for {iter : Expr} {body : List Stmt} {S α : Type} [Py α] {mi : Option (List α)} {f : S → α → Option S} (s0 : S) (Γh : S → List Slot) (up : S → α → List Slot) {ts : List Nat} (hp : PassesOwn (model X.prog X.w) X.A X.env X.xe) (hc : X.calm = true) (h0 : Sub Γ (Γh s0))
    (hi : JI X R0 H0 Γ tg iter mi) (hg : ∀ s, JG X R0 H0 (Γh s) tg ts (up s)) (hb : ∀ s x, JS X R0 H0 (up s x) body (f s x) (fun s => .nx (Γh s)))
    (hs : ∀ x, foldedSetIterable iter X.env x = pure x := by intro _; rfl) : J1 X R0 H0 Γ (.For tg iter body [] pos) (mi.bind fun xs => forS f xs s0) (fun s => .nx (Γh s)) := .mk fun σ R H Sa b eb D q => by
  obtain ⟨xs, ex, eb⟩ := bind_some' eb
  refine j1_forF (ρ := Empty) (ret := Empty.elim) s0 Γh up hp hc h0 hi hg (f := fun s x => (f s x).bind fun z => some (.nx z)) (fun s x => js_map (out' := outF Γh Empty.elim) Fl.nx (hb s x)) (fun v => v.elim) (fun v => v.elim) (fun v => v.elim) (fun v => v.elim) hs σ R H Sa (.nx b) ?_ D q
  rw [ex]
  exact forS_F xs s0 b eb
/-! ### while -/
def whileS {S : Type} (c : S → Option Bool) (f : S → Option S) : Nat → S → Option S
  | 0, _ => none
  | n + 1, s => (c s).bind fun b => if b then (f s).bind (whileS c f n) else some s
def whileF {S ρ : Type} (c : S → Option Bool) (f : S → Option (Fl S ρ)) : Nat → S → Option (Fl S ρ)
  | 0, _ => none
  | n + 1, s => (c s).bind fun b => if b then (f s).bind fun z => match z with
    | .nx s => whileF c f n s
    | .ct s => whileF c f n s
    | .bk s => some (.nx s)
    | .rt v => some (.rt v) else some (.nx s)
end
end FK

namespace FK
open PySem PySem.Spec PyProof.Rows L2

/-! ### comprehensions -/
def wipeG (Γ : List Slot) : List Nat → List Slot
  | [] => Γ
  | v :: vs => (wipeG Γ vs).set v .any
theorem wipeG_len (Γ : List Slot) : ∀ vs : List Nat, (wipeG Γ vs).length = Γ.length
  | [] => rfl
  | v :: vs => by
    show ((wipeG Γ vs).set v .any).length = _
    rw [List.length_set, wipeG_len Γ vs]
theorem Sat.wipe {K : PySem.W.Frag} {R0 H0 R H : Hp} {Γ : List Slot} {σ : L2.St} (S : Sat K R0 H0 Γ σ R H) : ∀ vs : List Nat, (∀ v ∈ vs, v < Γ.length) → Sat K R0 H0 (wipeG Γ vs) (L2.wipe σ vs) R H
  | [], _ => S
  | v :: vs, h => (S.wipe vs fun x hx => h x (List.mem_cons_of_mem _ hx)).set_any none (by rw [wipeG_len]; exact h v List.mem_cons_self)
theorem wipe_idem (σ : L2.St) (vs : List Nat) : L2.wipe (L2.wipe σ vs) vs = L2.wipe σ vs := by
  refine List.ext_getElem? fun j => ?_
  rw [wipe_at, wipe_at, wipe_length]
  by_cases h : j ∈ vs
  · rw [if_pos h, if_pos h]
  · rw [if_neg h, if_neg h]
def lcM {α β : Type} (t : α → Option Bool) (f : α → Option β) : List α → Option (List β)
  | [] => some []
  | x :: r => (t x).bind fun b => if b then (f x).bind fun y => (lcM t f r).bind fun ys => some (y :: ys) else lcM t f r
def lcG {α β : Type} (t : α → Option Bool) (f : α → Option β) (xs : List α) : Option (List β) := if xs.length < 1000000 then lcM t f xs else none
def mapM' {α β : Type} (f : α → Option β) (xs : List α) : Option (List β) := lcG (fun _ => some true) f xs
structure JTs (X : Cx) (R0 H0 : Hp) (Γ : List Slot) (ifs : List Expr) (m : Option Bool) : Prop where
  run : ∀ σ R H, Sat X.K R0 H0 Γ σ R H → ∀ a, m = some a → ∀ Q : Bool → Hp → Prop, (∀ R' H', Ext R H R' H' → Q a H') → ∀ pins s, Inv X pins σ H s →
    wpAny (model X.prog X.w) X.A (forIn ifs true fun c r => if r = true then do let ok ← isTrue c X.env (eval c X.env); pure (ForInStep.yield ok) else pure (ForInStep.yield r)) (TP X pins σ Q) X.xe s
instance {X : Cx} {R0 H0 : Hp} {Γ : List Slot} {ifs : List Expr} {m : Option Bool} : CoeFun (JTs X R0 H0 Γ ifs m) fun _ => ∀ σ R H, Sat X.K R0 H0 Γ σ R H → ∀ a, m = some a → ∀ Q : Bool → Hp → Prop, (∀ R' H', Ext R H R' H' → Q a H') → ∀ pins s, Inv X pins σ H s →
    wpAny (model X.prog X.w) X.A (forIn ifs true fun c r => if r = true then do let ok ← isTrue c X.env (eval c X.env); pure (ForInStep.yield ok) else pure (ForInStep.yield r)) (TP X pins σ Q) X.xe s := ⟨JTs.run⟩
abbrev Blk (X : Cx) (scope : Scope) : Type := Shared × Hp × Addr × List (Str × Addr) × List Addr
abbrev blk (X : Cx) (scope : Scope) (q : Blk X scope) : Cx := X.blk q.1 q.2.1 scope (compEnvC scope q.2.2.2.1 q.2.2.1 X.env) q.2.2.2.2
section
variable {X : Cx} {R0 H0 : Hp} {Γ : List Slot} {e a b tg : Expr} {pos : Pos}
theorem jts_nil : JTs X R0 H0 Γ [] (some true) := .mk fun σ R H S z ez Q q pins s I => by
  cases ez
  exact pts_nil.run pins s σ H Q I (q R H (.refl S.i))
abbrev gB (X : Cx) (scope : Scope) (tg : Expr) : TG := fun v σ H Q => ∀ q : Blk X scope, gSem (blk X scope q) tg v σ H Q
abbrev tB (X : Cx) (scope : Scope) (ifs : List Expr) : TT := fun σ H Q => ∀ (q : Blk X scope) pins s, Inv (blk X scope q) pins σ H s →
      wpAny (model X.prog X.w) X.A (forIn ifs true fun c r => if r = true then do let ok ← isTrue c (blk X scope q).env (eval c (blk X scope q).env); pure (ForInStep.yield ok) else pure (ForInStep.yield r)) (TP (blk X scope q) pins σ Q) (blk X scope q).xe s
abbrev eB (X : Cx) (scope : Scope) (elt : Expr) : TE := fun σ H Q => ∀ q : Blk X scope, eSem (blk X scope q) elt σ H Q
theorem lc_tr {elt iter : Expr} {ifs : List Expr} {scope : Scope} {own : List (Str × Nat)} {ts : List Nat} {α β : Type} [Py α] [Py β] {mi : Option (List α)} {mt : α → Option Bool} {me : α → Option β} {Γb : List Slot} {up : α → List Slot}
    (hi : JI X R0 H0 Γ tg iter mi) (hw : wipeG Γ (own.map (·.2)) = Γb) (hg : ∀ q : Blk X scope, JG (blk X scope q) R0 H0 Γb tg ts up) (ht : ∀ (q : Blk X scope) x, JTs (blk X scope q) R0 H0 (up x) ifs (mt x))
    (he : ∀ (q : Blk X scope) x, JE (blk X scope q) R0 H0 (up x) elt (me x)) (hts : ∀ t ∈ ts, t ∈ own.map (·.2)) (hlt : (own.map (·.2)).all (fun v => decide (v < Γ.length)) = true)
    {σ : L2.St} {R H : Hp} (S : Sat X.K R0 H0 Γ σ R H) {r : List β} (er : (mi.bind fun xs => lcG mt me xs) = some r) (Q : VK) (q : ∀ p o R' H', Ext R H R' H' → H p = none → H' p = some o → R' p = none → ho X.K R' o r → Q (.ref p) H') :
    tLc (iSem X tg iter) (gB X scope tg) (tB X scope ifs) (eB X scope elt) (own.map (·.2)) σ H Q := by
  obtain ⟨xs, ex, er⟩ := bind_some' er
  unfold lcG at er
  by_cases hlen : xs.length < 1000000
  · rw [if_pos hlen] at er
    refine (hi σ R H S xs ex _ fun J R1 H1 x1 hJ D hD => ?_)
    refine ⟨fun i m H' => m = xs.length - i ∧ i ≤ xs.length ∧ ∃ R' acc as, Ext R1 H1 R' H' ∧ H' D = some (.lst acc) ∧ R' D = none ∧ AllR X.K R' acc as ∧ acc.length ≤ i ∧ ∃ r', lcM mt me (xs.drop i) = some r' ∧ r = as ++ r',
      ⟨xs.length, by simp, Nat.zero_le _, R1, [], [], .own x1.i hD, upd_same, x1.i.none hD, .nil, Nat.le_refl _, r, er, rfl⟩, ?_⟩
    rintro i m H2 ⟨rfl, hi', R2, acc, as, x2, hD2, hR2, hA, hal, r', er', hr'⟩
    have S2 : Sat X.K R0 H0 Γ σ R2 H2 := (S.ext x1).ext x2
    obtain ⟨g1, g2⟩ := hJ i R2 H2 x2.r S2.e0.h S2.i
    by_cases hlt' : i < xs.length
    · refine .inr ?_
      have hx : xs[i]? = some xs[i] := List.getElem?_eq_getElem hlt'
      obtain ⟨go, yl⟩ := g1 _ hx
      rw [drop_cons hx] at er'
      obtain ⟨k, ek, er'⟩ := bind_some' er'
      refine ⟨go, fun H' => ∃ R' acc as, Ext R1 H1 R' H' ∧ H' D = some (.lst acc) ∧ R' D = none ∧ AllR X.K R' acc as ∧ acc.length ≤ i + 1 ∧ ∃ r', lcM mt me (xs.drop (i + 1)) = some r' ∧ r = as ++ r', fun H' p' => ⟨xs.length - (i + 1), by omega, rfl, hlt', p'⟩, fun v H3 hy => ?_⟩
      obtain ⟨R3, x3, r3⟩ := yl v H3 hy
      intro qb
      have S3 := (S2.ext x3).wipe (own.map (·.2)) (fun v hv => of_decide_eq_true (List.all_eq_true.mp hlt v hv))
      rw [hw] at S3
      refine hg qb _ R3 H3 S3 v xs[i] r3 _ fun σ4 w4 S4 => ⟨(w4 _ hts).trans (wipe_idem σ _), ?_⟩
      intro qb
      refine ht qb xs[i] σ4 R3 H3 S4 k ek _ fun R5 H5 x5 => ?_
      have hD5 : H5 D = some (.lst acc) := x5.h _ _ (x3.h _ _ hD2)
      have hR5 : R5 D = none := x5.n _ _ rfl (x3.h _ _ hD2) (x3.n _ _ rfl hD2 hR2)
      cases k with
      | false => exact ⟨R5, acc, as, (x2.trans x3).trans x5, hD5, hR5, (hA.mono x3.r).mono x5.r, Nat.le_succ_of_le hal, r', er', hr'⟩
      | true =>
        obtain ⟨y, ey, er'⟩ := bind_some' er'
        obtain ⟨ys, eys, er'⟩ := bind_some' er'
        cases er'
        intro qb
        refine he qb xs[i] σ4 R5 H5 (S4.ext x5) y ey _ fun w R6 H6 x6 r6 => ?_
        have hD6 : H6 D = some (.lst acc) := x6.h _ _ hD5
        have hR6 : R6 D = none := x6.n _ _ rfl hD5 hR5
        refine ⟨acc, hD6, Nat.lt_of_lt_of_le (Nat.lt_of_le_of_lt hal (Nat.lt_trans hlt' hlen)) (by decide), R6, acc ++ [w], as ++ [y], ?_, upd_same, hR6, (((hA.mono x3.r).mono x5.r).mono x6.r).app (.cons r6 .nil), ?_, ys, eys, by rw [hr', List.append_assoc]; rfl⟩
        · have z := (((x2.trans x3).trans x5).trans x6)
          refine ⟨z.r, z.h.mut hD, fun p u hp => ?_, z.n⟩
          rw [upd_ne (ne_of_none hp hR6)]
          exact z.i p u hp
        · rw [List.length_append]
          exact Nat.add_le_add_right hal 1
    · have e : i = xs.length := by omega
      subst e
      rw [List.drop_length] at er'
      cases er'
      refine .inl ⟨g2 (Nat.le_refl _), q D _ R2 H2 (x1.trans x2) (x1.h.none hD) hD2 hR2 ?_⟩
      rw [hr', List.append_nil]
      exact ⟨acc, rfl, hA⟩
  · rw [if_neg hlen] at er
    cases er
theorem jo_lc {elt iter : Expr} {ifs : List Expr} {scope : Scope} {own : List (Str × Nat)} {ts : List Nat} {α β : Type} [Py α] [Py β] {mi : Option (List α)} {mt : α → Option Bool} {me : α → Option β} (Γb : List Slot) (up : α → List Slot) (hc : X.calm = true) (hN : X.N.Nodup)
    (hi : JI X R0 H0 Γ tg iter mi) (ok : BlkOk X.N X.env.scope scope own) (hw : wipeG Γ (own.map (·.2)) = Γb) (hg : ∀ q : Blk X scope, JG (blk X scope q) R0 H0 Γb tg ts up) (ht : ∀ (q : Blk X scope) x, JTs (blk X scope q) R0 H0 (up x) ifs (mt x))
    (he : ∀ (q : Blk X scope) x, JE (blk X scope q) R0 H0 (up x) elt (me x)) (hts : (∀ t ∈ ts, t ∈ own.map (·.2)) := by decide) (hlt : (own.map (·.2)).all (fun v => decide (v < Γ.length)) = true := by rfl) (hs : ∀ x, foldedSetIterable iter X.env x = pure x := by intro _; rfl) :
    JO X R0 H0 Γ (.ListComp elt [⟨tg, iter, ifs, 0⟩] scope pos) (mi.bind fun xs => lcG mt me xs) := .mk fun σ R H S r er Q q =>
  PE_to (pe_lc hc hN iS ok (g := gB X scope tg) (tt := tB X scope ifs) (te := eB X scope elt) (fun s H' C cl fp => ⟨fun pins s' σ H v u Q I r h => h ⟨s, H', C, cl, fp⟩ pins s' u I r⟩) (fun s H' C cl fp => ⟨fun pins s' σ H Q I h => h ⟨s, H', C, cl, fp⟩ pins s' I⟩)
    (fun s H' C cl fp => ⟨fun pins s' σ H Q I h => h ⟨s, H', C, cl, fp⟩ pins s' I⟩) hs) (lc_tr hi hw hg ht he hts hlt S er Q q)
/-- name = [..] on one line -/
theorem j1_setlc (i : Nat) {y : Str} {py spos : Pos} {elt iter : Expr} {ifs : List Expr} {scope : Scope} {own : List (Str × Nat)} {ts : List Nat} {α β : Type} [Py α] [Py β] {mi : Option (List α)} {mt : α → Option Bool} {me : α → Option β} (Γ' : List β → List Slot) (Γb : List Slot) (up : α → List Slot) (hc : X.calm = true) (hN : X.N.Nodup)
    (hi : JI X R0 H0 Γ tg iter mi) (ok : BlkOk X.N X.env.scope scope own) (hw : wipeG Γ (own.map (·.2)) = Γb) (hg : ∀ q : Blk X scope, JG (blk X scope q) R0 H0 Γb tg ts up) (ht : ∀ (q : Blk X scope) x, JTs (blk X scope q) R0 H0 (up x) ifs (mt x))
    (he : ∀ (q : Blk X scope) x, JE (blk X scope q) R0 H0 (up x) elt (me x)) (hΓ : ∀ a, Γ' a = Γ.set i (.own a) := by intro _; rfl) (hy : X.N[i]? = some y := by rfl) (hl : i < Γ.length := by exact Nat.le_of_ble_eq_true rfl) (hyl : X.env.scope.names.lookup y = some .local := by rfl)
    (hsw : swapsWith (.ListComp elt [⟨tg, iter, ifs, 0⟩] scope pos) (some (.Name y py)) spos.line X.env = pure true := by exact sw_true rfl rfl rfl (by decide +kernel)) (hts : (∀ t ∈ ts, t ∈ own.map (·.2)) := by decide) (hlt : (own.map (·.2)).all (fun v => decide (v < Γ.length)) = true := by rfl) (hs : ∀ x, foldedSetIterable iter X.env x = pure x := by intro _; rfl) :
    J1 X R0 H0 Γ (.Assign [.Name y py] (.ListComp elt [⟨tg, iter, ifs, 0⟩] scope pos) spos) (mi.bind fun xs => lcG mt me xs) fun a => .nx (Γ' a) := .mk fun σ R H S b eb D q => by
  have q : ∀ σ R' H, Ex R R' → Sat X.K R0 H0 (Γ' b) σ R' H → D.nx σ H := q
  rw [hΓ b] at q
  exact PS_to (ps_setLc hc hN hy hyl hsw iS ok (g := gB X scope tg) (tt := tB X scope ifs) (te := eB X scope elt) (fun s H' C cl fp => ⟨fun pins s' σ H v u Q I r h => h ⟨s, H', C, cl, fp⟩ pins s' u I r⟩) (fun s H' C cl fp => ⟨fun pins s' σ H Q I h => h ⟨s, H', C, cl, fp⟩ pins s' I⟩)
    (fun s H' C cl fp => ⟨fun pins s' σ H Q I h => h ⟨s, H', C, cl, fp⟩ pins s' I⟩) hs) (lc_tr hi hw hg ht he hts hlt S eb _ fun p o R' H' z np hp hr r => q _ R' H' z.r (S.set_own hl z np hp hr r))
/-! ### arguments and calls -/
theorem ja_nil : JA X R0 H0 Γ [] (some ()) := .mk fun σ R H S g eg Q q => PA_to pa_nil (q [] R H (.refl S.i) rfl)
theorem ja_cons {es : List Expr} {α γ : Type} [Py α] [Ar γ] {m : Option α} {mr : Option γ} (h : JB X R0 H0 Γ e m) (hr : JA X R0 H0 Γ es mr) (hs : starEach (e :: es) X.env = (false, eval e X.env) :: starEach es X.env := by rfl) :
    JA X R0 H0 Γ (e :: es) (m.bind fun x => mr.bind fun r => some (x, r)) := .mk fun σ R H S g eg Q q => by
  obtain ⟨x, ex, eg⟩ := bind_some' eg
  obtain ⟨r, er, eg⟩ := bind_some' eg
  cases eg
  exact PA_to (pa_cons eS aS hs) (h σ R H S x ex _ fun v R1 H1 x1 r1 => hr σ R1 H1 (S.ext x1) r er _ fun vs R2 H2 x2 r2 => q (v :: vs) R2 H2 (x1.trans x2) ⟨v, vs, rfl, Py.bmono x2.r x2.h r1, r2⟩)
theorem ja_cons_t {es : List Expr} {α γ : Type} [Py α] [Ar γ] {x : α} {r : γ} (h : JB X R0 H0 Γ e (some x)) (hr : JA X R0 H0 Γ es (some r)) (hs : starEach (e :: es) X.env = (false, eval e X.env) :: starEach es X.env := by rfl) :
    JA X R0 H0 Γ (e :: es) (some (x, r)) := ja_cons h hr hs
end
def spV {γ β : Type} [Ar γ] [Py β] (K : PySem.W.Frag) (m : γ → Option β) : Sp := fun vs H Q _ => ∃ R g b, Ex R H ∧ Ar.ok K R H vs g ∧ m g = some b ∧ ∀ v R' H', Ext R H R' H' → rep K R' v b → Q v H'
def spO {γ β : Type} [Ar γ] [Ob β] (K : PySem.W.Frag) (m : γ → Option β) : Sp := fun vs H Q _ => ∃ R g b, Ex R H ∧ Ar.ok K R H vs g ∧ m g = some b ∧ ∀ p o R' H', Ext R H R' H' → H p = none → H' p = some o → R' p = none → ho K R' o b → Q (.ref p) H'
/-- a def that may be called by its name -/
def Cal (P : Program) (w : World) (K : PySem.W.Frag) (mg : Str → Option Value) (base : Heap) (CX : CXT) (k : Nat) (x : Str) (ps : List Str) (sp : Sp) : Prop :=
  ∃ f fd, mg x = some (.ref f) ∧ PySem.W.keepIn K (.ref f) = true ∧ Binds K fd ps [] ∧ FnOk P w K mg base CX k f fd ps sp
theorem Cal.mono {P : Program} {w : World} {K : PySem.W.Frag} {mg : Str → Option Value} {base : Heap} {CX : CXT} {k j : Nat} {x : Str} {ps : List Str} {sp : Sp} (h : Cal P w K mg base CX k x ps sp) (l : k ≤ j) : Cal P w K mg base CX j x ps sp := by
  obtain ⟨f, fd, h1, h2, h3, h4⟩ := h
  exact ⟨f, fd, h1, h2, h3, h4.mono l⟩
section
variable {X : Cx} {R0 H0 : Hp} {Γ : List Slot} {e : Expr} {es : List Expr} {pos p : Pos} {γ β : Type} [Ar γ]
theorem je_call [Py β] {k : Nat} {x : Str} {ps : List Str} {m : γ → Option β} {ma : Option γ} (C : Cal X.prog X.w X.K X.mg X.base CX0 k x ps (spV X.K m)) (hr : Room k X.A) (ha : JA X R0 H0 Γ (e :: es) ma) (hg : Gl X x := by rfl)
    (hdb : (x == ("__debug__" : Str)) = false := by decide) (he : starEach (e :: es) X.env = (false, eval e X.env) :: starEach es X.env := by rfl) (hpl : (backTo pos (starEach es X.env)).any (·.1) = false := by rfl) :
    JE X R0 H0 Γ (.Call (.Name x p) (e :: es) [] pos) (ma.bind m) := .mk fun σ R H S b eb Q q => by
  obtain ⟨g, eg, eb⟩ := bind_some' eb
  obtain ⟨f, fd, h1, h2, h3, h4⟩ := C
  refine PE_to (pe_call h4 hr hg h1 h2 h3 .nil pass0 aS hdb he hpl) (ha σ R H S g eg _ fun vs R1 H1 x1 r1 => ?_)
  rw [List.append_nil]
  exact ⟨R1, g, b, x1.i, r1, eb, fun v R2 H2 x2 r2 => q v R2 H2 (x1.trans x2) r2⟩
theorem je_call_t [Py β] {k : Nat} {x : Str} {ps : List Str} {m : γ → Option β} {g : γ} (C : Cal X.prog X.w X.K X.mg X.base CX0 k x ps (spV X.K m)) (hr : Room k X.A) (ha : JA X R0 H0 Γ (e :: es) (some g)) (hg : Gl X x := by rfl)
    (hdb : (x == ("__debug__" : Str)) = false := by decide) (he : starEach (e :: es) X.env = (false, eval e X.env) :: starEach es X.env := by rfl) (hpl : (backTo pos (starEach es X.env)).any (·.1) = false := by rfl) :
    JE X R0 H0 Γ (.Call (.Name x p) (e :: es) [] pos) (m g) := je_call C hr ha hg hdb he hpl
theorem jo_call [Ob β] {k : Nat} {x : Str} {ps : List Str} {m : γ → Option β} {ma : Option γ} (C : Cal X.prog X.w X.K X.mg X.base CX0 k x ps (spO X.K m)) (hr : Room k X.A) (ha : JA X R0 H0 Γ (e :: es) ma) (hg : Gl X x := by rfl)
    (hdb : (x == ("__debug__" : Str)) = false := by decide) (he : starEach (e :: es) X.env = (false, eval e X.env) :: starEach es X.env := by rfl) (hpl : (backTo pos (starEach es X.env)).any (·.1) = false := by rfl) :
    JO X R0 H0 Γ (.Call (.Name x p) (e :: es) [] pos) (ma.bind m) := .mk fun σ R H S b eb Q q => by
  obtain ⟨g, eg, eb⟩ := bind_some' eb
  obtain ⟨f, fd, h1, h2, h3, h4⟩ := C
  refine PE_to (pe_call h4 hr hg h1 h2 h3 .nil pass0 aS hdb he hpl) (ha σ R H S g eg _ fun vs R1 H1 x1 r1 => ?_)
  rw [List.append_nil]
  exact ⟨R1, g, b, x1.i, r1, eb, fun p o R2 H2 x2 np hp hr r2 => q p o R2 H2 (x1.trans x2) (x1.h.none np) hp hr r2⟩
theorem jo_call_t [Ob β] {k : Nat} {x : Str} {ps : List Str} {m : γ → Option β} {g : γ} (C : Cal X.prog X.w X.K X.mg X.base CX0 k x ps (spO X.K m)) (hr : Room k X.A) (ha : JA X R0 H0 Γ (e :: es) (some g)) (hg : Gl X x := by rfl)
    (hdb : (x == ("__debug__" : Str)) = false := by decide) (he : starEach (e :: es) X.env = (false, eval e X.env) :: starEach es X.env := by rfl) (hpl : (backTo pos (starEach es X.env)).any (·.1) = false := by rfl) :
    JO X R0 H0 Γ (.Call (.Name x p) (e :: es) [] pos) (m g) := jo_call C hr ha hg hdb he hpl
end
/-! ### a def -/
theorem slots_any (K : PySem.W.Frag) (R0 H0 R H : Hp) : ∀ n : Nat, SlotsOk K R0 H0 R H (List.replicate n Slot.any) (List.replicate n none) []
  | 0 => rfl
  | n + 1 => ⟨[], [], rfl, rfl, slots_any K R0 H0 R H n⟩
theorem sat_start {γ : Type} [Ar γ] {K : PySem.W.Frag} {R H : Hp} {vs : List V} {g : γ} {N ps : List Str} (i : Ex R H) (h : Ar.ok K R H vs g) (hl : vs.length = ps.length) : Sat K R H (Ar.slots g ++ List.replicate (N.length - ps.length) .any) (L2.start N vs) R H := by
  refine ⟨⟨[], ?_, List.nodup_nil, fun p hp => by cases hp⟩, .refl i⟩
  unfold L2.start
  rw [hl]
  exact Ar.sl h (slots_any K R H R H _)
section
variable {P : Program} {w : World} {K : PySem.W.Frag} {mg : Str → Option Value} {base : Heap} {x qual : Str} {st : Stmt} {f : Addr} {fd : FuncData} {N ps : List Str} {k : Nat} {γ β : Type} [Ar γ]
abbrev bodyX (P : Program) (w : World) (K : PySem.W.Frag) (mg : Str → Option Value) (base : Heap) (N : List Str) (qual : Str) (st : Stmt) (f : Addr) (cdv : Value) (A : Around) (outer : List Env) (s : Shared) (H : Hp) (E : XK) : Cx := (cxOf CX0 P w K mg base N qual (defScope st) f cdv A outer s H E).nox
theorem fn_v [Py β] {m : γ → Option β} (F : Fun K x qual st f fd) (S : FnScope N ps (defScope st)) (hl : ∀ R H vs (g : γ), Ar.ok K R H vs g → vs.length = ps.length)
    (hb : ∀ (cdv : Value) (A : Around) (outer : List Env) (s : Shared) (H R : Hp) (E : XK) (g : γ), Room k (A.deeper (envOfC qual (defScope st) s.heap.objs.size f cdv)) →
      JN (bodyX P w K mg base N qual st f cdv A outer s H E) R H (Ar.slots g ++ List.replicate (N.length - ps.length) .any) (defBody st) (m g) fun b => .rt b) : FnOk P w K mg base CX0 (k + 1) f fd ps (spV K m) := by
  refine F.ok S (fun vs H Q E h => ?_) (fun cdv A outer s H vs Q E hr h => ?_)
  · obtain ⟨R, g, b, i, h, _⟩ := h
    exact hl R H vs g h
  · obtain ⟨R, g, b, i, h, e, q⟩ := h
    exact ⟨_, sS, hb cdv A outer s H R E g hr _ R H (sat_start i h (hl R H vs g h)) b e { nx := fun _ H' => Q .non H', rt := Q } (fun _ H' => Q .non H') fun v R' H' x r => q v R' H' x r⟩
theorem fn_o [Ob β] {m : γ → Option β} (F : Fun K x qual st f fd) (S : FnScope N ps (defScope st)) (hl : ∀ R H vs (g : γ), Ar.ok K R H vs g → vs.length = ps.length)
    (hb : ∀ (cdv : Value) (A : Around) (outer : List Env) (s : Shared) (H R : Hp) (E : XK) (g : γ), Room k (A.deeper (envOfC qual (defScope st) s.heap.objs.size f cdv)) →
      JN (bodyX P w K mg base N qual st f cdv A outer s H E) R H (Ar.slots g ++ List.replicate (N.length - ps.length) .any) (defBody st) (m g) fun b => .ro b) : FnOk P w K mg base CX0 (k + 1) f fd ps (spO K m) := by
  refine F.ok S (fun vs H Q E h => ?_) (fun cdv A outer s H vs Q E hr h => ?_)
  · obtain ⟨R, g, b, i, h, _⟩ := h
    exact hl R H vs g h
  · obtain ⟨R, g, b, i, h, e, q⟩ := h
    exact ⟨_, sS, hb cdv A outer s H R E g hr _ R H (sat_start i h (hl R H vs g h)) b e { nx := fun _ H' => Q .non H', rt := Q } (fun _ H' => Q .non H') fun p o R' H' x np hp hr r => q p o R' H' x np hp hr r⟩
end
theorem ar1 {α : Type} [Py α] {x1 : Str} : ∀ (K : PySem.W.Frag) R H vs (g : α × Unit), Ar.ok K R H vs g → vs.length = [x1].length := fun K R H vs g ⟨v, r, h, _, q⟩ => by
  have q : r = [] := q
  rw [h, q]
  rfl
theorem ar2 {α β : Type} [Py α] [Py β] {x1 x2 : Str} : ∀ (K : PySem.W.Frag) R H vs (g : α × β × Unit), Ar.ok K R H vs g → vs.length = [x1, x2].length := fun K R H vs g ⟨v, r, h, _, v2, r2, h2, _, q⟩ => by
  have q : r2 = [] := q
  rw [h, h2, q]
  rfl
theorem ar3 {α β γ : Type} [Py α] [Py β] [Py γ] {x1 x2 x3 : Str} : ∀ (K : PySem.W.Frag) R H vs (g : α × β × γ × Unit), Ar.ok K R H vs g → vs.length = [x1, x2, x3].length := fun K R H vs g ⟨v, r, h, _, v2, r2, h2, _, v3, r3, h3, _, q⟩ => by
  have q : r3 = [] := q
  rw [h, h2, h3, q]
  rfl
theorem ar4 {α β γ δ : Type} [Py α] [Py β] [Py γ] [Py δ] {x1 x2 x3 x4 : Str} : ∀ (K : PySem.W.Frag) R H vs (g : α × β × γ × δ × Unit), Ar.ok K R H vs g → vs.length = [x1, x2, x3, x4].length := fun K R H vs g ⟨v, r, h, _, v2, r2, h2, _, v3, r3, h3, _, v4, r4, h4, _, q⟩ => by
  have q : r4 = [] := q
  rw [h, h2, h3, h4, q]
  rfl
theorem ar5 {α β γ δ ε : Type} [Py α] [Py β] [Py γ] [Py δ] [Py ε] {x1 x2 x3 x4 x5 : Str} : ∀ (K : PySem.W.Frag) R H vs (g : α × β × γ × δ × ε × Unit), Ar.ok K R H vs g → vs.length = [x1, x2, x3, x4, x5].length := fun K R H vs g ⟨v, r, h, _, v2, r2, h2, _, v3, r3, h3, _, v4, r4, h4, _, v5, r5, h5, _, q⟩ => by
  have q : r5 = [] := q
  rw [h, h2, h3, h4, h5, q]
  rfl
end FK

namespace FK
open PySem PySem.Spec PyProof.Rows L2
theorem size_ok {n : Nat} (h : n ≤ 16000000) : n ≤ sizeLine := Nat.le_trans h (by rw [sizeLine_eq]; decide)
/-! ### scalars compared -/
class Sc (α : Type) [Py α] where
  to : α → V
  bor_eq : ∀ {K : PySem.W.Frag} {R H : Hp} {v : V} {a : α}, bor K R H v a → v = to a
  inj : ∀ {a b : α}, to a = to b → a = b
  sc : ∀ a b : α, scal (to a) (to b) = true
instance instScInt : Sc Int := ⟨V.int, fun h => h, fun h => V.int.inj h, fun _ _ => rfl⟩
instance instScBool : Sc Bool := ⟨V.bl, fun h => h, fun h => V.bl.inj h, fun _ _ => rfl⟩
instance instScStr : Sc Str := ⟨V.str, fun h => h, fun h => V.str.inj h, fun _ _ => rfl⟩
section
variable {X : Cx} {R0 H0 : Hp} {Γ : List Slot} {e a b o : Expr} {pos : Pos} {lo hi : Option Expr}
theorem sc_eq {α : Type} [Py α] [Sc α] [DecidableEq α] {K : PySem.W.Frag} (R H : Hp) (v w : V) (x y : α) (z : Bool) (i : Ex R H) (h1 : bor K R H v x) (h2 : bor K R H w y) (h3 : some (decide (x = y)) = some z) (Q : VK) (q : ∀ u R' H', Ext R H R' H' → rep K R' u z → Q u H') : rEq v w H Q := by
  cases h3
  have e1 := Sc.bor_eq h1
  have e2 := Sc.bor_eq h2
  subst e1 e2
  refine ⟨Sc.sc x y, ?_⟩
  have e : decide (Sc.to x = Sc.to y) = decide (x = y) := by
    by_cases h : x = y
    · subst h
      rw [decide_eq_true rfl, decide_eq_true rfl]
    · rw [decide_eq_false h, decide_eq_false fun z => h (Sc.inj z)]
  rw [e]
  exact q _ R H (.refl i) rfl
theorem sc_ne {α : Type} [Py α] [Sc α] [DecidableEq α] {K : PySem.W.Frag} (R H : Hp) (v w : V) (x y : α) (z : Bool) (i : Ex R H) (h1 : bor K R H v x) (h2 : bor K R H w y) (h3 : some (!decide (x = y)) = some z) (Q : VK) (q : ∀ u R' H', Ext R H R' H' → rep K R' u z → Q u H') : rNe v w H Q := by
  cases h3
  have e1 := Sc.bor_eq h1
  have e2 := Sc.bor_eq h2
  subst e1 e2
  refine ⟨Sc.sc x y, ?_⟩
  have e : decide (Sc.to x = Sc.to y) = decide (x = y) := by
    by_cases h : x = y
    · subst h
      rw [decide_eq_true rfl, decide_eq_true rfl]
    · rw [decide_eq_false h, decide_eq_false fun z => h (Sc.inj z)]
  rw [e]
  exact q _ R H (.refl i) rfl
section
variable {α : Type} [Py α] [Sc α] [DecidableEq α] {ma mb : Option α} {x y : α}
theorem je_eq (ha : JB X R0 H0 Γ a ma) (hb : JB X R0 H0 Γ b mb) : JE X R0 H0 Γ (.Compare a [.Eq] [b] pos) (ma.bind fun x => mb.bind fun y => some (decide (x = y))) := je_cmp2 op_eq (nomark _) sc_eq ha hb
theorem je_eq_t (ha : JB X R0 H0 Γ a (some x)) (hb : JB X R0 H0 Γ b (some y)) : JE X R0 H0 Γ (.Compare a [.Eq] [b] pos) (some (decide (x = y))) := je_eq ha hb
theorem jt_eq (ha : JB X R0 H0 Γ a ma) (hb : JB X R0 H0 Γ b mb) : JT X R0 H0 Γ (.Compare a [.Eq] [b] pos) (ma.bind fun x => mb.bind fun y => some (decide (x = y))) := jt_cmp2 op_eq (nomark _) sc_eq ha hb
theorem jt_eq_t (ha : JB X R0 H0 Γ a (some x)) (hb : JB X R0 H0 Γ b (some y)) : JT X R0 H0 Γ (.Compare a [.Eq] [b] pos) (some (decide (x = y))) := jt_eq ha hb
theorem jt_ne (ha : JB X R0 H0 Γ a ma) (hb : JB X R0 H0 Γ b mb) : JT X R0 H0 Γ (.Compare a [.NotEq] [b] pos) (ma.bind fun x => mb.bind fun y => some (!decide (x = y))) := jt_cmp2 op_ne (nomark _) sc_ne ha hb
theorem jt_ne_t (ha : JB X R0 H0 Γ a (some x)) (hb : JB X R0 H0 Γ b (some y)) : JT X R0 H0 Γ (.Compare a [.NotEq] [b] pos) (some (!decide (x = y))) := jt_ne ha hb
end
section
variable {ma mb : Option Int} {x y : Int}
theorem je_lt (ha : JB X R0 H0 Γ a ma) (hb : JB X R0 H0 Γ b mb) : JE X R0 H0 Γ (.Compare a [.Lt] [b] pos) (ma.bind fun x => mb.bind fun y => some (decide (x < y))) := je_cmp2 op_lt (nomark _) rib0 ha hb
theorem je_lt_t (ha : JB X R0 H0 Γ a (some x)) (hb : JB X R0 H0 Γ b (some y)) : JE X R0 H0 Γ (.Compare a [.Lt] [b] pos) (some (decide (x < y))) := je_lt ha hb
theorem jt_lt (ha : JB X R0 H0 Γ a ma) (hb : JB X R0 H0 Γ b mb) : JT X R0 H0 Γ (.Compare a [.Lt] [b] pos) (ma.bind fun x => mb.bind fun y => some (decide (x < y))) := jt_cmp2 op_lt (nomark _) rib0 ha hb
theorem jt_lt_t (ha : JB X R0 H0 Γ a (some x)) (hb : JB X R0 H0 Γ b (some y)) : JT X R0 H0 Γ (.Compare a [.Lt] [b] pos) (some (decide (x < y))) := jt_lt ha hb
theorem jt_le (ha : JB X R0 H0 Γ a ma) (hb : JB X R0 H0 Γ b mb) : JT X R0 H0 Γ (.Compare a [.LtE] [b] pos) (ma.bind fun x => mb.bind fun y => some (decide (x ≤ y))) := jt_cmp2 op_le (nomark _) rib0 ha hb
theorem jt_le_t (ha : JB X R0 H0 Γ a (some x)) (hb : JB X R0 H0 Γ b (some y)) : JT X R0 H0 Γ (.Compare a [.LtE] [b] pos) (some (decide (x ≤ y))) := jt_le ha hb
theorem je_gt (ha : JB X R0 H0 Γ a ma) (hb : JB X R0 H0 Γ b mb) : JE X R0 H0 Γ (.Compare a [.Gt] [b] pos) (ma.bind fun x => mb.bind fun y => some (decide (y < x))) := je_cmp2 op_gt (nomark _) rib0 ha hb
theorem je_gt_t (ha : JB X R0 H0 Γ a (some x)) (hb : JB X R0 H0 Γ b (some y)) : JE X R0 H0 Γ (.Compare a [.Gt] [b] pos) (some (decide (y < x))) := je_gt ha hb
theorem jt_gt (ha : JB X R0 H0 Γ a ma) (hb : JB X R0 H0 Γ b mb) : JT X R0 H0 Γ (.Compare a [.Gt] [b] pos) (ma.bind fun x => mb.bind fun y => some (decide (y < x))) := jt_cmp2 op_gt (nomark _) rib0 ha hb
theorem je_ge (ha : JB X R0 H0 Γ a ma) (hb : JB X R0 H0 Γ b mb) : JE X R0 H0 Γ (.Compare a [.GtE] [b] pos) (ma.bind fun x => mb.bind fun y => some (decide (y ≤ x))) := je_cmp2 op_ge (nomark _) rib0 ha hb
theorem je_ge_t (ha : JB X R0 H0 Γ a (some x)) (hb : JB X R0 H0 Γ b (some y)) : JE X R0 H0 Γ (.Compare a [.GtE] [b] pos) (some (decide (y ≤ x))) := je_ge ha hb
theorem jt_ge (ha : JB X R0 H0 Γ a ma) (hb : JB X R0 H0 Γ b mb) : JT X R0 H0 Γ (.Compare a [.GtE] [b] pos) (ma.bind fun x => mb.bind fun y => some (decide (y ≤ x))) := jt_cmp2 op_ge (nomark _) rib0 ha hb
theorem jt_ge_t (ha : JB X R0 H0 Γ a (some x)) (hb : JB X R0 H0 Γ b (some y)) : JT X R0 H0 Γ (.Compare a [.GtE] [b] pos) (some (decide (y ≤ x))) := jt_ge ha hb
theorem je_neg {m : Option Int} (h : JB X R0 H0 Γ a m) : JE X R0 H0 Γ (.UnaryOp .USub a pos) (m.bind fun x => some (-x)) := .mk fun σ R H S z ez Q q => by
  obtain ⟨x, ex, ez⟩ := bind_some' ez
  cases ez
  exact PE_to (pe_un un_neg eS) (h σ R H S x ex _ fun v R' H' z r => ⟨x, r, q _ R' H' z rfl⟩)
theorem je_neg_t (h : JB X R0 H0 Γ a (some x)) : JE X R0 H0 Γ (.UnaryOp .USub a pos) (some (-x)) := je_neg h
end
/-! ### texts -/
def sAdd (x y : Str) : Option Str := if x.length + y.length ≤ 16000000 then some (x ++ y) else none
def sAt (z : Str) (i : Int) : Option Str := if z.length ≤ 16000000 then (atI z.cps.toList i).bind fun c => some ⟨#[c]⟩ else none
theorem jp_none : JP X R0 H0 Γ none (some none) := .mk fun σ R H S z ez Q q pins s I => by
  cases ez
  exact po_none.run pins s σ H Q I (q R H (.refl S.i))
theorem jp_some {m : Option Int} (h : JB X R0 H0 Γ e m) : JP X R0 H0 Γ (some e) (m.bind fun x => some (some x)) := .mk fun σ R H S z ez Q q pins s I => by
  obtain ⟨x, ex, ez⟩ := bind_some' ez
  cases ez
  exact (po_some eS).run pins s σ H Q I (h σ R H S x ex _ fun v R' H' z r => ⟨x, r, q R' H' z⟩)
theorem jp_some_t {x : Int} (h : JB X R0 H0 Γ e (some x)) : JP X R0 H0 Γ (some e) (some (some x)) := jp_some h
def sCut (z : Str) (lo hi : Option Int) : Option Str := if z.length ≤ 16000000 then some (cutS z lo hi) else none
def sSplit (x y : Str) : Option (List Str) := if (y.length == 0) = false ∧ x.length ≤ 15000000 then some (Txt.split x y) else none
def sJoin (x : Str) (ys : List Str) : Option Str := if (ys.map (·.length)).sum + ys.length * x.length ≤ 16000000 then some (Txt.join x ys) else none
/-! ### lists -/
def cutA {α : Type} (xs : List α) (lo hi : Option Int) : List α := (xs.drop (HT.sIx xs.length 0 lo)).take (HT.sIx xs.length xs.length hi - HT.sIx xs.length 0 lo)
theorem jo_cutl {p2 : Pos} {α : Type} [Py α] {m : Option (List α)} {ml mh : Option (Option Int)} (h : JB X R0 H0 Γ e m) (hl : JP X R0 H0 Γ lo ml) (hh : JP X R0 H0 Γ hi mh) : JO X R0 H0 Γ (.Subscript e (.Slice lo hi none p2) pos) (m.bind fun x => ml.bind fun l => mh.bind fun u => some (cutA x l u)) := .mk fun σ R H S z ez Q q => by
  obtain ⟨x, ex, ez⟩ := bind_some' ez
  obtain ⟨l, el, ez⟩ := bind_some' ez
  obtain ⟨u, eu, ez⟩ := bind_some' ez
  cases ez
  refine PE_to (pe_slice sl_list eS oS oS) (h σ R H S x ex _ fun v R1 H1 x1 r1 => hl σ R1 H1 (S.ext x1) l el _ fun R2 H2 x2 => hh σ R2 H2 ((S.ext x1).ext x2) u eu _ fun R3 H3 x3 => ?_)
  obtain ⟨p, o, rfl, hp, vs, rfl, hv⟩ := Py.bmono (x2.trans x3).r (x2.trans x3).h r1
  refine ⟨p, vs, rfl, (seq_rd hp), fun d hd => q d _ R3 _ (((x1.trans x2).trans x3).trans (.own x3.i hd)) (((x1.trans x2).trans x3).h.none hd) upd_same (x3.i.none hd) ⟨_, rfl, ?_⟩⟩
  unfold cutV cutA
  rw [← hv.len]
  exact (hv.drop _).take _
theorem jo_cutl_t {p2 : Pos} {α : Type} [Py α] {x : List α} {l u : Option Int} (h : JB X R0 H0 Γ e (some x)) (hl : JP X R0 H0 Γ lo (some l)) (hh : JP X R0 H0 Γ hi (some u)) : JO X R0 H0 Γ (.Subscript e (.Slice lo hi none p2) pos) (some (cutA x l u)) := jo_cutl h hl hh
theorem AllR.at' {α : Type} [Py α] {K : PySem.W.Frag} {R : Hp} {vs : List V} {as : List α} (h : AllR K R vs as) {i : Int} {a : α} (e : atI as i = some a) : ∃ v, atI vs i = some v ∧ rep K R v a := by
  unfold atI at e ⊢
  rw [h.len]
  obtain ⟨j, ej, e⟩ := bind_some' e
  rw [ej]
  exact h.get e
theorem je_ixl {α : Type} [Py α] {ma : Option (List α)} {mb : Option Int} (ha : JB X R0 H0 Γ a ma) (hb : JB X R0 H0 Γ b mb) (hs : PlainIx b) : JE X R0 H0 Γ (.Subscript a b pos) (ma.bind fun x => mb.bind fun y => atI x y) := .mk fun σ R H S z ez Q q => by
  obtain ⟨x, ex, ez⟩ := bind_some' ez
  obtain ⟨y, ey, ez⟩ := bind_some' ez
  refine PE_to (pe_ix ix_list eS eS hs) (ha σ R H S x ex _ fun v R1 H1 e1 r1 => hb σ R1 H1 (S.ext e1) y ey _ fun w R2 H2 e2 r2 => ?_)
  obtain ⟨p, o, rfl, hp, vs, rfl, hv⟩ := Py.bmono e2.r e2.h r1
  obtain ⟨u, hu, ru⟩ := hv.at' ez
  exact ⟨p, vs, y, u, rfl, r2, (seq_rd hp), hu, q _ R2 H2 (e1.trans e2) ru⟩
theorem je_ixl_t {α : Type} [Py α] {x : List α} {y : Int} (ha : JB X R0 H0 Γ a (some x)) (hb : JB X R0 H0 Γ b (some y)) (hs : PlainIx b) : JE X R0 H0 Γ (.Subscript a b pos) (atI x y) := je_ixl ha hb hs
theorem je_lenl {p : Pos} {α : Type} [Py α] {m : Option (List α)} (hm : X.mg "len" = none) (h : JB X R0 H0 Γ a m) (hg : Gl X "len" := by rfl) (hs : starEach (a :: []) X.env = (false, eval a X.env) :: starEach [] X.env := by rfl) (hpl : (backTo pos (starEach ([] : List Expr) X.env)).any (·.1) = false := by rfl) :
    JE X R0 H0 Γ (.Call (.Name "len" p) [a] [] pos) (m.bind fun x => some (x.length : Int)) := .mk fun σ R H S z ez Q q => by
  obtain ⟨x, ex, ez⟩ := bind_some' ez
  cases ez
  refine PE_to (pe_callB call_len_seq hg hm PySem.boot_len (pa_cons eS pa_nil hs) (he := hs) (hpl := hpl)) (h σ R H S x ex _ fun v R1 H1 x1 r1 => ?_)
  obtain ⟨p, o, rfl, hp, vs, rfl, hv⟩ := r1
  exact ⟨p, vs, rfl, .inl (seq_rd hp), q _ R1 H1 x1 (by rw [hv.len]; rfl)⟩
theorem je_lenl_t {p : Pos} {α : Type} [Py α] {x : List α} (hm : X.mg "len" = none) (h : JB X R0 H0 Γ a (some x)) (hg : Gl X "len" := by rfl) (hs : starEach (a :: []) X.env = (false, eval a X.env) :: starEach [] X.env := by rfl) (hpl : (backTo pos (starEach ([] : List Expr) X.env)).any (·.1) = false := by rfl) :
    JE X R0 H0 Γ (.Call (.Name "len" p) [a] [] pos) (some (x.length : Int)) := je_lenl hm h hg hs hpl
/-! ### isinstance by a built-in class -/
class Ty (α : Type) [Py α] where
  nm : String
  ty : ∀ {K : PySem.W.Frag} {R H : Hp} {v : V} {a : α}, Ex R H → bor K R H v a → TyX K H v (.type nm)
instance : Ty Int := ⟨"int", fun {K R H v a} _ h => by cases (show v = .int a from h); exact .base (.int a)⟩
instance : Ty Bool := ⟨"bool", fun {K R H v a} _ h => by cases (show v = .bl a from h); exact .base (.bl a)⟩
instance : Ty Str := ⟨"str", fun {K R H v a} _ h => by cases (show v = .str a from h); exact .base (.str a)⟩
instance {α : Type} [Py α] : Ty (List α) := ⟨"list", fun {K R H v a} _ h => by
  obtain ⟨p, o, rfl, hp, vs, rfl, hv⟩ := h
  rcases (seq_rd (K := K) hp) with (hp | ⟨ob, hp⟩) | ⟨ob, its, n, hp, hc, _⟩
  · exact .base (.lst hp)
  · exact .base (.frz hp)
  · exact .kList hp hc⟩
theorem je_isi {p p2 : Pos} {α : Type} [Py α] [Ty α] {m : Option α} {T : Str} {Tn nm0 : String} (r : Bool) (hm : X.mg "isinstance" = none) (hT : X.mg T = none) (h : JB X R0 H0 Γ a m) (hb : bootBuiltins T = some (.type Tn) := by decide +kernel) (hk : kitB nm0 Tn = some r := by decide +kernel) (hnm : Ty.nm α = nm0 := by rfl) (hg : Gl X "isinstance" := by rfl) (hg2 : Gl X T := by rfl)
    (hs : starEach [a, .Name T p2] X.env = (false, eval a X.env) :: starEach [.Name T p2] X.env := by rfl) (hs2 : starEach [.Name T p2] X.env = (false, eval (.Name T p2) X.env) :: starEach [] X.env := by rfl) (hn : T ≠ "__name__" := by decide) (hd : (T == ("__debug__" : Str)) = false := by decide) (hpl : (backTo pos (starEach [.Name T p2] X.env)).any (·.1) = false := by rfl) :
    JE X R0 H0 Γ (.Call (.Name "isinstance" p) [a, .Name T p2] [] pos) (m.bind fun _ => some r) := .mk fun σ R H S z ez Q q => by
  obtain ⟨x, ex, ez⟩ := bind_some' ez
  cases ez
  refine PE_to (pe_callB call_isi hg hm PyProof.Rows.boot_isinstance (pa_cons eS (pa_cons (pe_bltn (v := .ty Tn) hg2 hT hb rfl hn hd) pa_nil hs2) hs) (he := hs) (hpl := hpl)) (h σ R H S x ex _ fun v R1 H1 x1 r1 => ?_)
  subst hnm
  exact ⟨v, .ty Tn, .type (Ty.nm α), .type Tn, r, rfl, .ty Tn, Ty.ty x1.i r1, kit_ty hk, q _ R1 H1 x1 rfl⟩
theorem je_isi_t {p p2 : Pos} {α : Type} [Py α] [Ty α] {x : α} {T : Str} {Tn nm0 : String} (r : Bool) (hm : X.mg "isinstance" = none) (hT : X.mg T = none) (h : JB X R0 H0 Γ a (some x)) (hb : bootBuiltins T = some (.type Tn) := by decide +kernel) (hk : kitB nm0 Tn = some r := by decide +kernel) (hnm : Ty.nm α = nm0 := by rfl) (hg : Gl X "isinstance" := by rfl) (hg2 : Gl X T := by rfl)
    (hs : starEach [a, .Name T p2] X.env = (false, eval a X.env) :: starEach [.Name T p2] X.env := by rfl) (hs2 : starEach [.Name T p2] X.env = (false, eval (.Name T p2) X.env) :: starEach [] X.env := by rfl) (hn : T ≠ "__name__" := by decide) (hd : (T == ("__debug__" : Str)) = false := by decide) (hpl : (backTo pos (starEach [.Name T p2] X.env)).any (·.1) = false := by rfl) :
    JE X R0 H0 Γ (.Call (.Name "isinstance" p) [a, .Name T p2] [] pos) (some r) := je_isi r hm hT h hb hk hnm hg hg2 hs hs2 hn hd hpl
end
end FK

namespace FK
open PySem PySem.Spec PyProof.Rows L2
section
variable {X : Cx} {R0 H0 : Hp} {Γ : List Slot} {e a b c o tg : Expr} {pos : Pos} {lo hi : Option Expr} {st : Stmt}
def sLen (x : Str) : Option Int := if x.length ≤ 16000000 then some (x.length : Int) else none
theorem js_last {β : Type} {m : Option β} {out : β → Out} (h : J1 X R0 H0 Γ st m out) : JS X R0 H0 Γ [st] m out := .mk fun σ R H S b eb D q => PSs_to (pss_one s1S) (h σ R H S b eb D q)
/-! ### the script -/
theorem je_ixscr {ma : Option Scr} {mb : Option Int} (ha : JB X R0 H0 Γ a ma) (hb : JB X R0 H0 Γ b mb) (hs : PlainIx b) : JE X R0 H0 Γ (.Subscript a b pos) (ma.bind fun x => mb.bind fun y => atI x.l y) := .mk fun σ R H S z ez Q q => by
  obtain ⟨x, ex, ez⟩ := bind_some' ez
  obtain ⟨y, ey, ez⟩ := bind_some' ez
  refine PE_to (pe_ix ix_list eS eS hs) (ha σ R H S x ex _ fun v R1 H1 e1 r1 => hb σ R1 H1 (S.ext e1) y ey _ fun w R2 H2 e2 r2 => ?_)
  obtain ⟨p, rfl, hp⟩ := Py.bmono e2.r e2.h r1
  have hv : AllR X.K R2 (x.l.map V.int) x.l := AllR.of_map (fun a => rfl) x.l
  obtain ⟨u, hu, ru⟩ := hv.at' ez
  exact ⟨p, _, y, u, rfl, r2, hp, hu, q _ R2 H2 (e1.trans e2) ru⟩
theorem je_ixscr_t {x : Scr} {y : Int} (ha : JB X R0 H0 Γ a (some x)) (hb : JB X R0 H0 Γ b (some y)) (hs : PlainIx b) : JE X R0 H0 Γ (.Subscript a b pos) (atI x.l y) := je_ixscr ha hb hs
theorem je_lenscr {p : Pos} {m : Option Scr} (hm : X.mg "len" = none) (h : JB X R0 H0 Γ a m) (hg : Gl X "len" := by rfl) (hs : starEach (a :: []) X.env = (false, eval a X.env) :: starEach [] X.env := by rfl) (hpl : (backTo pos (starEach ([] : List Expr) X.env)).any (·.1) = false := by rfl) :
    JE X R0 H0 Γ (.Call (.Name "len" p) [a] [] pos) (m.bind fun x => some (x.l.length : Int)) := .mk fun σ R H S z ez Q q => by
  obtain ⟨x, ex, ez⟩ := bind_some' ez
  cases ez
  refine PE_to (pe_callB call_len_seq hg hm PySem.boot_len (pa_cons eS pa_nil hs) (he := hs) (hpl := hpl)) (h σ R H S x ex _ fun v R1 H1 x1 r1 => ?_)
  obtain ⟨p, rfl, hp⟩ := r1
  exact ⟨p, _, rfl, .inl hp, q _ R1 H1 x1 (by rw [List.length_map]; rfl)⟩
theorem je_lenscr_t {p : Pos} {x : Scr} (hm : X.mg "len" = none) (h : JB X R0 H0 Γ a (some x)) (hg : Gl X "len" := by rfl) (hs : starEach (a :: []) X.env = (false, eval a X.env) :: starEach [] X.env := by rfl) (hpl : (backTo pos (starEach ([] : List Expr) X.env)).any (·.1) = false := by rfl) :
    JE X R0 H0 Γ (.Call (.Name "len" p) [a] [] pos) (some (x.l.length : Int)) := je_lenscr hm h hg hs hpl
/-! ### one argument, two, three: built-ins -/
theorem je_b1 {p : Pos} {f : Str} {id : String} {r : List V → Hp → VK → Prop} {α β : Type} [Py α] [Py β] {m : Option α} {g : α → Option β} (hc : CallR X (.builtin id) r) (hb : bootBuiltins f = some (.builtin id)) (hm : X.mg f = none)
    (hr : ∀ (R H : Hp) (v : V) (x : α) (z : β), Ex R H → bor X.K R H v x → g x = some z → ∀ Q : VK, (∀ u R' H', Ext R H R' H' → rep X.K R' u z → Q u H') → r [v] H Q) (h : JB X R0 H0 Γ a m) (hg : Gl X f)
    (hs : starEach (a :: []) X.env = (false, eval a X.env) :: starEach [] X.env) (hpl : (backTo pos (starEach ([] : List Expr) X.env)).any (·.1) = false) (hn : f ≠ "__name__") (hd : (f == ("__debug__" : Str)) = false) :
    JE X R0 H0 Γ (.Call (.Name f p) [a] [] pos) (m.bind g) := .mk fun σ R H S z ez Q q => by
  obtain ⟨x, ex, ez⟩ := bind_some' ez
  exact PE_to (pe_callB hc hg hm hb (pa_cons eS pa_nil hs) hn hd (he := hs) (hpl := hpl)) (h σ R H S x ex _ fun v R1 H1 x1 r1 => hr R1 H1 v x z x1.i r1 ez Q fun u R2 H2 x2 r2 => q u R2 H2 (x1.trans x2) r2)
def iabs (i : Int) : Int := if i < 0 then -i else i
theorem je_abs {p : Pos} {m : Option Int} (hm : X.mg "abs" = none) (h : JB X R0 H0 Γ a m) (hg : Gl X "abs" := by rfl) (hs : starEach (a :: []) X.env = (false, eval a X.env) :: starEach [] X.env := by rfl) (hpl : (backTo pos (starEach ([] : List Expr) X.env)).any (·.1) = false := by rfl) :
    JE X R0 H0 Γ (.Call (.Name "abs" p) [a] [] pos) (m.bind fun x => some (iabs x)) := je_b1 call_abs (by decide +kernel) hm (fun R H v x z i h1 h2 Q q => by
  cases h2
  have h1 : v = .int x := h1
  exact ⟨x, by rw [h1], q _ R H (.refl i) rfl⟩) h hg hs hpl (by decide) (by decide)
theorem je_abs_t {p : Pos} {x : Int} (hm : X.mg "abs" = none) (h : JB X R0 H0 Γ a (some x)) (hg : Gl X "abs" := by rfl) (hs : starEach (a :: []) X.env = (false, eval a X.env) :: starEach [] X.env := by rfl) (hpl : (backTo pos (starEach ([] : List Expr) X.env)).any (·.1) = false := by rfl) :
    JE X R0 H0 Γ (.Call (.Name "abs" p) [a] [] pos) (some (iabs x)) := je_abs hm h hg hs hpl
def bint (k : Bool) : Int := if k then 1 else 0
theorem je_intb {p : Pos} {m : Option Bool} (hm : X.mg "int" = none) (h : JB X R0 H0 Γ a m) (hg : Gl X "int" := by rfl) (hs : starEach (a :: []) X.env = (false, eval a X.env) :: starEach [] X.env := by rfl) (hpl : (backTo pos (starEach ([] : List Expr) X.env)).any (·.1) = false := by rfl) :
    JE X R0 H0 Γ (.Call (.Name "int" p) [a] [] pos) (m.bind fun x => some (bint x)) := .mk fun σ R H S z ez Q q => by
  obtain ⟨x, ex, ez⟩ := bind_some' ez
  cases ez
  refine PE_to (pe_callTy call_int1 hg hm (by decide +kernel) (pa_cons eS pa_nil hs) (he := hs) (hpl := hpl)) (h σ R H S x ex _ fun v R1 H1 x1 r1 => ?_)
  have r1 : v = .bl x := r1
  exact .inr ⟨x, by rw [r1], q _ R1 H1 x1 rfl⟩
theorem je_intb_t {p : Pos} {x : Bool} (hm : X.mg "int" = none) (h : JB X R0 H0 Γ a (some x)) (hg : Gl X "int" := by rfl) (hs : starEach (a :: []) X.env = (false, eval a X.env) :: starEach [] X.env := by rfl) (hpl : (backTo pos (starEach ([] : List Expr) X.env)).any (·.1) = false := by rfl) :
    JE X R0 H0 Γ (.Call (.Name "int" p) [a] [] pos) (some (bint x)) := je_intb hm h hg hs hpl
def imax2 (i j : Int) : Int := if j > i then j else i
def imin2 (i j : Int) : Int := if j < i then j else i
def imin3 (i j k : Int) : Int := imin2 (imin2 i j) k
theorem je_b2 {p : Pos} {f : Str} {id : String} {r : List V → Hp → VK → Prop} {g : Int → Int → Int} {m m2 : Option Int} (hc : CallR X (.builtin id) r) (hb : bootBuiltins f = some (.builtin id)) (hm : X.mg f = none)
    (hr : ∀ (H : Hp) (x y : Int) (Q : VK), Q (.int (g x y)) H → r [.int x, .int y] H Q) (h : JB X R0 H0 Γ a m) (h2 : JB X R0 H0 Γ b m2) (hg : Gl X f)
    (hs : starEach [a, b] X.env = (false, eval a X.env) :: starEach [b] X.env) (hs2 : starEach [b] X.env = (false, eval b X.env) :: starEach [] X.env) (hpl : (backTo pos (starEach [b] X.env)).any (·.1) = false) (hn : f ≠ "__name__") (hd : (f == ("__debug__" : Str)) = false) :
    JE X R0 H0 Γ (.Call (.Name f p) [a, b] [] pos) (m.bind fun x => m2.bind fun y => some (g x y)) := .mk fun σ R H S z ez Q q => by
  obtain ⟨x, ex, ez⟩ := bind_some' ez
  obtain ⟨y, ey, ez⟩ := bind_some' ez
  cases ez
  refine PE_to (pe_callB hc hg hm hb (pa_cons eS (pa_cons eS pa_nil hs2) hs) hn hd (he := hs) (hpl := hpl)) (h σ R H S x ex _ fun v R1 H1 x1 r1 => h2 σ R1 H1 (S.ext x1) y ey _ fun w R2 H2 x2 r2 => ?_)
  have r1 : v = .int x := r1
  have r2 : w = .int y := r2
  subst r1 r2
  exact hr H2 x y Q (q _ R2 H2 (x1.trans x2) rfl)
theorem je_max2 {p : Pos} {m m2 : Option Int} (hm : X.mg "max" = none) (h : JB X R0 H0 Γ a m) (h2 : JB X R0 H0 Γ b m2) (hc : X.calm = true := by rfl) (hg : Gl X "max" := by rfl) (hs : starEach [a, b] X.env = (false, eval a X.env) :: starEach [b] X.env := by rfl) (hs2 : starEach [b] X.env = (false, eval b X.env) :: starEach [] X.env := by rfl) (hpl : (backTo pos (starEach [b] X.env)).any (·.1) = false := by rfl) :
    JE X R0 H0 Γ (.Call (.Name "max" p) [a, b] [] pos) (m.bind fun x => m2.bind fun y => some (imax2 x y)) := je_b2 (call_max2 hc) (by decide +kernel) hm (fun H x y Q q => ⟨x, y, rfl, q⟩) h h2 hg hs hs2 hpl (by decide) (by decide)
theorem je_max2_t {p : Pos} {m m2 : Int} (hm : X.mg "max" = none) (h : JB X R0 H0 Γ a (some m)) (h2 : JB X R0 H0 Γ b (some m2)) (hc : X.calm = true := by rfl) (hg : Gl X "max" := by rfl) (hs : starEach [a, b] X.env = (false, eval a X.env) :: starEach [b] X.env := by rfl) (hs2 : starEach [b] X.env = (false, eval b X.env) :: starEach [] X.env := by rfl) (hpl : (backTo pos (starEach [b] X.env)).any (·.1) = false := by rfl) :
    JE X R0 H0 Γ (.Call (.Name "max" p) [a, b] [] pos) (some (imax2 m m2)) := je_max2 hm h h2 hc hg hs hs2 hpl
theorem je_min2 {p : Pos} {m m2 : Option Int} (hm : X.mg "min" = none) (h : JB X R0 H0 Γ a m) (h2 : JB X R0 H0 Γ b m2) (hc : X.calm = true := by rfl) (hg : Gl X "min" := by rfl) (hs : starEach [a, b] X.env = (false, eval a X.env) :: starEach [b] X.env := by rfl) (hs2 : starEach [b] X.env = (false, eval b X.env) :: starEach [] X.env := by rfl) (hpl : (backTo pos (starEach [b] X.env)).any (·.1) = false := by rfl) :
    JE X R0 H0 Γ (.Call (.Name "min" p) [a, b] [] pos) (m.bind fun x => m2.bind fun y => some (imin2 x y)) := je_b2 (call_min2 hc) (by decide +kernel) hm (fun H x y Q q => ⟨x, y, rfl, q⟩) h h2 hg hs hs2 hpl (by decide) (by decide)
theorem je_min2_t {p : Pos} {m m2 : Int} (hm : X.mg "min" = none) (h : JB X R0 H0 Γ a (some m)) (h2 : JB X R0 H0 Γ b (some m2)) (hc : X.calm = true := by rfl) (hg : Gl X "min" := by rfl) (hs : starEach [a, b] X.env = (false, eval a X.env) :: starEach [b] X.env := by rfl) (hs2 : starEach [b] X.env = (false, eval b X.env) :: starEach [] X.env := by rfl) (hpl : (backTo pos (starEach [b] X.env)).any (·.1) = false := by rfl) :
    JE X R0 H0 Γ (.Call (.Name "min" p) [a, b] [] pos) (some (imin2 m m2)) := je_min2 hm h h2 hc hg hs hs2 hpl
/-! ### displays -/
structure JLs (X : Cx) (R0 H0 : Hp) (Γ : List Slot) (es : List Expr) {α : Type} [Py α] (m : Option (List α)) : Prop where
  run : ∀ σ R H, Sat X.K R0 H0 Γ σ R H → ∀ xs, m = some xs → ∀ Q : List V → Hp → Prop, (∀ vs R' H', Ext R H R' H' → vs.length = es.length → AllR X.K R' vs xs → Q vs H') → aSem X es σ H Q
theorem ll_nil {α : Type} [Py α] : JLs X R0 H0 Γ [] (some ([] : List α)) := ⟨fun σ R H S xs ex Q q => by
  cases ex
  exact PA_to pa_nil (q [] R H (.refl S.i) rfl .nil)⟩
theorem ll_cons {α : Type} [Py α] {es : List Expr} {m : Option α} {mr : Option (List α)} (h : JE X R0 H0 Γ e m) (hr : JLs X R0 H0 Γ es mr) (hs : starEach (e :: es) X.env = (false, eval e X.env) :: starEach es X.env := by rfl) :
    JLs X R0 H0 Γ (e :: es) (m.bind fun x => mr.bind fun r => some (x :: r)) := ⟨fun σ R H S xs eg Q q => by
  obtain ⟨x, ex, eg⟩ := bind_some' eg
  obtain ⟨r, er, eg⟩ := bind_some' eg
  cases eg
  exact PA_to (pa_cons eS aS hs) (h σ R H S x ex _ fun v R1 H1 x1 r1 => hr.run σ R1 H1 (S.ext x1) r er _ fun vs R2 H2 x2 l2 r2 => q (v :: vs) R2 H2 (x1.trans x2) (congrArg (· + 1) l2) (.cons (Py.mono x2.r r1) r2))⟩
theorem ll_cons_t {α : Type} [Py α] {es : List Expr} {x : α} {r : List α} (h : JE X R0 H0 Γ e (some x)) (hr : JLs X R0 H0 Γ es (some r)) (hs : starEach (e :: es) X.env = (false, eval e X.env) :: starEach es X.env := by rfl) : JLs X R0 H0 Γ (e :: es) (some (x :: r)) := ll_cons h hr hs
theorem jo_lst {α : Type} [Py α] {es : List Expr} {m : Option (List α)} (h : JLs X R0 H0 Γ es m) (hn : es.length ≤ 100 := by exact Nat.le_of_ble_eq_true rfl) : JO X R0 H0 Γ (.List es pos) m := .mk fun σ R H S xs ex Q q =>
  PE_to (pe_lst aS) (h.run σ R H S xs ex _ fun vs R1 H1 x1 l1 r1 => ⟨size_ok (by rw [l1]; exact Nat.le_trans hn (by decide)), fun p hp => q p _ R1 _ (x1.trans (.own x1.i hp)) (x1.h.none hp) upd_same (x1.i.none hp) ⟨vs, rfl, r1⟩⟩)
theorem jo_nil {α : Type} [Py α] : JO X R0 H0 Γ (.List [] pos) (some ([] : List α)) := jo_lst ll_nil (by decide)
/-! ### lists: a new one of two, a copy; what is one's own changed -/
def lCat {α : Type} (x y : List α) : Option (List α) := if x.length + y.length ≤ 16000000 then some (x ++ y) else none
theorem op_catR : OpR X (binaryOp .Add) (fun x y H Q => ∃ l b xs zs, x = .ref l ∧ y = .ref b ∧ Rd H l (.lst xs) ∧ Rd H b (.lst zs) ∧ xs.length + zs.length ≤ sizeLine ∧ ∀ p, H p = none → Q (.ref p) (upd H p (.lst (xs ++ zs)))) := by
  intro pins s σ H x y v u Q I rx ry h
  obtain ⟨l, b, xs, zs, rfl, rfl, hH, hB, hz, q⟩ := h
  cases rx
  cases ry
  have o1 := hH.ok I.hok
  have o2 := hB.ok I.hok
  obtain ⟨z1, its1, n1, r1, e1⟩ := o1
  obtain ⟨z2, its2, n2, r2, e2⟩ := o2
  refine PySem.P.add_list e1 e2 ?_ (by rw [List.size_toArray, List.size_toArray, ← r1.length, ← r2.length]; exact hz)
  have ea : its1.toArray ++ its2.toArray = (its1 ++ its2).toArray := by simp
  rw [ea]
  exact ⟨.ref _, _, I.lnew (t' := s.toks) (r1.append r2) (by rw [List.length_append]; omega), rfl, q _ I.fresh⟩
theorem jo_op2 {α β γ : Type} [Py α] [Py β] [Ob γ] {op : Operator} {r : R2} {ma : Option α} {mb : Option β} {f : α → β → Option γ} (hop : OpR X (binaryOp op) r)
    (hr : ∀ (R H : Hp) (v w : V) (x : α) (y : β) (z : γ), Ex R H → bor X.K R H v x → bor X.K R H w y → f x y = some z → ∀ Q : VK, (∀ p o R' H', Ext R H R' H' → H p = none → H' p = some o → R' p = none → ho X.K R' o z → Q (.ref p) H') → r v w H Q)
    (ha : JB X R0 H0 Γ a ma) (hb : JB X R0 H0 Γ b mb) : JO X R0 H0 Γ (.BinOp a op b pos) (ma.bind fun x => mb.bind fun y => f x y) := .mk fun σ R H S z ez Q q => by
  obtain ⟨x, ex, ez⟩ := bind_some' ez
  obtain ⟨y, ey, ez⟩ := bind_some' ez
  refine PE_to (pe_op hop eS eS) (ha σ R H S x ex _ fun v R1 H1 e1 r1 => hb σ R1 H1 (S.ext e1) y ey _ fun w R2 H2 e2 r2 => ?_)
  exact hr R2 H2 v w x y z e2.i (Py.bmono e2.r e2.h r1) r2 ez Q fun p o R3 H3 e3 np hp hr' r3 => q p o R3 H3 ((e1.trans e2).trans e3) ((e1.trans e2).h.none np) hp hr' r3
theorem jo_catl {α : Type} [Py α] {ma mb : Option (List α)} (ha : JB X R0 H0 Γ a ma) (hb : JB X R0 H0 Γ b mb) : JO X R0 H0 Γ (.BinOp a .Add b pos) (ma.bind fun x => mb.bind fun y => lCat x y) := jo_op2 op_catR (fun R H v w x y z i h1 h2 h3 Q q => by
  unfold lCat at h3
  by_cases h : x.length + y.length ≤ 16000000
  · rw [if_pos h] at h3
    cases h3
    obtain ⟨p1, o1, rfl, g1, vs1, rfl, k1⟩ := h1
    obtain ⟨p2, o2, rfl, g2, vs2, rfl, k2⟩ := h2
    exact ⟨p1, p2, vs1, vs2, rfl, rfl, g1, g2, size_ok (by rw [k1.len, k2.len]; exact h), fun p hp => q p _ R _ (.own i hp) hp upd_same (i.none hp) ⟨_, rfl, k1.app k2⟩⟩
  · rw [if_neg h] at h3
    cases h3) ha hb
theorem jo_catl_t {α : Type} [Py α] {x y : List α} (ha : JB X R0 H0 Γ a (some x)) (hb : JB X R0 H0 Γ b (some y)) : JO X R0 H0 Γ (.BinOp a .Add b pos) (lCat x y) := jo_catl ha hb
theorem jo_list {p : Pos} {α : Type} [Py α] {m : Option (List α)} (hm : X.mg "list" = none) (h : JB X R0 H0 Γ a m) (hg : Gl X "list" := by rfl) (hs : starEach (a :: []) X.env = (false, eval a X.env) :: starEach [] X.env := by rfl) (hpl : (backTo pos (starEach ([] : List Expr) X.env)).any (·.1) = false := by rfl) : JO X R0 H0 Γ (.Call (.Name "list" p) [a] [] pos) (m.bind fun x => some x) := .mk fun σ R H S z ez Q q => by
  obtain ⟨x, ex, ez⟩ := bind_some' ez
  have ez := Option.some.inj ez
  subst ez
  refine PE_to (pe_callTy call_list_of hg hm (by decide +kernel) (pa_cons eS pa_nil hs) (he := hs) (hpl := hpl)) (h σ R H S x ex _ fun v R1 H1 x1 r1 => ?_)
  obtain ⟨p, o, rfl, hp, vs, rfl, hv⟩ := r1
  exact ⟨p, vs, rfl, .inl (seq_rd hp), fun d hd => q d _ R1 _ (x1.trans (.own x1.i hd)) (x1.h.none hd) upd_same (x1.i.none hd) ⟨vs, rfl, hv⟩⟩
theorem jo_list_t {p : Pos} {α : Type} [Py α] {x : (List α)} (hm : X.mg "list" = none) (h : JB X R0 H0 Γ a (some x)) (hg : Gl X "list" := by rfl) (hs : starEach (a :: []) X.env = (false, eval a X.env) :: starEach [] X.env := by rfl) (hpl : (backTo pos (starEach ([] : List Expr) X.env)).any (·.1) = false := by rfl) : JO X R0 H0 Γ (.Call (.Name "list" p) [a] [] pos) (some x) := jo_list hm h hg hs hpl
def lApp {α : Type} (xs : List α) (x : α) : Option (List α) := if xs.length < 16000000 then some (xs ++ [x]) else none
theorem j1_app (i : Nat) {x : Str} {px apos p : Pos} {α : Type} [Py α] {xs : List α} {m : Option α} (Γ' : List α → List Slot) (h : JE X R0 H0 Γ e m) (hΓ : Γ[i]? = some (.own xs) := by rfl) (hu : ∀ ys, Γ' ys = Γ.set i (.own ys) := by intro _; rfl) (hN : X.N[i]? = some x := by rfl)
    (hv : Vis X.env.scope x := by first | exact Or.inl rfl | exact Or.inr (Or.inl rfl) | exact Or.inr (Or.inr rfl)) (hd : (x == ("__debug__" : Str)) = false := by decide) (hcd : (x == ("__classdict__" : Str)) = false := by decide)
    (he : starEach (e :: []) X.env = (false, eval e X.env) :: starEach [] X.env := by rfl) (hpl : (backTo p (starEach ([] : List Expr) X.env)).any (·.1) = false := by rfl) (hfew : ((backTo p (starEach (e :: []) X.env)).all (fun x => !x.1) && (backToKw p (keywordEach [] X.env)).all (fun x => x.1.isSome) && decide ((e :: []).length + ([] : List Keyword).length + (if ([] : List Keyword).isEmpty then 0 else 1) < 30)) = true := by rfl) (hb : attributeBase (.Name x px) "append" X.env (eval (.Name x px) X.env) = eval (.Name x px) X.env := by rfl) (hln : (apos.endLine == p.line) = true := by rfl)
    (hsw : swapsWith (.Call (.Attribute (.Name x px) "append" apos) [e] [] p) none pos.line X.env = pure false := by rfl) :
    J1 X R0 H0 Γ (.Expr (.Call (.Attribute (.Name x px) "append" apos) [e] [] p) pos) (m.bind fun y => lApp xs y) fun ys => .nx (Γ' ys) := .mk fun σ R H S b eb D q => by
  obtain ⟨y, ey, eb⟩ := bind_some' eb
  unfold lApp at eb
  by_cases hz : xs.length < 16000000
  · rw [if_pos hz] at eb
    cases eb
    obtain ⟨l, o, hs, hp, ⟨vs, rfl, hv0⟩, hR, hH, _⟩ := S.get_own hΓ
    have q : ∀ σ R' H, Ex R R' → Sat X.K R0 H0 (Γ' (xs ++ [y])) σ R' H → D.nx σ H := q
    rw [hu] at q
    refine PS_to (ps_expr (pe_bm PySem.F.plainAttrs_list PySem.F.slot_list_append PySem.F.type_list_append mt_append (pv i hN hv hd hcd) (pa_cons eS pa_nil he) (hbase := hb) (hfew := hfew) (hline := hln) (hs := he) (hplain := hpl)) hsw) ⟨.ref l, hs, .inl ⟨rfl, _, .inl (.inl hp)⟩, h σ R H S y ey _ fun v R1 H1 x1 r1 => ?_⟩
    refine ⟨l, vs, v, rfl, rfl, x1.h _ _ hp, ?_, ?_⟩
    · rw [hv0.len]
      exact Nat.lt_of_lt_of_le hz (by rw [sizeLine_eq]; decide)
    · obtain ⟨_, _, hs', _, _, _, _, up⟩ := S.get_own hΓ
      rw [hs] at hs'
      cases hs'
      exact q _ _ _ x1.r (up R1 H1 _ (xs ++ [y]) x1 ⟨_, rfl, (hv0.mono x1.r).app (.cons r1 .nil)⟩)
  · rw [if_neg hz] at eb
    cases eb
end
theorem law_in {K : PySem.W.Frag} {H : Hp} {a : Addr} {ns : List Int} {m : Scr × Unit → Option Bool} {E : XK} (hS : SqL K H a (ns.map V.int)) (h : m (⟨ns⟩, ()) = some true) : spV K m [.ref a] H (fun v _ => v = .bl true) E :=
  ⟨H, (⟨ns⟩, ()), true, .refl H, ⟨.ref a, [], rfl, ⟨a, rfl, hS⟩, rfl⟩, h, fun v R' H' _ r => r⟩
end FK

namespace FK
open PySem PySem.Spec PyProof.Rows L2
section
variable {X : Cx} {R0 H0 : Hp} {Γ : List Slot} {e a b c o tg : Expr} {pos : Pos} {lo hi : Option Expr} {st : Stmt}
/-! ### truths: is -/
def sLt (x y : Str) : Bool := decide (x.cps.toList < y.cps.toList)
def sLe (x y : Str) : Bool := decide (x.cps.toList ≤ y.cps.toList)
abbrev T4 := PySem.W.T4
instance instPy4 {α β γ δ : Type} [Py α] [Py β] [Py γ] [Py δ] : Py (T4 α β γ δ) := dirPy (fun K R vs a => ∃ x y z u, vs = [x, y, z, u] ∧ rep K R x a.a ∧ rep K R y a.b ∧ rep K R z a.c ∧ rep K R u a.d)
  fun e ⟨x, y, z, u, h, p, q, r, s⟩ => ⟨x, y, z, u, h, Py.mono e p, Py.mono e q, Py.mono e r, Py.mono e s⟩
instance {α β γ δ : Type} [Py α] [Py β] [Py γ] [Py δ] : Flat (T4 α β γ δ) := ⟨fun h => h⟩
theorem tup_lay {K : PySem.W.Frag} {α : Type} {f : PySem.W.Frag → Hp → List V → α → Prop} {R H R' H' : Hp} {vs : List V} (x : Ext R H R' H') {Q : VK} (q : ∀ v R2 H2, Ext R H R2 H2 → (∃ p, v = .ref p ∧ R2 p = some (.tup vs) ∧ Ex R' R2) → Q v H2) : ∀ p, H' p = none → Q (.ref p) (upd H' p (.tup vs)) := fun p hp =>
  q (.ref p) (upd R' p (.tup vs)) _ (x.trans (.new x.i hp)) ⟨p, rfl, upd_same, .new (x.i.none hp)⟩
theorem je_tup2 {α β : Type} [Py α] [Py β] {m1 : Option α} {m2 : Option β} {kk : Nat} (h1 : JE X R0 H0 Γ a m1) (h2 : JE X R0 H0 Γ b m2) (s1 : starEach (a :: [b]) X.env = (false, eval a X.env) :: starEach [b] X.env := by rfl) (s2 : starEach (b :: []) X.env = (false, eval b X.env) :: starEach [] X.env := by rfl) : JE X R0 H0 Γ (.Tuple [a, b] kk pos) (m1.bind fun x1 => m2.bind fun x2 => some ((x1, x2) : (α × β))) := .mk fun σ R H S z ez Q q => by
  obtain ⟨x1, e1, ez⟩ := bind_some' ez
  obtain ⟨x2, e2, ez⟩ := bind_some' ez
  cases ez
  refine PE_to (pe_tup (pa_cons eS (pa_cons eS pa_nil s2) s1)) (h1 σ R H S x1 e1 _ fun v1 R1 H1 y1 r1 => h2 σ R1 H1 (S.ext y1) x2 e2 _ fun v2 R2 H2 y2 r2 => ⟨(by show 2 ≤ sizeLine; rw [sizeLine_eq]; decide), ?_⟩)
  exact tup_lay (K := X.K) (α := (α × β)) (f := fun _ _ _ _ => True) (y1.trans y2) fun v R' H' w ⟨p, ev, hp, ex⟩ => q v R' H' w ⟨p, _, ev, hp, v1, v2, rfl, Py.mono ex (Py.mono y2.r r1), Py.mono ex r2⟩
theorem je_tup2_t {α β : Type} [Py α] [Py β] {x1 : α} {x2 : β} {kk : Nat} (h1 : JE X R0 H0 Γ a (some x1)) (h2 : JE X R0 H0 Γ b (some x2)) (s1 : starEach (a :: [b]) X.env = (false, eval a X.env) :: starEach [b] X.env := by rfl) (s2 : starEach (b :: []) X.env = (false, eval b X.env) :: starEach [] X.env := by rfl) : JE X R0 H0 Γ (.Tuple [a, b] kk pos) (some ((x1, x2) : (α × β))) := je_tup2 h1 h2 s1 s2
theorem je_ixt20 {α β : Type} [Py α] [Py β] {m : Option (α × β)} {j : Nat} {p2 : Pos} (h : JB X R0 H0 Γ a m) (hs : PlainIx (.Constant (.int 0) j p2) := by exact fun _ _ => rfl) : JE X R0 H0 Γ (.Subscript a (.Constant (.int 0) j p2) pos) (m.bind fun x => some x.1) := .mk fun σ R H S z ez Q q => by
  obtain ⟨x, ex, ez⟩ := bind_some' ez
  cases ez
  refine PE_to (pe_ix ix_tup eS pe_int hs) (h σ R H S x ex _ fun v R1 H1 e1 r1 => ?_)
  obtain ⟨p, vs, rfl, hp, w0, w1, rfl, q0, q1⟩ := r1
  exact ⟨p, _, 0, w0, rfl, rfl, dsq (e1.i _ _ hp), rfl, q _ R1 H1 e1 q0⟩
theorem je_ixt20_t {α β : Type} [Py α] [Py β] {x : (α × β)} {j : Nat} {p2 : Pos} (h : JB X R0 H0 Γ a (some x)) (hs : PlainIx (.Constant (.int 0) j p2) := by exact fun _ _ => rfl) : JE X R0 H0 Γ (.Subscript a (.Constant (.int 0) j p2) pos) (some x.1) := je_ixt20 h hs
theorem je_ixt21 {α β : Type} [Py α] [Py β] {m : Option (α × β)} {j : Nat} {p2 : Pos} (h : JB X R0 H0 Γ a m) (hs : PlainIx (.Constant (.int 1) j p2) := by exact fun _ _ => rfl) : JE X R0 H0 Γ (.Subscript a (.Constant (.int 1) j p2) pos) (m.bind fun x => some x.2) := .mk fun σ R H S z ez Q q => by
  obtain ⟨x, ex, ez⟩ := bind_some' ez
  cases ez
  refine PE_to (pe_ix ix_tup eS pe_int hs) (h σ R H S x ex _ fun v R1 H1 e1 r1 => ?_)
  obtain ⟨p, vs, rfl, hp, w0, w1, rfl, q0, q1⟩ := r1
  exact ⟨p, _, 1, w1, rfl, rfl, dsq (e1.i _ _ hp), rfl, q _ R1 H1 e1 q1⟩
theorem je_ixt21_t {α β : Type} [Py α] [Py β] {x : (α × β)} {j : Nat} {p2 : Pos} (h : JB X R0 H0 Γ a (some x)) (hs : PlainIx (.Constant (.int 1) j p2) := by exact fun _ _ => rfl) : JE X R0 H0 Γ (.Subscript a (.Constant (.int 1) j p2) pos) (some x.2) := je_ixt21 h hs
theorem je_tup3 {α β γ : Type} [Py α] [Py β] [Py γ] {m1 : Option α} {m2 : Option β} {m3 : Option γ} {kk : Nat} (h1 : JE X R0 H0 Γ a m1) (h2 : JE X R0 H0 Γ b m2) (h3 : JE X R0 H0 Γ c m3) (s1 : starEach (a :: [b, c]) X.env = (false, eval a X.env) :: starEach [b, c] X.env := by rfl) (s2 : starEach (b :: [c]) X.env = (false, eval b X.env) :: starEach [c] X.env := by rfl) (s3 : starEach (c :: []) X.env = (false, eval c X.env) :: starEach [] X.env := by rfl) : JE X R0 H0 Γ (.Tuple [a, b, c] kk pos) (m1.bind fun x1 => m2.bind fun x2 => m3.bind fun x3 => some (⟨x1, x2, x3⟩ : (T3 α β γ))) := .mk fun σ R H S z ez Q q => by
  obtain ⟨x1, e1, ez⟩ := bind_some' ez
  obtain ⟨x2, e2, ez⟩ := bind_some' ez
  obtain ⟨x3, e3, ez⟩ := bind_some' ez
  cases ez
  refine PE_to (pe_tup (pa_cons eS (pa_cons eS (pa_cons eS pa_nil s3) s2) s1)) (h1 σ R H S x1 e1 _ fun v1 R1 H1 y1 r1 => h2 σ R1 H1 (S.ext y1) x2 e2 _ fun v2 R2 H2 y2 r2 => h3 σ R2 H2 ((S.ext y1).ext y2) x3 e3 _ fun v3 R3 H3 y3 r3 => ⟨(by show 3 ≤ sizeLine; rw [sizeLine_eq]; decide), ?_⟩)
  exact tup_lay (K := X.K) (α := (T3 α β γ)) (f := fun _ _ _ _ => True) ((y1.trans y2).trans y3) fun v R' H' w ⟨p, ev, hp, ex⟩ => q v R' H' w ⟨p, _, ev, hp, v1, v2, v3, rfl, Py.mono ex (Py.mono y3.r (Py.mono y2.r r1)), Py.mono ex (Py.mono y3.r r2), Py.mono ex r3⟩
theorem je_tup3_t {α β γ : Type} [Py α] [Py β] [Py γ] {x1 : α} {x2 : β} {x3 : γ} {kk : Nat} (h1 : JE X R0 H0 Γ a (some x1)) (h2 : JE X R0 H0 Γ b (some x2)) (h3 : JE X R0 H0 Γ c (some x3)) (s1 : starEach (a :: [b, c]) X.env = (false, eval a X.env) :: starEach [b, c] X.env := by rfl) (s2 : starEach (b :: [c]) X.env = (false, eval b X.env) :: starEach [c] X.env := by rfl) (s3 : starEach (c :: []) X.env = (false, eval c X.env) :: starEach [] X.env := by rfl) : JE X R0 H0 Γ (.Tuple [a, b, c] kk pos) (some (⟨x1, x2, x3⟩ : (T3 α β γ))) := je_tup3 h1 h2 h3 s1 s2 s3
theorem bor_map {α : Type} [Py α] {K : PySem.W.Frag} {R H : Hp} {v : V} {xs : List α} {f : α → V} (hf : ∀ v a, rep K R v a → v = f a) (h : bor K R H v xs) : ∃ p, v = .ref p ∧ SqL K H p (xs.map f) := by
  obtain ⟨p, o, rfl, hp, vs, rfl, hv⟩ := h
  have e := hv.map_eq hf
  subst e
  exact ⟨p, rfl, .inl hp⟩
theorem je_all {p : Pos} {m : Option (List Bool)} (hm : X.mg "all" = none) (h : JB X R0 H0 Γ a m) (hc : X.calm = true := by rfl) (hg : Gl X "all" := by rfl) (hs : starEach (a :: []) X.env = (false, eval a X.env) :: starEach [] X.env := by rfl) (hpl : (backTo pos (starEach ([] : List Expr) X.env)).any (·.1) = false := by rfl) : JE X R0 H0 Γ (.Call (.Name "all" p) [a] [] pos) (m.bind fun x => some (x.all id)) := je_b1 (cr_all hc) (by decide +kernel) hm (fun R H v x z i h1 h2 Q q => by
  cases h2
  obtain ⟨p, rfl, hp⟩ := bor_map (f := V.bl) (fun v a r => r) h1
  exact ⟨p, x, rfl, hp, q _ R H (.refl i) rfl⟩) h hg hs hpl (by decide) (by decide)
def lSet {α : Type} (xs : List α) (k : Int) (x : α) : Option (List α) := (ixN xs.length k).bind fun j => some (xs.set j x)
theorem AllR.set {α : Type} [Py α] {K : PySem.W.Frag} {R : Hp} {v : V} {x : α} (r : rep K R v x) : ∀ {vs : List V} {as : List α} (j : Nat), AllR K R vs as → AllR K R (vs.set j v) (as.set j x)
  | _, _, _, .nil => .nil
  | _, _, 0, .cons _ t => .cons r t
  | _, _, j + 1, .cons h t => .cons h (t.set r j)
/-! ### a list that stays, walked otherwise -/
structure JL (X : Cx) (R0 H0 : Hp) (Γ : List Slot) (e : Expr) {α : Type} [Py α] (m : Option (List α)) : Prop where
  run : ∀ σ R H, Sat X.K R0 H0 Γ σ R H → ∀ xs, m = some xs → ∀ Q : VK, (∀ p vs R' H', Ext R H R' H' → (∀ R2 H2, Ex R' R2 → Ex H0 H2 → Ex R2 H2 → SqL X.K H2 p vs) → AllR X.K R' vs xs → Q (.ref p) H') → eSem X e σ H Q
theorem jl_b (i : Nat) {x : Str} {α : Type} [Py α] {c : List α} (hΓ : Γ[i]? = some (.b c) := by rfl) (hN : X.N[i]? = some x := by rfl) (hv : Vis X.env.scope x := by first | exact Or.inl rfl | exact Or.inr (Or.inl rfl) | exact Or.inr (Or.inr rfl)) (hd : (x == ("__debug__" : Str)) = false := by decide)
    (hcd : (x == ("__classdict__" : Str)) = false := by decide) : JL X R0 H0 Γ (.Name x pos) (some c) := ⟨fun σ R H S xs ex Q q => by
  cases ex
  obtain ⟨v, hs, p, o, rfl, hp, vs, rfl, r⟩ := S.get_b hΓ
  exact PE_to (pv i hN hv hd hcd) ⟨.ref p, hs, q p vs R H (.refl S.i) (fun R2 H2 e1 e2 e3 => .inl (rd_ex e2 hp)) (r.mono S.e0.r)⟩⟩
def enumF {α : Type} : Nat → List α → List (Int × α)
  | _, [] => []
  | k, x :: r => ((k : Int), x) :: enumF (k + 1) r
def enumL {α : Type} (xs : List α) : List (Int × α) := enumF 0 xs
theorem ji_rev {p : Pos} {α : Type} [Py α] {m : Option (List α)} (hm : X.mg "reversed" = none) (h : JL X R0 H0 Γ a m) (hg : Gl X "reversed" := by rfl) (hs : starEach [a] X.env = [(false, eval a X.env)] := by rfl) (hs2 : starEach (a :: []) X.env = (false, eval a X.env) :: starEach [] X.env := by rfl) :
    JI X R0 H0 Γ tg (.Call (.Name "reversed" p) [a] [] pos) (m.bind fun xs => some xs.reverse) := .mk fun σ R H S zs ez Q q => by
  obtain ⟨xs, ex, ez⟩ := bind_some' ez
  have ez := Option.some.inj ez
  subst ez
  refine PI_to (pi_reversed hg hm (pa_cons eS pa_nil hs2) hs) (h.run σ R H S xs ex _ fun p vs R' H' x st hv => ⟨p, vs, rfl, st R' H' (.refl R') (S.e0.h.trans x.h) x.i, q _ R' H' x fun i R2 H2 e1 e2 e3 => ?_⟩)
  have sq := st R2 H2 e1 e2 e3
  refine ⟨fun y hy => ?_, fun hi => by show vs.length ≤ i; rw [hv.len]; rw [List.length_reverse] at hi; exact hi⟩
  have hi : i < xs.length := by
    have := (List.getElem?_eq_some_iff.mp hy).1
    rw [List.length_reverse] at this
    exact this
  rw [List.getElem?_reverse hi] at hy
  obtain ⟨v, hv1, r⟩ := hv.get hy
  rw [← hv.len] at hv1
  refine ⟨⟨by rw [hv.len]; exact hi, vs, v, sq, hv1⟩, fun w H3 hy => ?_⟩
  obtain ⟨rfl, f⟩ := hy
  have e := f vs sq
  rw [hv1] at e
  cases e
  exact ⟨R2, .refl e3, Py.mono e1 r⟩
theorem ji_rev_t {p : Pos} {α : Type} [Py α] {xs : List α} (hm : X.mg "reversed" = none) (h : JL X R0 H0 Γ a (some xs)) (hg : Gl X "reversed" := by rfl) (hs : starEach [a] X.env = [(false, eval a X.env)] := by rfl) (hs2 : starEach (a :: []) X.env = (false, eval a X.env) :: starEach [] X.env := by rfl) :
    JI X R0 H0 Γ tg (.Call (.Name "reversed" p) [a] [] pos) (some xs.reverse) := ji_rev hm h hg hs hs2
/-- range(a, b, -1) -/
def range3 (i j c : Int) : Option (List Int) := if c = -1 ∧ -(2 ^ 62) ≤ i ∧ i < 2 ^ 62 ∧ -(2 ^ 62) ≤ j ∧ j < 2 ^ 62 then some ((List.range (i - j).toNat).map fun (k : Nat) => i - k) else none
end
end FK

namespace FK
open PySem PySem.Spec PyProof.Rows L2
section
variable {K : PySem.W.Frag} {R0 H0 R H : Hp} {Γ : List Slot} {σ : L2.St}
end
section
variable {X : Cx} {R0 H0 : Hp} {Γ : List Slot} {pos : Pos}
/-! ### list(range(..)) -/
variable {a b c : Expr}
def lrange1 (j : Int) : Option (List Int) := if -(2 ^ 62) ≤ j ∧ j ≤ 16000000 then some (rng 0 j.toNat) else none
def lrange2 (i j : Int) : Option (List Int) := if -(2 ^ 62) ≤ i ∧ i < 2 ^ 62 ∧ -(2 ^ 62) ≤ j ∧ j < 2 ^ 62 ∧ (j - i).toNat ≤ 16000000 then some (rng i (j - i).toNat) else none
theorem rgV_rng (i j : Int) : rgV i j = (rng i (j - i).toNat).map V.int := by
  unfold rgV rng
  rw [List.map_map]
  rfl
theorem jo_lrange1 {p p2 pos2 : Pos} {m : Option Int} (hm : X.mg "list" = none) (hm2 : X.mg "range" = none) (h : JB X R0 H0 Γ a m) (hc : X.calm = true := by rfl) (hg : Gl X "list" := by rfl) (hg2 : Gl X "range" := by rfl) (na : starEach [.Call (.Name "range" p2) [a] [] pos2] X.env = (false, eval (.Call (.Name "range" p2) [a] [] pos2) X.env) :: starEach [] X.env := by rfl)
    (nb : starEach [a] X.env = (false, eval a X.env) :: starEach [] X.env := by rfl) : JO X R0 H0 Γ (.Call (.Name "list" p) [.Call (.Name "range" p2) [a] [] pos2] [] pos) (m.bind lrange1) := .mk fun σ R H S z ez Q q => by
  obtain ⟨j, ej, ez⟩ := bind_some' ez
  unfold lrange1 at ez
  by_cases hj : -(2 ^ 62) ≤ j ∧ j ≤ 16000000
  · rw [if_pos hj] at ez
    cases ez
    refine PE_to (pe_listRg hc hg hm (prg_1 hg2 hm2 eS nb) na) (h σ R H S j ej _ fun v R1 H1 x1 r1 => ⟨j, r1, ⟨by omega, by omega, by omega, by omega, by omega⟩, fun d hd => q d _ R1 _ (x1.trans (.own x1.i hd)) (x1.h.none hd) upd_same (x1.i.none hd) ⟨_, rfl, ?_⟩⟩)
    rw [rgV_rng, Int.sub_zero]
    exact AllR.of_map (fun a => rfl) _
  · rw [if_neg hj] at ez
    cases ez
theorem jo_lrange1_t {p p2 pos2 : Pos} {j : Int} (hm : X.mg "list" = none) (hm2 : X.mg "range" = none) (h : JB X R0 H0 Γ a (some j)) (hc : X.calm = true := by rfl) (hg : Gl X "list" := by rfl) (hg2 : Gl X "range" := by rfl) (na : starEach [.Call (.Name "range" p2) [a] [] pos2] X.env = (false, eval (.Call (.Name "range" p2) [a] [] pos2) X.env) :: starEach [] X.env := by rfl)
    (nb : starEach [a] X.env = (false, eval a X.env) :: starEach [] X.env := by rfl) : JO X R0 H0 Γ (.Call (.Name "list" p) [.Call (.Name "range" p2) [a] [] pos2] [] pos) (lrange1 j) := jo_lrange1 hm hm2 h hc hg hg2 na nb
/-- range(a, b, c) as an argument, any step that is not 0 -/
def PRg3 (X : Cx) (e : Expr) (t : L2.St → Hp → (Int → Int → Int → Hp → Prop) → Prop) : Prop :=
  ∀ (pins : List (Addr × Obj)) (s : Shared) (σ : L2.St) (H : Hp) (Q : Int → Int → Int → Hp → Prop), Inv X pins σ H s → t σ H Q →
    wpAny (model X.prog X.w) X.A (eval e X.env) (fun x s' => ∃ r a b c t u v H', x = .ref r ∧ IsRange s'.heap r a b c t u v ∧ Inv X pins σ H' s' ∧ Q a b c H') X.xe s
def lrange3 (i j c : Int) : Option (List Int) := if c = -1 ∧ -(2 ^ 62) ≤ i ∧ i < 2 ^ 62 ∧ -(2 ^ 62) ≤ j ∧ j < 2 ^ 62 ∧ (i - j).toNat ≤ 16000000 then some ((List.range (i - j).toNat).map fun (k : Nat) => i - k) else none
end
end FK

namespace FK
open PySem PySem.Spec PyProof.Rows L2
open PySem.SeqAt (EqAt RcAt RcNeAt)
/-! ### == of data -/
noncomputable def dec (p : Prop) : Bool := @decide p (Classical.propDecidable p)
theorem dec_t {p : Prop} (h : p) : dec p = true := @decide_eq_true p (Classical.propDecidable p) h
theorem dec_f {p : Prop} (h : ¬ p) : dec p = false := @decide_eq_false p (Classical.propDecidable p) h
theorem dec_eq (p : Prop) [Decidable p] : dec p = decide p := by
  by_cases h : p
  · rw [dec_t h, decide_eq_true h]
  · rw [dec_f h, decide_eq_false h]
theorem dec_iff {p q : Prop} (h : p ↔ q) : dec p = dec q := by
  by_cases hp : p
  · rw [dec_t hp, dec_t (h.mp hp)]
  · rw [dec_f hp, dec_f fun z => hp (h.mpr z)]
theorem dec_and (p q : Prop) : dec (p ∧ q) = (dec p && dec q) := by
  by_cases hp : p
  · by_cases hq : q
    · rw [dec_t hp, dec_t hq, dec_t (⟨hp, hq⟩ : p ∧ q)]
      rfl
    · rw [dec_t hp, dec_f hq, dec_f fun z : p ∧ q => hq z.2]
      rfl
  · rw [dec_f hp, dec_f fun z : p ∧ q => hp z.1]
    rfl
class Dq (α : Type) [Py α] where
  dep : Nat
  rp : ∀ {K : PySem.W.Frag} {R H : Hp} {v : V} {a : α}, Ex R H → bor K R H v a → rep K H v a
  uq : ∀ {X : Cx} {pins : List (Addr × Obj)} {σ : L2.St} {H : Hp} {s : Shared}, Inv X pins σ H s → ∀ {v w : V} {u : Value} {a b : α}, RelV v u → RelV w u → rep X.K H v a → rep X.K H w b → a = b
  eq : ∀ {X : Cx} {pins : List (Addr × Obj)} {σ : L2.St} {H : Hp} {s : Shared}, Inv X pins σ H s → ∀ {A : Around} {v w : V} {u u' : Value} {a b : α}, A.units + dep < cLine → RelV v u → RelV w u' → rep X.K H v a → rep X.K H w b → EqAt A s u u' (dec (a = b))
/-- lists and tuples -/
class Dc (α : Type) [Py α] [Dq α] where
  rc : ∀ {X : Cx} {pins : List (Addr × Obj)} {σ : L2.St} {H : Hp} {s : Shared}, Inv X pins σ H s → ∀ {A : Around} {v w : V} {u u' : Value} {a b : α}, A.units + Dq.dep α < cLine → RelV v u → RelV w u' → rep X.K H v a → rep X.K H w b → RcAt A s u u' (dec (a = b)) ∧ RcNeAt A s u u' (!dec (a = b))
instance instDqInt : Dq Int where
  dep := 0
  rp := fun _ h => h
  uq := fun {X pins σ H s} _ {v w u a b} r1 r2 h1 h2 => by
    cases (show v = V.int a from h1)
    cases (show w = V.int b from h2)
    obtain ⟨t, e⟩ := r1
    obtain ⟨t2, e2⟩ := r2
    rw [e] at e2
    injection e2
  eq := fun {X pins σ H s} _ {A v w u u' a b} _ r1 r2 h1 h2 => by
    cases (show v = V.int a from h1)
    cases (show w = V.int b from h2)
    obtain ⟨t, rfl⟩ := r1
    obtain ⟨t2, rfl⟩ := r2
    rw [dec_eq]
    exact SeqAt.EqAt.int_int a t b t2
instance instDqStr : Dq Str where
  dep := 0
  rp := fun _ h => h
  uq := fun {X pins σ H s} _ {v w u a b} r1 r2 h1 h2 => by
    cases (show v = V.str a from h1)
    cases (show w = V.str b from h2)
    obtain ⟨t, e⟩ := r1
    obtain ⟨t2, e2⟩ := r2
    rw [e] at e2
    injection e2
  eq := fun {X pins σ H s} _ {A v w u u' a b} _ r1 r2 h1 h2 => by
    cases (show v = V.str a from h1)
    cases (show w = V.str b from h2)
    obtain ⟨t, rfl⟩ := r1
    obtain ⟨t2, rfl⟩ := r2
    have e : dec (a = b) = (a == b) := by
      by_cases h : a = b
      · rw [dec_t h, beq_iff_eq.mpr h]
      · rw [dec_f h, beq_eq_false_iff_ne.mpr h]
    rw [e]
    exact SeqAt.EqAt.str_str a t b t2
instance instDqBool : Dq Bool where
  dep := 0
  rp := fun _ h => h
  uq := fun {X pins σ H s} _ {v w u a b} r1 r2 h1 h2 => by
    cases (show v = V.bl a from h1)
    cases (show w = V.bl b from h2)
    have e : u = .bool a := r1
    have e2 : u = .bool b := r2
    rw [e] at e2
    injection e2
  eq := fun {X pins σ H s} _ {A v w u u' a b} _ r1 r2 h1 h2 => by
    cases (show v = V.bl a from h1)
    cases (show w = V.bl b from h2)
    cases (show u = .bool a from r1)
    cases (show u' = .bool b from r2)
    have e : dec (a = b) = (a == b) := by
      by_cases h : a = b
      · rw [dec_t h, beq_iff_eq.mpr h]
      · rw [dec_f h, beq_eq_false_iff_ne.mpr h]
    rw [e]
    exact SeqAt.EqAt.bool_bool a b
section
variable {α : Type} [Py α] [Dq α] {X : Cx} {pins : List (Addr × Obj)} {σ : L2.St} {H : Hp} {s : Shared}
theorem allr_uq (I : Inv X pins σ H s) : ∀ {vs ws : List V} {us : List Value} {as bs : List α}, Vals vs us → Vals ws us → AllR X.K H vs as → AllR X.K H ws bs → as = bs
  | [], ws, us, as, bs, r1, r2, h1, h2 => by
    cases r1
    cases r2
    cases h1
    cases h2
    rfl
  | v :: vs, ws, us, as, bs, r1, r2, h1, h2 => by
    cases r1 with
    | cons a1 t1 =>
      cases r2 with
      | cons a2 t2 =>
        cases h1 with
        | cons p1 q1 =>
          cases h2 with
          | cons p2 q2 => rw [Dq.uq I a1 a2 p1 p2, allr_uq I t1 t2 q1 q2]
theorem allr_eq (I : Inv X pins σ H s) {A : Around} (hu : A.units + Dq.dep α < cLine) : ∀ {vs ws : List V} {us us' : List Value} {as bs : List α}, Vals vs us → Vals ws us' → AllR X.K H vs as → AllR X.K H ws bs → ∀ j (h1 : j < us.length) (h2 : j < us'.length), EqAt A s us[j] us'[j] (dec (as[j]? = bs[j]?))
  | [], ws, us, us', as, bs, r1, r2, k1, k2, j, h1, h2 => by
    cases r1
    exact absurd h1 (Nat.not_lt_zero j)
  | v :: vs, [], us, us', as, bs, r1, r2, k1, k2, j, h1, h2 => by
    cases r2
    exact absurd h2 (Nat.not_lt_zero j)
  | v :: vs, w :: ws, us, us', as, bs, r1, r2, k1, k2, j, h1, h2 => by
    cases r1 with
    | cons a1 t1 =>
      cases r2 with
      | cons a2 t2 =>
        cases k1 with
        | @cons _ _ a as p1 q1 =>
          cases k2 with
          | @cons _ _ b bs p2 q2 =>
            cases j with
            | zero =>
              rw [dec_iff (show ((a :: as)[0]? = (b :: bs)[0]?) ↔ a = b from ⟨fun z => Option.some.inj z, fun z => by rw [z]; rfl⟩)]
              exact Dq.eq I hu a1 a2 p1 p2
            | succ j => exact allr_eq I hu t1 t2 q1 q2 j (Nat.lt_of_succ_lt_succ h1) (Nat.lt_of_succ_lt_succ h2)
theorem all_ext {as bs : List α} {n : Nat} (h1 : as.length = n) (h2 : bs.length = n) : ((List.range n).all fun j => dec (as[j]? = bs[j]?)) = dec (as = bs) := by
  by_cases h : as = bs
  · rw [dec_t h, h]
    exact List.all_eq_true.mpr fun j _ => dec_t rfl
  · rw [dec_f h]
    cases e : (List.range n).all fun j => dec (as[j]? = bs[j]?) with
    | false => rfl
    | true =>
      refine absurd (List.ext_getElem? fun j => ?_) h
      by_cases hj : j < n
      · have := List.all_eq_true.mp e j (List.mem_range.mpr hj)
        by_cases q : as[j]? = bs[j]?
        · exact q
        · rw [dec_f q] at this
          cases this
      · rw [List.getElem?_eq_none (by omega), List.getElem?_eq_none (by omega)]
theorem list_rc (I : Inv X pins σ H s) {A : Around} {v w : V} {u u' : Value} {a b : List α} (hu : A.units + (Dq.dep α + 1) < cLine) (r1 : RelV v u) (r2 : RelV w u') (h1 : rep X.K H v a) (h2 : rep X.K H w b) : RcAt A s u u' (dec (a = b)) ∧ RcNeAt A s u u' (!dec (a = b)) := by
  obtain ⟨p, o, rfl, hp, vs, rfl, q1⟩ := h1
  obtain ⟨p', o', rfl, hp', ws, rfl, q2⟩ := h2
  cases r1
  cases r2
  obtain ⟨us, t1, l1, _⟩ := I.list (.inl hp)
  obtain ⟨us', t2, l2, _⟩ := I.list (.inl hp')
  have n1 : us.length = a.length := by rw [← t1.length, q1.len]
  have n2 : us'.length = b.length := by rw [← t2.length, q2.len]
  have hu0 : A.units < cLine := by omega
  have he : ∀ j (h1 : j < us.toArray.size) (h2 : j < us'.toArray.size), EqAt A.in1 s us.toArray[j] us'.toArray[j] (dec (a[j]? = b[j]?)) := fun j h1 h2 => by
    have := allr_eq I (A := A.in1) (show A.units + 1 + Dq.dep α < cLine by omega) t1 t2 q1 q2 j (by simpa using h1) (by simpa using h2)
    simpa using this
  by_cases hz : us.length = us'.length
  · have hsz : us.toArray.size = us'.toArray.size := by simpa using hz
    have e1 := RcAt.lists l1.isList l2.isList hsz hu0 he
    have e2 := RcNeAt.lists l1.isList l2.isList hsz hu0 he
    rw [show us.toArray.size = a.length by simpa using n1, all_ext rfl (by omega)] at e1 e2
    exact ⟨e1, e2⟩
  · have hsz : (us.toArray.size != us'.toArray.size) = true := by simpa using hz
    rw [dec_f fun z => hz (by rw [n1, n2, z])]
    exact ⟨RcAt.lists_lengths l1.isList l2.isList hsz hu0, RcNeAt.lists_lengths l1.isList l2.isList hsz hu0⟩
theorem arr_inj {us us' : List Value} (h : us.toArray = us'.toArray) : us = us' := by
  have := congrArg Array.toList h
  exact this
theorem islist_uq {h : Heap} {a : Addr} {us us' : List Value} (p : PlainL h a us.toArray) (q : PlainL h a us'.toArray) : us = us' := by
  obtain ⟨o, n, e, _, _, d⟩ := p
  obtain ⟨o', n', e', _, _, d'⟩ := q
  rw [e] at e'
  cases e'
  rw [d] at d'
  injection d' with d'
  exact arr_inj d'
theorem istup_uq {h : Heap} {a : Addr} {us us' : List Value} (p : IsTup h a us.toArray) (q : IsTup h a us'.toArray) : us = us' := by
  obtain ⟨o, e, _, n, d⟩ := p
  obtain ⟨o', e', _, n', d'⟩ := q
  rw [e] at e'
  cases e'
  rw [d] at d'
  injection d' with d'
  exact arr_inj d'
instance instDqList : Dq (List α) where
  dep := Dq.dep α + 1
  rp := fun e ⟨p, o, h, r, q⟩ => ⟨p, o, h, r, Ob.mono e q⟩
  uq := fun {X pins σ H s} I {v w u a b} r1 r2 h1 h2 => by
    obtain ⟨p, o, rfl, hp, vs, rfl, q1⟩ := h1
    obtain ⟨p', o', rfl, hp', ws, rfl, q2⟩ := h2
    cases r1
    cases r2
    obtain ⟨us, t1, l1, _⟩ := I.list (.inl hp)
    obtain ⟨us', t2, l2, _⟩ := I.list (.inl hp')
    have e := islist_uq l1 l2
    subst e
    exact allr_uq I t1 t2 q1 q2
  eq := fun {X pins σ H s} I {A v w u u' a b} hu r1 r2 h1 h2 => by
    have k := list_rc I hu r1 r2 h1 h2
    have hh1 := h1
    have hh2 := h2
    obtain ⟨p, o, rfl, hp, vs, rfl, q1⟩ := h1
    obtain ⟨p', o', rfl, hp', ws, rfl, q2⟩ := h2
    cases r1
    cases r2
    by_cases e : p = p'
    · subst e
      obtain ⟨us, t1, l1, _⟩ := I.list (.inl hp)
      obtain ⟨us', t2, l2, _⟩ := I.list (.inl hp')
      have e := islist_uq l1 l2
      subst e
      rw [dec_t (allr_uq I t1 t2 q1 q2)]
      exact SeqAt.EqAt.same _
    · exact SeqAt.EqAt.of_refs e k.1
instance instDcList : Dc (List α) := ⟨fun {X pins σ H s} I {A v w u u' a b} hu r1 r2 h1 h2 => list_rc I hu r1 r2 h1 h2⟩
end
section
variable {α : Type} {β : Type} [Py α] [Dq α] [Py β] [Dq β]
theorem tup2_ext (a b : (α × β)) : (a = b) ↔ (a.1 = b.1 ∧ a.2 = b.2) := by
  refine ⟨fun h => by rw [h]; exact ⟨rfl, rfl⟩, fun h => ?_⟩
  obtain ⟨h0, h1⟩ := h
  cases a
  cases b
  simp only at h0 h1
  subst h0 h1
  rfl
theorem tup2_rd {X : Cx} {pins : List (Addr × Obj)} {σ : L2.St} {H : Hp} {s : Shared} (I : Inv X pins σ H s) {v : V} {u : Value} {a : (α × β)} (r : RelV v u) (h : rep X.K H v a) : ∃ p x0 x1 z0 z1, v = .ref p ∧ u = .ref p ∧ IsTup s.heap p [z0, z1].toArray ∧ RelV x0 z0 ∧ RelV x1 z1 ∧ rep X.K H x0 a.1 ∧ rep X.K H x1 a.2 := by
  obtain ⟨p, vs, rfl, hp, x0, x1, rfl, q0, q1⟩ := h
  cases r
  obtain ⟨us, t, l, _⟩ := I.tuple (dsq hp)
  cases t with
  | cons r0 t0 =>
  cases t0 with
  | cons r1 t1 =>
  cases t1
  exact ⟨p, _, _, _, _, rfl, rfl, l, r0, r1, q0, q1⟩
theorem tup2_rc {X : Cx} {pins : List (Addr × Obj)} {σ : L2.St} {H : Hp} {s : Shared} (I : Inv X pins σ H s) {A : Around} {v w : V} {u u' : Value} {a b : (α × β)} (hu : A.units + (Dq.dep α + Dq.dep β + 1) < cLine) (r1 : RelV v u) (r2 : RelV w u') (h1 : rep X.K H v a) (h2 : rep X.K H w b) : RcAt A s u u' (dec (a = b)) ∧ RcNeAt A s u u' (!dec (a = b)) := by
  obtain ⟨pm, x0m, x1m, z0m, z1m, rfl, rfl, lm, r0m, r1m, q0m, q1m⟩ := tup2_rd I r1 h1
  obtain ⟨pn, x0n, x1n, z0n, z1n, rfl, rfl, ln, r0n, r1n, q0n, q1n⟩ := tup2_rd I r2 h2
  have hu0 : A.units < cLine := by omega
  have he : ∀ j (h1 : j < [z0m, z1m].toArray.size) (h2 : j < [z0n, z1n].toArray.size), EqAt A.in1 s [z0m, z1m].toArray[j] [z0n, z1n].toArray[j] ((fun j => match j with | 0 => dec (a.1 = b.1) | _ => dec (a.2 = b.2) : Nat → Bool) j) := fun j h1 h2 => by
    match j, h1, h2 with
    | 0, _, _ => exact Dq.eq I (A := A.in1) (show A.units + 1 + Dq.dep α < cLine by omega) r0m r0n q0m q0n
    | 1, _, _ => exact Dq.eq I (A := A.in1) (show A.units + 1 + Dq.dep β < cLine by omega) r1m r1n q1m q1n
    | j + 2, h1, _ => exact absurd h1 (by simp)
  have e1 := RcAt.tuples lm ln hu0 he
  have e2 := RcNeAt.tuples lm ln hu0 he
  have e : ((List.range (min [z0m, z1m].toArray.size [z0n, z1n].toArray.size)).all (fun j => match j with | 0 => dec (a.1 = b.1) | _ => dec (a.2 = b.2) : Nat → Bool) && [z0m, z1m].toArray.size == [z0n, z1n].toArray.size) = dec (a = b) := by
    rw [dec_iff (tup2_ext a b)]
    rw [dec_and]
    show ((dec (a.1 = b.1) && (dec (a.2 = b.2) && true)) && true) = _
    simp only [Bool.and_true]
  rw [e] at e1 e2
  exact ⟨e1, e2⟩
instance instDq2 : Dq (α × β) where
  dep := Dq.dep α + Dq.dep β + 1
  rp := fun e ⟨p, vs, h, q, z⟩ => Py.mono e ⟨p, vs, h, q, z⟩
  uq := fun {X pins σ H s} I {v w u a b} r1 r2 h1 h2 => by
    obtain ⟨pm, x0m, x1m, z0m, z1m, rfl, rfl, lm, r0m, r1m, q0m, q1m⟩ := tup2_rd I r1 h1
    obtain ⟨pn, x0n, x1n, z0n, z1n, e0, e1, ln, r0n, r1n, q0n, q1n⟩ := tup2_rd I r2 h2
    cases e1
    have e := istup_uq lm ln
    injection e with e0 et
    injection et with e1 et
    subst e0 e1
    exact (tup2_ext a b).mpr ⟨Dq.uq I r0m r0n q0m q0n, Dq.uq I r1m r1n q1m q1n⟩
  eq := fun {X pins σ H s} I {A v w u u' a b} hu r1 r2 h1 h2 => by
    have k := tup2_rc I hu r1 r2 h1 h2
    obtain ⟨pm, x0m, x1m, z0m, z1m, rfl, rfl, lm, r0m, r1m, q0m, q1m⟩ := tup2_rd I r1 h1
    obtain ⟨pn, x0n, x1n, z0n, z1n, rfl, rfl, ln, r0n, r1n, q0n, q1n⟩ := tup2_rd I r2 h2
    by_cases e : pm = pn
    · subst e
      have e := istup_uq lm ln
      injection e with e0 et
      injection et with e1 et
      subst e0 e1
      rw [dec_t ((tup2_ext a b).mpr ⟨Dq.uq I r0m r0n q0m q0n, Dq.uq I r1m r1n q1m q1n⟩)]
      exact SeqAt.EqAt.same _
    · exact SeqAt.EqAt.of_refs e k.1
instance instDc2 : Dc (α × β) := ⟨fun {X pins σ H s} I {A v w u u' a b} hu r1 r2 h1 h2 => tup2_rc I hu r1 r2 h1 h2⟩
end
section
variable {α : Type} {β : Type} {γ : Type} [Py α] [Dq α] [Py β] [Dq β] [Py γ] [Dq γ]
theorem tup3_ext (a b : (T3 α β γ)) : (a = b) ↔ (a.a = b.a ∧ a.b = b.b ∧ a.c = b.c) := by
  refine ⟨fun h => by rw [h]; exact ⟨rfl, rfl, rfl⟩, fun h => ?_⟩
  obtain ⟨h0, h1, h2⟩ := h
  cases a
  cases b
  simp only at h0 h1 h2
  subst h0 h1 h2
  rfl
theorem tup3_rd {X : Cx} {pins : List (Addr × Obj)} {σ : L2.St} {H : Hp} {s : Shared} (I : Inv X pins σ H s) {v : V} {u : Value} {a : (T3 α β γ)} (r : RelV v u) (h : rep X.K H v a) : ∃ p x0 x1 x2 z0 z1 z2, v = .ref p ∧ u = .ref p ∧ IsTup s.heap p [z0, z1, z2].toArray ∧ RelV x0 z0 ∧ RelV x1 z1 ∧ RelV x2 z2 ∧ rep X.K H x0 a.a ∧ rep X.K H x1 a.b ∧ rep X.K H x2 a.c := by
  obtain ⟨p, vs, rfl, hp, x0, x1, x2, rfl, q0, q1, q2⟩ := h
  cases r
  obtain ⟨us, t, l, _⟩ := I.tuple (dsq hp)
  cases t with
  | cons r0 t0 =>
  cases t0 with
  | cons r1 t1 =>
  cases t1 with
  | cons r2 t2 =>
  cases t2
  exact ⟨p, _, _, _, _, _, _, rfl, rfl, l, r0, r1, r2, q0, q1, q2⟩
theorem tup3_rc {X : Cx} {pins : List (Addr × Obj)} {σ : L2.St} {H : Hp} {s : Shared} (I : Inv X pins σ H s) {A : Around} {v w : V} {u u' : Value} {a b : (T3 α β γ)} (hu : A.units + (Dq.dep α + Dq.dep β + Dq.dep γ + 1) < cLine) (r1 : RelV v u) (r2 : RelV w u') (h1 : rep X.K H v a) (h2 : rep X.K H w b) : RcAt A s u u' (dec (a = b)) ∧ RcNeAt A s u u' (!dec (a = b)) := by
  obtain ⟨pm, x0m, x1m, x2m, z0m, z1m, z2m, rfl, rfl, lm, r0m, r1m, r2m, q0m, q1m, q2m⟩ := tup3_rd I r1 h1
  obtain ⟨pn, x0n, x1n, x2n, z0n, z1n, z2n, rfl, rfl, ln, r0n, r1n, r2n, q0n, q1n, q2n⟩ := tup3_rd I r2 h2
  have hu0 : A.units < cLine := by omega
  have he : ∀ j (h1 : j < [z0m, z1m, z2m].toArray.size) (h2 : j < [z0n, z1n, z2n].toArray.size), EqAt A.in1 s [z0m, z1m, z2m].toArray[j] [z0n, z1n, z2n].toArray[j] ((fun j => match j with | 0 => dec (a.a = b.a) | 1 => dec (a.b = b.b) | _ => dec (a.c = b.c) : Nat → Bool) j) := fun j h1 h2 => by
    match j, h1, h2 with
    | 0, _, _ => exact Dq.eq I (A := A.in1) (show A.units + 1 + Dq.dep α < cLine by omega) r0m r0n q0m q0n
    | 1, _, _ => exact Dq.eq I (A := A.in1) (show A.units + 1 + Dq.dep β < cLine by omega) r1m r1n q1m q1n
    | 2, _, _ => exact Dq.eq I (A := A.in1) (show A.units + 1 + Dq.dep γ < cLine by omega) r2m r2n q2m q2n
    | j + 3, h1, _ => exact absurd h1 (by simp)
  have e1 := RcAt.tuples lm ln hu0 he
  have e2 := RcNeAt.tuples lm ln hu0 he
  have e : ((List.range (min [z0m, z1m, z2m].toArray.size [z0n, z1n, z2n].toArray.size)).all (fun j => match j with | 0 => dec (a.a = b.a) | 1 => dec (a.b = b.b) | _ => dec (a.c = b.c) : Nat → Bool) && [z0m, z1m, z2m].toArray.size == [z0n, z1n, z2n].toArray.size) = dec (a = b) := by
    rw [dec_iff (tup3_ext a b)]
    rw [dec_and]
    rw [dec_and]
    show ((dec (a.a = b.a) && (dec (a.b = b.b) && (dec (a.c = b.c) && true))) && true) = _
    simp only [Bool.and_true]
  rw [e] at e1 e2
  exact ⟨e1, e2⟩
instance instDq3 : Dq (T3 α β γ) where
  dep := Dq.dep α + Dq.dep β + Dq.dep γ + 1
  rp := fun e ⟨p, vs, h, q, z⟩ => Py.mono e ⟨p, vs, h, q, z⟩
  uq := fun {X pins σ H s} I {v w u a b} r1 r2 h1 h2 => by
    obtain ⟨pm, x0m, x1m, x2m, z0m, z1m, z2m, rfl, rfl, lm, r0m, r1m, r2m, q0m, q1m, q2m⟩ := tup3_rd I r1 h1
    obtain ⟨pn, x0n, x1n, x2n, z0n, z1n, z2n, e0, e1, ln, r0n, r1n, r2n, q0n, q1n, q2n⟩ := tup3_rd I r2 h2
    cases e1
    have e := istup_uq lm ln
    injection e with e0 et
    injection et with e1 et
    injection et with e2 et
    subst e0 e1 e2
    exact (tup3_ext a b).mpr ⟨Dq.uq I r0m r0n q0m q0n, Dq.uq I r1m r1n q1m q1n, Dq.uq I r2m r2n q2m q2n⟩
  eq := fun {X pins σ H s} I {A v w u u' a b} hu r1 r2 h1 h2 => by
    have k := tup3_rc I hu r1 r2 h1 h2
    obtain ⟨pm, x0m, x1m, x2m, z0m, z1m, z2m, rfl, rfl, lm, r0m, r1m, r2m, q0m, q1m, q2m⟩ := tup3_rd I r1 h1
    obtain ⟨pn, x0n, x1n, x2n, z0n, z1n, z2n, rfl, rfl, ln, r0n, r1n, r2n, q0n, q1n, q2n⟩ := tup3_rd I r2 h2
    by_cases e : pm = pn
    · subst e
      have e := istup_uq lm ln
      injection e with e0 et
      injection et with e1 et
      injection et with e2 et
      subst e0 e1 e2
      rw [dec_t ((tup3_ext a b).mpr ⟨Dq.uq I r0m r0n q0m q0n, Dq.uq I r1m r1n q1m q1n, Dq.uq I r2m r2n q2m q2n⟩)]
      exact SeqAt.EqAt.same _
    · exact SeqAt.EqAt.of_refs e k.1
instance instDc3 : Dc (T3 α β γ) := ⟨fun {X pins σ H s} I {A v w u u' a b} hu r1 r2 h1 h2 => tup3_rc I hu r1 r2 h1 h2⟩
end
section
variable {α : Type} {β : Type} {γ : Type} {δ : Type} [Py α] [Dq α] [Py β] [Dq β] [Py γ] [Dq γ] [Py δ] [Dq δ]
theorem tup4_ext (a b : (T4 α β γ δ)) : (a = b) ↔ (a.a = b.a ∧ a.b = b.b ∧ a.c = b.c ∧ a.d = b.d) := by
  refine ⟨fun h => by rw [h]; exact ⟨rfl, rfl, rfl, rfl⟩, fun h => ?_⟩
  obtain ⟨h0, h1, h2, h3⟩ := h
  cases a
  cases b
  simp only at h0 h1 h2 h3
  subst h0 h1 h2 h3
  rfl
theorem tup4_rd {X : Cx} {pins : List (Addr × Obj)} {σ : L2.St} {H : Hp} {s : Shared} (I : Inv X pins σ H s) {v : V} {u : Value} {a : (T4 α β γ δ)} (r : RelV v u) (h : rep X.K H v a) : ∃ p x0 x1 x2 x3 z0 z1 z2 z3, v = .ref p ∧ u = .ref p ∧ IsTup s.heap p [z0, z1, z2, z3].toArray ∧ RelV x0 z0 ∧ RelV x1 z1 ∧ RelV x2 z2 ∧ RelV x3 z3 ∧ rep X.K H x0 a.a ∧ rep X.K H x1 a.b ∧ rep X.K H x2 a.c ∧ rep X.K H x3 a.d := by
  obtain ⟨p, vs, rfl, hp, x0, x1, x2, x3, rfl, q0, q1, q2, q3⟩ := h
  cases r
  obtain ⟨us, t, l, _⟩ := I.tuple (dsq hp)
  cases t with
  | cons r0 t0 =>
  cases t0 with
  | cons r1 t1 =>
  cases t1 with
  | cons r2 t2 =>
  cases t2 with
  | cons r3 t3 =>
  cases t3
  exact ⟨p, _, _, _, _, _, _, _, _, rfl, rfl, l, r0, r1, r2, r3, q0, q1, q2, q3⟩
theorem tup4_rc {X : Cx} {pins : List (Addr × Obj)} {σ : L2.St} {H : Hp} {s : Shared} (I : Inv X pins σ H s) {A : Around} {v w : V} {u u' : Value} {a b : (T4 α β γ δ)} (hu : A.units + (Dq.dep α + Dq.dep β + Dq.dep γ + Dq.dep δ + 1) < cLine) (r1 : RelV v u) (r2 : RelV w u') (h1 : rep X.K H v a) (h2 : rep X.K H w b) : RcAt A s u u' (dec (a = b)) ∧ RcNeAt A s u u' (!dec (a = b)) := by
  obtain ⟨pm, x0m, x1m, x2m, x3m, z0m, z1m, z2m, z3m, rfl, rfl, lm, r0m, r1m, r2m, r3m, q0m, q1m, q2m, q3m⟩ := tup4_rd I r1 h1
  obtain ⟨pn, x0n, x1n, x2n, x3n, z0n, z1n, z2n, z3n, rfl, rfl, ln, r0n, r1n, r2n, r3n, q0n, q1n, q2n, q3n⟩ := tup4_rd I r2 h2
  have hu0 : A.units < cLine := by omega
  have he : ∀ j (h1 : j < [z0m, z1m, z2m, z3m].toArray.size) (h2 : j < [z0n, z1n, z2n, z3n].toArray.size), EqAt A.in1 s [z0m, z1m, z2m, z3m].toArray[j] [z0n, z1n, z2n, z3n].toArray[j] ((fun j => match j with | 0 => dec (a.a = b.a) | 1 => dec (a.b = b.b) | 2 => dec (a.c = b.c) | _ => dec (a.d = b.d) : Nat → Bool) j) := fun j h1 h2 => by
    match j, h1, h2 with
    | 0, _, _ => exact Dq.eq I (A := A.in1) (show A.units + 1 + Dq.dep α < cLine by omega) r0m r0n q0m q0n
    | 1, _, _ => exact Dq.eq I (A := A.in1) (show A.units + 1 + Dq.dep β < cLine by omega) r1m r1n q1m q1n
    | 2, _, _ => exact Dq.eq I (A := A.in1) (show A.units + 1 + Dq.dep γ < cLine by omega) r2m r2n q2m q2n
    | 3, _, _ => exact Dq.eq I (A := A.in1) (show A.units + 1 + Dq.dep δ < cLine by omega) r3m r3n q3m q3n
    | j + 4, h1, _ => exact absurd h1 (by simp)
  have e1 := RcAt.tuples lm ln hu0 he
  have e2 := RcNeAt.tuples lm ln hu0 he
  have e : ((List.range (min [z0m, z1m, z2m, z3m].toArray.size [z0n, z1n, z2n, z3n].toArray.size)).all (fun j => match j with | 0 => dec (a.a = b.a) | 1 => dec (a.b = b.b) | 2 => dec (a.c = b.c) | _ => dec (a.d = b.d) : Nat → Bool) && [z0m, z1m, z2m, z3m].toArray.size == [z0n, z1n, z2n, z3n].toArray.size) = dec (a = b) := by
    rw [dec_iff (tup4_ext a b)]
    rw [dec_and]
    rw [dec_and]
    rw [dec_and]
    show ((dec (a.a = b.a) && (dec (a.b = b.b) && (dec (a.c = b.c) && (dec (a.d = b.d) && true)))) && true) = _
    simp only [Bool.and_true]
  rw [e] at e1 e2
  exact ⟨e1, e2⟩
instance instDq4 : Dq (T4 α β γ δ) where
  dep := Dq.dep α + Dq.dep β + Dq.dep γ + Dq.dep δ + 1
  rp := fun e ⟨p, vs, h, q, z⟩ => Py.mono e ⟨p, vs, h, q, z⟩
  uq := fun {X pins σ H s} I {v w u a b} r1 r2 h1 h2 => by
    obtain ⟨pm, x0m, x1m, x2m, x3m, z0m, z1m, z2m, z3m, rfl, rfl, lm, r0m, r1m, r2m, r3m, q0m, q1m, q2m, q3m⟩ := tup4_rd I r1 h1
    obtain ⟨pn, x0n, x1n, x2n, x3n, z0n, z1n, z2n, z3n, e0, e1, ln, r0n, r1n, r2n, r3n, q0n, q1n, q2n, q3n⟩ := tup4_rd I r2 h2
    cases e1
    have e := istup_uq lm ln
    injection e with e0 et
    injection et with e1 et
    injection et with e2 et
    injection et with e3 et
    subst e0 e1 e2 e3
    exact (tup4_ext a b).mpr ⟨Dq.uq I r0m r0n q0m q0n, Dq.uq I r1m r1n q1m q1n, Dq.uq I r2m r2n q2m q2n, Dq.uq I r3m r3n q3m q3n⟩
  eq := fun {X pins σ H s} I {A v w u u' a b} hu r1 r2 h1 h2 => by
    have k := tup4_rc I hu r1 r2 h1 h2
    obtain ⟨pm, x0m, x1m, x2m, x3m, z0m, z1m, z2m, z3m, rfl, rfl, lm, r0m, r1m, r2m, r3m, q0m, q1m, q2m, q3m⟩ := tup4_rd I r1 h1
    obtain ⟨pn, x0n, x1n, x2n, x3n, z0n, z1n, z2n, z3n, rfl, rfl, ln, r0n, r1n, r2n, r3n, q0n, q1n, q2n, q3n⟩ := tup4_rd I r2 h2
    by_cases e : pm = pn
    · subst e
      have e := istup_uq lm ln
      injection e with e0 et
      injection et with e1 et
      injection et with e2 et
      injection et with e3 et
      subst e0 e1 e2 e3
      rw [dec_t ((tup4_ext a b).mpr ⟨Dq.uq I r0m r0n q0m q0n, Dq.uq I r1m r1n q1m q1n, Dq.uq I r2m r2n q2m q2n, Dq.uq I r3m r3n q3m q3n⟩)]
      exact SeqAt.EqAt.same _
    · exact SeqAt.EqAt.of_refs e k.1
instance instDc4 : Dc (T4 α β γ δ) := ⟨fun {X pins σ H s} I {A v w u u' a b} hu r1 r2 h1 h2 => tup4_rc I hu r1 r2 h1 h2⟩
end
section
variable {X : Cx} {R0 H0 : Hp} {Γ : List Slot} {e a b c o tg : Expr} {pos : Pos} {st : Stmt}
def rEqQ (X : Cx) : R2 := fun x y H Q => ∃ k, (∀ pins s σ, Inv X pins σ H s → ∀ v u, RelV x v → RelV y u → RcAt X.A s v u k) ∧ Q (.bl k) H
def rNeQ (X : Cx) : R2 := fun x y H Q => ∃ k, (∀ pins s σ, Inv X pins σ H s → ∀ v u, RelV x v → RelV y u → RcNeAt X.A s v u k) ∧ Q (.bl k) H
theorem op_eqQ : OpR X (compareOp .Eq) (rEqQ X) := by
  intro pins s σ H x y v u Q I rx ry h
  obtain ⟨k, h, q⟩ := h
  exact h pins s σ I v u rx ry X.prog X.w _ _ ⟨.bl k, H, I, rfl, q⟩
theorem op_neQ : OpR X (compareOp .NotEq) (rNeQ X) := by
  intro pins s σ H x y v u Q I rx ry h
  obtain ⟨k, h, q⟩ := h
  exact h pins s σ I v u rx ry X.prog X.w _ _ ⟨.bl k, H, I, rfl, q⟩
variable {α : Type} [Py α] [Dq α] [Dc α] [DecidableEq α] {ma mb : Option α} {x y : α}
theorem dat_eq (hu : X.A.units + 64 < cLine) (hd : Dq.dep α ≤ 60) (R H : Hp) (v w : V) (x y : α) (z : Bool) (i : Ex R H) (h1 : bor X.K R H v x) (h2 : bor X.K R H w y) (h3 : some (decide (x = y)) = some z) (Q : VK) (q : ∀ u R' H', Ext R H R' H' → rep X.K R' u z → Q u H') : rEqQ X v w H Q := by
  cases h3
  refine ⟨_, fun pins s σ I v' u' r1 r2 => ?_, q _ R H (.refl i) rfl⟩
  rw [← dec_eq]
  exact (Dc.rc I (by omega) r1 r2 (Dq.rp i h1) (Dq.rp i h2)).1
theorem dat_ne (hu : X.A.units + 64 < cLine) (hd : Dq.dep α ≤ 60) (R H : Hp) (v w : V) (x y : α) (z : Bool) (i : Ex R H) (h1 : bor X.K R H v x) (h2 : bor X.K R H w y) (h3 : some (!decide (x = y)) = some z) (Q : VK) (q : ∀ u R' H', Ext R H R' H' → rep X.K R' u z → Q u H') : rNeQ X v w H Q := by
  cases h3
  refine ⟨_, fun pins s σ I v' u' r1 r2 => ?_, q _ R H (.refl i) rfl⟩
  rw [← dec_eq]
  exact (Dc.rc I (by omega) r1 r2 (Dq.rp i h1) (Dq.rp i h2)).2
theorem je_ned (hu : X.A.units + 64 < cLine) (ha : JB X R0 H0 Γ a ma) (hb : JB X R0 H0 Γ b mb) (hd : Dq.dep α ≤ 60 := by decide) : JE X R0 H0 Γ (.Compare a [.NotEq] [b] pos) (ma.bind fun x => mb.bind fun y => some (!decide (x = y))) := je_cmp2 op_neQ (nomark _) (dat_ne hu hd) ha hb
theorem je_ned_t (hu : X.A.units + 64 < cLine) (ha : JB X R0 H0 Γ a (some x)) (hb : JB X R0 H0 Γ b (some y)) (hd : Dq.dep α ≤ 60 := by decide) : JE X R0 H0 Γ (.Compare a [.NotEq] [b] pos) (some (!decide (x = y))) := je_ned hu ha hb hd
theorem jt_eqd (hu : X.A.units + 64 < cLine) (ha : JB X R0 H0 Γ a ma) (hb : JB X R0 H0 Γ b mb) (hd : Dq.dep α ≤ 60 := by decide) : JT X R0 H0 Γ (.Compare a [.Eq] [b] pos) (ma.bind fun x => mb.bind fun y => some (decide (x = y))) := jt_cmp2 op_eqQ (nomark _) (dat_eq hu hd) ha hb
theorem jt_eqd_t (hu : X.A.units + 64 < cLine) (ha : JB X R0 H0 Γ a (some x)) (hb : JB X R0 H0 Γ b (some y)) (hd : Dq.dep α ≤ 60 := by decide) : JT X R0 H0 Γ (.Compare a [.Eq] [b] pos) (some (decide (x = y))) := jt_eqd hu ha hb hd
theorem jt_ned (hu : X.A.units + 64 < cLine) (ha : JB X R0 H0 Γ a ma) (hb : JB X R0 H0 Γ b mb) (hd : Dq.dep α ≤ 60 := by decide) : JT X R0 H0 Γ (.Compare a [.NotEq] [b] pos) (ma.bind fun x => mb.bind fun y => some (!decide (x = y))) := jt_cmp2 op_neQ (nomark _) (dat_ne hu hd) ha hb
theorem jt_ned_t (hu : X.A.units + 64 < cLine) (ha : JB X R0 H0 Γ a (some x)) (hb : JB X R0 H0 Γ b (some y)) (hd : Dq.dep α ≤ 60 := by decide) : JT X R0 H0 Γ (.Compare a [.NotEq] [b] pos) (some (!decide (x = y))) := jt_ned hu ha hb hd
end
end FK

namespace FK
open PySem PySem.Spec PyProof.Rows L2
open PySem.SeqAt (EqAt RcAt RcNeAt)
section
variable {X : Cx} {R0 H0 : Hp} {Γ : List Slot} {e a b c o tg : Expr} {pos : Pos} {st : Stmt} {stmts : List Stmt}
/-! ### texts' order -/
/-! ### a text in a text -/
def sIn (x y : Str) : Bool := !(Builtin.Str.occurrences y x 0 y.length 1).isEmpty
/-! ### tuples of items of one type -/
structure Tl (α : Type) where
  l : List α
  deriving DecidableEq
instance instPyTl {α : Type} [Py α] : Py (Tl α) := tupPy (fun K R vs a => AllR K R vs a.l) fun e h => h.mono e
instance {α : Type} [Py α] : Flat (Tl α) := ⟨fun h => h⟩
/-- a tuple of texts written at the top -/
def WTup (K : PySem.W.Frag) (mg : Str → Option Value) (x : Str) (l : List Str) : Prop := ∃ p, mg x = some (.ref p) ∧ ∀ H : Hp, SqT K H p (l.map V.str)
/-! ### an item in a list, a tuple -/
def rInQ (X : Cx) (op : CmpOp) : R2 := fun x y H Q => ∃ k, (∀ pins s σ, Inv X pins σ H s → ∀ v u, RelV x v → RelV y u → ∀ Q' : Value → Shared → Prop, Q' (.bool k) s → wpAny (model X.prog X.w) X.A (compareOp op v u) Q' X.xe s) ∧ Q (.bl k) H
section
variable {α : Type} [Py α] [Dq α]
noncomputable def isQ (K : PySem.W.Frag) (H : Hp) (x : α) (u : Value) : Bool := dec (∃ v a, RelV v u ∧ rep K H v a ∧ a = x)
variable {pins : List (Addr × Obj)} {σ : L2.St} {H : Hp} {s : Shared}
variable [DecidableEq α]
variable {ma : Option α} {x : α}
end
/-! ### sorted -/
class Dh (α : Type) [Py α] [DecidableEq α] [PySem.W.Datum α] where
  hd : ∀ {X : Cx} {pins : List (Addr × Obj)} {σ : L2.St} {H : Hp} {s : Shared}, Inv X pins σ H s → ∀ {v : V} {u : Value} {a : α}, RelV v u → rep X.K H v a → PySem.W.Holds s.heap u a
class Dso (α : Type) [DecidableEq α] [PySem.W.Datum α] where
  so : (∀ b : α, ∃ x r, PySem.W.Datum.toD b = .tuple (x :: r)) ∨ ∀ b : α, PySem.W.Datum.toD b ≠ .none ∧ ∀ xs, PySem.W.Datum.toD b ≠ .tuple xs
instance instDhInt : Dh Int := ⟨fun {X pins σ H s} _ {v u a} r h => by
  cases (show v = V.int a from h)
  obtain ⟨t, rfl⟩ := r
  exact PySem.W.holds_int a t⟩
instance instDhStr : Dh Str := ⟨fun {X pins σ H s} _ {v u a} r h => by
  cases (show v = V.str a from h)
  obtain ⟨t, rfl⟩ := r
  exact PySem.W.holds_str a t⟩
instance instDhBool : Dh Bool := ⟨fun {X pins σ H s} _ {v u a} r h => by
  cases (show v = V.bl a from h)
  cases (show u = .bool a from r)
  exact PySem.W.holds_bool a⟩
instance instDsoInt : Dso Int := ⟨.inr fun b => ⟨(fun e => by cases e), fun xs e => by cases e⟩⟩
instance instDsoStr : Dso Str := ⟨.inr fun b => ⟨(fun e => by cases e), fun xs e => by cases e⟩⟩
instance instDsoList {α : Type} [DecidableEq α] [PySem.W.Datum α] : Dso (List α) := ⟨.inr fun b => ⟨(fun e => by cases e), fun xs e => by cases e⟩⟩
theorem holdAll_of {α : Type} [Py α] [DecidableEq α] [PySem.W.Datum α] [Dh α] {pins : List (Addr × Obj)} {σ : L2.St} {H : Hp} {s : Shared} (I : Inv X pins σ H s) : ∀ {vs : List V} {us : List Value} {as : List α}, Vals vs us → AllR X.K H vs as → PySem.W.HoldAll s.heap us as
  | [], us, as, r, h => by
    cases r
    cases h
    exact PySem.W.HoldAll.nil
  | v :: vs, us, as, r, h => by
    cases r with
    | cons r1 t1 =>
      cases h with
      | cons p1 q1 => exact PySem.W.HoldAll.cons (Dh.hd I r1 p1) (holdAll_of I t1 q1)
instance instDhList {α : Type} [Py α] [DecidableEq α] [PySem.W.Datum α] [Dh α] : Dh (List α) := ⟨fun {X pins σ H s} I {v u a} r h => by
  obtain ⟨p, o, rfl, hp, vs, rfl, q1⟩ := h
  cases r
  obtain ⟨us, t1, l1, _⟩ := I.list (.inl hp)
  exact PySem.W.holds_list l1.isList (holdAll_of I t1 q1)⟩
instance instDh2 {α : Type} {β : Type} [Py α] [DecidableEq α] [PySem.W.Datum α] [Dh α] [Py β] [DecidableEq β] [PySem.W.Datum β] [Dh β] [Dq α] [Dq β] : Dh (α × β) := ⟨fun {X pins σ H s} I {v u a} r h => by
  obtain ⟨p, x0, x1, z0, z1, rfl, rfl, l, r0, r1, q0, q1⟩ := tup2_rd I r h
  cases a
  exact PySem.W.holds_pair l (Dh.hd I r0 q0) (Dh.hd I r1 q1)⟩
instance instDso2 {α : Type} {β : Type} [DecidableEq α] [PySem.W.Datum α] [DecidableEq β] [PySem.W.Datum β] : Dso (α × β) := ⟨.inl fun b => ⟨_, _, rfl⟩⟩
instance instDh3 {α : Type} {β : Type} {γ : Type} [Py α] [DecidableEq α] [PySem.W.Datum α] [Dh α] [Py β] [DecidableEq β] [PySem.W.Datum β] [Dh β] [Py γ] [DecidableEq γ] [PySem.W.Datum γ] [Dh γ] [Dq α] [Dq β] [Dq γ] : Dh (T3 α β γ) := ⟨fun {X pins σ H s} I {v u a} r h => by
  obtain ⟨p, x0, x1, x2, z0, z1, z2, rfl, rfl, l, r0, r1, r2, q0, q1, q2⟩ := tup3_rd I r h
  cases a
  exact PySem.W.holds_t3 l (Dh.hd I r0 q0) (Dh.hd I r1 q1) (Dh.hd I r2 q2)⟩
instance instDso3 {α : Type} {β : Type} {γ : Type} [DecidableEq α] [PySem.W.Datum α] [DecidableEq β] [PySem.W.Datum β] [DecidableEq γ] [PySem.W.Datum γ] : Dso (T3 α β γ) := ⟨.inl fun b => ⟨_, _, rfl⟩⟩
instance instDh4 {α : Type} {β : Type} {γ : Type} {δ : Type} [Py α] [DecidableEq α] [PySem.W.Datum α] [Dh α] [Py β] [DecidableEq β] [PySem.W.Datum β] [Dh β] [Py γ] [DecidableEq γ] [PySem.W.Datum γ] [Dh γ] [Py δ] [DecidableEq δ] [PySem.W.Datum δ] [Dh δ] [Dq α] [Dq β] [Dq γ] [Dq δ] : Dh (T4 α β γ δ) := ⟨fun {X pins σ H s} I {v u a} r h => by
  obtain ⟨p, x0, x1, x2, x3, z0, z1, z2, z3, rfl, rfl, l, r0, r1, r2, r3, q0, q1, q2, q3⟩ := tup4_rd I r h
  cases a
  exact PySem.W.holds_t4 l (Dh.hd I r0 q0) (Dh.hd I r1 q1) (Dh.hd I r2 q2) (Dh.hd I r3 q3)⟩
instance instDso4 {α : Type} {β : Type} {γ : Type} {δ : Type} [DecidableEq α] [PySem.W.Datum α] [DecidableEq β] [PySem.W.Datum β] [DecidableEq γ] [PySem.W.Datum γ] [DecidableEq δ] [PySem.W.Datum δ] : Dso (T4 α β γ δ) := ⟨.inl fun b => ⟨_, _, rfl⟩⟩
section
variable {α : Type} [Py α] [DecidableEq α] [PySem.W.DatumOrd α] [Dh α] [Dso α]
/-- as sorted() orders -/
def srt (as : List α) : List α := as.mergeSort fun a b => !PySem.W.DatumOrd.lt b a
theorem rel_each {K : PySem.W.Frag} {H : Hp} : ∀ {us : List Value} {as : List α}, PySem.W.EachIs (fun u (a : α) => ∃ v, RelV v u ∧ rep K H v a) us as → ∃ vs, Vals vs us ∧ AllR K H vs as
  | [], as, h => by
    cases h
    exact ⟨[], .nil, .nil⟩
  | u :: us, as, h => by
    cases h with
    | cons p t =>
      obtain ⟨v, r, q⟩ := p
      obtain ⟨vs, r2, q2⟩ := rel_each t
      exact ⟨v :: vs, .cons r r2, .cons q q2⟩
def rSrt (X : Cx) (α : Type) [Py α] [DecidableEq α] [PySem.W.DatumOrd α] [Dh α] [Dso α] : List V → Hp → VK → Prop := fun ws H Q => ∃ (R : Hp) (l : V) (as : List α), ws = [l] ∧ Ex R H ∧ bor X.K R H l as ∧ as.length ≤ 16000000 ∧ ∀ p vs, H p = none → AllR X.K R vs (srt as) → Q (.ref p) (upd H p (.lst vs))
end

/-! ### texts' methods -/
theorem jn_never {β : Type} {out : β → Out} : JN X R0 H0 Γ stmts (none : Option β) out := .mk fun σ R H S b eb D n q => by cases eb
def sStrip (x y : Str) : Option Str := if x.length ≤ 16000000 then some (Txt.stripChars x y) else none
def sPart (x y : Str) : Option (T3 Str Str Str) := if (y.length == 0) = false ∧ x.length ≤ 16000000 then some ⟨(Txt.partition x y).1, (Txt.partition x y).2.1, (Txt.partition x y).2.2⟩ else none
def sUp (x : Str) : Option Str := if x.length ≤ 5000000 then some (Txt.upper x) else none
def sLow (x : Str) : Option Str := if x.length ≤ 5000000 then some (Txt.lower x) else none
/-! ### powers, chains -/
theorem je_powc {x y z : Int} {j j2 : Nat} {p1 p2 : Pos} (h : x ^ y.toNat = z := by decide +kernel) (hc : CPow x y := by exact ⟨by decide, by decide, by decide⟩) : JE X R0 H0 Γ (.BinOp (.Constant (.int x) j p1) .Pow (.Constant (.int y) j2 p2) pos) (some z) := .mk fun σ R H S w ew Q q => by
  cases ew
  refine PE_to (pe_op op_pow pe_int pe_int) ?_
  exact ⟨x, y, rfl, rfl, hc, by show Q (.int (x ^ y.toNat)) H; rw [h]; exact q _ R H (.refl S.i) rfl⟩
theorem je_modp_t {x z : Int} (ha : JB X R0 H0 Γ a (some x)) (hb : JB X R0 H0 Γ b (some z)) (hc : 0 < z := by decide) : JE X R0 H0 Γ (.BinOp a .Mod b pos) (some (x % z)) := (je_mod_t ha hb).eq (if_pos hc)
/-! ### the lesser, the greater of two texts -/
def smin (x y : Str) : Str := if sLt y x = true then y else x
def smax (x y : Str) : Str := if sLt x y = true then y else x
def strAt (xs : Array Value) (i : Nat) : Str := match xs.getD i .none with
  | .str x _ => x
  | _ => ⟨#[]⟩
section
variable {prog : Program} {w : World} {A : Around} {E : Value → Shared → Prop} {s : Shared}
end
end
end FK

namespace FK
open PySem PySem.Spec PyProof.Rows L2
theorem sqt_ex {K : PySem.W.Frag} {H H' : Hp} {p : Addr} {xs : List V} (e : Ex H H') (h : SqT K H p xs) : SqT K H' p xs := h.elim (fun z => .inl (rd_ex e z)) .inr
section
variable {X : Cx} {R0 H0 : Hp} {Γ : List Slot} {e a b c o tg : Expr} {pos : Pos} {st : Stmt} {stmts : List Stmt}
section
variable {α : Type} [Py α] [DecidableEq α] [PySem.W.DatumOrd α] [Dh α] [Dso α] [Dq α]
def sSort (x : List α) : Option (List α) := if x.length ≤ 16000000 then some (srt x) else none
end
/-! ### how many items a tuple has -/
/-! ### a range by steps -/
def rangek (i j c : Int) : Option (List Int) := if c ≠ 0 ∧ c.natAbs < 1073741824 ∧ Builtin.Range.small i j c = true ∧ 0 ≤ Builtin.Range.rangeSize i j c then some ((List.range (Builtin.Range.rangeSize i j c).toNat).map fun (k : Nat) => i + k * c) else none
/-! ### a sign between two -/
theorem ty_tup {K : PySem.W.Frag} {H : Hp} {p : Addr} {vs : List V} (h : SqT K H p vs) : TyX K H (.ref p) (.type "tuple") := by
  rcases h with (hp | ⟨ob, hp⟩) | ⟨ob, its, n, hp, hc, _⟩
  · exact .base (.tup hp)
  · exact .fTuple hp
  · exact .kTuple hp hc
instance {α β : Type} [Py α] [Py β] : Ty (α × β) := ⟨"tuple", fun {K R H v a} i h => by
  obtain ⟨p, vs, rfl, hp, _⟩ := h
  exact ty_tup (sqt_ex i (dsq hp))⟩
instance {α β γ : Type} [Py α] [Py β] [Py γ] : Ty (T3 α β γ) := ⟨"tuple", fun {K R H v a} i h => by
  obtain ⟨p, vs, rfl, hp, _⟩ := h
  exact ty_tup (sqt_ex i (dsq hp))⟩
instance {α β γ δ : Type} [Py α] [Py β] [Py γ] [Py δ] : Ty (T4 α β γ δ) := ⟨"tuple", fun {K R H v a} i h => by
  obtain ⟨p, vs, rfl, hp, _⟩ := h
  exact ty_tup (sqt_ex i (dsq hp))⟩
/-! ### a tuple walked -/
end
end FK

/-! list(reversed(xs)): a new list -/
namespace FK
open PySem PySem.Spec PyProof.Rows
section
variable {prog : Program} {w : World} {A : Around} {E : Value → Shared → Prop} {s : Shared}
theorem extend_rev {R : Result → Shared → Prop} {it l : Addr} {items : Array Value} (hh : A.handled = none) (hit : s.heap.IsRevIter it l ((items.size : Int) - 1)) (hl : s.heap.IsList l items) (hne : l ≠ it) (hn : items.size ≤ sizeLine)
    (S : Addr) (res : Value) (c₀ : Nat) (hS : s.heap.get? S = some { cls := .type "list", data := .seq #[] c₀ }) (hSi : S ≠ it) (hSl : S ≠ l)
    (hR : ∀ h' tk acc' c', (∀ b o, b ≠ S → b ≠ it → s.heap.get? b = some o → h'.get? b = some o) → h'.get? S = some { cls := .type "list", dict := none, data := .seq acc' c', slots := #[] } →
      ItemsOf (fun i v => items[items.size - 1 - i]? = some v) acc' items.size → R (.ok (.ret res)) { s with heap := h', toks := tk }) :
    wpAny (model prog w) A.in1 (Builtin.List.listExtendWith (.ref S) (.ref it) res)
      (fun fin s' => match fin with | .done f => R (.ok f) s' | .again c' => c'.quiet = true ∧ codeAny (model prog w) A c' R s') (fun e s' => R (.error e) s') s := by
  have W := (Walks.listRev (prog := prog) (w := w) (A := A.in1) hh it l hne items).toS
  have hSf : S ∉ [it, l] := by simp only [List.mem_cons, List.not_mem_nil, or_false, not_or]; exact ⟨hSi, hSl⟩
  have hT : s.TypeIs (.ref it) "list_reverseiterator" := hit.typeIs
  have h1 : Builtin.List.listSameRef (.ref S) (.ref it) = false := by simp [Builtin.List.listSameRef, hSi]
  unfold Builtin.List.listExtendWith
  refine wpAny_bind (wpAny_typeOf hT ?_)
  rw [if_neg (by rw [h1]; decide)]
  refine wpAny_bind (wpAny_pyIter_revIter hit ?_)
  refine wpAny_bind (wpAny_holding ?_)
  unfold Builtin.List.listLengthHint
  refine wpAny_bind (wpAny_specialOf hT RT.nolen_lri ?_)
  show wpAny _ A.in1 (specialOf (Value.ref it) (Str.ofString "__length_hint__") >>= _) _ _ _
  refine wpAny_bind (wpAny_specialOf hT RT.hint_lri ?_)
  generalize hid : ("list_reverseiterator.__length_hint__" : String) = id0
  wp_delta
  rw [show splitId id0 = some ("list_reverseiterator", "__length_hint__") from by subst hid; decide +kernel]
  subst hid
  refine wpAny_bind (wpAny_isInstance (b := true) hT (by rw [isSubtype_type]; kernel_rfl) ?_)
  refine wpAny_pure ?_
  rw [if_neg (by decide)]
  have e0 : ((items.size : Nat) : Int) - 1 - ((0 : Nat) : Int) = (items.size : Int) - 1 := by omega
  refine wpAny_pure ⟨plainId_quiet F.plain_extend_loop _, codeAny_extend_loopS W hn S hSf res items.size 0 _ #[] c₀ rfl (Nat.zero_le _) ⟨Nat.zero_le _, by rw [e0]; exact hit, hl⟩ hS (ItemsOf.nil _) fun s' acc' c' hm hS' hacc => ?_⟩
  rw [Moved.eq_with hm]
  refine hR s'.heap s'.toks acc' c' (fun b o hb hb2 e => hm.heap b o (fun hmem => ?_) e) hS' hacc
  rcases List.mem_cons.mp hmem with e' | hmem
  · exact hb e'
  · exact hb2 (List.mem_singleton.mp hmem)
theorem list_init_rev {R : Result → Shared → Prop} {it l : Addr} {items : Array Value} (hh : A.handled = none) (hit : s.heap.IsRevIter it l ((items.size : Int) - 1)) (hl : s.heap.IsList l items) (hne : l ≠ it) (hn : items.size ≤ sizeLine)
    (S : Addr) (hS : s.heap.get? S = some { cls := .type "list", data := .seq #[] }) (hSi : S ≠ it) (hSl : S ≠ l)
    (hR : ∀ h' tk acc' c', (∀ b o, b ≠ S → b ≠ it → s.heap.get? b = some o → h'.get? b = some o) → h'.get? S = some { cls := .type "list", dict := none, data := .seq acc' c', slots := #[] } →
      ItemsOf (fun i v => items[items.size - 1 - i]? = some v) acc' items.size → R (.ok (.ret .none)) { s with heap := h', toks := tk }) :
    wpAny (model prog w) A.in1 (Builtin.«list.__init__» ⟨[.ref S, .ref it], []⟩)
      (fun fin s' => match fin with | .done f => R (.ok f) s' | .again c' => c'.quiet = true ∧ codeAny (model prog w) A c' R s') (fun e s' => R (.error e) s') s := by
  show wpAny _ _ (do let old ← Builtin.List.listItems (.ref S); Builtin.List.listUpdate (.ref S) (fun _ => #[]); letGo old.toList.reverse; Builtin.List.listExtendWith (.ref S) (.ref it) .none) _ _ s
  refine wpAny_bind ?_
  unfold Builtin.List.listItems
  refine wpAny_bind (wpAny_seqItems hS rfl (wpAny_pure ?_))
  show wpAny _ _ (updateSeq S (fun _ => #[]) >>= fun _ => letGo (#[] : Array Value).toList.reverse >>= fun _ => Builtin.List.listExtendWith (.ref S) (.ref it) .none) _ _ s
  refine wpAny_bind (wpAny_updateSeq hS rfl ?_)
  have hS₂ := Heap.get?_update_self (Obj.mapSeq (fun _ => (#[] : Array Value))) hS rfl
  have oth : ∀ b o, b ≠ S → s.heap.get? b = some o → (s.heap.update S (Obj.mapSeq (fun _ => (#[] : Array Value)))).get? b = some o :=
    fun b o hb e => (Heap.get?_update_other _ _ (Ne.symm hb)).trans e
  refine wpAny_bind (wpAny_letGo ?_)
  have hl2 : (s.heap.update S (Obj.mapSeq (fun _ => (#[] : Array Value)))).IsList l items := by
    obtain ⟨o, ho, r⟩ := hl
    exact ⟨o, oth l o (Ne.symm hSl) ho, r⟩
  refine extend_rev (s := { s with heap := s.heap.update S (Obj.mapSeq (fun _ => (#[] : Array Value))) }) hh (hit.at fun o e => oth it o (Ne.symm hSi) e) hl2 hne hn S .none _ hS₂ hSi hSl fun h' tk acc' c' hk hS' hacc => ?_
  exact hR h' tk acc' c' (fun b o hb hb2 e => hk b o hb hb2 (oth b o hb e)) hS' hacc
theorem call_list_rev {Q : Value → Shared → Prop} {it l : Addr} {items : Array Value} (hh : A.handled = none) (hit : s.heap.IsRevIter it l ((items.size : Int) - 1)) (hl : s.heap.IsList l items) (hne : l ≠ it) (hn : items.size ≤ sizeLine)
    (hQ : ∀ h' tk acc' c', (∀ b o, b ≠ it → s.heap.get? b = some o → h'.get? b = some o) →
      h'.get? s.heap.objs.size = some { cls := .type "list", dict := none, data := .seq acc' c', slots := #[] } → ItemsOf (fun i v => items[items.size - 1 - i]? = some v) acc' items.size → Q (.ref s.heap.objs.size) { s with heap := h', toks := tk }) :
    wpAny (model prog w) A (call (.type "list") [.ref it]) Q E s := by
  refine callType_codes (Q₁ := fun obj s₁ => obj = .ref s.heap.objs.size ∧ s₁ = { s with heap := s.heap.push { cls := .type "list", data := .seq #[] } }) F.called_list (F.typeCall_list_1 _) F.entry_list_init
    (code_list_new _ ⟨rfl, rfl⟩) fun obj s₁ h₁ => ?_
  obtain ⟨rfl, rfl⟩ := h₁
  have hS : (s.heap.push { cls := .type "list", data := .seq #[] }).get? s.heap.objs.size = some { cls := .type "list", data := .seq #[] } := Heap.get?_push_size _ rfl
  obtain ⟨oi, hoi, _⟩ := id hit
  obtain ⟨ol, hol, _⟩ := id hl
  refine ⟨⟨_, hS, rfl⟩, F.args_list_init_2 _ _, list_init_rev (A := A.in1) (s := { s with heap := s.heap.push { cls := .type "list", data := .seq #[] } }) hh (hit.at fun o e => Heap.get?_push_of_some _ e) (hl.push _) hne hn _ hS (Nat.ne_of_gt (Heap.lt_size hoi)) (Nat.ne_of_gt (Heap.lt_size hol)) fun h' tk acc' c' hk hS' hacc => ?_⟩
  exact ⟨rfl, hQ h' tk acc' c' (fun b o hb e => hk b o (Nat.ne_of_lt (Heap.lt_size e)) hb (Heap.get?_push_of_some _ e)) hS' hacc⟩
end
open L2
/-- list(reversed(x)), x a list -/
def tListRev (K : PySem.W.Frag) (te : TE) : TE := fun σ H Q => te σ H fun v H1 => ∃ (a : Addr) (xs : List V), v = .ref a ∧ SqL K H1 a xs ∧ ∀ q, H1 q = none → Q (.ref q) (upd H1 q (.lst xs.reverse))
section
variable {X : Cx} {R0 H0 : Hp} {Γ : List Slot} {e : Expr}
theorem pe_listRev {te : TE} {p p2 pos pos2 : Pos} (hc : X.calm = true) (hg : Gl X "list") (hm : X.mg "list" = none) (hg2 : Gl X "reversed") (hm2 : X.mg "reversed" = none) (he : PE X e te)
    (hs : starEach [e] X.env = (false, eval e X.env) :: starEach [] X.env := by rfl)
    (hs2 : starEach [.Call (.Name "reversed" p2) [e] [] pos2] X.env = (false, eval (.Call (.Name "reversed" p2) [e] [] pos2) X.env) :: starEach [] X.env := by rfl) :
    PE X (.Call (.Name "list" p) [.Call (.Name "reversed" p2) [e] [] pos2] [] pos) (tListRev X.K te) := by
  refine ⟨fun pins s σ H Q I h => ?_⟩
  refine Call_ (ld_blt I hg hm (show bootBuiltins "list" = some (.type "list") by decide +kernel) (PyProof.Rows.callWith_type1 (args_cons (Call_ (ld_blt I hg2 hm2 PyProof.Rows.boot_reversed (PyProof.Rows.callWith_type1 (args_cons (thn (he.run pins s σ H _ I h) fun u s1 ⟨v, H1, I1, r1, q1⟩ => args_nil ?_) hs) hs rfl))) hs2) hs2 rfl))
  obtain ⟨a, xs, ev, hq, q⟩ := q1
  subst ev
  obtain rfl : u = Value.ref a := r1
  obtain ⟨its, rv, p', hz⟩ := I1.list hq
  refine call_reversed_list p'.isList (args_nil ?_)
  have k0 : ∀ b o, s1.heap.get? b = some o → (s1.heap.push (revObj a ((its.toArray.size : Int) - 1))).get? b = some o := fun b o e => Heap.get?_push_of_some _ e
  have I2 : Inv X pins σ H1 { s1 with heap := s1.heap.push (revObj a ((its.toArray.size : Int) - 1)) } := I1.kept (t' := s1.toks) k0
  obtain ⟨f0, f1, f2, f3, f4, f5⟩ := I1.fpOk (H' := H1) (b := s1.heap.objs.size) (Nat.le_refl _) (I1.hok.fresh (Nat.le_refl _))
  have hl := p'.isList
  obtain ⟨ol, hol, _⟩ := id hl
  have hne : a ≠ s1.heap.objs.size := Nat.ne_of_lt (Heap.lt_size hol)
  have hn : its.toArray.size ≤ sizeLine := by rw [List.size_toArray, ← rv.length]; exact hz
  have hsz2 : (s1.heap.push (revObj a ((its.toArray.size : Int) - 1))).objs.size = s1.heap.objs.size + 1 := Heap.size_push ..
  refine call_list_rev (s := { s1 with heap := s1.heap.push (revObj a ((its.toArray.size : Int) - 1)) }) (I1.ok.hd hc) ⟨_, Heap.get?_push_size _ rfl, rfl, rfl⟩ (hl.push _) hne hn fun h' tk acc c' hk hS' hi => ?_
  have kk : ∀ b o, s1.heap.get? b = some o → h'.get? b = some o := fun b o e => hk b o (Nat.ne_of_lt (Heap.lt_size e)) (Heap.get?_push_of_some _ e)
  have hS2 : h'.get? (s1.heap.objs.size + 1) = some { cls := .type "list", dict := none, data := .seq acc c', slots := #[] } := by rw [← hsz2]; exact hS'
  have hfr : H1 (s1.heap.objs.size + 1) = none := I1.hok.fresh (Nat.le_succ _)
  have eS : (s1.heap.push (revObj a ((its.toArray.size : Int) - 1))).objs.size = s1.heap.objs.size + 1 := hsz2
  show ∃ x H', _
  refine ⟨.ref (s1.heap.objs.size + 1), upd H1 (s1.heap.objs.size + 1) (.lst xs.reverse), I1.laid (t' := tk) kk (Nat.le_succ _) ⟨by rw [List.length_reverse]; exact hz, acc.toList, c', RT.vals_rev rv hi, hS2⟩, ?_, q _ hfr⟩
  show Value.ref _ = Value.ref _
  exact congrArg Value.ref eS
theorem jo_lrev {α : Type} [Py α] {p p2 pos pos2 : Pos} {m : Option (List α)} (hm : X.mg "list" = none) (hm2 : X.mg "reversed" = none) (h : JB X R0 H0 Γ e m) (hc : X.calm = true := by rfl) (hg : Gl X "list" := by rfl) (hg2 : Gl X "reversed" := by rfl) (hs : starEach [e] X.env = (false, eval e X.env) :: starEach [] X.env := by rfl)
    (hs2 : starEach [.Call (.Name "reversed" p2) [e] [] pos2] X.env = (false, eval (.Call (.Name "reversed" p2) [e] [] pos2) X.env) :: starEach [] X.env := by rfl) :
    JO X R0 H0 Γ (.Call (.Name "list" p) [.Call (.Name "reversed" p2) [e] [] pos2] [] pos) (m.bind fun x => some x.reverse) := .mk fun σ R H S z ez Q q => by
  obtain ⟨x, ex, ez⟩ := bind_some' ez
  cases ez
  refine PE_to (pe_listRev hc hg hm hg2 hm2 eS hs hs2) (h σ R H S x ex _ fun v R1 H1 x1 r1 => ?_)
  obtain ⟨a, o, rfl, hp, vs, rfl, hv⟩ := r1
  exact ⟨a, vs, rfl, .inl hp, fun d hd => q d _ R1 _ (x1.trans (.own x1.i hd)) (x1.h.none hd) upd_same (x1.i.none hd) ⟨_, rfl, hv.rev⟩⟩
theorem jo_lrev_t {α : Type} [Py α] {p p2 pos pos2 : Pos} {x : List α} (hm : X.mg "list" = none) (hm2 : X.mg "reversed" = none) (h : JB X R0 H0 Γ e (some x)) (hc : X.calm = true := by rfl) (hg : Gl X "list" := by rfl) (hg2 : Gl X "reversed" := by rfl) (hs : starEach [e] X.env = (false, eval e X.env) :: starEach [] X.env := by rfl)
    (hs2 : starEach [.Call (.Name "reversed" p2) [e] [] pos2] X.env = (false, eval (.Call (.Name "reversed" p2) [e] [] pos2) X.env) :: starEach [] X.env := by rfl) :
    JO X R0 H0 Γ (.Call (.Name "list" p) [.Call (.Name "reversed" p2) [e] [] pos2] [] pos) (some x.reverse) := jo_lrev hm hm2 h hc hg hg2 hs hs2
section
variable {a b : Expr} {pos : Pos}
end
end
instance {α : Type} [Py α] : Ty (Tl α) := ⟨"tuple", fun {K R H v a} i h => by
  obtain ⟨p, vs, rfl, hp, _⟩ := h
  exact ty_tup (sqt_ex i hp)⟩
end FK

/-! dicts of one's own, the keys ints or texts -/
namespace FK
open PySem PySem.Spec PyProof.Rows L2
/-- in, for pairs -/
def lMem {α : Type} [DecidableEq α] (x : α) (y : List α) : Bool := decide (x ∈ y)
structure Dct (κ α : Type) where
  l : List (κ × α)
class Kq (κ : Type) [Py κ] [DecidableEq κ] where
  key : κ → L2.Key
  inj : ∀ {a b : κ}, key a = key b → a = b
  bv : ∀ {K : PySem.W.Frag} {R H : Hp} {v : V} {a : κ}, bor K R H v a → v = kV (key a)
  vr : ∀ {K : PySem.W.Frag} {R : Hp} (a : κ), rep K R (kV (key a)) a
instance instKqInt : Kq Int := ⟨Sum.inl, fun h => Sum.inl.inj h, fun h => h, fun _ => rfl⟩
instance instKqStr : Kq Str := ⟨Sum.inr, fun h => Sum.inr.inj h, fun h => h, fun _ => rfl⟩
section
variable {κ α : Type} [Py κ] [DecidableEq κ] [Kq κ] [Py α]
inductive DR (K : PySem.W.Frag) (R : Hp) : List (L2.Key × V) → List (κ × α) → Prop
  | nil : DR K R [] []
  | cons {k : κ} {v : V} {a : α} {vs : List (L2.Key × V)} {l : List (κ × α)} : rep K R v a → DR K R vs l → DR K R ((Kq.key k, v) :: vs) ((k, a) :: l)
theorem DR.mono {K : PySem.W.Frag} {R R' : Hp} (e : Ex R R') : ∀ {vs : List (L2.Key × V)} {l : List (κ × α)}, DR K R vs l → DR K R' vs l
  | _, _, .nil => .nil
  | _, _, .cons h t => .cons (Py.mono e h) (t.mono e)
theorem DR.len {K : PySem.W.Frag} {R : Hp} : ∀ {vs : List (L2.Key × V)} {l : List (κ × α)}, DR K R vs l → vs.length = l.length
  | _, _, .nil => rfl
  | _, _, .cons _ t => congrArg (· + 1) t.len
instance instObDct : Ob (Dct κ α) where
  nt := fun ⟨_, h, _⟩ => by rw [h]; rfl
  ho := fun K R o d => ∃ kvs, o = .dK kvs ∧ DR K R kvs d.l
  mono := fun e ⟨kvs, h, q⟩ => ⟨kvs, h, q.mono e⟩
def dGet (l : List (κ × α)) (k : κ) : Option α := (l.find? fun p => decide (p.1 = k)).map (·.2)
def dHas (l : List (κ × α)) (k : κ) : Bool := (dGet l k).isSome
def dPut (l : List (κ × α)) (k : κ) (a : α) : List (κ × α) := if (l.any fun p => decide (p.1 = k)) = true then l.map (fun p => if p.1 = k then (p.1, a) else p) else l ++ [(k, a)]
theorem key_dec (a b : κ) : decide (Kq.key a = Kq.key b) = decide (a = b) := by
  by_cases h : a = b
  · rw [decide_eq_true h, decide_eq_true (by rw [h])]
  · rw [decide_eq_false h, decide_eq_false fun z => h (Kq.inj z)]
theorem DR.get {K : PySem.W.Frag} {R : Hp} (k : κ) : ∀ {vs : List (L2.Key × V)} {l : List (κ × α)}, DR K R vs l → (dGet l k = none ∧ valV vs (Kq.key k) = none) ∨ ∃ a v, dGet l k = some a ∧ valV vs (Kq.key k) = some v ∧ rep K R v a
  | _, _, .nil => .inl ⟨rfl, rfl⟩
  | _, _, .cons (k := k') (v := v) (a := a) (vs := vs) (l := l) h t => by
    by_cases e : k' = k
    · subst e
      refine .inr ⟨a, v, ?_, ?_, h⟩
      · unfold dGet
        rw [List.find?_cons, decide_eq_true rfl]
        rfl
      · exact valV_pos rfl
    · have e2 : ¬ Kq.key k' = Kq.key k := fun z => e (Kq.inj z)
      have g1 : dGet ((k', a) :: l) k = dGet l k := by
        unfold dGet
        rw [List.find?_cons, decide_eq_false e]
      rw [g1, valV_neg (p := (Kq.key k', v)) e2]
      exact t.get k
theorem DR.any {K : PySem.W.Frag} {R : Hp} (k : κ) : ∀ {vs : List (L2.Key × V)} {l : List (κ × α)}, DR K R vs l → (vs.any fun p => decide (p.1 = Kq.key k)) = l.any fun p => decide (p.1 = k)
  | _, _, .nil => rfl
  | _, _, .cons (k := k') h t => by
    rw [List.any_cons, List.any_cons, t.any k]
    show (decide (Kq.key k' = Kq.key k) || _) = _
    rw [key_dec]
theorem DR.repl {K : PySem.W.Frag} {R : Hp} (k : κ) {v : V} {a : α} (r : rep K R v a) : ∀ {vs : List (L2.Key × V)} {l : List (κ × α)}, DR K R vs l → DR K R (vs.map fun p => if p.1 = Kq.key k then (p.1, v) else p) (l.map fun p => if p.1 = k then (p.1, a) else p)
  | _, _, .nil => .nil
  | _, _, .cons (k := k') h t => by
    rw [List.map_cons, List.map_cons]
    by_cases e : k' = k
    · rw [if_pos (show Kq.key k' = Kq.key k by rw [e]), if_pos e]
      exact .cons r (t.repl k r)
    · rw [if_neg (show ¬ Kq.key k' = Kq.key k from fun z => e (Kq.inj z)), if_neg e]
      exact .cons h (t.repl k r)
theorem DR.snoc {K : PySem.W.Frag} {R : Hp} (k : κ) {v : V} {a : α} (r : rep K R v a) : ∀ {vs : List (L2.Key × V)} {l : List (κ × α)}, DR K R vs l → DR K R (vs ++ [(Kq.key k, v)]) (l ++ [(k, a)])
  | _, _, .nil => .cons r .nil
  | _, _, .cons h t => .cons h (t.snoc k r)
theorem DR.put {K : PySem.W.Frag} {R : Hp} (k : κ) {v : V} {a : α} (r : rep K R v a) {vs : List (L2.Key × V)} {l : List (κ × α)} (h : DR K R vs l) : DR K R (putK vs (Kq.key k) v) (dPut l k a) := by
  unfold putK dPut
  rw [h.any k]
  split
  · exact h.repl k r
  · exact h.snoc k r
theorem DR.keys {K : PySem.W.Frag} {R : Hp} : ∀ {vs : List (L2.Key × V)} {l : List (κ × α)}, DR K R vs l → AllR K R (vs.map fun p => kV p.1) (l.map (·.1))
  | _, _, .nil => .nil
  | _, _, .cons h t => .cons (Kq.vr _) t.keys
variable {X : Cx} {R0 H0 : Hp} {Γ : List Slot} {e a b o : Expr} {pos : Pos}
end
section
variable {κ α : Type} [Py κ] [DecidableEq κ] [Kq κ] [Py α] {X : Cx} {R0 H0 : Hp} {Γ : List Slot} {e a b o : Expr} {pos : Pos} {mo : Option (Dct κ α)} {mk : Option κ} {d : Dct κ α} {k : κ}
def dSet (d : Dct κ α) (k : κ) (a : α) : Option (Dct κ α) := if d.l.length < 16000000 then some ⟨dPut d.l k a⟩ else none
end
/-! ### l.index(x), x there -/
class Fv (α : Type) [Py α] [DecidableEq α] extends Sc α where
  fl : ∀ a : α, flatV (to a) = true
  ev : ∀ a b : α, eqV (to a) (to b) = decide (a = b)
  tr : ∀ {K : PySem.W.Frag} {R : Hp} {v : V} {a : α}, rep K R v a → v = to a
theorem evInt (a b : Int) : (a == b) = decide (a = b) := by
  by_cases h : a = b
  · rw [decide_eq_true h, beq_iff_eq]
    exact h
  · rw [decide_eq_false h]
    exact beq_eq_false_iff_ne.mpr h
theorem evStr (a b : Str) : (a == b) = decide (a = b) := by
  by_cases h : a = b
  · rw [decide_eq_true h, beq_iff_eq]
    exact h
  · rw [decide_eq_false h]
    exact beq_eq_false_iff_ne.mpr h
instance instFvInt : Fv Int := { instScInt with fl := fun _ => rfl, ev := evInt, tr := fun h => h }
instance instFvStr : Fv Str := { instScStr with fl := fun _ => rfl, ev := evStr, tr := fun h => h }
section
variable {α : Type} [Py α] [DecidableEq α] [Fv α] {X : Cx} {R0 H0 : Hp} {Γ : List Slot} {e o : Expr} {pos : Pos}
def lIdx (l : List α) (x : α) : Option Int := if x ∈ l then some (l.idxOf x : Int) else none
end
end FK

/-! a value or None -/
namespace FK
open PySem PySem.Spec PyProof.Rows L2
class Nn (α : Type) [Py α] : Prop where
  nn : ∀ {K : PySem.W.Frag} {R : Hp} {v : V} {a : α}, rep K R v a → v ≠ .non
instance : Nn Int := ⟨fun {K R v a} h e => by rw [e] at h; cases h⟩
instance : Nn Bool := ⟨fun {K R v a} h e => by rw [e] at h; cases h⟩
instance : Nn Str := ⟨fun {K R v a} h e => by rw [e] at h; cases h⟩
instance instNnOb {α : Type} [Ob α] : Nn α := ⟨fun {K R v a} h e => by obtain ⟨p, o, h, _⟩ := h; rw [e] at h; cases h⟩
instance {α β : Type} [Py α] [Py β] : Nn (α × β) := ⟨fun {K R v a} h e => by obtain ⟨p, o, h, _⟩ := h; rw [e] at h; cases h⟩
instance {α β γ : Type} [Py α] [Py β] [Py γ] : Nn (T3 α β γ) := ⟨fun {K R v a} h e => by obtain ⟨p, o, h, _⟩ := h; rw [e] at h; cases h⟩
instance {α β γ δ : Type} [Py α] [Py β] [Py γ] [Py δ] : Nn (T4 α β γ δ) := ⟨fun {K R v a} h e => by obtain ⟨p, o, h, _⟩ := h; rw [e] at h; cases h⟩
instance instPyOpt {α : Type} [Py α] : Py (Option α) where
  rep := fun K R v o => match o with
    | none => v = .non
    | some a => Py.rep K R v a ∧ v ≠ .non
  bor := fun K R H v o => match o with
    | none => v = .non
    | some a => Py.bor K R H v a ∧ v ≠ .non
  mono := fun {K R R' v a} e h => match a, h with
    | none, h => h
    | some a, h => ⟨Py.mono e h.1, h.2⟩
  bmono := fun {K R R' H H' v a} e e2 h => match a, h with
    | none, h => h
    | some a, h => ⟨Py.bmono e e2 h.1, h.2⟩
  lend := fun {K R H v a} e h => match a, h with
    | none, h => h
    | some a, h => ⟨Py.lend e h.1, h.2⟩
section
variable {α : Type} [Py α] {X : Cx} {R0 H0 : Hp} {Γ : List Slot} {e : Expr} {pos p2 : Pos} {j : Nat} {m : Option α} {mo : Option (Option α)} {o : Option α}
end
end FK

/-! text times a number -/
namespace FK
open PySem PySem.Spec PyProof.Rows L2
def sMul (x : Str) (n : Int) : Option Str := if x.length ≤ 4000 ∧ n ≤ 4000 ∧ -(2 ^ 63 : Int) ≤ n then some (Txt.mul x n) else none
section
variable {X : Cx} {R0 H0 : Hp} {Γ : List Slot} {a b : Expr} {pos : Pos}
end
end FK
namespace FK
open PySem PySem.Spec PyProof.Rows L2
theorem str_ext {a b : Str} (h : a.cps.toList = b.cps.toList) : a = b := by
  cases a; cases b
  exact congrArg _ (Array.toList_inj.mp h)
end FK
namespace FK
open PySem PySem.Spec PyProof.Rows L2
theorem DR.strs {K : PySem.W.Frag} {R : Hp} {α : Type} [Py α] : ∀ {vs : List (L2.Key × V)} {l : List (Str × α)}, DR K R vs l → vs.map (·.1) = (l.map (·.1)).map Sum.inr
  | _, _, .nil => rfl
  | _, _, .cons (k := k) h t => congrArg (Sum.inr k :: ·) t.strs
section
variable {α : Type} [Py α] {X : Cx} {R0 H0 : Hp} {Γ : List Slot} {e a b o : Expr} {pos : Pos} {d : Dct Str α}
end
end FK

namespace FK
open PySem PySem.Spec PyProof.Rows L2
/-! ### small questions asked of keys -/
section
variable {P : Program} {w : World}
def NoCls (P : Program) (w : World) (n : Nat) (s : Shared) (v : Value) : Prop := ∀ (A : Around) (E : Value → Shared → Prop) (Q : Bool → Shared → Prop), Q false s → wpAny (model P w) A (ofAClassStatement n v) Q E s
def AnyHb (P : Program) (w : World) (n : Nat) (s : Shared) (v : Value) : Prop := ∀ (A : Around) (E : Value → Shared → Prop) (Q : Bool → Shared → Prop), (∀ b, Q b s) → wpAny (model P w) A (hashByValue n v) Q E s
theorem NoCls.flat {n : Nat} {s : Shared} {v : Value} (e : ofAClassStatement n v = pure false) : NoCls P w n s v := fun A E Q q => by
  rw [e]
  exact wpAny_pure q
theorem AnyHb.flat {n : Nat} {s : Shared} {v : Value} {b : Bool} (e : hashByValue n v = pure b) : AnyHb P w n s v := fun A E Q q => by
  rw [e]
  exact wpAny_pure (q b)
theorem NoCls.tup {n m : Nat} {s : Shared} {d : Addr} {o : Obj} {xs : Array Value} (g : s.heap.get? d = some o) (gc : o.cls = .type "tuple") (gd : o.data = .seq xs m) (all : ∀ v ∈ xs.toList, NoCls P w n s v) : NoCls P w (n + 1) s (.ref d) := fun A E Q q => by
  have ty : s.TypeIs (.ref d) "tuple" := ⟨o, g, gc⟩
  unfold ofAClassStatement
  refine wpAny_bind (wpAny_typeOf ty ?_)
  dsimp only
  have e1 : (("tuple" : String) == "tuple") = true := rfl
  simp only [e1, if_true, Bool.not_true, Bool.false_eq_true, if_false]
  first | (refine wpAny_bind (wpAny_pure ?_); simp only [Bool.not_true, Bool.false_eq_true, if_false]) | skip
  refine wpAny_bind (m := seqItems? (.ref d)) (wpAny_seqItems g gd ?_)
  dsimp only
  refine wpAny_bind (m := forIn xs _ _) ?_
  rw [← Array.forIn_toList]
  refine wpAny_forIn_list _ (fun r b z => b.1 = none ∧ z = s ∧ ∀ v ∈ r, NoCls P w n s v) _ (fun v r b z ⟨h1, h2, h3⟩ => ?_) (fun b z ⟨h1, h2, _⟩ => ?_) _ _ ⟨rfl, rfl, all⟩
  · subst h2
    refine wpAny_bind (h3 v List.mem_cons_self _ _ _ ?_)
    simp only [Bool.false_eq_true, if_false]
    exact wpAny_pure ⟨rfl, rfl, fun u hu => h3 u (List.mem_cons_of_mem _ hu)⟩
  · obtain ⟨b1, b2⟩ := b
    simp only at h1
    subst h1 h2
    exact wpAny_pure q
theorem AnyHb.tup {n m : Nat} {s : Shared} {d : Addr} {o : Obj} {xs : Array Value} (g : s.heap.get? d = some o) (gc : o.cls = .type "tuple") (gd : o.data = .seq xs m) (all : ∀ v ∈ xs.toList, AnyHb P w n s v) : AnyHb P w (n + 1) s (.ref d) := fun A E Q q => by
  have ty : s.TypeIs (.ref d) "tuple" := ⟨o, g, gc⟩
  unfold hashByValue
  refine wpAny_bind (wpAny_specialOf ty F.slot_tuple_hash.lookup ?_)
  refine wpAny_bind (m := seqItems? (.ref d)) (wpAny_seqItems g gd ?_)
  refine wpAny_bind (m := forIn xs _ _) ?_
  rw [← Array.forIn_toList]
  refine wpAny_forIn_list _ (fun r b z => b.1 = none ∧ z = s ∧ ∀ v ∈ r, AnyHb P w n s v) _ (fun v r b z ⟨h1, h2, h3⟩ => ?_) (fun b z ⟨h1, h2, _⟩ => ?_) _ _ ⟨rfl, rfl, all⟩
  · subst h2
    refine wpAny_bind (h3 v List.mem_cons_self _ _ _ fun b0 => ?_)
    cases b0 with
    | true =>
      simp only [Bool.not_true, Bool.false_eq_true, if_false]
      exact wpAny_pure ⟨rfl, rfl, fun u hu => h3 u (List.mem_cons_of_mem _ hu)⟩
    | false =>
      simp only [Bool.not_false, if_true]
      exact wpAny_pure (wpAny_pure (q false))
  · obtain ⟨b1, b2⟩ := b
    simp only at h1
    subst h1 h2
    exact wpAny_pure (q true)
theorem oac_int (n : Nat) (i : Int) (t : Tok) : ofAClassStatement n (.int i t) = pure false := by cases n <;> rfl
theorem oac_str (n : Nat) (i : Str) (t : Tok) : ofAClassStatement n (.str i t) = pure false := by cases n <;> rfl
theorem oac_bool (n : Nat) (b : Bool) : ofAClassStatement n (.bool b) = pure false := by cases n <;> rfl
theorem oac_none (n : Nat) : ofAClassStatement n .none = pure false := by cases n <;> rfl
theorem hbv_int (n : Nat) (i : Int) (t : Tok) : hashByValue n (.int i t) = pure true := by cases n <;> rfl
theorem hbv_str (n : Nat) (i : Str) (t : Tok) : hashByValue n (.str i t) = pure false := by cases n <;> rfl
theorem hbv_bool (n : Nat) (b : Bool) : hashByValue n (.bool b) = pure true := by cases n <;> rfl
theorem hbv_none (n : Nat) : hashByValue n .none = pure true := by cases n <;> rfl
mutual
theorem nocls_key : ∀ (k : NestedKey) (v : Value) (n : Nat) (s : Shared), NestedIs s.heap k v → k.depth ≤ n → NoCls P w n s v
  | .none, _, n, s, x, _ => by cases x; exact .flat (oac_none n)
  | .num i, _, n, s, x, _ => by
    cases x with
    | bool e => exact .flat (oac_bool n _)
    | int _ t => exact .flat (oac_int n i t)
  | .text y, _, n, s, x, _ => by cases x; exact .flat (oac_str n y _)
  | .tup ks, _, n, s, x, hn => by
    cases x with
    | tup h1 h2 h3 h4 =>
      simp only [NestedKey.depth] at hn
      cases n with
      | zero => omega
      | succ n => exact .tup h1 h2 h3 (nocls_keys ks _ n s h4 (by omega))
theorem nocls_keys : ∀ (ks : List NestedKey) (vs : List Value) (n : Nat) (s : Shared), NestedAll s.heap ks vs → NestedKey.depthAll ks ≤ n → ∀ v ∈ vs, NoCls P w n s v
  | [], _, n, s, x, _, v, hv => by cases x; cases hv
  | k :: ks, _, n, s, x, hn, v, hv => by
    cases x with
    | cons x1 x2 =>
      simp only [NestedKey.depthAll] at hn
      rcases List.mem_cons.mp hv with e | z
      · rw [e]
        exact nocls_key k _ n s x1 (by omega)
      · exact nocls_keys ks _ n s x2 (by omega) v z
end
mutual
theorem anyhb_key : ∀ (k : NestedKey) (v : Value) (n : Nat) (s : Shared), NestedIs s.heap k v → k.depth ≤ n → AnyHb P w n s v
  | .none, _, n, s, x, _ => by cases x; exact .flat (hbv_none n)
  | .num i, _, n, s, x, _ => by
    cases x with
    | bool e => exact .flat (hbv_bool n _)
    | int _ t => exact .flat (hbv_int n i t)
  | .text y, _, n, s, x, _ => by cases x; exact .flat (hbv_str n y _)
  | .tup ks, _, n, s, x, hn => by
    cases x with
    | tup h1 h2 h3 h4 =>
      simp only [NestedKey.depth] at hn
      cases n with
      | zero => omega
      | succ n => exact .tup h1 h2 h3 (anyhb_keys ks _ n s h4 (by omega))
theorem anyhb_keys : ∀ (ks : List NestedKey) (vs : List Value) (n : Nat) (s : Shared), NestedAll s.heap ks vs → NestedKey.depthAll ks ≤ n → ∀ v ∈ vs, AnyHb P w n s v
  | [], _, n, s, x, _, v, hv => by cases x; cases hv
  | k :: ks, _, n, s, x, hn, v, hv => by
    cases x with
    | cons x1 x2 =>
      simp only [NestedKey.depthAll] at hn
      rcases List.mem_cons.mp hv with e | z
      · rw [e]
        exact anyhb_key k _ n s x1 (by omega)
      · exact anyhb_keys ks _ n s x2 (by omega) v z
end
end
end FK

namespace FK
open PySem PySem.Spec PyProof.Rows L2
/-- the object at d is the key k -/
abbrev KeyAt (h : Heap) (k : NestedKey) (d : Addr) : Prop := NestedIs h k (.ref d) ∧ k.depth ≤ 8
theorem KeyAt.keep {h g : Heap} {k : NestedKey} {d : Addr} (x : KeyAt h k d) (e : ∀ b o, h.get? b = some o → g.get? b = some o) : KeyAt g k d :=
  ⟨NestedIs.at (fun b o _ _ hb _ => e b o hb) k _ x.1, x.2⟩
/-- .. while a set is changed -/
theorem KeyAt.but {h g : Heap} {k : NestedKey} {d c : Addr} {o : Obj} {xs : Array (Int × Value)} {n : Nat} {tb : SetTable} (x : KeyAt h k d) (ho : h.get? c = some o) (hd : o.data = .set xs n tb) (sb : Heap.SameBut c h g) : KeyAt g k d :=
  ⟨NestedIs.at (fun b u vs m hb hu => by
    refine (sb.2 b fun e => ?_).trans hb
    rw [e, ho] at hb
    cases hb
    rw [hd] at hu
    cases hu) k _ x.1, x.2⟩
section
variable {P : Program} {w : World}
/-- a set of keys at c -/
structure SetN (P : Program) (w : World) (h : Heap) (c : Addr) (M : List (Addr × NestedKey)) (xs : Array (Int × Value)) (n : Nat) (tb : SetTable) : Prop where
  obj : ∃ o, h.get? c = some o ∧ o.ExactSet ∧ o.data = .set xs n tb
  row : xs.toList = M.map fun p => (p.2.hash w, Value.ref p.1)
  tab : TabOk tb (M.map fun p => p.2.hash w)
  nd : (M.map (·.2)).Nodup
  key : ∀ p ∈ M, KeyAt h p.2 p.1
  led : w.params.followText "set-order" = true ∨ tb.led = true
  room : M.length * 5 < tb.mask * 3
variable {A : Around} {E : Value → Shared → Prop} {s : Shared} {c : Addr} {M : List (Addr × NestedKey)} {xs : Array (Int × Value)} {n : Nat} {tb : SetTable}
theorem sn_len {M : List (Addr × NestedKey)} {xs : Array (Int × Value)} (e : xs.toList = M.map fun p => (p.2.hash w, Value.ref p.1)) : xs.size = M.length := by
  have z : xs.toList.length = (M.map fun p => (p.2.hash w, Value.ref p.1)).length := congrArg _ e
  simpa using z
theorem SetN.fit (T : SetN P w s.heap c M xs n tb) : tb.fits xs.size = true := by
  have a1 : tb.place.size = M.length := by simpa using T.tab.sz
  have a2 := sn_len T.row
  have a3 := T.room
  have a4 : tb.dummies.size = 0 := by rw [T.tab.dm]; rfl
  simp only [SetTable.fits, SetTable.fill, Bool.and_eq_true, beq_iff_eq, decide_eq_true_eq]
  refine ⟨a1.trans a2.symm, decide_eq_true ?_⟩
  show tb.place.size + tb.dummies.size ≤ tb.mask
  rw [a4, a1]
  omega
abbrev wy (tb : SetTable) (h : Int) (i : Nat) : Nat := way tb.mask h i
abbrev p0 (tb : SetTable) (h : Int) : SetTable.Probe := runAt tb.mask (SetTable.bits h % (tb.mask + 1)) (SetTable.bits h)
end
end FK

namespace FK
open PySem PySem.Spec PyProof.Rows L2
section
variable {P : Program} {w : World} {A : Around} {E : Value → Shared → Prop} {s : Shared} {c : Addr} {M : List (Addr × NestedKey)} {xs : Array (Int × Value)} {n : Nat} {tb : SetTable}
abbrev rw0 (w : World) (p : Addr × NestedKey) : Int × Value := (p.2.hash w, Value.ref p.1)
end
end FK

namespace FK
open PySem PySem.Spec PyProof.Rows L2
theorem nodup_le {α : Type} [DecidableEq α] : ∀ (l r : List α), l.Nodup → (∀ x ∈ l, x ∈ r) → l.length ≤ r.length
  | [], _, _, _ => Nat.zero_le _
  | x :: l, r, nd, sub => by
    obtain ⟨a1, a2⟩ := List.nodup_cons.mp nd
    have hx : x ∈ r := sub x List.mem_cons_self
    have ih := nodup_le l (r.erase x) a2 fun y hy => (List.mem_erase_of_ne (fun e : y = x => a1 (by rw [← e]; exact hy))).2 (sub y (List.mem_cons_of_mem _ hy))
    have e := List.length_erase_of_mem hx
    have p := List.length_pos_of_mem hx
    simp only [List.length_cons]
    omega
/-- M has what the first i of ks have -/
structure Had (ks : List (Addr × NestedKey)) (i : Nat) (M : List (Addr × NestedKey)) : Prop where
  sub : ∀ p ∈ M, p ∈ ks.take i
  all : ∀ p ∈ ks.take i, p.2 ∈ M.map (·.2)
theorem Had.zero (ks : List (Addr × NestedKey)) : Had ks 0 [] := ⟨fun _ z => (by cases z), fun _ z => (by simp at z)⟩
theorem take_one {α : Type} {l : List α} {i : Nat} {x : α} (e : l[i]? = some x) : l.take (i + 1) = l.take i ++ [x] := by
  rw [List.take_succ, e]
  rfl
theorem Had.old {ks M : List (Addr × NestedKey)} {i : Nat} {x : Addr × NestedKey} (g : Had ks i M) (e : ks[i]? = some x) (hm : x.2 ∈ M.map (·.2)) : Had ks (i + 1) M := by
  constructor
  · intro p hp
    rw [take_one e]
    exact List.mem_append.mpr (.inl (g.sub p hp))
  · intro p hp
    rw [take_one e] at hp
    rcases List.mem_append.mp hp with z | z
    · exact g.all p z
    · cases List.mem_singleton.mp z
      exact hm
theorem Had.new {ks M N : List (Addr × NestedKey)} {i : Nat} {x : Addr × NestedKey} (g : Had ks i M) (e : ks[i]? = some x) (pm : N.Perm (x :: M)) : Had ks (i + 1) N := by
  constructor
  · intro p hp
    rw [take_one e]
    rcases List.mem_cons.mp (pm.mem_iff.mp hp) with z | z
    · exact List.mem_append.mpr (.inr (List.mem_singleton.mpr z))
    · exact List.mem_append.mpr (.inl (g.sub p z))
  · intro p hp
    rw [(pm.map (·.2)).mem_iff, List.map_cons]
    rw [take_one e] at hp
    rcases List.mem_append.mp hp with z | z
    · exact List.mem_cons.mpr (.inr (g.all p z))
    · cases List.mem_singleton.mp z
      exact List.mem_cons_self
section
variable {P : Program} {w : World} {A : Around} {E : Value → Shared → Prop} {s : Shared}
abbrev emptySet (w : World) : Obj := { cls := .type "set", dict := none, data := .set #[] 0 (.fresh 0 0 (!w.params.followText "set-order")) }
theorem SetN.keep {h g : Heap} {c : Addr} {M : List (Addr × NestedKey)} {xs : Array (Int × Value)} {n : Nat} {tb : SetTable} (T : SetN P w h c M xs n tb) (e : ∀ o, h.get? c = some o → g.get? c = some o) (k : ∀ p ∈ M, KeyAt g p.2 p.1) : SetN P w g c M xs n tb := by
  obtain ⟨o, a1, a2⟩ := T.obj
  exact ⟨⟨o, e o a1, a2⟩, T.row, T.tab, T.nd, k, T.led, T.room⟩
/-- at most 76 unlike ones -/
def Few (ks : List (Addr × NestedKey)) : Prop := ∀ l : List NestedKey, l.Nodup → (∀ k ∈ l, k ∈ ks.map (·.2)) → l.length ≤ 76
end
end FK

namespace FK
open PySem PySem.Spec PyProof.Rows L2 PySem.W
/-! ### the order of data is one -/
class Lo (α : Type) [DecidableEq α] [DatumOrd α] : Prop where
  irr : ∀ a : α, DatumOrd.lt a a = false
  tr : ∀ {a b c : α}, DatumOrd.lt a b = true → DatumOrd.lt b c = true → DatumOrd.lt a c = true
  tri : ∀ {a b : α}, DatumOrd.lt a b = false → DatumOrd.lt b a = false → a = b
theorem Lo.asym {α : Type} [DecidableEq α] [DatumOrd α] [Lo α] {a b : α} (h : DatumOrd.lt a b = true) : DatumOrd.lt b a = false := by
  cases e : DatumOrd.lt b a with
  | false => rfl
  | true =>
    have z := Lo.tr h e
    rw [Lo.irr] at z
    cases z
instance instLoInt : Lo Int where
  irr a := by
    show decide (a < a) = false
    exact decide_eq_false (Int.lt_irrefl a)
  tr {a b c} h1 h2 := by
    have h1 : a < b := of_decide_eq_true h1
    have h2 : b < c := of_decide_eq_true h2
    exact decide_eq_true (Int.lt_trans h1 h2)
  tri {a b} h1 h2 := by
    have h1 : ¬ a < b := of_decide_eq_false h1
    have h2 : ¬ b < a := of_decide_eq_false h2
    omega
instance instLoStr : Lo Str where
  irr a := by
    show decide (a.cps.toList < a.cps.toList) = false
    exact decide_eq_false (List.lt_irrefl _)
  tr {a b c} h1 h2 := by
    have h1 : a.cps.toList < b.cps.toList := of_decide_eq_true h1
    have h2 : b.cps.toList < c.cps.toList := of_decide_eq_true h2
    exact decide_eq_true (List.lt_trans h1 h2)
  tri {a b} h1 h2 := by
    have h1 : ¬ a.cps.toList < b.cps.toList := of_decide_eq_false h1
    have h2 : ¬ b.cps.toList < a.cps.toList := of_decide_eq_false h2
    exact str_ext (List.le_antisymm (List.not_lt.mp h2) (List.not_lt.mp h1))
section
variable {α β γ δ : Type} [DecidableEq α] [DatumOrd α] [Lo α] [DecidableEq β] [DatumOrd β] [Lo β] [DecidableEq γ] [DatumOrd γ] [Lo γ] [DecidableEq δ] [DatumOrd δ] [Lo δ]
theorem lt2 (a b : α × β) : DatumOrd.lt a b = if a.1 = b.1 then DatumOrd.lt a.2 b.2 else DatumOrd.lt a.1 b.1 := rfl
instance instLo2 : Lo (α × β) where
  irr a := by rw [lt2, if_pos rfl, Lo.irr]
  tr {a b c} h1 h2 := by
    rw [lt2] at h1 h2 ⊢
    by_cases e1 : a.1 = b.1
    · rw [if_pos e1] at h1
      by_cases e2 : b.1 = c.1
      · rw [if_pos e2] at h2
        rw [if_pos (e1.trans e2)]
        exact Lo.tr h1 h2
      · rw [if_neg e2] at h2
        rw [if_neg (by rw [e1]; exact e2), e1]
        exact h2
    · rw [if_neg e1] at h1
      by_cases e2 : b.1 = c.1
      · rw [if_neg (by rw [← e2]; exact e1), ← e2]
        exact h1
      · rw [if_neg e2] at h2
        have h3 := Lo.tr h1 h2
        by_cases e3 : a.1 = c.1
        · rw [e3, Lo.irr] at h3
          cases h3
        · rw [if_neg e3]
          exact h3
  tri {a b} h1 h2 := by
    rw [lt2] at h1 h2
    by_cases e : a.1 = b.1
    · rw [if_pos e] at h1
      rw [if_pos e.symm] at h2
      exact Prod.ext e (Lo.tri h1 h2)
    · rw [if_neg e] at h1
      rw [if_neg (fun z => e z.symm)] at h2
      exact absurd (Lo.tri h1 h2) e
def t3p (x : T3 α β γ) : α × (β × γ) := (x.a, x.b, x.c)
theorem t3p_inj {x y : T3 α β γ} (h : t3p x = t3p y) : x = y := by
  cases x; cases y
  cases h
  rfl
theorem lt3_2 (a b : T3 α β γ) : DatumOrd.lt a b = DatumOrd.lt (t3p a) (t3p b) := rfl
instance instLo3 : Lo (T3 α β γ) where
  irr a := by rw [lt3_2, Lo.irr]
  tr {a b c} h1 h2 := by
    rw [lt3_2] at h1 h2 ⊢
    exact Lo.tr h1 h2
  tri {a b} h1 h2 := by
    rw [lt3_2] at h1 h2
    exact t3p_inj (Lo.tri h1 h2)
def t4p (x : T4 α β γ δ) : α × (β × (γ × δ)) := (x.a, x.b, x.c, x.d)
theorem t4p_inj {x y : T4 α β γ δ} (h : t4p x = t4p y) : x = y := by
  cases x; cases y
  cases h
  rfl
theorem lt4_2 (a b : T4 α β γ δ) : DatumOrd.lt a b = DatumOrd.lt (t4p a) (t4p b) := rfl
instance instLo4 : Lo (T4 α β γ δ) where
  irr a := by rw [lt4_2, Lo.irr]
  tr {a b c} h1 h2 := by
    rw [lt4_2] at h1 h2 ⊢
    exact Lo.tr h1 h2
  tri {a b} h1 h2 := by
    rw [lt4_2] at h1 h2
    exact t4p_inj (Lo.tri h1 h2)
theorem listLt_irr : ∀ l : List α, listLt l l = false
  | [] => rfl
  | x :: l => by
    rw [listLt, if_pos rfl]
    exact listLt_irr l
theorem listLt_tr : ∀ {a b c : List α}, listLt a b = true → listLt b c = true → listLt a c = true
  | [], [], _, h, _ => by cases h
  | [], _ :: _, [], _, h => by cases h
  | [], _ :: _, _ :: _, _, _ => rfl
  | _ :: _, [], _, h, _ => by cases h
  | _ :: _, _ :: _, [], _, h => by cases h
  | x :: a, y :: b, z :: c, h1, h2 => by
    rw [listLt] at h1 h2 ⊢
    by_cases e1 : x = y
    · rw [if_pos e1] at h1
      by_cases e2 : y = z
      · rw [if_pos e2] at h2
        rw [if_pos (e1.trans e2)]
        exact listLt_tr h1 h2
      · rw [if_neg e2] at h2
        rw [if_neg (by rw [e1]; exact e2), e1]
        exact h2
    · rw [if_neg e1] at h1
      by_cases e2 : y = z
      · rw [if_neg (by rw [← e2]; exact e1), ← e2]
        exact h1
      · rw [if_neg e2] at h2
        have h3 := Lo.tr h1 h2
        by_cases e3 : x = z
        · rw [e3, Lo.irr] at h3
          cases h3
        · rw [if_neg e3]
          exact h3
theorem listLt_tri : ∀ {a b : List α}, listLt a b = false → listLt b a = false → a = b
  | [], [], _, _ => rfl
  | [], _ :: _, h, _ => by cases h
  | _ :: _, [], _, h => by cases h
  | x :: a, y :: b, h1, h2 => by
    rw [listLt] at h1 h2
    by_cases e : x = y
    · rw [if_pos e] at h1
      rw [if_pos e.symm] at h2
      rw [e, listLt_tri h1 h2]
    · rw [if_neg e] at h1
      rw [if_neg (fun z => e z.symm)] at h2
      exact absurd (Lo.tri h1 h2) e
instance instLoList : Lo (List α) where
  irr := listLt_irr
  tr := listLt_tr
  tri := listLt_tri
/-! ### sorted lists -/
/-- ascending, equal ones side by side -/
abbrev Asc (l : List α) : Prop := l.Pairwise fun a b => DatumOrd.lt b a = false
/-- ascending, all unlike -/
abbrev Rising (l : List α) : Prop := l.Pairwise fun a b => DatumOrd.lt a b = true
theorem srt_pm (l : List α) : (srt l).Perm l := List.mergeSort_perm l _
theorem lo_le_tr {a b c : α} (h1 : DatumOrd.lt b a = false) (h2 : DatumOrd.lt c b = false) : DatumOrd.lt c a = false := by
  cases e : DatumOrd.lt c a with
  | false => rfl
  | true =>
    by_cases e1 : a = b
    · rw [e1] at e
      rw [e] at h2
      cases h2
    · have h3 : DatumOrd.lt a b = true := by
        cases e2 : DatumOrd.lt a b with
        | true => rfl
        | false => exact absurd (Lo.tri e2 h1) e1
      rw [Lo.tr e h3] at h2
      cases h2
theorem srt_asc (l : List α) : Asc (srt l) := by
  have h := List.pairwise_mergeSort (le := fun a b : α => !DatumOrd.lt b a) (fun a b c h1 h2 => ?_) (fun a b => ?_) l
  · exact h.imp fun z => by simpa using z
  · simp only [Bool.not_eq_true'] at h1 h2 ⊢
    exact lo_le_tr h1 h2
  · cases e : DatumOrd.lt b a with
    | false => rfl
    | true => simp [Lo.asym e]
theorem asc_uniq : ∀ {l r : List α}, l.Perm r → Asc l → Asc r → l = r
  | [], r, p, _, _ => by rw [List.nil_perm.mp p]
  | x :: l, [], p, _, _ => absurd p.length_eq (by simp)
  | x :: l, y :: r, p, h1, h2 => by
    obtain ⟨a1, a2⟩ := List.pairwise_cons.mp h1
    obtain ⟨b1, b2⟩ := List.pairwise_cons.mp h2
    have e : x = y := by
      have hx : x ∈ y :: r := p.mem_iff.mp List.mem_cons_self
      have hy : y ∈ x :: l := p.mem_iff.mpr List.mem_cons_self
      rcases List.mem_cons.mp hx with z | z
      · exact z
      · rcases List.mem_cons.mp hy with z2 | z2
        · exact z2.symm
        · exact Lo.tri (b1 x z) (a1 y z2)
    subst e
    rw [asc_uniq (List.Perm.cons_inv p) a2 b2]
theorem Rising.asc {l : List α} (h : Rising l) : Asc l := h.imp fun z => Lo.asym z
theorem Rising.nodup {l : List α} (h : Rising l) : l.Nodup := h.imp fun {a b} z e => by
  rw [e, Lo.irr] at z
  cases z
theorem srt_rising {l : List α} (h : l.Nodup) : Rising (srt l) := by
  have h2 : (srt l).Nodup := (srt_pm l).nodup_iff.mpr h
  refine List.Pairwise.imp_of_mem ?_ ((srt_asc l).and h2)
  intro a b _ _ ⟨h3, h4⟩
  cases e : DatumOrd.lt a b with
  | true => rfl
  | false => exact absurd (Lo.tri e h3) h4
theorem rising_ext {l r : List α} (h1 : Rising l) (h2 : Rising r) (e : ∀ x, x ∈ l ↔ x ∈ r) : l = r :=
  asc_uniq ((List.perm_ext_iff_of_nodup h1.nodup h2.nodup).mpr e) h1.asc h2.asc
theorem mem_srt' {l : List α} {x : α} : x ∈ srt l ↔ x ∈ l := (srt_pm l).mem_iff
end
/-! ### each once -/
section
variable {α : Type} [DecidableEq α]
def dd : List α → List α
  | [] => []
  | x :: l => if x ∈ l then dd l else x :: dd l
theorem mem_dd : ∀ {l : List α} {x : α}, x ∈ dd l ↔ x ∈ l
  | [], x => Iff.rfl
  | y :: l, x => by
    rw [dd]
    by_cases h : y ∈ l
    · rw [if_pos h, mem_dd, List.mem_cons]
      exact ⟨.inr, fun z => z.elim (fun e => e ▸ h) id⟩
    · rw [if_neg h, List.mem_cons, List.mem_cons, mem_dd]
theorem nodup_dd : ∀ l : List α, (dd l).Nodup
  | [] => List.nodup_nil
  | y :: l => by
    rw [dd]
    by_cases h : y ∈ l
    · rw [if_pos h]
      exact nodup_dd l
    · rw [if_neg h]
      exact List.nodup_cons.mpr ⟨fun z => h (mem_dd.mp z), nodup_dd l⟩
theorem dd_of_nodup : ∀ {l : List α}, l.Nodup → dd l = l
  | [], _ => rfl
  | y :: l, h => by
    obtain ⟨h1, h2⟩ := List.nodup_cons.mp h
    rw [dd, if_neg h1, dd_of_nodup h2]
theorem len_dd : ∀ l : List α, (dd l).length ≤ l.length
  | [] => Nat.le_refl _
  | y :: l => by
    rw [dd]
    have := len_dd l
    split <;> simp only [List.length_cons] <;> omega
theorem nodup_sub : ∀ (l r : List α), l.Nodup → (∀ x ∈ l, x ∈ r) → l.length ≤ r.length
  | [], _, _, _ => Nat.zero_le _
  | x :: l, r, nd, sub => by
    obtain ⟨a1, a2⟩ := List.nodup_cons.mp nd
    have hx : x ∈ r := sub x List.mem_cons_self
    have ih := nodup_sub l (r.erase x) a2 fun y hy => (List.mem_erase_of_ne (fun e : y = x => a1 (by rw [← e]; exact hy))).2 (sub y (List.mem_cons_of_mem _ hy))
    have e := List.length_erase_of_mem hx
    have p := List.length_pos_of_mem hx
    simp only [List.length_cons]
    omega
end
/-- sorted(set(xs)) -/
def tdy {α : Type} [DecidableEq α] [DatumOrd α] (l : List α) : Option (List α) := if (dd l).length ≤ 76 then some (srt (dd l)) else none
end FK

namespace FK
open PySem PySem.Spec PyProof.Rows L2
/-! ### keys out of values -/
class Nk (α : Type) [Py α] [DecidableEq α] where
  nk : α → NestedKey
  dp : Nat
  inj : ∀ {a b : α}, nk a = nk b → a = b
  dep : ∀ a : α, (nk a).depth ≤ dp
  at_ : ∀ {X : Cx} {pins : List (Addr × Obj)} {σ : L2.St} {H : Hp} {s : Shared}, Inv X pins σ H s → ∀ {v : V} {u : Value} {a : α}, RelV v u → rep X.K H v a → NestedIs s.heap (nk a) u
class NkR (α : Type) [Py α] : Prop where
  isr : ∀ {K : PySem.W.Frag} {R : Hp} {v : V} {a : α}, rep K R v a → ∃ p, v = .ref p
instance instNkInt : Nk Int where
  nk a := .num a
  dp := 0
  inj e := by cases e; rfl
  dep a := Nat.le_refl _
  at_ {X pins σ H s} _ {v u a} r h := by
    cases (show v = V.int a from h)
    obtain ⟨t, rfl⟩ := r
    exact .int a t
instance instNkStr : Nk Str where
  nk a := .text a
  dp := 0
  inj e := by cases e; rfl
  dep a := Nat.le_refl _
  at_ {X pins σ H s} _ {v u a} r h := by
    cases (show v = V.str a from h)
    obtain ⟨t, rfl⟩ := r
    exact .text a t
section
variable {α β γ : Type} [Py α] [DecidableEq α] [Nk α] [Dq α] [Py β] [DecidableEq β] [Nk β] [Dq β] [Py γ] [DecidableEq γ] [Nk γ] [Dq γ]
instance instNk2 : Nk (α × β) where
  nk a := .tup [Nk.nk a.1, Nk.nk a.2]
  dp := max (Nk.dp α) (Nk.dp β) + 1
  inj {a b} e := by
    injection e with e
    injection e with e1 e
    injection e with e2 _
    exact Prod.ext (Nk.inj e1) (Nk.inj e2)
  dep a := by
    have h1 := Nk.dep a.1
    have h2 := Nk.dep a.2
    simp only [NestedKey.depth, NestedKey.depthAll]
    omega
  at_ {X pins σ H s} I {v u a} r h := by
    obtain ⟨p, x0, x1, z0, z1, rfl, rfl, ⟨o, g, gc, n, gd⟩, r0, r1, q0, q1⟩ := tup2_rd I r h
    exact .tup g gc gd (.cons (Nk.at_ I r0 q0) (.cons (Nk.at_ I r1 q1) .nil))
instance instNk3 : Nk (T3 α β γ) where
  nk a := .tup [Nk.nk a.a, Nk.nk a.b, Nk.nk a.c]
  dp := max (Nk.dp α) (max (Nk.dp β) (Nk.dp γ)) + 1
  inj {a b} e := by
    injection e with e
    injection e with e1 e
    injection e with e2 e
    injection e with e3 _
    obtain ⟨a1, a2, a3⟩ := a
    obtain ⟨b1, b2, b3⟩ := b
    cases (Nk.inj e1 : a1 = b1)
    cases (Nk.inj e2 : a2 = b2)
    cases (Nk.inj e3 : a3 = b3)
    rfl
  dep a := by
    have h1 := Nk.dep a.a
    have h2 := Nk.dep a.b
    have h3 := Nk.dep a.c
    simp only [NestedKey.depth, NestedKey.depthAll]
    omega
  at_ {X pins σ H s} I {v u a} r h := by
    obtain ⟨p, x0, x1, x2, z0, z1, z2, rfl, rfl, ⟨o, g, gc, n, gd⟩, r0, r1, r2, q0, q1, q2⟩ := tup3_rd I r h
    exact .tup g gc gd (.cons (Nk.at_ I r0 q0) (.cons (Nk.at_ I r1 q1) (.cons (Nk.at_ I r2 q2) .nil)))
instance instNkR2 : NkR (α × β) := ⟨fun h => let ⟨p, _, e, _⟩ := h; ⟨p, e⟩⟩
instance instNkR3 : NkR (T3 α β γ) := ⟨fun h => let ⟨p, _, e, _⟩ := h; ⟨p, e⟩⟩
end
/-! ### lists side by side -/
open PySem.W (EachIs)
mutual
theorem reads_there {h : Heap} : ∀ (d : PyData) (v : Value) (l : List Addr), PySem.W.alike d d = true → Reads h v d l → ∀ x ∈ l, ∃ o, h.get? x = some o
  | .none, _, _, _, r, _, hx => by cases r; cases hx
  | .bool _, _, _, _, r, _, hx => by cases r; cases hx
  | .int _, _, _, _, r, _, hx => by cases r; cases hx
  | .str _, _, _, _, r, _, hx => by cases r; cases hx
  | .list xs, _, _, al, r, x, hx => by
    cases r with
    | list h1 h2 h3 h4 =>
      rcases List.mem_cons.mp hx with z | z
      · exact ⟨_, by rw [z]; exact h1⟩
      · exact reads_all_there xs _ _ (by simpa [PySem.W.alike] using al) h4 x z
  | .tuple xs, _, _, al, r, x, hx => by
    cases r with
    | tuple h1 h2 h3 h4 => exact reads_all_there xs _ _ (by simpa [PySem.W.alike] using al) h4 x hx
  | .dict _, _, _, al, _, _, _ => absurd al (by simp [PySem.W.alike])
theorem reads_all_there {h : Heap} : ∀ (ds : List PyData) (vs : List Value) (l : List Addr), PySem.W.alikeAll ds ds = true → ReadsAll h vs ds l → ∀ x ∈ l, ∃ o, h.get? x = some o
  | [], _, _, _, r, _, hx => by cases r; cases hx
  | d :: ds, _, _, al, r, x, hx => by
    cases r with
    | cons h1 h2 =>
      rcases List.mem_append.mp hx with z | z
      · exact reads_there d _ _ (PySem.W.alike_all_cons al).1 h1 x z
      · exact reads_all_there ds _ _ (PySem.W.alike_all_cons al).2 h2 x z
end
theorem each_mono {α β : Type} {R R' : α → β → Prop} (f : ∀ a b, R a b → R' a b) : ∀ {as : List α} {bs : List β}, EachIs R as bs → EachIs R' as bs
  | _, _, .nil => .nil
  | _, _, .cons h t => .cons (f _ _ h) (each_mono f t)
theorem each_len {α β : Type} {R : α → β → Prop} : ∀ {as : List α} {bs : List β}, EachIs R as bs → as.length = bs.length
  | _, _, .nil => rfl
  | _, _, .cons h t => congrArg (· + 1) (each_len t)
section
variable {P : Program} {w : World} {A : Around} {E : Value → Shared → Prop} {s : Shared} {c : Addr} {M : List (Addr × NestedKey)} {xs : Array (Int × Value)} {n : Nat} {tb : SetTable}
end
section
variable {X : Cx} {R0 H0 : Hp} {Γ : List Slot} {a : Expr} {pos : Pos} {α : Type} [Py α] [DecidableEq α] [PySem.W.DatumOrd α] [Dh α] [Dso α] [Lo α] [Nk α] [NkR α]
end
end FK

namespace FK
open PySem PySem.Spec PyProof.Rows L2
section
variable {X : Cx} {R0 H0 : Hp} {Γ : List Slot} {a b e : Expr} {pos : Pos}
section
variable {α : Type} [Py α] [DecidableEq α] [PySem.W.DatumOrd α] [Dh α] [Dso α] [Lo α] [Nk α] [NkR α]
end
section
variable {α : Type} [Py α] [DecidableEq α] [PySem.W.DatumOrd α] [Dh α] [Dq α]
/-- a < b, as Python orders data -/
abbrev dLt (x y : α) : Bool := PySem.W.DatumOrd.lt x y
variable {ma mb : Option α} {x y : α}
end
/-! ### list(t), a tuple of like things -/
section
variable {α : Type} [Py α]
theorem AllR.two {K : PySem.W.Frag} {R : Hp} {v w : V} {x y : α} (h1 : rep K R v x) (h2 : rep K R w y) : AllR K R [v, w] [x, y] := .cons h1 (.cons h2 .nil)
theorem AllR.three {K : PySem.W.Frag} {R : Hp} {v w u : V} {x y z : α} (h1 : rep K R v x) (h2 : rep K R w y) (h3 : rep K R u z) : AllR K R [v, w, u] [x, y, z] := .cons h1 (.cons h2 (.cons h3 .nil))

end
/-! ### arguments handed over frozen -/
structure Fz (α : Type) where
  val : α
instance instPyFz {α : Type} [Py α] : Py (Fz α) where
  rep := fun K R v a => rep K R v a.val
  bor := fun K R _ v a => rep K R v a.val
  mono := fun e h => Py.mono e h
  bmono := fun e _ h => Py.mono e h
  lend := fun _ h => h
theorem jb_fz {α : Type} [Py α] {m : Option α} (h : JE X R0 H0 Γ e m) : JB X R0 H0 Γ e (m.bind fun x => some (⟨x⟩ : Fz α)) := .mk fun σ R H S z ez Q q => by
  obtain ⟨x, ex, ez⟩ := bind_some' ez
  cases ez
  exact h σ R H S x ex Q fun v R' H' x1 r1 => q v R' H' x1 r1
theorem jb_fz_t {α : Type} [Py α] {x : α} (h : JE X R0 H0 Γ e (some x)) : JB X R0 H0 Γ e (some (⟨x⟩ : Fz α)) := jb_fz h
theorem sub_fzv {Γ Γ' : List Slot} (i : Nat) {α : Type} [Py α] {a : Fz α} (hi : Γ[i]? = some (.b a) := by rfl) (h : Sub (Γ.set i (.v a.val)) Γ') : Sub Γ Γ' := fun K R0 H0 σ R H S => by
  obtain ⟨v, e, r⟩ := S.get_b hi
  have hl : i < Γ.length := by
    rcases Nat.lt_or_ge i Γ.length with z | z
    · exact z
    · rw [List.getElem?_eq_none z] at hi
      cases hi
  have S2 := S.set_v (a := a.val) (v := v) hl (Py.mono S.e0.r (show rep K R0 v a.val from r))
  rw [set_same e] at S2
  exact h K R0 H0 σ R H S2
end
end FK

/-! dicts of one's own, the keys tuples of ints and texts; d.get -/
namespace FK
open PySem PySem.Spec PyProof.Rows L2
class Kt (κ : Type) [Py κ] [DecidableEq κ] where
  kt : κ → List L2.Key
  inj : ∀ {a b : κ}, kt a = kt b → a = b
  bv : ∀ {K : PySem.W.Frag} {R : Hp} {v : V} {a : κ}, rep K R v a → ∃ b, v = .ref b ∧ R b = some (.tup ((kt a).map kV))
  vr : ∀ {K : PySem.W.Frag} {R : Hp} {b : Addr} {a : κ}, R b = some (.tup ((kt a).map kV)) → rep K R (.ref b) a
  br : ∀ {K : PySem.W.Frag} {R H : Hp} {v : V} {a : κ}, bor K R H v a → rep K R v a
section
variable {α β γ : Type} [Py α] [DecidableEq α] [Kq α] [Py β] [DecidableEq β] [Kq β] [Py γ] [DecidableEq γ] [Kq γ]
theorem kq_rep {K : PySem.W.Frag} {R : Hp} {v : V} {a : α} (h : rep K R v a) : v = kV (Kq.key a) := Kq.bv (Py.lend (.refl R) h)
instance instKt2 : Kt (α × β) where
  kt a := [Kq.key a.1, Kq.key a.2]
  inj {a b} e := by
    injection e with e1 e
    injection e with e2 _
    exact Prod.ext (Kq.inj e1) (Kq.inj e2)
  bv {K R v a} h := by
    obtain ⟨p, vs, rfl, hp, x, y, rfl, h1, h2⟩ := h
    rw [kq_rep h1, kq_rep h2] at hp
    exact ⟨p, rfl, hp⟩
  vr {K R b a} h := ⟨b, _, rfl, h, _, _, rfl, Kq.vr a.1, Kq.vr a.2⟩
  br h := h
instance instKt3 : Kt (T3 α β γ) where
  kt a := [Kq.key a.a, Kq.key a.b, Kq.key a.c]
  inj {a b} e := by
    injection e with e1 e
    injection e with e2 e
    injection e with e3 _
    obtain ⟨a1, a2, a3⟩ := a
    obtain ⟨b1, b2, b3⟩ := b
    cases (Kq.inj e1 : a1 = b1)
    cases (Kq.inj e2 : a2 = b2)
    cases (Kq.inj e3 : a3 = b3)
    rfl
  bv {K R v a} h := by
    obtain ⟨p, vs, rfl, hp, x, y, z, rfl, h1, h2, h3⟩ := h
    rw [kq_rep h1, kq_rep h2, kq_rep h3] at hp
    exact ⟨p, rfl, hp⟩
  vr {K R b a} h := ⟨b, _, rfl, h, _, _, _, rfl, Kq.vr a.a, Kq.vr a.b, Kq.vr a.c⟩
  br h := h
end
section
variable {κ α : Type} [Py κ] [DecidableEq κ] [Kt κ] [Py α]
inductive DT (K : PySem.W.Frag) (R : Hp) : List ((List L2.Key) × V) → List (κ × α) → Prop
  | nil : DT K R [] []
  | cons {k : κ} {v : V} {a : α} {vs : List ((List L2.Key) × V)} {l : List (κ × α)} : rep K R v a → DT K R vs l → DT K R ((Kt.kt k, v) :: vs) ((k, a) :: l)
theorem DT.mono {K : PySem.W.Frag} {R R' : Hp} (e : Ex R R') : ∀ {vs : List ((List L2.Key) × V)} {l : List (κ × α)}, DT K R vs l → DT K R' vs l
  | _, _, .nil => .nil
  | _, _, .cons h t => .cons (Py.mono e h) (t.mono e)
theorem DT.len {K : PySem.W.Frag} {R : Hp} : ∀ {vs : List ((List L2.Key) × V)} {l : List (κ × α)}, DT K R vs l → vs.length = l.length
  | _, _, .nil => rfl
  | _, _, .cons _ t => congrArg (· + 1) t.len
instance instObDcT : Ob (Dct κ α) where
  nt := fun ⟨_, h, _⟩ => by rw [h]; rfl
  ho := fun K R o d => ∃ kvs, o = .dT kvs ∧ DT K R kvs d.l
  mono := fun e ⟨kvs, h, q⟩ => ⟨kvs, h, q.mono e⟩

theorem kt_dec (a b : κ) : decide (Kt.kt a = Kt.kt b) = decide (a = b) := by
  by_cases h : a = b
  · rw [decide_eq_true h, decide_eq_true (by rw [h])]
  · rw [decide_eq_false h, decide_eq_false fun z => h (Kt.inj z)]
theorem DT.get {K : PySem.W.Frag} {R : Hp} (k : κ) : ∀ {vs : List ((List L2.Key) × V)} {l : List (κ × α)}, DT K R vs l → (dGet l k = none ∧ valV vs (Kt.kt k) = none) ∨ ∃ a v, dGet l k = some a ∧ valV vs (Kt.kt k) = some v ∧ rep K R v a
  | _, _, .nil => .inl ⟨rfl, rfl⟩
  | _, _, .cons (k := k') (v := v) (a := a) (vs := vs) (l := l) h t => by
    by_cases e : k' = k
    · subst e
      refine .inr ⟨a, v, ?_, ?_, h⟩
      · unfold dGet
        rw [List.find?_cons, decide_eq_true rfl]
        rfl
      · exact valV_pos rfl
    · have e2 : ¬ Kt.kt k' = Kt.kt k := fun z => e (Kt.inj z)
      have g1 : dGet ((k', a) :: l) k = dGet l k := by
        unfold dGet
        rw [List.find?_cons, decide_eq_false e]
      rw [g1, valV_neg (p := (Kt.kt k', v)) e2]
      exact t.get k
theorem DT.any {K : PySem.W.Frag} {R : Hp} (k : κ) : ∀ {vs : List ((List L2.Key) × V)} {l : List (κ × α)}, DT K R vs l → (vs.any fun p => decide (p.1 = Kt.kt k)) = l.any fun p => decide (p.1 = k)
  | _, _, .nil => rfl
  | _, _, .cons (k := k') h t => by
    rw [List.any_cons, List.any_cons, t.any k]
    show (decide (Kt.kt k' = Kt.kt k) || _) = _
    rw [kt_dec]
theorem DT.repl {K : PySem.W.Frag} {R : Hp} (k : κ) {v : V} {a : α} (r : rep K R v a) : ∀ {vs : List ((List L2.Key) × V)} {l : List (κ × α)}, DT K R vs l → DT K R (vs.map fun p => if p.1 = Kt.kt k then (p.1, v) else p) (l.map fun p => if p.1 = k then (p.1, a) else p)
  | _, _, .nil => .nil
  | _, _, .cons (k := k') h t => by
    rw [List.map_cons, List.map_cons]
    by_cases e : k' = k
    · rw [if_pos (show Kt.kt k' = Kt.kt k by rw [e]), if_pos e]
      exact .cons r (t.repl k r)
    · rw [if_neg (show ¬ Kt.kt k' = Kt.kt k from fun z => e (Kt.inj z)), if_neg e]
      exact .cons h (t.repl k r)
theorem DT.snoc {K : PySem.W.Frag} {R : Hp} (k : κ) {v : V} {a : α} (r : rep K R v a) : ∀ {vs : List ((List L2.Key) × V)} {l : List (κ × α)}, DT K R vs l → DT K R (vs ++ [(Kt.kt k, v)]) (l ++ [(k, a)])
  | _, _, .nil => .cons r .nil
  | _, _, .cons h t => .cons h (t.snoc k r)
theorem DT.put {K : PySem.W.Frag} {R : Hp} (k : κ) {v : V} {a : α} (r : rep K R v a) {vs : List ((List L2.Key) × V)} {l : List (κ × α)} (h : DT K R vs l) : DT K R (putK vs (Kt.kt k) v) (dPut l k a) := by
  unfold putK dPut
  rw [h.any k]
  split
  · exact h.repl k r
  · exact h.snoc k r

variable {X : Cx} {R0 H0 : Hp} {Γ : List Slot} {e a b o f : Expr} {pos : Pos} {mo : Option (Dct κ α)} {mk : Option κ} {d : Dct κ α} {k : κ}
theorem jo_dnewT : JO X R0 H0 Γ (.Dict [] [] pos) (some (⟨[]⟩ : Dct κ α)) := .mk fun σ R H S xs ex Q q => by
  cases ex
  exact PE_to pe_dnewT fun p hp => q p _ R _ (.own S.i hp) hp upd_same (S.i.none hp) ⟨[], rfl, .nil⟩
theorem je_dgetT (hu : X.A.units + 64 < cLine) (ho : JB X R0 H0 Γ a mo) (hk : JB X R0 H0 Γ b mk) (hs : NoSl b) : JE X R0 H0 Γ (.Subscript a b pos) (mo.bind fun d => mk.bind fun k => dGet d.l k) := .mk fun σ R H S z ez Q q => by
  obtain ⟨d, ed, ez⟩ := bind_some' ez
  obtain ⟨k, ek, ez⟩ := bind_some' ez
  refine PE_to (pe_dget (by omega) eS eS hs) (ho σ R H S d ed _ fun v R1 H1 x1 r1 => hk σ R1 H1 (S.ext x1) k ek _ fun w R2 H2 x2 r2 => ?_)
  obtain ⟨p, ob, rfl, hp, kvs, rfl, hd⟩ := Py.bmono x2.r x2.h r1
  obtain ⟨c, rfl, hc⟩ := Kt.bv (Kt.br r2)
  rcases hd.get k with ⟨g1, g2⟩ | ⟨a, v, g1, g2, g3⟩
  · rw [g1] at ez
    cases ez
  · rw [g1] at ez
    cases ez
    exact ⟨p, v, rfl, .inr ⟨kvs, Kt.kt k, c, hp, rfl, x2.i _ _ hc, g2.symm⟩, q v R2 H2 (x1.trans x2) g3⟩
theorem je_dgetT_t (hu : X.A.units + 64 < cLine) (ho : JB X R0 H0 Γ a (some d)) (hk : JB X R0 H0 Γ b (some k)) (hs : NoSl b) : JE X R0 H0 Γ (.Subscript a b pos) (dGet d.l k) := je_dgetT hu ho hk hs
theorem dget_oT {K : PySem.W.Frag} {R H : Hp} {p c : Addr} {kvs : List ((List L2.Key) × V)} {l : List (κ × α)} (hp : Rd H p (.dT kvs)) (hd : DT K R kvs l) (k : κ) (hc : H c = some (.tup ((Kt.kt k).map kV))) : ∃ r, DGet H p (.ref c) r ∧ r.isSome = dHas l k := by
  refine ⟨_, .inr ⟨kvs, Kt.kt k, c, hp, rfl, hc, rfl⟩, ?_⟩
  unfold dHas
  rcases hd.get k with ⟨g1, g2⟩ | ⟨a, v, g1, g2, _⟩
  · rw [g1, g2]
    rfl
  · rw [g1, g2]
    rfl
theorem je_nindT (hu : X.A.units + 64 < cLine) (hk : JB X R0 H0 Γ a mk) (ho : JB X R0 H0 Γ b mo) (hm : behindInMarks .NotIn b = false := by rfl) : JE X R0 H0 Γ (.Compare a [.NotIn] [b] pos) (mk.bind fun k => mo.bind fun d => some (!dHas d.l k)) := .mk fun σ R H S z ez Q q => by
  obtain ⟨k, ek, ez⟩ := bind_some' ez
  obtain ⟨d, ed, ez⟩ := bind_some' ez
  cases ez
  refine PE_to (pe_cmp (pc_dnotin (by omega) eS eS) hm) (hk σ R H S k ek _ fun w R1 H1 x1 r1 => ho σ R1 H1 (S.ext x1) d ed _ fun v R2 H2 x2 r2 => ?_)
  obtain ⟨p, ob, rfl, hp, kvs, rfl, hd⟩ := r2
  obtain ⟨c, rfl, hc⟩ := Kt.bv (Kt.br r1)
  obtain ⟨r, g, e⟩ := dget_oT hp hd k (x2.i _ _ (x2.r _ _ hc))
  refine ⟨p, r, rfl, g, ?_⟩
  rw [e]
  exact q _ R2 H2 (x1.trans x2) rfl
theorem je_nindT_t (hu : X.A.units + 64 < cLine) (hk : JB X R0 H0 Γ a (some k)) (ho : JB X R0 H0 Γ b (some d)) (hm : behindInMarks .NotIn b = false := by rfl) : JE X R0 H0 Γ (.Compare a [.NotIn] [b] pos) (some (!dHas d.l k)) := je_nindT hu hk ho hm
theorem jt_indT (hu : X.A.units + 64 < cLine) (hk : JB X R0 H0 Γ a mk) (ho : JB X R0 H0 Γ b mo) (hm : behindInMarks .In b = false := by rfl) : JT X R0 H0 Γ (.Compare a [.In] [b] pos) (mk.bind fun k => mo.bind fun d => some (dHas d.l k)) := .mk fun σ R H S z ez Q q => by
  obtain ⟨k, ek, ez⟩ := bind_some' ez
  obtain ⟨d, ed, ez⟩ := bind_some' ez
  cases ez
  refine PT_to (pt_cmp (pc_din (by omega) eS eS) hm) (hk σ R H S k ek _ fun w R1 H1 x1 r1 => ho σ R1 H1 (S.ext x1) d ed _ fun v R2 H2 x2 r2 => ?_)
  obtain ⟨p, ob, rfl, hp, kvs, rfl, hd⟩ := r2
  obtain ⟨c, rfl, hc⟩ := Kt.bv (Kt.br r1)
  obtain ⟨r, g, e⟩ := dget_oT hp hd k (x2.i _ _ (x2.r _ _ hc))
  refine ⟨p, r, rfl, g, ?_⟩
  rw [e]
  exact ⟨_, rfl, q R2 H2 (x1.trans x2)⟩
theorem jt_indT_t (hu : X.A.units + 64 < cLine) (hk : JB X R0 H0 Γ a (some k)) (ho : JB X R0 H0 Γ b (some d)) (hm : behindInMarks .In b = false := by rfl) : JT X R0 H0 Γ (.Compare a [.In] [b] pos) (some (dHas d.l k)) := jt_indT hu hk ho hm
theorem jt_nindT (hu : X.A.units + 64 < cLine) (hk : JB X R0 H0 Γ a mk) (ho : JB X R0 H0 Γ b mo) (hm : behindInMarks .NotIn b = false := by rfl) : JT X R0 H0 Γ (.Compare a [.NotIn] [b] pos) (mk.bind fun k => mo.bind fun d => some (!dHas d.l k)) := .mk fun σ R H S z ez Q q => by
  obtain ⟨k, ek, ez⟩ := bind_some' ez
  obtain ⟨d, ed, ez⟩ := bind_some' ez
  cases ez
  refine PT_to (pt_cmp (pc_dnotin (by omega) eS eS) hm) (hk σ R H S k ek _ fun w R1 H1 x1 r1 => ho σ R1 H1 (S.ext x1) d ed _ fun v R2 H2 x2 r2 => ?_)
  obtain ⟨p, ob, rfl, hp, kvs, rfl, hd⟩ := r2
  obtain ⟨c, rfl, hc⟩ := Kt.bv (Kt.br r1)
  obtain ⟨r, g, e⟩ := dget_oT hp hd k (x2.i _ _ (x2.r _ _ hc))
  refine ⟨p, r, rfl, g, ?_⟩
  rw [e]
  exact ⟨_, rfl, q R2 H2 (x1.trans x2)⟩
theorem jt_nindT_t (hu : X.A.units + 64 < cLine) (hk : JB X R0 H0 Γ a (some k)) (ho : JB X R0 H0 Γ b (some d)) (hm : behindInMarks .NotIn b = false := by rfl) : JT X R0 H0 Γ (.Compare a [.NotIn] [b] pos) (some (!dHas d.l k)) := jt_nindT hu hk ho hm
theorem j1_dputT (i : Nat) {x : Str} {px p : Pos} {m : Option α} {mi : Option κ} (Γ' : Dct κ α → List Slot) (hun : X.A.units + 64 < cLine) (h : JE X R0 H0 Γ e m) (hi : JE X R0 H0 Γ a mi) (hΓ : Γ[i]? = some (.own d) := by rfl) (hu : ∀ ys, Γ' ys = Γ.set i (.own ys) := by intro _; rfl) (hN : X.N[i]? = some x := by rfl)
    (hv : Vis X.env.scope x := by first | exact Or.inl rfl | exact Or.inr (Or.inl rfl) | exact Or.inr (Or.inr rfl)) (hd : (x == ("__debug__" : Str)) = false := by decide) (hcd : (x == ("__classdict__" : Str)) = false := by decide)
    (hs : swapsWith e (some (.Subscript (.Name x px) a p)) pos.line X.env = pure false := by rfl) :
    J1 X R0 H0 Γ (.Assign [.Subscript (.Name x px) a p] e pos) (m.bind fun y => mi.bind fun k => dSet d k y) fun ys => .nx (Γ' ys) := .mk fun σ R H S z ez D q => by
  obtain ⟨y, ey, ez⟩ := bind_some' ez
  obtain ⟨k, ek, ez⟩ := bind_some' ez
  unfold dSet at ez
  by_cases hz : d.l.length < 16000000
  · rw [if_pos hz] at ez
    cases ez
    have q : ∀ σ R' H, Ex R R' → Sat X.K R0 H0 (Γ' (⟨dPut d.l k y⟩ : Dct κ α)) σ R' H → D.nx σ H := q
    rw [hu] at q
    obtain ⟨l, o, hs', hp, ⟨kvs, rfl, hv0⟩, hR, hH, up⟩ := S.get_own hΓ
    refine PS_to (ps_dput (by omega) (pv i hN hv hd hcd) eS eS hs) (h σ R H S y ey _ fun v R1 H1 x1 r1 => ⟨.ref l, hs', hi σ R1 H1 (S.ext x1) k ek _ fun u R2 H2 x2 r2 => ?_⟩)
    obtain ⟨c, rfl, hc⟩ := Kt.bv r2
    refine ⟨l, _, rfl, DPut.t (x2.h _ _ (x1.h _ _ hp)) (x2.i _ _ hc) (by rw [hv0.len, sizeLine_eq]; omega), ?_⟩
    exact q _ R2 _ (x1.trans x2).r (up R2 H2 _ (⟨dPut d.l k y⟩ : Dct κ α) (x1.trans x2) ⟨_, rfl, (hv0.mono (x1.trans x2).r).put k (Py.mono x2.r r1)⟩)
  · rw [if_neg hz] at ez
    cases ez
/-- the keys of such a dict: tuples that stand, and may be frozen -/
theorem freeze_tups {H : Hp} : ∀ (l : List (Addr × List V)) {R : Hp}, Ex R H → (∀ q ∈ l, H q.1 = some (.tup q.2)) → ∃ R', Ext R H R' H ∧ ∀ q ∈ l, R' q.1 = some (.tup q.2)
  | [], R, i, _ => ⟨R, .refl i, fun _ z => by cases z⟩
  | q :: l, R, i, h => by
    have h1 := h q List.mem_cons_self
    have x1 := Ext.frt i h1
    obtain ⟨R2, x2, e2⟩ := freeze_tups l x1.i fun z hz => h z (List.mem_cons_of_mem _ hz)
    refine ⟨R2, x1.trans x2, fun z hz => ?_⟩
    rcases List.mem_cons.mp hz with e | y
    · rw [e]
      exact x2.r _ _ upd_same
    · exact e2 z y
open PySem.W (EachIs)
theorem DT.keys {K : PySem.W.Frag} {R R2 H : Hp} (i : Ex R H) : ∀ {kvs : List ((List L2.Key) × V)} {l : List (κ × α)} {xs : List ((List L2.Key) × Addr × Value)}, DT K R kvs l → KT H kvs xs → (∀ q ∈ xs, R2 q.2.1 = some (.tup (q.1.map kV))) → EachIs (fun (u : Value) (c : κ) => ∃ v, RelV v u ∧ rep K R2 v c) (xs.map fun q => Value.ref q.2.1) (l.map (·.1))
  | _, _, _, .nil, h, _ => by
    cases h
    exact .nil
  | _, _, _, .cons (k := k) _ t, h, f => by
    cases h with
    | cons p q =>
      have g := f _ List.mem_cons_self
      rw [← p.1] at g
      exact .cons ⟨.ref _, rfl, Kt.vr g⟩ (t.keys i q fun z hz => f z (List.mem_cons_of_mem _ hz))
/-- list(d)'s items, gathered -/
theorem dt_collect {pins : List (Addr × Obj)} {σ : L2.St} {H R : Hp} {s : Shared} {A : Around} {E : Value → Shared → Prop} {p : Addr} {kvs : List ((List L2.Key) × V)} {l : List (κ × α)} (I : Inv X pins σ H s) (hh : A.handled = none) (i : Ex R H) (hp : Rd H p (.dT kvs)) (hd : DT X.K R kvs l) {Q : List Value → Shared → Prop}
    (q : ∀ (h' : Heap) (tk : Nat) (out : List Value) R2, Ext R H R2 H → (∀ b o, s.heap.get? b = some o → h'.get? b = some o) → EachIs (fun (u : Value) (c : κ) => ∃ v, RelV v u ∧ rep X.K R2 v c) out (l.map (·.1)) → Q out { s with heap := h', toks := tk }) : wpAny (model X.prog X.w) A (collect (.ref p)) Q E s := by
  obtain ⟨hl, lo, xs, kt, o, es, ep, g1, g2, g3, g4, g5⟩ := (show ObjOk X.prog X.w H s.heap p (.dT kvs) from rd_of I.hok hp)
  have sz : es.size = xs.length := by
    have := congrArg List.length g4
    simpa using this
  have lx : kvs.length = xs.length := by
    clear g4 g5 sz hp hd hl q
    induction kt with
    | nil => rfl
    | cons _ _ ih => exact congrArg (· + 1) ih
  refine PySem.W.kdu_collect (PySem.KdlSrc.rawDict (prog := X.prog) (w := X.w) (es := es) (ep := ep) lo) hh ⟨o, g1, g2, g3⟩ (by rw [sz, ← lx]; exact hl) fun h' tk acc hk hacc => ?_
  obtain ⟨R2, x2, e2⟩ := freeze_tups (xs.map fun q => (q.2.1, q.1.map kV)) i (by
    clear g4 g5 sz hp hd hl q lx
    intro z hz
    obtain ⟨y, hy, rfl⟩ := List.mem_map.mp hz
    induction kt with
    | nil => cases hy
    | cons p q ih =>
      rcases List.mem_cons.mp hy with e | w
      · rw [e, ← p.1]
        exact p.2.1
      · exact ih w (List.mem_map.mpr ⟨y, w, rfl⟩))
  have e3 : acc.toList = xs.map fun q => Value.ref q.2.1 := items_out (out := xs.map fun q => Value.ref q.2.1) (Pv := fun i v => ∃ hi : i < es.size, v = es[i].key) (by rw [List.length_map, ← sz]; exact hacc) fun j v ⟨hj, ev⟩ => by
    have g6 : es[j]? = (xs.map (entryOfKey (tupleKind (mixKind X.prog X.w))))[j]? := by rw [← g4]; simp
    rw [Array.getElem?_eq_getElem hj, List.getElem?_map] at g6
    rw [List.getElem?_map, ev]
    cases y : xs[j]? with
    | none =>
      rw [y] at g6
      cases g6
    | some z =>
      rw [y] at g6
      have g7 := Option.some.inj g6
      rw [g7]
      rfl
  rw [e3]
  exact q h' tk _ R2 x2 hk (hd.keys i kt fun z hz => e2 (z.2.1, z.1.map kV) (List.mem_map.mpr ⟨z, hz, rfl⟩))
section
variable [PySem.W.DatumOrd κ] [Dh κ] [Dso κ]
/-- sorted(d), d one's own -/
theorem jo_srtdkT (i : Nat) {x : Str} {p px : Pos} (hun : X.A.units + 64 < cLine) (hm : X.mg "sorted" = none) (hc : X.calm = true := by rfl) (hdp : PySem.W.Datum.depth κ ≤ 40 := by decide) (hΓ : Γ[i]? = some (.own d) := by rfl) (hN : X.N[i]? = some x := by rfl)
    (hv : Vis X.env.scope x := by first | exact Or.inl rfl | exact Or.inr (Or.inl rfl) | exact Or.inr (Or.inr rfl)) (hd : (x == ("__debug__" : Str)) = false := by decide) (hcd : (x == ("__classdict__" : Str)) = false := by decide)
    (hg : Gl X "sorted" := by rfl) (hs : starEach (.Name x px :: []) X.env = (false, eval (.Name x px) X.env) :: starEach [] X.env := by rfl) :
    JO X R0 H0 Γ (.Call (.Name "sorted" p) [.Name x px] [] pos) (sSort (d.l.map (·.1))) := .mk fun σ R H S z ez Q q => by
  unfold sSort at ez
  by_cases hz : (d.l.map (·.1)).length ≤ 16000000
  case neg =>
    rw [if_neg hz] at ez
    cases ez
  rw [if_pos hz] at ez
  have ez := (Option.some.inj ez).symm
  subst ez
  intro pins s I
  obtain ⟨l, o, hs', hp, ⟨kvs, rfl, hv0⟩, hR, hH, up⟩ := S.get_own hΓ
  have un : wpAny (model X.prog X.w) X.A (eval (.Name x px) X.env) (EP X pins σ fun v H1 => v = .ref l ∧ H1 = H) X.xe s := (pv i hN hv hd hcd).run pins s σ H _ I ⟨.ref l, hs', rfl, rfl⟩
  refine Call_ (ld_blt I hg hm PyProof.Rows.boot_sorted (PyProof.Rows.callWith_builtin1 (args_cons (thn un fun u s1 ⟨v, H1, I1, r1, e1, e2⟩ => args_nil ?_) hs) hs rfl))
  subst e1 e2
  obtain rfl : u = Value.ref l := r1
  refine Calls.call_function_entry kind_sorted plain_sorted entry_sorted (args_sorted1 _) ?_
  unfold Builtin.«sorted»
  refine wpAny_bind (m := checkCount "sorted" 1 1 _) (wpAny_pure ?_)
  refine wpAny_bind (dt_collect (A := X.A.in1) I1 (I1.ok.hd hc) S.i (.inl hp) hv0 fun h' tk out R2 x2 kp eo => ?_)
  have I2 : Inv X pins σ H1 { s1 with heap := h', toks := tk } := I1.kept (t' := tk) kp
  have lo : out.length = d.l.length := by rw [each_len eo, List.length_map]
  rw [List.length_map] at hz
  refine wpAny_bind (wpAny_newList ?_ (by rw [sizeLine_eq]; omega))
  have gL : (h'.push (seqObj "list" out.toArray 0)).get? h'.objs.size = some (seqObj "list" out.toArray 0) := Heap.get?_push_size _ rfl
  have up2 : ∀ b u, h'.get? b = some u → (h'.push (seqObj "list" out.toArray 0)).get? b = some u := fun b u y => Heap.get?_push_of_some _ y
  refine wpAny_bind (wpAny_holding (PySem.W.list_sort_data (s := { s1 with heap := h'.push (seqObj "list" out.toArray 0), toks := tk }) (R := fun (u : Value) (c : κ) => ∃ v, RelV v u ∧ rep X.K R2 v c) (enc := PySem.W.Datum.toD) (bs := d.l.map (·.1)) gL eo (each_mono (fun u c h => ?_) eo) (.of PySem.W.DatumOrd.alike) (Dso.so.elim PySem.W.Sortable.tuples PySem.W.Sortable.others) (by rw [List.length_map, sizeLine_eq]; omega) (fun b _ => ?_) fun ys hl hy => ?_))
  · obtain ⟨v, r, h⟩ := h
    obtain ⟨as, hr⟩ := Dh.hd I2 r (Py.mono x2.i h)
    refine ⟨as, Reads.keeps up2 hr, fun hm => ?_⟩
    obtain ⟨w, hw⟩ := reads_there _ _ _ (PySem.W.DatumOrd.alike c c) hr _ hm
    exact absurd (Heap.lt_size hw) (Nat.lt_irrefl _)
  · have := PySem.W.Datum.depth_le b
    simp only [Around.in1_units]
    omega
  · obtain ⟨k, hk⟩ := sortedHeap_at (vs := out) (out := ys.toArray) gL
    have es : (d.l.map (·.1)).mergeSort (PySem.W.dataLe false PySem.W.Datum.toD) = srt (d.l.map (·.1)) := by
      unfold srt
      congr 1
      funext a b
      rw [PySem.W.dataLe_eq]
      show (!PySem.W.dataLt _ _) = _
      rw [PySem.W.DatumOrd.lt_eq]
    rw [es] at hy
    obtain ⟨ws, r2, q2⟩ := rel_each hy
    have hn : H1 h'.objs.size = none := I2.hok.fresh (Nat.le_refl _)
    have hlen : ws.length ≤ sizeLine := by
      rw [r2.length, hl, List.length_map, sizeLine_eq]
      omega
    have keep : ∀ b u, h'.get? b = some u → (sortedHeap (h'.push (seqObj "list" out.toArray 0)) h'.objs.size out ys.toArray).get? b = some u := fun b u y => by
      have lb := Heap.lt_size y
      rw [sortedHeap_old (Nat.ne_of_lt lb) (by rw [size_push']; exact Nat.lt_succ_of_lt lb)]
      exact up2 b u y
    refine wpAny_pure ⟨_, rfl, .ref h'.objs.size, upd H1 h'.objs.size (.lst ws), I2.laid (t' := tk) keep (Nat.le_refl _) ⟨hlen, ys, k, r2, hk⟩, rfl, q _ _ R2 _ (x2.trans (.own x2.i hn)) hn upd_same (x2.i.none hn) ⟨ws, rfl, q2⟩⟩
end
end
section
variable {κ α : Type} [Py κ] [DecidableEq κ] [Kq κ] [Py α] [Nn α] {X : Cx} {R0 H0 : Hp} {Γ : List Slot} {e a b o f : Expr} {pos apos : Pos} {mo : Option (Dct κ α)} {mk : Option κ} {mx : Option α} {d : Dct κ α} {k : κ} {x : α}
end
section
variable {κ α : Type} [Py κ] [DecidableEq κ] [Kt κ] [Py α] [Nn α] {X : Cx} {R0 H0 : Hp} {Γ : List Slot} {e a b o f : Expr} {pos apos : Pos} {mo : Option (Dct κ α)} {mk : Option κ} {mx : Option α} {d : Dct κ α} {k : κ} {x : α}
theorem je_getdT (hu : X.A.units + 64 < cLine) (ho : JB X R0 H0 Γ o mo) (hk : JB X R0 H0 Γ a mk) (m : M1 X o "get" apos a pos := by exact ⟨rfl, rfl, rfl, rfl⟩) : JE X R0 H0 Γ (.Call (.Attribute o "get" apos) [a] [] pos) (mo.bind fun d => mk.bind fun k => some (dGet d.l k)) := .mk fun σ R H S z ez Q q => by
  obtain ⟨d, ed, ez⟩ := bind_some' ez
  obtain ⟨k, ek, ez⟩ := bind_some' ez
  cases ez
  refine PE_to (pe_dget1 (by omega) eS eS m) (ho σ R H S d ed _ fun v R1 H1 x1 r1 => ?_)
  obtain ⟨p, ob, rfl, hp, kvs, rfl, hd⟩ := id r1
  refine ⟨p, rfl, .inr ⟨kvs, hp⟩, hk σ R1 H1 (S.ext x1) k ek _ fun w R2 H2 x2 r2 => ?_⟩
  obtain ⟨p', ob', ep, hp2, kvs', ob2, hd2⟩ := Py.bmono x2.r x2.h r1
  cases ep
  subst ob2
  obtain ⟨c, rfl, hc⟩ := Kt.bv (Kt.br r2)
  refine ⟨_, .inr ⟨kvs', Kt.kt k, c, hp2, rfl, x2.i _ _ hc, rfl⟩, ?_⟩
  rcases hd2.get k with ⟨g1, g2⟩ | ⟨y, v, g1, g2, g3⟩
  · rw [g2]
    refine q _ R2 H2 (x1.trans x2) ?_
    rw [g1]
    exact rfl
  · rw [g2]
    refine q _ R2 H2 (x1.trans x2) ?_
    rw [g1]
    exact ⟨g3, Nn.nn g3⟩
theorem je_getdT_t (hu : X.A.units + 64 < cLine) (ho : JB X R0 H0 Γ o (some d)) (hk : JB X R0 H0 Γ a (some k)) (m : M1 X o "get" apos a pos := by exact ⟨rfl, rfl, rfl, rfl⟩) : JE X R0 H0 Γ (.Call (.Attribute o "get" apos) [a] [] pos) (some (dGet d.l k)) := je_getdT hu ho hk m
theorem je_getxT (hu : X.A.units + 64 < cLine) (ho : JB X R0 H0 Γ o mo) (hk : JB X R0 H0 Γ a mk) (hx : JE X R0 H0 Γ b mx) (m : M2 X o "get" apos a b pos := by exact ⟨rfl, rfl, rfl, rfl⟩) : JE X R0 H0 Γ (.Call (.Attribute o "get" apos) [a, b] [] pos) (mo.bind fun d => mk.bind fun k => mx.bind fun x => some ((dGet d.l k).getD x)) := .mk fun σ R H S z ez Q q => by
  obtain ⟨d, ed, ez⟩ := bind_some' ez
  obtain ⟨k, ek, ez⟩ := bind_some' ez
  obtain ⟨y, ey, ez⟩ := bind_some' ez
  cases ez
  refine PE_to (pe_dget2 (by omega) eS eS eS m) (ho σ R H S d ed _ fun v R1 H1 x1 r1 => ?_)
  obtain ⟨p, ob, rfl, hp, kvs, rfl, hd⟩ := id r1
  refine ⟨p, rfl, .inr ⟨kvs, hp⟩, hk σ R1 H1 (S.ext x1) k ek _ fun w R2 H2 x2 r2 => hx σ R2 H2 ((S.ext x1).ext x2) y ey _ fun u R3 H3 x3 r3 => ?_⟩
  obtain ⟨p', ob', ep, hp2, kvs', ob2, hd2⟩ := Py.bmono x3.r x3.h (Py.bmono x2.r x2.h r1)
  cases ep
  subst ob2
  obtain ⟨c, rfl, hc⟩ := Kt.bv (Kt.br r2)
  refine ⟨_, .inr ⟨kvs', Kt.kt k, c, hp2, rfl, x3.i _ _ (x3.r _ _ hc), rfl⟩, ?_⟩
  rcases hd2.get k with ⟨g1, g2⟩ | ⟨y2, v, g1, g2, g3⟩
  · rw [g2]
    refine q _ R3 H3 ((x1.trans x2).trans x3) ?_
    rw [g1]
    exact r3
  · rw [g2]
    refine q _ R3 H3 ((x1.trans x2).trans x3) ?_
    rw [g1]
    exact g3
theorem je_getxT_t (hu : X.A.units + 64 < cLine) (ho : JB X R0 H0 Γ o (some d)) (hk : JB X R0 H0 Γ a (some k)) (hx : JE X R0 H0 Γ b (some x)) (m : M2 X o "get" apos a b pos := by exact ⟨rfl, rfl, rfl, rfl⟩) : JE X R0 H0 Γ (.Call (.Attribute o "get" apos) [a, b] [] pos) (some ((dGet d.l k).getD x)) := je_getxT hu ho hk hx m
end
end FK

/-! things of one's own with lists of one's own in them -/
namespace FK
open PySem PySem.Spec PyProof.Rows L2
section
variable {K : PySem.W.Frag} {R H R' H' : Hp} {κ α : Type} [Py α]
inductive Kids (K : PySem.W.Frag) (R H : Hp) : List Addr → List (List α) → Prop
  | nil : Kids K R H [] []
  | cons {c : Addr} {vs : List V} {l : List α} {cs : List Addr} {ls : List (List α)} : H c = some (.lst vs) → AllR K R vs l → Kids K R H cs ls → Kids K R H (c :: cs) (l :: ls)
theorem Kids.mono (e : Ex R R') : ∀ {cs : List Addr} {ls : List (List α)}, (∀ c ∈ cs, ∀ u, H c = some u → H' c = some u) → Kids K R H cs ls → Kids K R' H' cs ls
  | _, _, _, .nil => .nil
  | _, _, f, .cons h1 h2 t => .cons (f _ List.mem_cons_self _ h1) (h2.mono e) (t.mono e fun c hc => f c (List.mem_cons_of_mem _ hc))
theorem Kids.len : ∀ {cs : List Addr} {ls : List (List α)}, Kids K R H cs ls → cs.length = ls.length
  | _, _, .nil => rfl
  | _, _, .cons _ _ t => congrArg (· + 1) t.len
theorem Kids.there : ∀ {cs : List Addr} {ls : List (List α)}, Kids K R H cs ls → ∀ c ∈ cs, ∃ u, H c = some u ∧ isT u = false
  | _, _, .nil, c, h => by cases h
  | _, _, .cons h1 _ t, c, h => by
    rcases List.mem_cons.mp h with e | z
    · exact ⟨_, by rw [e]; exact h1, rfl⟩
    · exact t.there c z
theorem Kids.get : ∀ {cs : List Addr} {ls : List (List α)} {j : Nat} {l : List α}, Kids K R H cs ls → ls[j]? = some l → ∃ c vs, cs[j]? = some c ∧ H c = some (.lst vs) ∧ AllR K R vs l
  | _, _, j, l, .nil, e => by simp at e
  | _, _, 0, l, .cons h1 h2 _, e => by
    cases Option.some.inj e
    exact ⟨_, _, rfl, h1, h2⟩
  | _, _, j + 1, l, .cons _ _ t, e => t.get (j := j) e
/-- one of them changed -/
theorem Kids.set : ∀ {cs : List Addr} {ls : List (List α)} {j : Nat} {c : Addr} {vs : List V} {l : List α}, Kids K R H cs ls → cs.Nodup → cs[j]? = some c → Ex R R' → (∀ z ∈ cs, z ≠ c → ∀ u, H z = some u → H' z = some u) → H' c = some (.lst vs) → AllR K R' vs l → Kids K R' H' cs (ls.set j l)
  | _, _, j, c, vs, l, .nil, _, e, _, _, _, _ => by simp at e
  | _, _, 0, c, vs, l, .cons _ _ t, nd, e, x, f, h, r => by
    cases Option.some.inj e
    obtain ⟨n1, n2⟩ := List.nodup_cons.mp nd
    exact .cons h r (t.mono x fun z hz => f z (List.mem_cons_of_mem _ hz) fun e => n1 (by rw [← e]; exact hz))
  | _, _, j + 1, c, vs, l, .cons (c := c0) h1 h2 t, nd, e, x, f, h, r => by
    obtain ⟨n1, n2⟩ := List.nodup_cons.mp nd
    have ne : c0 ≠ c := fun z => n1 (by rw [z]; exact List.mem_of_getElem? e)
    exact .cons (f _ List.mem_cons_self ne _ h1) (h2.mono x) (t.set n2 e x (fun z hz => f z (List.mem_cons_of_mem _ hz)) h r)
theorem Kids.all {H0 : Hp} : ∀ {cs : List Addr} {ls : List (List α)}, Kids K R H cs ls → (∀ c ∈ cs, ∀ u, H c = some u → R' c = some u) → Ex R R' → AllR K R' (cs.map V.ref) ls
  | _, _, .nil, _, _ => .nil
  | _, _, .cons h1 h2 t, f, e => .cons ⟨_, _, rfl, .inl (f _ List.mem_cons_self _ h1), _, rfl, h2.mono e⟩ (t.all (H0 := H0) (fun c hc => f c (List.mem_cons_of_mem _ hc)) e)
instance instOdLL : Od (List (List α)) where
  dh := fun K R H o ps a => o = .lst (ps.map V.ref) ∧ Kids K R H ps a
  mono := fun e f ⟨h, k⟩ => ⟨h, k.mono e f⟩
  there := fun ⟨_, k⟩ => k.there
  nt := fun ⟨h, _⟩ => by rw [h]; rfl
variable [Py κ] [DecidableEq κ] [Kq κ]
inductive KidsD (K : PySem.W.Frag) (R H : Hp) : List (L2.Key × V) → List Addr → List (κ × List α) → Prop
  | nil : KidsD K R H [] [] []
  | cons {k : κ} {c : Addr} {vs : List V} {l : List α} {kvs : List (L2.Key × V)} {cs : List Addr} {ls : List (κ × List α)} : H c = some (.lst vs) → AllR K R vs l → KidsD K R H kvs cs ls → KidsD K R H ((Kq.key k, .ref c) :: kvs) (c :: cs) ((k, l) :: ls)
theorem KidsD.mono (e : Ex R R') : ∀ {kvs : List (L2.Key × V)} {cs : List Addr} {ls : List (κ × List α)}, (∀ c ∈ cs, ∀ u, H c = some u → H' c = some u) → KidsD K R H kvs cs ls → KidsD K R' H' kvs cs ls
  | _, _, _, _, .nil => .nil
  | _, _, _, f, .cons h1 h2 t => .cons (f _ List.mem_cons_self _ h1) (h2.mono e) (t.mono e fun c hc => f c (List.mem_cons_of_mem _ hc))
theorem KidsD.len : ∀ {kvs : List (L2.Key × V)} {cs : List Addr} {ls : List (κ × List α)}, KidsD K R H kvs cs ls → kvs.length = ls.length
  | _, _, _, .nil => rfl
  | _, _, _, .cons _ _ t => congrArg (· + 1) t.len
theorem KidsD.there : ∀ {kvs : List (L2.Key × V)} {cs : List Addr} {ls : List (κ × List α)}, KidsD K R H kvs cs ls → ∀ c ∈ cs, ∃ u, H c = some u ∧ isT u = false
  | _, _, _, .nil, c, h => by cases h
  | _, _, _, .cons h1 _ t, c, h => by
    rcases List.mem_cons.mp h with e | z
    · exact ⟨_, by rw [e]; exact h1, rfl⟩
    · exact t.there c z
theorem KidsD.keys : ∀ {kvs : List (L2.Key × V)} {cs : List Addr} {ls : List (κ × List α)}, KidsD K R H kvs cs ls → kvs.map (·.1) = ls.map fun p => Kq.key p.1
  | _, _, _, .nil => rfl
  | _, _, _, .cons _ _ t => by rw [List.map_cons, List.map_cons, t.keys]
theorem dget_cons' (k k' : κ) (a : α) (l : List (κ × α)) : dGet ((k', a) :: l) k = if k' = k then some a else dGet l k := by
  unfold dGet
  rw [List.find?_cons]
  by_cases e : k' = k
  · rw [if_pos e, decide_eq_true e]
    rfl
  · rw [if_neg e, decide_eq_false e]
theorem KidsD.none (k : κ) : ∀ {kvs : List (L2.Key × V)} {cs : List Addr} {ls : List (κ × List α)}, KidsD K R H kvs cs ls → dGet ls k = none → valV kvs (Kq.key k) = none
  | _, _, _, .nil, _ => rfl
  | _, _, _, .cons (k := k') _ _ t, e => by
    rw [dget_cons'] at e
    by_cases h : k' = k
    · rw [if_pos h] at e
      cases e
    · rw [if_neg h] at e
      rw [valV_neg (fun z => h (Kq.inj z))]
      exact t.none k e
theorem map_other (k : κ) (L : List α) : ∀ {ls : List (κ × List α)}, k ∉ ls.map (·.1) → (ls.map fun p => if p.1 = k then (p.1, L) else p) = ls
  | [], _ => rfl
  | p :: ls, h => by
    rw [List.map_cons, List.mem_cons, not_or] at h
    rw [List.map_cons, if_neg (fun e => h.1 e.symm), map_other k L h.2]
/-- the kid at a key, and it changed -/
theorem KidsD.find (k : κ) : ∀ {kvs : List (L2.Key × V)} {cs : List Addr} {ls : List (κ × List α)} {L : List α}, KidsD K R H kvs cs ls → cs.Nodup → (ls.map (·.1)).Nodup → dGet ls k = some L → ∃ c vs, valV kvs (Kq.key k) = some (.ref c) ∧ c ∈ cs ∧ H c = some (.lst vs) ∧ AllR K R vs L ∧
    ∀ (R' H' : Hp) (vs' : List V) (L' : List α), Ex R R' → (∀ z ∈ cs, z ≠ c → ∀ u, H z = some u → H' z = some u) → H' c = some (.lst vs') → AllR K R' vs' L' → KidsD K R' H' kvs cs (ls.map fun p => if p.1 = k then (p.1, L') else p)
  | _, _, _, _, .nil, _, _, e => by cases e
  | _, _, _, L, .cons (k := k') (c := c0) (l := l0) (ls := ls) h1 h2 t, nd, kn, e => by
    obtain ⟨n1, n2⟩ := List.nodup_cons.mp nd
    rw [List.map_cons] at kn
    obtain ⟨m1, m2⟩ := List.nodup_cons.mp kn
    rw [dget_cons'] at e
    by_cases h : k' = k
    · rw [if_pos h] at e
      cases e
      subst h
      refine ⟨c0, _, valV_pos rfl, List.mem_cons_self, h1, h2, fun R' H' vs' L' x f h3 r3 => ?_⟩
      rw [List.map_cons, if_pos rfl, map_other _ _ m1]
      exact .cons h3 r3 (t.mono x fun z hz => f z (List.mem_cons_of_mem _ hz) fun e => n1 (by rw [← e]; exact hz))
    · rw [if_neg h] at e
      obtain ⟨c, vs, g1, g2, g3, g4, g5⟩ := t.find k n2 m2 e
      refine ⟨c, vs, ?_, List.mem_cons_of_mem _ g2, g3, g4, fun R' H' vs' L' x f h3 r3 => ?_⟩
      · rw [valV_neg (fun z => h (Kq.inj z))]
        exact g1
      · rw [List.map_cons, if_neg h]
        exact .cons (f _ List.mem_cons_self (fun e => n1 (by rw [e]; exact g2)) _ h1) (h2.mono x) (g5 R' H' vs' L' x (fun z hz => f z (List.mem_cons_of_mem _ hz)) h3 r3)
theorem KidsD.snoc (k : κ) {c : Addr} {vs : List V} {l : List α} (h : H c = some (.lst vs)) (r : AllR K R vs l) : ∀ {kvs : List (L2.Key × V)} {cs : List Addr} {ls : List (κ × List α)}, KidsD K R H kvs cs ls → KidsD K R H (kvs ++ [(Kq.key k, .ref c)]) (cs ++ [c]) (ls ++ [(k, l)])
  | _, _, _, .nil => .cons h r .nil
  | _, _, _, .cons h1 h2 t => .cons h1 h2 (t.snoc k h r)
instance instOdDL : Od (Dct κ (List α)) where
  dh := fun K R H o ps d => (d.l.map Prod.fst).Nodup ∧ ∃ kvs, o = .dK kvs ∧ KidsD K R H kvs ps d.l
  mono := fun {K R R' H H' o ps a} e f h => by
    obtain ⟨n, kvs, h, k⟩ := h
    exact ⟨n, kvs, h, k.mono e f⟩
  there := fun {K R H o ps a} h => by
    obtain ⟨_, _, _, k⟩ := h
    exact k.there
  nt := fun {K R H o ps a} h => by
    obtain ⟨_, _, h, _⟩ := h
    rw [h]
    rfl
end
/-! ### slots that are deep -/
section
variable {K : PySem.W.Frag} {R0 H0 R H R' H' : Hp} {Γ : List Slot} {σ : L2.St} {os : List Addr}
/-- some of the heap, frozen too -/
def plus (R H : Hp) (cs : List Addr) : Hp := fun a => if a ∈ cs then H a else R a
end
/-! ### new ones -/
structure JD (X : Cx) (R0 H0 : Hp) (Γ : List Slot) (e : Expr) {α : Type} [Od α] (m : Option α) : Prop where
  run : ∀ σ R H, Sat X.K R0 H0 Γ σ R H → ∀ a, m = some a → ∀ Q : VK, (∀ p o ps R' H', Ext R H R' H' → (∀ c ∈ p :: ps, H c = none) → (p :: ps).Nodup → H' p = some o → (∀ c ∈ p :: ps, R' c = none) → Od.dh X.K R' H' o ps a → Q (.ref p) H') → eSem X e σ H Q
structure JLo (X : Cx) (R0 H0 : Hp) (Γ : List Slot) (es : List Expr) {α : Type} [Py α] (m : Option (List (List α))) : Prop where
  run : ∀ σ R H, Sat X.K R0 H0 Γ σ R H → ∀ a, m = some a → ∀ Q : List V → Hp → Prop, (∀ ps R' H', Ext R H R' H' → ps.length = es.length → (∀ c ∈ ps, H c = none) → ps.Nodup → (∀ c ∈ ps, R' c = none) → Kids X.K R' H' ps a → Q (ps.map V.ref) H') → aSem X es σ H Q
section
variable {X : Cx} {R0 H0 : Hp} {Γ : List Slot} {e a b f : Expr} {es : List Expr} {pos : Pos} {α κ : Type} [Py α] [Py κ] [DecidableEq κ] [Kq κ]
end
end FK

/-! what is deep, read and changed -/
namespace FK
open PySem PySem.Spec PyProof.Rows L2
def rExtendR : V → List V → Hp → VK → Prop := fun x vs H Q => ∃ l b xs zs, x = .ref l ∧ vs = [.ref b] ∧ H l = some (.lst xs) ∧ Rd H b (.lst zs) ∧ xs.length + zs.length ≤ sizeLine ∧ Q .non (upd H l (.lst (xs ++ zs)))
def llApp {α : Type} (x : List (List α)) (k : Int) (y : α) : Option (List (List α)) := (ixN x.length k).bind fun j => (x[j]?).bind fun l => (lApp l y).bind fun l2 => some (x.set j l2)
def llExt {α : Type} (x : List (List α)) (k : Int) (y : List α) : Option (List (List α)) := (ixN x.length k).bind fun j => (x[j]?).bind fun l => (lCat l y).bind fun l2 => some (x.set j l2)
def ddApp {κ α : Type} [DecidableEq κ] (d : Dct κ (List α)) (k : κ) (y : α) : Option (Dct κ (List α)) := (lApp ((dGet d.l k).getD []) y).bind fun l => dSet d k l
def ddExt {κ α : Type} [DecidableEq κ] (d : Dct κ (List α)) (k : κ) (y : List α) : Option (Dct κ (List α)) := (lCat ((dGet d.l k).getD []) y).bind fun l => dSet d k l
section
variable {X : Cx} {R0 H0 : Hp} {Γ : List Slot} {e a b f : Expr} {es : List Expr} {pos : Pos} {α κ : Type} [Py α] [Py κ] [DecidableEq κ] [Kq κ]
end
end FK

/-! comprehensions over a dict's values; sorted of a deep dict -/
namespace FK
open PySem PySem.Spec PyProof.Rows L2
section
variable {X : Cx} {R0 H0 : Hp} {Γ : List Slot} {e a b tg : Expr} {pos : Pos}

theorem KidsD.strs {K : PySem.W.Frag} {R H : Hp} {α : Type} [Py α] {kvs : List (L2.Key × V)} {cs : List Addr} {ls : List (Str × List α)} (h : KidsD K R H kvs cs ls) : kvs.map (·.1) = (ls.map (·.1)).map Sum.inr := by
  rw [h.keys, List.map_map]
  rfl
end
end FK

/-! what is one's own, read for a while as if handed in: its slot and those of what was handed in are pinned, so that it comes back -/
namespace FK
open PySem PySem.Spec PyProof.Rows L2
/-- a thing at a known place -/
structure Pn (α : Type) where
  v : V
  a : α
instance {α : Type} [Py α] : Py (Pn α) where
  rep K R v x := v = x.v ∧ rep K R v x.a
  bor K R H v x := v = x.v ∧ bor K R H v x.a
  mono e h := ⟨h.1, Py.mono e h.2⟩
  bmono e1 e2 h := ⟨h.1, Py.bmono e1 e2 h.2⟩
  lend e h := ⟨h.1, Py.lend e h.2⟩
/-- told by what it stands for -/
class Det (α : Type) [Py α] : Prop where
  det : ∀ {K : PySem.W.Frag} {R R' H H' : Hp} {v w : V} {a : α}, bor K R H v a → bor K R' H' w a → v = w
instance {α : Type} [Py α] : Det (Pn α) := ⟨fun h h' => h.1.trans h'.1.symm⟩
instance : Det Int := ⟨fun h h' => Eq.trans h (Eq.symm h')⟩
instance : Det Bool := ⟨fun h h' => Eq.trans h (Eq.symm h')⟩
instance : Det Str := ⟨fun h h' => Eq.trans h (Eq.symm h')⟩
def noB : Slot → Prop
  | @Slot.b _ _ _ => False
  | _ => True
/-- each slot of what was handed in is as it was -/
inductive Bk : List Slot → List Slot → Prop
  | nil : Bk [] []
  | b {Γ Γ1 : List Slot} {α : Type} [Py α] [Det α] (a : α) : Bk Γ Γ1 → Bk (.b a :: Γ) (.b a :: Γ1)
  | o {Γ Γ1 : List Slot} {s s1 : Slot} (h : noB s1 := by trivial) : Bk Γ Γ1 → Bk (s :: Γ) (s1 :: Γ1)
theorem Bk.back {K : PySem.W.Frag} {R0 H0 R1 H1 R H R' H' : Hp} : ∀ {Γ Γ1 : List Slot} {σ σ' : L2.St} {os os' : List Addr}, Bk Γ Γ1 → SlotsOk K R0 H0 R H Γ σ os → SlotsOk K R1 H1 R' H' Γ1 σ' os' → SlotsOk K R0 H0 R' H' Γ1 σ' os' := by
  intro Γ Γ1 σ σ' os os' t
  induction t generalizing σ σ' os os' with
  | nil =>
    intro h h'
    cases σ' with
    | nil => exact h'
    | cons x σ' => exact h'.elim
  | b a t ih =>
    intro h h'
    cases σ with
    | nil => exact h.elim
    | cons x σ =>
      cases σ' with
      | nil => exact h'.elim
      | cons y σ' =>
        obtain ⟨o1, o2, _, ⟨_, v, hv, r⟩, h2⟩ := h
        obtain ⟨p1, p2, e, ⟨e1, v', hv', r'⟩, h2'⟩ := h'
        subst e1
        have := Det.det r r'
        subst this
        exact ⟨[], p2, e, ⟨rfl, v, hv', r⟩, ih h2 h2'⟩
  | @o _ _ s s1 hs t ih =>
    intro h h'
    cases σ with
    | nil => exact h.elim
    | cons x σ =>
      cases σ' with
      | nil => exact h'.elim
      | cons y σ' =>
        obtain ⟨o1, o2, _, _, h2⟩ := h
        obtain ⟨p1, p2, e, h1', h2'⟩ := h'
        refine ⟨p1, p2, e, ?_, ih h2 h2'⟩
        cases s1 with
        | b a => exact hs.elim
        | any => exact h1'
        | v a => exact h1'
        | own a => exact h1'
        | deep a => exact h1'
/-- the ends of a turn, slots by slots -/
inductive ORel (P : List Slot → List Slot → Prop) : Out → Out → Prop
  | nx {Γ Γ' : List Slot} : P Γ Γ' → ORel P (.nx Γ) (.nx Γ')
  | bk {Γ Γ' : List Slot} : P Γ Γ' → ORel P (.bk Γ) (.bk Γ')
  | ct {Γ Γ' : List Slot} : P Γ Γ' → ORel P (.ct Γ) (.ct Γ')
  | rt {α : Type} [Py α] (a : α) : ORel P (.rt a) (.rt a)
  | ro {α : Type} [Ob α] (a : α) : ORel P (.ro a) (.ro a)
  | rd {α : Type} [Od α] (a : α) : ORel P (.rd a) (.rd a)
  | ex (x : Xv) : ORel P (.ex x) (.ex x)
section
variable {X : Cx} {R0 H0 : Hp} {Γ : List Slot} {e a b tg : Expr} {pos : Pos} {st : Stmt} {β : Type}
def UnPin {α : Type} [Py α] (j : Nat) (v : V) (c : α) (Γ1 Γ2 : List Slot) : Prop := Γ1[j]? = some (.b (⟨v, c⟩ : Pn α)) ∧ Γ2 = Γ1.set j (.b c)
def UnLock {α : Type} [Py α] [Ob α] (Γ : List Slot) (i : Nat) (v : V) (c : α) (Γ1 Γ2 : List Slot) : Prop := Γ1[i]? = some (.b (⟨v, c⟩ : Pn α)) ∧ Γ2 = Γ1.set i (.own c) ∧ Bk (Γ.set i .any) (Γ1.set i .any)
/-- what is handed in and what is one's own: told by the same record -/
class Lk (α : Type) [Py α] [Ob α] : Prop where
  of : ∀ {K : PySem.W.Frag} {R H : Hp} {p : Addr} {o : HO} {a : α}, H p = some o → ho K R o a → bor K R H (.ref p) a
instance {α : Type} [Py α] : Lk (List α) := ⟨fun {K R H p o a} h q => ⟨p, o, rfl, .inl h, q⟩⟩
theorem SlotsOk.base {K : PySem.W.Frag} {R0 H0 R1 H1 R H : Hp} (e1 : Ex R0 R1) (e2 : Ex H0 H1) : ∀ {Γ : List Slot} {σ : L2.St} {os : List Addr}, SlotsOk K R0 H0 R H Γ σ os → SlotsOk K R1 H1 R H Γ σ os
  | [], [], _, h => h
  | [], _ :: _, _, h => h.elim
  | _ :: _, [], _, h => h.elim
  | s :: Γ, x :: σ, os, h => by
    obtain ⟨o1, o2, e, h1, h2⟩ := h
    refine ⟨o1, o2, e, ?_, h2.base e1 e2⟩
    cases s with
    | any => exact h1
    | v a => exact h1
    | own a => exact h1
    | deep a => exact h1
    | b a =>
      obtain ⟨z, v, hv, r⟩ := h1
      exact ⟨z, v, hv, Py.bmono e1 e2 r⟩
theorem Sat.lend {K : PySem.W.Frag} {R H : Hp} {σ : L2.St} {α : Type} [Py α] [Ob α] [Lk α] {c : α} {i : Nat} (S : Sat K R0 H0 Γ σ R H) (hΓ : Γ[i]? = some (.own c)) : ∃ p o, H0 p = none ∧ R p = none ∧ isT o = false ∧ ho K R o c ∧ Sat K R (upd H0 p o) (Γ.set i (.b (⟨.ref p, c⟩ : Pn α))) σ R H ∧
    ∀ Γ1 σ' R' H', Sat K R (upd H0 p o) Γ1 σ' R' H' → UnLock Γ i (.ref p) c Γ1 (Γ1.set i (.own c)) → Sat K R0 H0 (Γ1.set i (.own c)) σ' R' H' := by
  obtain ⟨⟨os, s, nd, fr⟩, e0⟩ := S
  obtain ⟨x, o1, oa, ob, h1, h2, ⟨p, o, e1, hx, hp, hr⟩, h4⟩ := s.at hΓ
  subst hx e1 h2
  obtain ⟨f1, f2⟩ := fr p (List.mem_append_right _ (List.mem_append_left _ (List.mem_singleton.mpr rfl)))
  have ne : ∀ z ∈ oa ++ ([] ++ ob), z ≠ p := fun z hz y => by
    subst y
    have a1 := List.nodup_append.mp nd
    rcases List.mem_append.mp hz with y | y
    · exact a1.2.2 z y z (List.mem_append_left _ (List.mem_singleton.mpr rfl)) rfl
    · exact (List.nodup_append.mp a1.2.1).2.2 z (List.mem_singleton.mpr rfl) z y rfl
  have sl : (oa ++ ([] ++ ob)).Sublist (oa ++ ([p] ++ ob)) := List.Sublist.append (List.Sublist.refl _) (List.Sublist.append (List.nil_sublist _) (List.Sublist.refl _))
  have eN : Ex H0 (upd H0 p o) := .new f2
  have eH : Ex (upd H0 p o) H := fun z u hz => by
    by_cases y : z = p
    · rw [y, upd_same] at hz
      rw [y, hp, hz]
    · rw [upd_ne y] at hz
      exact e0.h z u hz
  have tp : isT o = false := Ob.nt hr
  refine ⟨p, o, f2, f1, tp, hr, ⟨⟨oa ++ ([] ++ ob), ?_, nd.sublist sl, fun z hz => ?_⟩, ⟨.refl R, eH, e0.i, fun _ _ _ _ q => q⟩⟩, fun Γ1 σ' R' H' S' u => ?_⟩
  · have g := h4 R H .any (some (.ref p)) [] (.refl R) (fun _ _ _ q => q) rfl
    have g := g.base e0.r eN
    rw [set_same h1] at g
    have li : i < Γ.length := by
      rcases Nat.lt_or_ge i Γ.length with z | z
      · exact z
      · rw [List.getElem?_eq_none z] at hΓ
        cases hΓ
    obtain ⟨x2, o2, pa, pb, k1, k2, k3, k4⟩ := g.at (i := i) (s := .any) (by rw [List.getElem?_set, if_pos rfl, if_pos li])
    rw [h1] at k1
    cases k1
    have k3 : o2 = [] := k3
    subst k3
    have g2 := k4 R H (.b (⟨.ref p, c⟩ : Pn α)) (some (.ref p)) [] (.refl R) (fun _ _ _ q => q) ⟨rfl, .ref p, rfl, rfl, Lk.of upd_same hr⟩
    rw [set_same h1, List.set_set, ← k2] at g2
    exact g2
  · obtain ⟨a1, a2⟩ := fr z (sl.mem hz)
    exact ⟨a1, by rw [upd_ne (ne z hz)]; exact a2⟩
  · obtain ⟨u1, _, u3⟩ := u
    obtain ⟨⟨os', s', nd', fr'⟩, e'⟩ := S'
    obtain ⟨x', o1', oa', ob', g1, g2, ⟨ge, w, hx', hw, _⟩, g4⟩ := s'.at u1
    subst ge hx' g2
    have hw : w = .ref p := hw
    subst hw
    have k := g4 R' H' .any (some (.ref p)) [] (.refl R') (fun _ _ _ q => q) rfl
    rw [set_same g1] at k
    have k0 := h4 R H .any (some (.ref p)) [] (.refl R) (fun _ _ _ q => q) rfl
    rw [set_same h1] at k0
    have kb := u3.back k0 k
    have li : i < Γ1.length := by
      rcases Nat.lt_or_ge i Γ1.length with z | z
      · exact z
      · rw [List.getElem?_eq_none z] at u1
        cases u1
    obtain ⟨x2, o2, pa, pb, q1, q2, q3, q4⟩ := kb.at (i := i) (s := .any) (by rw [List.getElem?_set, if_pos rfl, if_pos li])
    have q3 : o2 = [] := q3
    subst q3
    have rp : R' p = none := e'.n p o tp upd_same f1
    have gg := q4 R' H' (.own c) (some (.ref p)) [p] (.refl R') (fun _ _ _ q => q) ⟨p, o, rfl, rfl, e'.h p o upd_same, Ob.mono e'.r hr⟩
    rw [set_same g1, List.set_set] at gg
    have np : ∀ z ∈ pa ++ ([] ++ pb), z ≠ p := fun z hz y => by
      subst y
      rw [← q2] at hz
      have := (fr' z hz).2
      rw [upd_same] at this
      cases this
    refine ⟨⟨_, gg, ?_, fun z hz => ?_⟩, ⟨e0.r.trans e'.r, eN.trans e'.h, e'.i, fun z u t hz hn => ?_⟩⟩
    · have nn : (pa ++ ([] ++ pb)).Nodup := by rw [← q2]; exact nd'
      obtain ⟨n1, n2, n3⟩ := List.nodup_append.mp nn
      refine List.nodup_append.mpr ⟨n1, List.nodup_cons.mpr ⟨fun z => np p (List.mem_append_right _ z) rfl, n2⟩, fun a ha b hb y => ?_⟩
      rcases List.mem_cons.mp hb with h | h
      · exact np a (List.mem_append_left _ ha) (y.trans h)
      · exact n3 a ha b h y
    · by_cases y : z = p
      · rw [y]
        exact ⟨rp, f2⟩
      · have hm : z ∈ oa' ++ ([] ++ ob') := by
          rw [q2]
          rcases List.mem_append.mp hz with h | h
          · exact List.mem_append_left _ h
          · rcases List.mem_cons.mp h with h | h
            · exact absurd h y
            · exact List.mem_append_right _ h
        obtain ⟨a1, a2⟩ := fr' z hm
        rw [upd_ne y] at a2
        exact ⟨a1, a2⟩
    · by_cases y : z = p
      · rw [y]
        exact rp
      · exact e'.n z u t (by rw [upd_ne y]; exact hz) (e0.n z u t hz hn)
/-! what is pinned, read -/
/-! a, b = a list -/
def lst2 {α : Type} : List α → Option (α × α)
  | [x, y] => some (x, y)
  | _ => none
def lst3 {α : Type} : List α → Option (T3 α α α)
  | [x, y, z] => some ⟨x, y, z⟩
  | _ => none
end
end FK

/-! comprehensions of new lists, each one's own -/
namespace FK
open PySem PySem.Spec PyProof.Rows L2
theorem Kids.app {K : PySem.W.Frag} {R H : Hp} {α : Type} [Py α] {c : Addr} {vs : List V} {l : List α} : ∀ {cs : List Addr} {ls : List (List α)}, Kids K R H cs ls → H c = some (.lst vs) → AllR K R vs l → Kids K R H (cs ++ [c]) (ls ++ [l])
  | _, _, .nil, h, r => .cons h r .nil
  | _, _, .cons a b t, h, r => .cons a b (t.app h r)
section
variable {X : Cx} {R0 H0 : Hp} {Γ : List Slot} {e a b tg : Expr} {pos : Pos}
end
end FK

/-! a list of two unlike things -/
namespace FK
open PySem PySem.Spec PyProof.Rows L2
open PySem.SeqAt (EqAt RcAt RcNeAt)
structure Hl (α β : Type) where
  a : α
  b : β
  deriving DecidableEq
section
variable {α β : Type} [Py α] [Py β]
instance instObHl : Ob (Hl α β) where
  ho := fun K R o h => ∃ x y, o = .lst [x, y] ∧ rep K R x h.a ∧ rep K R y h.b
  mono := fun e ⟨x, y, h, p, q⟩ => ⟨x, y, h, Py.mono e p, Py.mono e q⟩
  nt := fun ⟨x, y, h, _⟩ => by rw [h]; rfl
variable {X : Cx} {R0 H0 : Hp} {Γ : List Slot} {e a b : Expr} {pos : Pos}
variable [Dq α] [Dq β]
theorem hl2_ext (a b : (Hl α β)) : (a = b) ↔ (a.a = b.a ∧ a.b = b.b) := by
  refine ⟨fun h => by rw [h]; exact ⟨rfl, rfl⟩, fun h => ?_⟩
  obtain ⟨h0, h1⟩ := h
  cases a
  cases b
  simp only at h0 h1
  subst h0 h1
  rfl
theorem hl2_rd {X : Cx} {pins : List (Addr × Obj)} {σ : L2.St} {H : Hp} {s : Shared} (I : Inv X pins σ H s) {v : V} {u : Value} {a : (Hl α β)} (r : RelV v u) (h : rep X.K H v a) : ∃ p x0 x1 z0 z1, v = .ref p ∧ u = .ref p ∧ PlainL s.heap p [z0, z1].toArray ∧ RelV x0 z0 ∧ RelV x1 z1 ∧ rep X.K H x0 a.a ∧ rep X.K H x1 a.b := by
  obtain ⟨p, o, rfl, hp, x0, x1, rfl, q0, q1⟩ := h
  cases r
  obtain ⟨us, t, l, _⟩ := I.list (.inl hp)
  cases t with
  | cons r0 t0 =>
  cases t0 with
  | cons r1 t1 =>
  cases t1
  exact ⟨p, _, _, _, _, rfl, rfl, l, r0, r1, q0, q1⟩
theorem hl2_rc {X : Cx} {pins : List (Addr × Obj)} {σ : L2.St} {H : Hp} {s : Shared} (I : Inv X pins σ H s) {A : Around} {v w : V} {u u' : Value} {a b : (Hl α β)} (hu : A.units + (Dq.dep α + Dq.dep β + 1) < cLine) (r1 : RelV v u) (r2 : RelV w u') (h1 : rep X.K H v a) (h2 : rep X.K H w b) : RcAt A s u u' (dec (a = b)) ∧ RcNeAt A s u u' (!dec (a = b)) := by
  obtain ⟨pm, x0m, x1m, z0m, z1m, rfl, rfl, lm, r0m, r1m, q0m, q1m⟩ := hl2_rd I r1 h1
  obtain ⟨pn, x0n, x1n, z0n, z1n, rfl, rfl, ln, r0n, r1n, q0n, q1n⟩ := hl2_rd I r2 h2
  have hu0 : A.units < cLine := by omega
  have he : ∀ j (h1 : j < [z0m, z1m].toArray.size) (h2 : j < [z0n, z1n].toArray.size), EqAt A.in1 s [z0m, z1m].toArray[j] [z0n, z1n].toArray[j] ((fun j => match j with | 0 => dec (a.a = b.a) | _ => dec (a.b = b.b) : Nat → Bool) j) := fun j h1 h2 => by
    match j, h1, h2 with
    | 0, _, _ => exact Dq.eq I (A := A.in1) (show A.units + 1 + Dq.dep α < cLine by omega) r0m r0n q0m q0n
    | 1, _, _ => exact Dq.eq I (A := A.in1) (show A.units + 1 + Dq.dep β < cLine by omega) r1m r1n q1m q1n
    | j + 2, h1, _ => exact absurd h1 (by simp)
  have e1 := RcAt.lists lm.isList ln.isList rfl hu0 he
  have e2 := RcNeAt.lists lm.isList ln.isList rfl hu0 he
  have e : ((List.range [z0m, z1m].toArray.size).all (fun j => match j with | 0 => dec (a.a = b.a) | _ => dec (a.b = b.b) : Nat → Bool)) = dec (a = b) := by
    rw [dec_iff (hl2_ext a b)]
    rw [dec_and]
    show (dec (a.a = b.a) && (dec (a.b = b.b) && true)) = _
    simp only [Bool.and_true]
  rw [e] at e1 e2
  exact ⟨e1, e2⟩
instance instDqHl : Dq (Hl α β) where
  dep := Dq.dep α + Dq.dep β + 1
  rp := fun e ⟨p, o, h, r, q⟩ => ⟨p, o, h, r, Ob.mono e q⟩
  uq := fun {X pins σ H s} I {v w u a b} r1 r2 h1 h2 => by
    obtain ⟨pm, x0m, x1m, z0m, z1m, rfl, rfl, lm, r0m, r1m, q0m, q1m⟩ := hl2_rd I r1 h1
    obtain ⟨pn, x0n, x1n, z0n, z1n, e0, e1, ln, r0n, r1n, q0n, q1n⟩ := hl2_rd I r2 h2
    cases e1
    have e := islist_uq lm ln
    injection e with e0 et
    injection et with e1 et
    subst e0 e1
    exact (hl2_ext a b).mpr ⟨Dq.uq I r0m r0n q0m q0n, Dq.uq I r1m r1n q1m q1n⟩
  eq := fun {X pins σ H s} I {A v w u u' a b} hu r1 r2 h1 h2 => by
    have k := hl2_rc I hu r1 r2 h1 h2
    obtain ⟨pm, x0m, x1m, z0m, z1m, rfl, rfl, lm, r0m, r1m, q0m, q1m⟩ := hl2_rd I r1 h1
    obtain ⟨pn, x0n, x1n, z0n, z1n, rfl, rfl, ln, r0n, r1n, q0n, q1n⟩ := hl2_rd I r2 h2
    by_cases e : pm = pn
    · subst e
      have e := islist_uq lm ln
      injection e with e0 et
      injection et with e1 et
      subst e0 e1
      rw [dec_t ((hl2_ext a b).mpr ⟨Dq.uq I r0m r0n q0m q0n, Dq.uq I r1m r1n q1m q1n⟩)]
      exact SeqAt.EqAt.same _
    · exact SeqAt.EqAt.of_refs e k.1
instance instDcHl : Dc (Hl α β) := ⟨fun {X pins σ H s} I {A v w u u' a b} hu r1 r2 h1 h2 => hl2_rc I hu r1 r2 h1 h2⟩
end
end FK

/-! deep things given back; deep things read for a while; dicts walked by their values -/
namespace FK
open PySem PySem.Spec PyProof.Rows L2
def spD {γ β : Type} [Ar γ] [Od β] (K : PySem.W.Frag) (m : γ → Option β) : Sp := fun vs H Q _ => ∃ R g b, Ex R H ∧ Ar.ok K R H vs g ∧ m g = some b ∧
  ∀ p o ps R' H', Ext R H R' H' → (∀ c ∈ p :: ps, H c = none) → (p :: ps).Nodup → H' p = some o → (∀ c ∈ p :: ps, R' c = none) → Od.dh K R' H' o ps b → Q (.ref p) H'
section
variable {X : Cx} {R0 H0 : Hp} {Γ : List Slot} {e : Expr} {es : List Expr} {rest : List Stmt} {pos p : Pos} {γ β : Type} [Ar γ]
end
section
variable {P : Program} {w : World} {K : PySem.W.Frag} {mg : Str → Option Value} {base : Heap} {x qual : Str} {st : Stmt} {f : Addr} {fd : FuncData} {N ps : List Str} {k : Nat} {γ β : Type} [Ar γ]
end
/-! ### frozen for the time of a test -/
def less (R : Hp) (cs : List Addr) : Hp := fun a => if a ∈ cs then none else R a
class Rl (β : Type) [Py β] : Prop where
  ind : ∀ {K : PySem.W.Frag} {R R' : Hp} {v : V} {b : β}, rep K R v b → rep K R' v b
instance : Rl Int := ⟨fun h => h⟩
instance : Rl Bool := ⟨fun h => h⟩
instance : Rl Str := ⟨fun h => h⟩
section
variable {X : Cx} {R0 H0 : Hp} {Γ : List Slot} {e : Expr} {pos : Pos} {α : Type} [Py α]
end
/-! ### a dict that is only read from now on -/
structure Kd (κ α : Type) where
  l : List (κ × α)
section
variable {κ α : Type} [Py κ] [DecidableEq κ] [Kq κ] [Py α]
instance instPyKd : Py (Kd κ α) where
  rep := fun K R v a => ∃ p od kvs, v = .ref p ∧ R p = some (.frz od (.dK kvs)) ∧ DR K R kvs a.l
  bor := fun K R H v a => ∃ p od kvs, v = .ref p ∧ H p = some (.frz od (.dK kvs)) ∧ DR K R kvs a.l
  mono := fun e ⟨p, od, kvs, h, r, q⟩ => ⟨p, od, kvs, h, e _ _ r, q.mono e⟩
  bmono := fun e e2 ⟨p, od, kvs, h, r, q⟩ => ⟨p, od, kvs, h, e2 _ _ r, q.mono e⟩
  lend := fun e ⟨p, od, kvs, h, r, q⟩ => ⟨p, od, kvs, h, e _ _ r, q⟩
theorem Sat.kd {K : PySem.W.Frag} {R0 H0 R H : Hp} {Γ : List Slot} {σ : L2.St} {i : Nat} {d : Dct κ α} (S : Sat K R0 H0 Γ σ R H) (hi : Γ[i]? = some (.own d)) : ∃ p kvs, H p = some (.dK kvs) ∧ ∀ od, Ex R (upd R p (.frz od (.dK kvs))) ∧ Sat K R0 H0 (Γ.set i (.v (⟨d.l⟩ : Kd κ α))) σ (upd R p (.frz od (.dK kvs))) (upd H p (.frz od (.dK kvs))) := by
  obtain ⟨⟨os, s, nd, fr⟩, e0⟩ := S
  obtain ⟨x, o1, oa, ob, h1, h2, ⟨p, o, e1, hx, hp, kvs, ho, hr⟩, h4⟩ := s.at hi
  subst hx e1 h2 ho
  have hm : p ∈ oa ++ ([p] ++ ob) := List.mem_append_right _ (List.mem_append_left _ (List.mem_singleton.mpr rfl))
  obtain ⟨f1, f2⟩ := fr p hm
  refine ⟨p, kvs, hp, fun od => ?_⟩
  have er : Ex R (upd R p (.frz od (.dK kvs))) := .new f1
  have hne : ∀ z ∈ oa ++ ob, z ≠ p := fun z hz hzp => by
    subst hzp
    have hc := List.nodup_append.mp nd
    rcases List.mem_append.mp hz with hz | hz
    · exact hc.2.2 z hz z (List.mem_append_left _ (List.mem_singleton.mpr rfl)) rfl
    · exact (List.nodup_append.mp hc.2.1).2.2 z (List.mem_singleton.mpr rfl) z hz rfl
  have sub : (oa ++ ([] ++ ob)).Sublist (oa ++ ([p] ++ ob)) := List.Sublist.append (List.Sublist.refl _) (List.Sublist.append (List.nil_sublist _) (List.Sublist.refl _))
  refine ⟨er, ⟨oa ++ ([] ++ ob), ?_, nd.sublist sub, fun z hz => ?_⟩, ?_⟩
  · have g := h4 (upd R p (.frz od (.dK kvs))) (upd H p (.frz od (.dK kvs))) (.v (⟨d.l⟩ : Kd κ α)) (some (.ref p)) [] er (fun z hz u hu => by rw [upd_ne (hne z hz)]; exact hu) ⟨rfl, .ref p, rfl, p, od, kvs, rfl, upd_same, hr.mono er⟩
    rw [set_same h1] at g
    exact g
  · obtain ⟨g1, g2⟩ := fr z (sub.mem hz)
    exact ⟨by rw [upd_ne (hne z hz)]; exact g1, g2⟩
  · refine ⟨e0.r.trans er, e0.h.mut f2, e0.i.up, fun z u t hz hn => ?_⟩
    rw [upd_ne (ne_of_none hz f2)]
    exact e0.n z u t hz hn
variable {X : Cx} {R0 H0 : Hp} {Γ : List Slot} {e tg : Expr} {st : List Stmt} {pos : Pos} {β : Type} {m : Option β} {out : β → Out}
theorem DR.at {K : PySem.W.Frag} {R : Hp} : ∀ {kvs : List (L2.Key × V)} {l : List (κ × α)} {i : Nat} {a : α}, DR K R kvs l → (l.map (·.2))[i]? = some a → ∃ k v, kvs[i]? = some (k, v) ∧ rep K R v a
  | _, _, i, a, .nil, h => by simp at h
  | _, _, 0, a, .cons h t, e => by
    cases Option.some.inj e
    exact ⟨_, _, rfl, h⟩
  | _, _, i + 1, a, .cons h t, e => t.at (i := i) e
end
/-! ### comprehensions of new lists, given back -/
section
variable {X : Cx} {R0 H0 : Hp} {Γ : List Slot} {e tg : Expr} {pos : Pos}
end
end FK

/-! what is deep, changed: each kid of a list of lists; a new kid -/
namespace FK
open PySem PySem.Spec PyProof.Rows L2
def kCur {α : Type} (g : List α → List α) (xs : List (List α)) (k : Nat) : List (List α) := (xs.take k).map g ++ xs.drop k
section
variable {X : Cx} {R0 H0 : Hp} {Γ : List Slot} {e a b tg : Expr} {pos : Pos} {α : Type} [Py α]
def kApp (xs : List (List α)) (a : α) : Option (List (List α)) := if (xs.all fun l => decide (l.length < 16000000)) = true then some (xs.map (· ++ [a])) else none
end
end FK

/-! sorted(d), d a dict that may be read -/
namespace FK
open PySem PySem.Spec PyProof.Rows L2
section
variable {α : Type} [Py α] {X : Cx} {R0 H0 : Hp} {Γ : List Slot} {e a b o : Expr} {pos : Pos}
def dSrt (d : Dct Str α) : Option (List Str) := if d.l.length < 64 then some (srt (d.l.map (·.1))) else none
end
end FK

/-! what may raise: values, calls, defs, statements -/
namespace FK
open PySem PySem.Spec PyProof.Rows L2
inductive Rs (α : Type) where
  | ok (a : α)
  | ex (x : Xv)
def Rs.fl {α ρ : Type} : Rs α → Fl α (Rs ρ)
  | .ok a => .nx a
  | .ex x => .rt (.ex x)
def outR {α : Type} [Py α] : Rs α → Out
  | .ok a => .rt a
  | .ex x => .ex x
def outRO {α : Type} [Ob α] : Rs α → Out
  | .ok a => .ro a
  | .ex x => .ex x
def outRD {α : Type} [Od α] : Rs α → Out
  | .ok a => .rd a
  | .ex x => .ex x
section
variable {α : Type}
end
/-- an expression that may raise: a value | a new thing | a deep thing -/
structure JX (X : Cx) (R0 H0 : Hp) (Γ : List Slot) (e : Expr) {α : Type} [Py α] (m : Option (Rs α)) : Prop where
  run : ∀ σ R H, Sat X.K R0 H0 Γ σ R H → ∀ r, m = some r → ∀ (Q : VK) (W : WX), Takes X W → (∀ a, r = .ok a → ∀ v R' H', Ext R H R' H' → rep X.K R' v a → Q v H') →
    (∀ x, r = .ex x → ∀ cls d R' H', Ext R H R' H' → XOk X.K R' cls d x → W cls d σ H') → eSem X e σ H Q
structure JXO (X : Cx) (R0 H0 : Hp) (Γ : List Slot) (e : Expr) {α : Type} [Ob α] (m : Option (Rs α)) : Prop where
  run : ∀ σ R H, Sat X.K R0 H0 Γ σ R H → ∀ r, m = some r → ∀ (Q : VK) (W : WX), Takes X W → (∀ a, r = .ok a → ∀ p o R' H', Ext R H R' H' → H p = none → H' p = some o → R' p = none → ho X.K R' o a → Q (.ref p) H') →
    (∀ x, r = .ex x → ∀ cls d R' H', Ext R H R' H' → XOk X.K R' cls d x → W cls d σ H') → eSem X e σ H Q
structure JXD (X : Cx) (R0 H0 : Hp) (Γ : List Slot) (e : Expr) {α : Type} [Od α] (m : Option (Rs α)) : Prop where
  run : ∀ σ R H, Sat X.K R0 H0 Γ σ R H → ∀ r, m = some r → ∀ (Q : VK) (W : WX), Takes X W → (∀ a, r = .ok a → ∀ p o ps R' H', Ext R H R' H' → (∀ c ∈ p :: ps, H c = none) → (p :: ps).Nodup → H' p = some o → (∀ c ∈ p :: ps, R' c = none) → Od.dh X.K R' H' o ps a → Q (.ref p) H') →
    (∀ x, r = .ex x → ∀ cls d R' H', Ext R H R' H' → XOk X.K R' cls d x → W cls d σ H') → eSem X e σ H Q
def spX {γ β : Type} [Ar γ] [Py β] (K : PySem.W.Frag) (m : γ → Option (Rs β)) : Sp := fun vs H Q E => ∃ R g r, Ex R H ∧ Ar.ok K R H vs g ∧ m g = some r ∧ (∀ a, r = .ok a → ∀ v R' H', Ext R H R' H' → rep K R' v a → Q v H') ∧
  ∀ x, r = .ex x → ∀ cls d R' H', Ext R H R' H' → XOk K R' cls d x → E cls d H'
def spXO {γ β : Type} [Ar γ] [Ob β] (K : PySem.W.Frag) (m : γ → Option (Rs β)) : Sp := fun vs H Q E => ∃ R g r, Ex R H ∧ Ar.ok K R H vs g ∧ m g = some r ∧ (∀ a, r = .ok a → ∀ p o R' H', Ext R H R' H' → H p = none → H' p = some o → R' p = none → ho K R' o a → Q (.ref p) H') ∧
  ∀ x, r = .ex x → ∀ cls d R' H', Ext R H R' H' → XOk K R' cls d x → E cls d H'
def spXD {γ β : Type} [Ar γ] [Od β] (K : PySem.W.Frag) (m : γ → Option (Rs β)) : Sp := fun vs H Q E => ∃ R g r, Ex R H ∧ Ar.ok K R H vs g ∧ m g = some r ∧ (∀ a, r = .ok a → ∀ p o ps R' H', Ext R H R' H' → (∀ c ∈ p :: ps, H c = none) → (p :: ps).Nodup → H' p = some o → (∀ c ∈ p :: ps, R' c = none) → Od.dh K R' H' o ps a → Q (.ref p) H') ∧
  ∀ x, r = .ex x → ∀ cls d R' H', Ext R H R' H' → XOk K R' cls d x → E cls d H'
section
variable {P : Program} {w : World} {K : PySem.W.Frag} {mg : Str → Option Value} {base : Heap} {x qual : Str} {st : Stmt} {f : Addr} {fd : FuncData} {N ps : List Str} {k : Nat} {γ β : Type} [Ar γ]
abbrev bodyC (P : Program) (w : World) (K : PySem.W.Frag) (mg : Str → Option Value) (base : Heap) (N : List Str) (qual : Str) (st : Stmt) (f : Addr) (cdv : Value) (A : Around) (outer : List Env) (s : Shared) (H : Hp) (E : XK) : Cx := cxOf (L2.CX P w) P w K mg base N qual (defScope st) f cdv A outer s H E
end
section
variable {X : Cx} {R0 H0 : Hp} {Γ : List Slot} {e a b : Expr} {es : List Expr} {rest : List Stmt} {pos p : Pos} {γ β : Type} [Ar γ]
/-- a call that raises nothing, of one argument that may raise -/
def rsB {α β : Type} (m : Option (Rs α)) (f : α → Option β) : Option (Rs β) := m.bind fun r => match r with
  | .ok a => (f a).bind fun b => some (.ok b)
  | .ex x => some (.ex x)
/-! ### statements -/
/-- where an exception goes -/
inductive XAt (Γ : List Slot) (x : Xv) : Out → Prop
  | ex : XAt Γ x (.ex x)
  | et : XAt Γ x (.et Γ x)
theorem XAt.take {σ : L2.St} {R H : Hp} {D : Ends} {x : Xv} {o : Out} (t : XAt Γ x o) (q : Req X R0 H0 R D o) (S : Sat X.K R0 H0 Γ σ R H) : ∃ W : WX, Takes X W ∧ ∀ cls d R' H', Ext R H R' H' → XOk X.K R' cls d x → W cls d σ H' := by
  cases t with
  | ex => exact ⟨_, q, fun cls d R' H' e h => ⟨R', S.e0.trans e, h⟩⟩
  | et => exact ⟨_, q, fun cls d R' H' e h => ⟨R', e.r, S.ext e, h⟩⟩
end
end FK

/-! exceptions made and raised; caught and kept -/
namespace FK
open PySem PySem.Spec PyProof.Rows L2
/-! ### made -/
def mkSem (X : Cx) (e : Expr) : L2.St → Hp → XK → Prop := fun σ H Q => ∀ pins s, Inv X pins σ H s → wpAny (model X.prog X.w) X.A (eval e X.env) (MkP X pins σ Q) X.xe s
structure JMk (X : Cx) (R0 H0 : Hp) (Γ : List Slot) (e : Expr) (m : Option Xv) : Prop where
  run : ∀ σ R H, Sat X.K R0 H0 Γ σ R H → ∀ x, m = some x → ∀ Q : XK, (∀ cls d R' H', Ext R H R' H' → XOk X.K R' cls d x → Q cls d H') → mkSem X e σ H Q
/-- what the written part says of an exception's class -/
structure XCls (K : PySem.W.Frag) (mg : Str → Option Value) (nm : Str) (C : Addr) : Prop where
  g : mg nm = some (.ref C)
  ns : PySem.W.nsIn K mainGlobals nm = some (some (.ref C))
  kC : PySem.W.keepIn K (.ref C) = true
  exC : PySem.W.subIn K (.ref C) (.type "BaseException") = some true
  tyC : PySem.W.typeIn K (.ref C) = some (.type "type")
/-- .. without an own __init__ -/
def XPlain (K : PySem.W.Frag) (mg : Str → Option Value) (nm : Str) : Prop := ∃ C, XCls K mg nm C ∧ PySem.W.excIn K C [.type "ValueError", .type "Exception", .type "BaseException", .type "object"] "ValueError.__new__" = true
/-- .. with one that stores its argument -/
def spI (C : Addr) (f : Str) : Sp := fun vs H Q _ => ∃ a v, vs = [.ref a, v] ∧ H a = some (exo a C none) ∧ ∀ dx, H dx = none → dx ≠ a → Q .non (upd (upd H dx (exd dx [(f, v)])) a (exo a C (some dx)))
def XInit (P : Program) (w : World) (K : PySem.W.Frag) (mg : Str → Option Value) (base : Heap) (nm f : Str) (ps : List Str) : Prop := ∃ C fI fd, XCls K mg nm C ∧ OexC K C ∧ PySem.W.findIn K (.ref C) "__init__" = some (some (.ref fI)) ∧
  PySem.W.typeIn K (.ref fI) = some (.type "function") ∧ FnOk P w K mg base CX0 1 fI fd ps (spI C f) ∧ Binds K fd ps []
class Pd (β : Type) [Py β] where
  pl : Str → β → Pl
  ok : ∀ {K : PySem.W.Frag} {R : Hp} {d : Addr} {f : Str} {v : V} {b : β}, rep K R v b → R d = some (.xd [(f, v)]) → PlOk K R (some d) (pl f b)
instance : Pd Int := ⟨.int, fun {K R d f v b} h e => ⟨d, rfl, by cases (show v = .int b from h); exact e⟩⟩
instance : Pd Str := ⟨.str, fun {K R d f v b} h e => ⟨d, rfl, by cases (show v = .str b from h); exact e⟩⟩
instance : Pd (List Str) := ⟨.txts, fun {K R d f v b} h e => ⟨d, v, rfl, e, h⟩⟩
section
variable {X : Cx} {R0 H0 : Hp} {Γ : List Slot} {e a b : Expr} {es : List Expr} {rest : List Stmt} {pos p : Pos}
end
/-! ### kept -/
def Exv (a : Addr) (cls : Value) (d : Option Addr) : HO := .ext fun h => ∃ (oe : Obj) (vs : Array Value), h.get? a = some oe ∧ Zc cls d oe ∧ oe.data = .fields vs
/-- what 'except x as n: m = n' wishes of an exception (n in slot i, m in slot j), that is always of the class -/
def wKeep (K : PySem.W.Frag) (c : Value) (i j : Nat) (D : Ends) : WX := fun cls d σ H => PySem.W.exmOne K cls c = some true ∧ ∀ a, H a = none → D.nx (((σ.set i (some (.ref a))).set j (some (.ref a))).set i none) (upd H a (Exv a cls d))
section
variable {X : Cx} {x n m : Str} {c : Value} {i j : Nat} {body : List Stmt} {np pos pos' q1 q2 q3 : Pos} {tb : WX → TS}
end
end FK

/-! a caught exception as a value: isinstance, its field; try .. except .. as e: m = e -/
namespace FK
open PySem PySem.Spec PyProof.Rows L2
instance instPyXv : Py Xv where
  rep := fun K R v x => ∃ a cls d, v = .ref a ∧ R a = some (Exv a cls d) ∧ XOk K R cls d x
  bor := fun K R _ v x => ∃ a cls d, v = .ref a ∧ R a = some (Exv a cls d) ∧ XOk K R cls d x
  mono := fun e ⟨a, cls, d, h, r, q⟩ => ⟨a, cls, d, h, e _ _ r, q.mono e⟩
  bmono := fun e _ ⟨a, cls, d, h, r, q⟩ => ⟨a, cls, d, h, e _ _ r, q.mono e⟩
  lend := fun _ h => h
instance : Flat Xv := ⟨fun h => h⟩
instance : Nn Xv := ⟨fun {K R v a} h e => by obtain ⟨p, o, _, h, _⟩ := h; rw [e] at h; cases h⟩
instance : Flat (Option Xv) := ⟨fun {K R H v a} h => by cases a <;> exact h⟩
/-- what a class must say for its caught instances to be asked -/
structure XKit (K : PySem.W.Frag) (C : Addr) : Prop where
  cl : (PySem.W.clsIn K C).isSome = true
  ga : PySem.W.findIn K (.ref C) "__getattribute__" = some (some (.builtin "BaseException.__getattribute__"))
  gg : PySem.W.findIn K (.ref C) "__getattr__" = some none
  ex : PySem.W.subIn K (.ref C) (.type "BaseException") = some true
  cc : PySem.W.findIn K (.ref C) "__class__" = some (some (.builtin "object.__class__"))
  sp : PySem.W.specialIn K (.builtin "object.__class__") "__get__" = some (some (.builtin "getset_descriptor.__get__"))
  tk : PySem.W.takesIn K (.builtin "object.__class__") = some true
  mo : PySem.W.mroIn K C (.type "object") = some true
  hd : PySem.W.hasDictIn K C = true
/-- the classes that may be caught -/
def Xs (K : PySem.W.Frag) (L : List Str) : Prop := ∀ c ∈ L, ∃ C, PySem.W.nsIn K mainGlobals c = some (some (.ref C)) ∧ XKit K C
section
variable {X : Cx} {pins : List (Addr × Obj)} {σ : L2.St} {R H : Hp} {s : Shared} {x : Xv}
end
/-! ### isinstance -/
def rIsX (K : PySem.W.Frag) : List V → Hp → VK → Prop := fun xs H Q => ∃ (a C : Addr) (d : Option Addr) (c : V) (cv : Value) (b : Bool), xs = [.ref a, c] ∧ H a = some (Exv a (.ref C) d) ∧ (d = none ∨ ∃ dd fs, d = some dd ∧ H dd = some (.xd fs)) ∧ XKit K C ∧
  (∀ u, RelV c u → u = cv) ∧ PySem.W.kitOne K (.ref C) cv = some b ∧ Q (.bl b) H
def isX (L : List Str) (tbl : Str → Bool) (o : Option Xv) : Option Bool := o.bind fun x => if x.c ∈ L then some (tbl x.c) else none
section
variable {X : Cx} {R0 H0 : Hp} {Γ : List Slot} {e a e2 : Expr} {pos p : Pos}
/-- a class of the program -/
def IsT (K : PySem.W.Frag) (mg : Str → Option Value) (L : List Str) (T : Str) (tbl : Str → Bool) : Prop := ∃ C, mg T = some (.ref C) ∧ ∀ c ∈ L, ∀ D, PySem.W.nsIn K mainGlobals c = some (some (.ref D)) → PySem.W.kitOne K (.ref D) (.ref C) = some (tbl c)
/-- a class that is built in -/
def IsB (K : PySem.W.Frag) (L : List Str) (Tn : String) (tbl : Str → Bool) : Prop := ∀ c ∈ L, ∀ D, PySem.W.nsIn K mainGlobals c = some (some (.ref D)) → PySem.W.kitOne K (.ref D) (.type Tn) = some (tbl c)
/-! ### its field -/
class Gd (β : Type) [Py β] where
  gt : Str → Pl → Option β
  ok : ∀ {K : PySem.W.Frag} {R : Hp} {d : Option Addr} {f : Str} {p : Pl} {b : β}, PlOk K R d p → gt f p = some b → ∃ dd fs v, d = some dd ∧ R dd = some (.xd fs) ∧ fs.lookup f = some v ∧ rep K R v b
theorem lk1 (f : Str) (v : V) : List.lookup f [(f, v)] = some v := by simp [List.lookup]
instance : Gd Int where
  gt f p := match p with
    | .int g i => if g = f then some i else none
    | _ => none
  ok {K R d f p b} h e := by
    cases p with
    | int g i =>
      obtain ⟨dd, h1, h2⟩ := h
      have e : (if g = f then some i else none) = some b := e
      by_cases c : g = f
      · subst c
        rw [if_pos rfl] at e
        cases e
        exact ⟨dd, _, _, h1, h2, lk1 g _, rfl⟩
      · rw [if_neg c] at e
        cases e
    | no => cases e
    | str g i => cases e
    | txts g i => cases e
instance : Gd Str where
  gt f p := match p with
    | .str g i => if g = f then some i else none
    | _ => none
  ok {K R d f p b} h e := by
    cases p with
    | str g i =>
      obtain ⟨dd, h1, h2⟩ := h
      have e : (if g = f then some i else none) = some b := e
      by_cases c : g = f
      · subst c
        rw [if_pos rfl] at e
        cases e
        exact ⟨dd, _, _, h1, h2, lk1 g _, rfl⟩
      · rw [if_neg c] at e
        cases e
    | no => cases e
    | int g i => cases e
    | txts g i => cases e
instance : Gd (List Str) where
  gt f p := match p with
    | .txts g i => if g = f then some i else none
    | _ => none
  ok {K R d f p b} h e := by
    cases p with
    | txts g i =>
      obtain ⟨dd, v, h1, h2, h3⟩ := h
      have e : (if g = f then some i else none) = some b := e
      by_cases c : g = f
      · subst c
        rw [if_pos rfl] at e
        cases e
        exact ⟨dd, _, v, h1, h2, lk1 g _, h3⟩
      · rw [if_neg c] at e
        cases e
    | no => cases e
    | int g i => cases e
    | str g i => cases e
/-- no class of L says anything of f -/
def NoF (K : PySem.W.Frag) (L : List Str) (f : Str) : Prop := ∀ c ∈ L, ∀ C, PySem.W.nsIn K mainGlobals c = some (some (.ref C)) → PySem.W.findIn K (.ref C) f = some none
def xGet {β : Type} [Py β] [Gd β] (L : List Str) (f : Str) (o : Option Xv) : Option β := o.bind fun x => if x.c ∈ L then Gd.gt f x.p else none
/-! ### try: .. except X as n: m = n -/
def keepX {α : Type} (L : List Str) : Rs α → Option (Rs α)
  | .ok a => some (.ok a)
  | .ex x => if x.c ∈ L then some (.ex x) else none
/-- an outcome that is no exception -/
inductive Tame : Out → Prop
  | nx {Γ : List Slot} : Tame (.nx Γ)
  | rt {α : Type} [Py α] {a : α} : Tame (.rt a)
  | ro {α : Type} [Ob α] {a : α} : Tame (.ro a)
  | rd {α : Type} [Od α] {a : α} : Tame (.rd a)
theorem Req.tr {D : Ends} {o : Out} {R : Hp} (t : Tame o) (q : Req X R0 H0 R D o) (pn : List (Addr × Obj)) (xe : Value → Shared → Prop) : Req (X.tr pn xe) R0 H0 R D o := by
  cases t <;> exact q
/-- the class that the clause names: all of L are of it -/
def CatchT (K : PySem.W.Frag) (mg : Str → Option Value) (L : List Str) (T : Str) : Prop := ∃ C, mg T = some (.ref C) ∧ ∀ c ∈ L, ∀ D, PySem.W.nsIn K mainGlobals c = some (some (.ref D)) → PySem.W.exmOne K (.ref D) (.ref C) = some true
end
end FK

/-! outcomes of statements that may raise; what the text's end says of the classes -/
namespace FK
open PySem PySem.Spec PyProof.Rows L2
def outN {α : Type} (Γ1 : α → List Slot) : Rs α → Out
  | .ok a => .nx (Γ1 a)
  | .ex x => .ex x
def outT {α : Type} (Γ : List Slot) (Γ1 : α → List Slot) : Rs α → Out
  | .ok a => .nx (Γ1 a)
  | .ex x => .et Γ x
def keepV {α : Type} (c0 : Option Xv) : Rs α → Option Xv
  | .ok _ => c0
  | .ex x => some x
def outK {α : Type} (Γ1 : Option Xv → List Slot) (c0 : Option Xv) (r : Rs α) : Out := .nx (Γ1 (keepV c0 r))
def clsBody : Stmt → List Stmt
  | .ClassDef _ _ _ body .. => body
  | _ => []
def rsO {α : Type} : Rs α → Option α
  | .ok a => some a
  | .ex _ => none
section
variable {X : Cx} {R0 H0 : Hp} {Γ : List Slot} {e : Expr}
end
section
variable {X : Cx} {R0 H0 : Hp} {Γ : List Slot} {e : Expr}
end
end FK

namespace FK
open PySem PySem.Spec PyProof.Rows L2
section
variable {X : Cx} {R0 H0 : Hp} {Γ : List Slot} {pos : Pos}
end
end FK

/-! a statement that never falls through; try whose exceptions do not come; join of a tuple of three; isinstance of a tuple of classes; what may raise in a tuple -/
namespace FK
open PySem PySem.Spec PyProof.Rows L2
section
variable {X : Cx} {R0 H0 : Hp} {Γ : List Slot} {e a b o : Expr} {es : List Expr} {rest : List Stmt} {st : Stmt} {pos p : Pos} {β : Type} {out : β → Out}
end
/-! ### isinstance(e, (A, B, ..)) -/
structure Cv where
  a : Addr
instance instPyCv : Py Cv := flatPy fun c => V.ref c.a
def JC (X : Cx) (R0 H0 : Hp) (Γ : List Slot) (es : List Expr) (L : List Str) (tbl : Str → Bool) : Prop := ∃ Cs : List Addr, JLs X R0 H0 Γ es (some (Cs.map Cv.mk)) ∧
  ∀ c ∈ L, ∀ D, PySem.W.nsIn X.K mainGlobals c = some (some (.ref D)) → PySem.W.kitAny X.K (.ref D) (Cs.map Value.ref) = some (tbl c)
def rIsXT (K : PySem.W.Frag) : List V → Hp → VK → Prop := fun xs H Q => ∃ (a C : Addr) (d : Option Addr) (tp : Addr) (Cs : List Addr) (b : Bool), xs = [.ref a, .ref tp] ∧ H a = some (Exv a (.ref C) d) ∧ (d = none ∨ ∃ dd fs, d = some dd ∧ H dd = some (.xd fs)) ∧ XKit K C ∧
  SqT K H tp (Cs.map V.ref) ∧ PySem.W.kitAny K (.ref C) (Cs.map Value.ref) = some b ∧ Q (.bl b) H
section
variable {X : Cx} {R0 H0 : Hp} {Γ : List Slot} {e a b : Expr} {es : List Expr} {rest : List Stmt} {pos p : Pos}
end
/-- try: return .. except X as e: m = e -/
def Rs.fk {α : Type} : Rs α → Fl (Option Xv) α
  | .ok a => .rt a
  | .ex x => .nx (some x)
def outRT {α : Type} [Py α] (Γ : List Slot) : Rs α → Out
  | .ok a => .rt a
  | .ex x => .et Γ x
def outRK {α : Type} [Py α] (Γ1 : Option Xv → List Slot) : Rs α → Out
  | .ok a => .rt a
  | .ex x => .nx (Γ1 (some x))
end FK

/-! try .. except X as n: any suite that goes on; a value of one of two types -/
namespace FK
open PySem PySem.Spec PyProof.Rows L2
/-! ### one of two types -/
inductive Sm (α β : Type) where
  | l (a : α)
  | r (b : β)
instance instPySm {α β : Type} [Py α] [Py β] : Py (Sm α β) where
  rep := fun K R v o => match o with
    | .l a => Py.rep K R v a
    | .r b => Py.rep K R v b
  bor := fun K R H v o => match o with
    | .l a => Py.bor K R H v a
    | .r b => Py.bor K R H v b
  mono := fun {K R R' v a} e h => match a, h with
    | .l _, h => Py.mono e h
    | .r _, h => Py.mono e h
  bmono := fun {K R R' H H' v a} e e2 h => match a, h with
    | .l _, h => Py.bmono e e2 h
    | .r _, h => Py.bmono e e2 h
  lend := fun {K R H v a} e h => match a, h with
    | .l _, h => Py.lend e h
    | .r _, h => Py.lend e h
/-- told unlike: where both are of one type -/
def sNe {α β : Type} [DecidableEq α] [DecidableEq β] : Sm α β → Sm α β → Option Bool
  | .l a, .l b => some (!decide (a = b))
  | .r a, .r b => some (!decide (a = b))
  | _, _ => none
section
variable {X : Cx} {R0 H0 : Hp} {Γ : List Slot} {e a b : Expr} {pos : Pos} {α β : Type} [Py α] [Py β]
end
/-! ### the suite -/
def wHand (X : Cx) (c : Value) (i : Nat) (suite : List Stmt) (D : Ends) : WX := fun cls d σ H => PySem.W.exmOne X.K cls c = some true ∧ ∀ a pn, H a = none →
  sSem (X.suite a pn) suite { nx := fun σ6 H6 => D.nx (σ6.set i none) H6, rt := fun _ _ => False, bk := fun _ _ => False, ct := fun _ _ => False } (σ.set i (some (.ref a))) (upd H a (Exv a cls d))
section
variable {X : Cx} {x n : Str} {c : Value} {i : Nat} {body suite : List Stmt} {b₀ : Stmt} {np pos pos' : Pos} {tb : WX → TS}
end
def tryM {α β γ : Type} (L : List Str) (f : α → β) (g : γ → β) (mb : Option (Rs α)) (mh : Xv → Option γ) : Option β := mb.bind fun r => match r with
  | .ok a => some (f a)
  | .ex x => if x.c ∈ L then (mh x).bind fun c => some (g c) else none
section
variable {X : Cx} {R0 H0 : Hp} {Γ : List Slot} {β : Type} {out : β → Out} {pos : Pos}
end
section
variable {X : Cx} {R0 H0 : Hp} {Γ : List Slot} {e a b : Expr} {pos : Pos} {α β : Type} [Py α] [Py β] [DecidableEq α] [DecidableEq β] [Dq α] [Dc α] [Dq β] [Dc β] {ma mb : Option (Sm α β)}
end
end FK

/-! instances of the program's classes: a weight and a field, never changed once made; their methods -/
namespace FK
open PySem PySem.Spec PyProof.Rows L2
structure Ru where
  c : Str
  w : Int
  f : Str
def fsR (r : Ru) : List (Str × V) := [("weight", .int r.w), ("field", .str r.f)]
def RuAt (K : PySem.W.Frag) (R : Hp) (v : V) (r : Ru) : Prop := ∃ a C dx, v = .ref a ∧ R a = some (.ins C dx (fsR r)) ∧ PySem.W.nsIn K mainGlobals r.c = some (some (.ref C))
instance instPyRu : Py Ru where
  rep := fun K R v r => RuAt K R v r
  bor := fun K R _ v r => RuAt K R v r
  mono := fun e ⟨a, C, dx, h, q, z⟩ => ⟨a, C, dx, h, e _ _ q, z⟩
  bmono := fun e _ ⟨a, C, dx, h, q, z⟩ => ⟨a, C, dx, h, e _ _ q, z⟩
  lend := fun _ h => h
instance : Flat Ru := ⟨fun h => h⟩
instance : Nn Ru := ⟨fun {K R v a} h e => by obtain ⟨p, C, dx, h, _⟩ := h; rw [e] at h; cases h⟩
/-- what a class must say for its instances to be asked -/
structure RuC (K : PySem.W.Frag) (C : Addr) : Prop where
  cl : Cls K C
  nw : NoAttr K C "weight"
  nf : NoAttr K C "field"
  ca : PySem.W.findIn K (.ref C) "__class__" = some (some (.builtin "object.__class__"))
  sp : PySem.W.specialIn K (.builtin "object.__class__") "__get__" = some (some (.builtin "getset_descriptor.__get__"))
  tk : PySem.W.takesIn K (.builtin "object.__class__") = some true
  mo : PySem.W.mroIn K C (.type "object") = some true
def Rus (K : PySem.W.Frag) (L : List Str) : Prop := ∀ c ∈ L, ∃ C, PySem.W.nsIn K mainGlobals c = some (some (.ref C)) ∧ RuC K C
def ruG {α : Type} (L : List Str) (g : Ru → α) (r : Ru) : Option α := if r.c ∈ L then some (g r) else none
section
variable {X : Cx} {R0 H0 : Hp} {Γ : List Slot} {e a b o : Expr} {es : List Expr} {pos p apos : Pos}
end
/-! ### methods, told by the class -/
def mDis {γ β : Type} : List (Str × (Ru × γ → Option β)) → Str → Ru × γ → Option β
  | [], _, _ => none
  | (n, f) :: l, c, g => if c = n then f g else mDis l c g
def MthOk (P : Program) (w : World) (K : PySem.W.Frag) (mg : Str → Option Value) (base : Heap) (k : Nat) (m : Str) {γ β : Type} [Ar γ] [Py β] (n : Str) (mm : Ru × γ → Option β) : Prop :=
  ∃ C f fd ps, PySem.W.nsIn K mainGlobals n = some (some (.ref C)) ∧ Cls K C ∧ Meth K C m f ∧ Binds K fd ps [] ∧ FnOk P w K mg base CX0 k f fd ps (spV K mm)
section
variable {X : Cx} {R0 H0 : Hp} {Γ : List Slot} {e a b o : Expr} {es : List Expr} {pos p apos : Pos}
end
/-! ### made -/
def spRI (K : PySem.W.Frag) : Sp := fun vs H Q _ => ∃ a C dx w f, vs = [.ref a, .int w, .str f] ∧ H a = some (.ins C dx []) ∧ RuC K C ∧ Q .non (upd H a (.ins C dx [("weight", .int w), ("field", .str f)]))
def MkOk (P : Program) (w : World) (K : PySem.W.Frag) (mg : Str → Option Value) (base : Heap) (k : Nat) (c : Str) : Prop :=
  ∃ C fI fd ps, mg c = some (.ref C) ∧ PySem.W.nsIn K mainGlobals c = some (some (.ref C)) ∧ RuC K C ∧ Mk K C fI ∧ Binds K fd ps [] ∧ FnOk P w K mg base CX0 k fI fd ps (spRI K)
section
variable {X : Cx} {R0 H0 : Hp} {Γ : List Slot} {e a b o : Expr} {es : List Expr} {pos p apos : Pos}
end
end FK

/-! where a token is out: replace of written texts -/
namespace FK
open PySem PySem.Spec PyProof.Rows L2
def eSemT (X : Cx) (e : Expr) : TE := fun σ H Q => ∀ pins s, 1 ≤ s.toks → Inv X pins σ H s → wpAny (model X.prog X.w) X.A (eval e X.env) (EP X pins σ Q) X.xe s
def aSemT (X : Cx) (es : List Expr) : TA := fun σ H Q => ∀ (pos : Pos) pins s, 1 ≤ s.toks → Inv X pins σ H s → wpAny (model X.prog X.w) X.A (spliced (backTo pos (starEach es X.env))) (AP X pins σ Q) X.xe s
def sSemT (X : Cx) (st : List Stmt) : TS := fun D σ H => ∀ pins s, 1 ≤ s.toks → Inv X pins σ H s → wpAny (model X.prog X.w) X.A (execs st X.env) (SP X pins D) X.xe s
def s1SemT (X : Cx) (st : Stmt) : TS := fun D σ H => ∀ pins s, 1 ≤ s.toks → Inv X pins σ H s → wpAny (model X.prog X.w) X.A (exec st X.env) (SP X pins D) X.xe s
section
variable {X : Cx}
end
structure JEt (X : Cx) (R0 H0 : Hp) (Γ : List Slot) (e : Expr) {α : Type} [Py α] (m : Option α) : Prop where
  run : ∀ σ R H, Sat X.K R0 H0 Γ σ R H → ∀ a, m = some a → ∀ Q : VK, (∀ v R' H', Ext R H R' H' → rep X.K R' v a → Q v H') → eSemT X e σ H Q
structure JOt (X : Cx) (R0 H0 : Hp) (Γ : List Slot) (e : Expr) {α : Type} [Ob α] (m : Option α) : Prop where
  run : ∀ σ R H, Sat X.K R0 H0 Γ σ R H → ∀ a, m = some a → ∀ Q : VK, (∀ p o R' H', Ext R H R' H' → H p = none → H' p = some o → R' p = none → ho X.K R' o a → Q (.ref p) H') → eSemT X e σ H Q
structure JLt (X : Cx) (R0 H0 : Hp) (Γ : List Slot) (es : List Expr) {α : Type} [Py α] (m : Option (List α)) : Prop where
  run : ∀ σ R H, Sat X.K R0 H0 Γ σ R H → ∀ xs, m = some xs → ∀ Q : List V → Hp → Prop, (∀ vs R' H', Ext R H R' H' → vs.length = es.length → AllR X.K R' vs xs → Q vs H') → aSemT X es σ H Q
structure J1t (X : Cx) (R0 H0 : Hp) (Γ : List Slot) (st : Stmt) {β : Type} (m : Option β) (out : β → Out) : Prop where
  run : ∀ σ R H, Sat X.K R0 H0 Γ σ R H → ∀ b, m = some b → ∀ D : Ends, Req X R0 H0 R D (out b) → s1SemT X st D σ H
structure JNt (X : Cx) (R0 H0 : Hp) (Γ : List Slot) (st : List Stmt) {β : Type} (m : Option β) (out : β → Out) : Prop where
  run : ∀ σ R H, Sat X.K R0 H0 Γ σ R H → ∀ b, m = some b → ∀ (D : Ends) (n : L2.St → Hp → Prop), Req X R0 H0 R D (out b) → sSemT X st { D with nx := n } σ H
def sRepl (x y z : Str) : Option Str := if x.length + (x.length + 1) * z.length ≤ 16777216 then some (Txt.replace x y z) else none
section
variable {X : Cx} {R0 H0 : Hp} {Γ : List Slot} {e a b o : Expr} {es : List Expr} {rest : List Stmt} {st : Stmt} {pos p apos : Pos} {β : Type} {out : β → Out}
end
end FK

/-! a, b = b, a -/
namespace FK
open PySem PySem.Spec PyProof.Rows L2
section
variable {X : Cx} {R0 H0 : Hp} {Γ : List Slot} {a b : Expr} {pos : Pos}
end
end FK

/-! a def read off a class and called; a class whose __init__ calls the one above -/
namespace FK
open PySem PySem.Spec PyProof.Rows L2 ClX
section
variable {X : Cx} {CX : CXT} {o e : Expr} {es : List Expr} {apos pos : Pos} {C f : Addr} {mc : Value} {m : Str} {fd : FuncData} {ps : List Str} {sp : Sp} {E : XK} {k : Nat} {ta : TE} {t : TA}
def tCfn (C : Addr) (sp : Sp) (E : XK) (ta : TE) (t : TA) : TE := fun σ H Q => ta σ H fun x H1 => x = .ref C ∧ t σ H1 fun vs H2 => sp vs H2 Q E
end
def RIn (P : Program) (w : World) (K : PySem.W.Frag) (mg : Str → Option Value) (base : Heap) : Prop :=
  ∃ C0 mc fR fdR, mg "Rule" = some (.ref C0) ∧ CRead K C0 mc ∧ CVal K C0 mc "__init__" (.ref fR) (.ref fR) ∧ PySem.W.keepIn K (.ref fR) = true ∧ Binds K fdR ["self", "weight", "field"] [] ∧ FnOk P w K mg base CX0 1 fR fdR ["self", "weight", "field"] (spRI K)
def spF1 (K : PySem.W.Frag) : Sp := fun vs H Q _ => ∃ a C dx w, vs = [.ref a, .int w] ∧ H a = some (.ins C dx []) ∧ RuC K C ∧ Q .non (upd H a (.ins C dx [("weight", .int w), ("field", .str "name")]))
def MkOk1 (P : Program) (w : World) (K : PySem.W.Frag) (mg : Str → Option Value) (base : Heap) (k : Nat) (c : Str) : Prop :=
  ∃ C fI fd ps, mg c = some (.ref C) ∧ PySem.W.nsIn K mainGlobals c = some (some (.ref C)) ∧ RuC K C ∧ Mk K C fI ∧ Binds K fd ps [] ∧ FnOk P w K mg base CX0 k fI fd ps (spF1 K)
section
variable {X : Cx} {R0 H0 : Hp} {Γ : List Slot} {e a b o : Expr} {es : List Expr} {pos p apos : Pos}
end
end FK

/-! str(n), int(text), l.insert(i, x), l * n, l.pop(i) -/
namespace FK
open PySem PySem.Spec PyProof.Rows L2
section
variable {X : Cx} {R0 H0 : Hp} {Γ : List Slot} {e f a b : Expr} {pos p : Pos}
def iStr (n : Int) : Option Str := if n.natAbs.log2 < 1920 then some (toString n : String) else none
def sInt (s : Str) : Option Int := if s.length ≤ 640 then PySem.intText? s else none
def lIns {α : Type} (xs : List α) (i : Int) (x : α) : Option (List α) := if xs.length < 16000000 ∧ 0 ≤ i ∧ i < 2 ^ 62 then some (xs.take i.toNat ++ [x] ++ xs.drop i.toNat) else none
def lMul {α : Type} (xs : List α) (n : Int) : Option (List α) := if -(2 ^ 62) < n ∧ n < 2 ^ 62 ∧ xs.length * n.toNat ≤ 16000000 then some (List.replicate n.toNat xs).flatten else none
end
end FK

/-! max(l, default=d) of ints, min(l) of data -/
namespace FK
open PySem PySem.Spec PyProof.Rows L2
def lMaxD (xs : List Int) (d : Int) : Int := match xs with
  | [] => d
  | y :: ys => PySem.W.maxOf y ys
def lMin {α : Type} [DecidableEq α] [PySem.W.DatumOrd α] : List α → Option α
  | [] => none
  | y :: ys => some (PySem.W.minOf y ys)
section
variable {α : Type} [Py α] [DecidableEq α] [PySem.W.DatumOrd α] [Dh α] [Dso α] {X : Cx} {R0 H0 : Hp} {Γ : List Slot} {e a : Expr} {pos p : Pos}
def rMinL (X : Cx) (α : Type) [Py α] [DecidableEq α] [PySem.W.DatumOrd α] : List V → Hp → VK → Prop := fun ws H Q => ∃ (R : Hp) (l : V) (as : List α) (a : α), ws = [l] ∧ Ex R H ∧ bor X.K R H l as ∧ lMin as = some a ∧ ∀ v, rep X.K R v a → Q v H
end
section
variable {X : Cx} {R0 H0 : Hp} {Γ : List Slot} {e a b : Expr} {pos p : Pos}
def rMaxD (X : Cx) : List V → List V → Hp → VK → Prop := fun ws zs H Q => ∃ (R : Hp) (l : V) (as : List Int) (d : Int), ws = [l] ∧ zs = [.int d] ∧ Ex R H ∧ bor X.K R H l as ∧ Q (.int (lMaxD as d)) H
end
end FK

/-! d.setdefault(k, v) alone, d one's own -/
namespace FK
open PySem PySem.Spec PyProof.Rows L2
section
variable {X : Cx}
def rSetdT : V → List V → Hp → VK → Prop := fun x xs H Q => ∃ (a : Addr) (kvs : List (List L2.Key × V)) (k : List L2.Key) (b : Addr) (z : V), x = .ref a ∧ xs = [.ref b, z] ∧ H a = some (.dT kvs) ∧ H b = some (.tup (k.map kV)) ∧ kvs.length < sizeLine ∧
  (∀ v, valV kvs k = some v → Q v H) ∧ (valV kvs k = none → Q z (upd H a (.dT (putK kvs k z))))
end
/-- setdefault -/
def dSd {κ α : Type} [DecidableEq κ] (d : Dct κ α) (k : κ) (a : α) : Option (Dct κ α) := if d.l.length < 16000000 then some (if dHas d.l k then d else ⟨dPut d.l k a⟩) else none
section
variable {κ α : Type} [Py κ] [DecidableEq κ] [Kt κ] [Py α] {X : Cx} {R0 H0 : Hp} {Γ : List Slot} {e a b : Expr} {pos : Pos} {d : Dct κ α}
end
section
variable {κ α : Type} [Py κ] [DecidableEq κ] [Kt κ] [Py α] {X : Cx} {R0 H0 : Hp} {Γ : List Slot} {a : Expr} {pos p : Pos} {mo : Option (Dct κ α)} {d : Dct κ α}
end
end FK

/-! l.count(n); l.index(x), x any data that is there -/
namespace FK
open PySem PySem.Spec PyProof.Rows L2
section
variable {X : Cx} {R0 H0 : Hp} {Γ : List Slot} {e o : Expr} {pos apos : Pos}
end
section
variable {α : Type} [Py α] [DecidableEq α] [Dq α] {X : Cx} {R0 H0 : Hp} {Γ : List Slot} {e o : Expr} {pos apos : Pos}
def lIdxQ (l : List α) (x : α) : Option Int := if l.length ≤ 16000000 then lIdx l x else none
def rIndexQ (X : Cx) (α : Type) [Py α] [DecidableEq α] : V → List V → Hp → VK → Prop := fun x xs H Q => ∃ (p : Addr) (vs : List V) (l : List α) (w : V) (y : α), x = .ref p ∧ xs = [w] ∧ SqL X.K H p vs ∧ AllR X.K H vs l ∧ rep X.K H w y ∧ y ∈ l ∧ l.length ≤ 16000000 ∧ Q (.int (l.idxOf y : Nat)) H
end
end FK

/-! sets of texts, of numbers -/
namespace FK
open PySem PySem.Spec PyProof.Rows L2
open PySem.W (EachIs)
class Sk (κ : Type) [DecidableEq κ] where
  kd : (P : Program) → (w : World) → PySem.KeyKind P w κ
  val : κ → Tok → Value
  at_ : ∀ P w k t, (kd P w).is k (val k t) = true
  scn : ∀ k t, (val k t).scannable = true
instance instSkStr : Sk Str := ⟨PySem.strKind, Value.str, fun P w k t => by
  show Value.isStrOf k (.str k t) = true
  simp [Value.isStrOf], fun _ _ => rfl⟩
instance instSkInt : Sk Int := ⟨PySem.intKind, Value.int, fun P w k t => PySem.intKind_is P w k t, fun _ _ => rfl⟩
theorem perm_of_map {α β : Type} {f : α → β} {l r : List β} (p : l.Perm r) : ∀ {M : List α}, r = M.map f → ∃ N : List α, l = N.map f ∧ N.Perm M := by
  induction p with
  | nil =>
    intro M e
    cases M with
    | nil => exact ⟨[], rfl, .refl _⟩
    | cons _ _ => cases e
  | cons x p ih =>
    intro M e
    cases M with
    | nil => cases e
    | cons m M =>
      rw [List.map_cons] at e
      injection e with e1 e2
      obtain ⟨N, h1, h2⟩ := ih e2
      exact ⟨m :: N, by rw [List.map_cons, h1, e1], h2.cons m⟩
  | swap x y l =>
    intro M e
    cases M with
    | nil => cases e
    | cons m M =>
      rw [List.map_cons] at e
      injection e with e1 e2
      cases M with
      | nil => cases e2
      | cons m2 M =>
        rw [List.map_cons] at e2
        injection e2 with e2 e3
        exact ⟨m2 :: m :: M, by rw [List.map_cons, List.map_cons, e1, e2, e3], List.Perm.swap m m2 M⟩
  | trans p1 p2 ih1 ih2 =>
    intro M e
    obtain ⟨N, h1, h2⟩ := ih2 e
    obtain ⟨N2, k1, k2⟩ := ih1 h1
    exact ⟨N2, k1, k2.trans h2⟩
section
variable {κ : Type} [DecidableEq κ] [Sk κ] {P : Program} {w : World}
abbrev rwS (P : Program) (w : World) (p : κ × Tok) : Int × Value := ((Sk.kd P w).hash p.1, Sk.val p.1 p.2)
abbrev vlS (p : κ × Tok) : Value := Sk.val p.1 p.2
structure SetS (P : Program) (w : World) (h : Heap) (c : Addr) (M : List (κ × Tok)) (xs : Array (Int × Value)) (n : Nat) (tb : SetTable) : Prop where
  obj : ∃ o, h.get? c = some o ∧ o.ExactSet ∧ o.data = .set xs n tb
  row : xs.toList = M.map (rwS P w)
  nd : (M.map (·.1)).Nodup
  few : xs.size < scanBound
  fit : tb.fits xs.size = true
  ris : Ris tb.place.toList
  led : w.params.followText "set-order" = true ∨ tb.led = true
theorem ss_len {M : List (κ × Tok)} {xs : Array (Int × Value)} (e : xs.toList = M.map (rwS P w)) : xs.size = M.length := by
  have := congrArg List.length e
  rw [List.length_map, Array.length_toList] at this
  exact this
theorem ss_elems {M : List (κ × Tok)} {l : List (Int × Value)} (e : l = M.map (rwS P w)) : ElemsOf (Sk.kd (κ := κ) P w) l := fun z hz => by
  rw [e] at hz
  obtain ⟨p, _, rfl⟩ := List.mem_map.mp hz
  exact ⟨⟨p.1, Sk.at_ P w p.1 p.2, rfl⟩, Sk.scn p.1 p.2⟩
theorem ss_mem {M : List (κ × Tok)} (k : κ) : k ∈ M.map (·.1) ↔ ∃ z ∈ M.map (rwS P w), (Sk.kd P w).is k z.2 = true := by
  constructor
  · intro h
    obtain ⟨p, hp, rfl⟩ := List.mem_map.mp h
    exact ⟨_, List.mem_map.mpr ⟨p, hp, rfl⟩, Sk.at_ P w p.1 p.2⟩
  · rintro ⟨z, hz, e⟩
    obtain ⟨p, hp, rfl⟩ := List.mem_map.mp hz
    have := (Sk.kd P w).inj _ _ _ e (Sk.at_ P w p.1 p.2)
    exact List.mem_map.mpr ⟨p, hp, this.symm⟩
variable {A : Around} {E : Value → Shared → Prop} {s : Shared} {c : Addr} {M : List (κ × Tok)} {xs : Array (Int × Value)} {n : Nat} {tb : SetTable}
theorem ss_tail {g : Bool → Sem Unit} (hg : ∀ (b : Bool) (s₁ : Shared) (Q' : Unit → Shared → Prop), Q' () s₁ → wpAny (model P w) A (g b) Q' E s₁)
    {o : Obj} {es : Array (Int × Value)} {ep : Nat} {t : SetTable} (ho : s.heap.get? c = some o) (hex : o.ExactSet) (hd : o.data = .set es ep t)
    {es1 : Array (Int × Value)} {t2 : SetTable} {N : List (κ × Tok)} (row : es1.toList = N.map (rwS P w)) (nd1 : (N.map (·.1)).Nodup)
    (hb1 : es1.size < scanBound) (hf2 : t2.fits es1.size = true) (hr : Ris t2.place.toList) (hl : w.params.followText "set-order" = true ∨ t2.led = true) {wasDummy : Bool} {R : Option Bool → Shared → Prop}
    (hR : ∀ h' N2 ys n2 tb2, Heap.SameBut c s.heap h' → SetS P w h' c N2 ys n2 tb2 → N2.Perm N → R (some true) { s with heap := h' }) :
    wpAny (model P w) A (do
        storeSet c es1 t2
        if (!wasDummy && t2.tooFull) = true then do
            g (relayAll t2 es1 (SetTable.grown es1.size)).2.2
            storeSet c (relayAll t2 es1 (SetTable.grown es1.size)).1 (relayAll t2 es1 (SetTable.grown es1.size)).2.1
            pure (some true)
          else pure (some true)) R E s := by
  refine wpAny_bind (wpAny_storeSet_of ho hd ?_ (fits_of_scanBound hb1))
  have ho1 := L2.store_at (es' := es1) (t' := t2) ho hd
  have sb1 := Heap.SameBut.update s.heap c (Obj.putSet es1 t2)
  split
  · have pm := relayAll_perm t2 es1 (SetTable.grown es1.size)
    have hf3 := relayAll_fits t2 es1 (SetTable.grown es1.size)
    have hr3 := relayAll_ris t2 es1 (SetTable.grown es1.size)
    have hl3 := relayAll_led t2 es1 (SetTable.grown es1.size)
    generalize relayAll t2 es1 (SetTable.grown es1.size) = Z at pm hf3 hr3 hl3 ⊢
    obtain ⟨es2, t3, gave⟩ := Z
    dsimp only at pm hf3 hr3 hl3 ⊢
    have hsz : es2.size = es1.size := by rw [← Array.length_toList, pm.length_eq, Array.length_toList]
    have hb2 : es2.size < scanBound := by rw [hsz]; exact hb1
    obtain ⟨N2, r2, p2⟩ := perm_of_map pm row
    refine wpAny_bind (hg _ _ _ ?_)
    refine wpAny_bind (wpAny_storeSet_of ho1 rfl ?_ (fits_of_scanBound hb2))
    have ho2 := L2.store_at (es' := es2) (t' := t3) ho1 rfl
    refine wpAny_pure (hR _ N2 es2 (ep + 1 + 1) t3 (sb1.trans (Heap.SameBut.update _ c _)) ?_ p2)
    exact ⟨⟨_, ho2, hex, rfl⟩, r2, (p2.map (·.1)).nodup_iff.mpr nd1, hb2, hf3, hr3, hl.imp id fun z => by rw [hl3]; exact z⟩
  · exact wpAny_pure (hR _ N es1 (ep + 1) t2 sb1 ⟨⟨_, ho1, hex, rfl⟩, row, nd1, hb1, hf2, hr, hl⟩ (.refl _))
theorem ss_add (T : SetS P w s.heap c M xs n tb) (k : κ) (tk : Tok) (room : M.length + 1 < scanBound) {Q : Bool → Shared → Prop}
    (q : ∀ b h' N ys n' tb', Heap.SameBut c s.heap h' → SetS P w h' c N ys n' tb' → (k ∈ M.map (·.1) → N = M) → (k ∉ M.map (·.1) → N.Perm ((k, tk) :: M)) → Q b { s with heap := h' }) :
    wpAny (model P w) A (setAddHashed c (Sk.val k tk) ((Sk.kd P w).hash k)) Q E s := by
  obtain ⟨o, ho, hex, hd⟩ := T.obj
  have hkey : (Sk.kd P w).is k (Sk.val k tk) = true := Sk.at_ P w k tk
  have hsc : (Sk.val k tk).scannable = true := Sk.scn k tk
  have hel : ElemsOf (Sk.kd P w) xs.toList := ss_elems T.row
  have hf := T.fit
  have hb := T.few
  have lx : xs.size = M.length := ss_len T.row
  unfold setAddHashed setAddHashedIn
  refine wpAny_holding (wpAny_bind (wpAny_setState_of ho hd hf ?_))
  dsimp only
  rw [byScan_of hsc hb hel]
  simp only [↓reduceIte]
  unfold setAddByScan
  refine wpAny_bind ?_
  refine wpAny_bind (wpAny_rule ?_)
  refine wpAny_bind (wpAny_setScan_of hkey ho hd hf hel ?_)
  cases hfi : List.findIdx? (fun e => (Sk.kd P w).is k e.2) xs.toList with
  | some j =>
    dsimp only
    obtain ⟨hj, pj, _⟩ := List.findIdx?_eq_some_iff_getElem.mp hfi
    have hk : k ∈ M.map (·.1) := (ss_mem (P := P) (w := w) k).mpr ⟨xs.toList[j], (congrArg (xs.toList[j] ∈ ·) T.row).mp (List.getElem_mem hj), pj⟩
    refine wpAny_pure (wpAny_pure ?_)
    exact q false s.heap M xs n tb (Heap.SameBut.refl c s.heap) T (fun _ => rfl) fun z => absurd hk z
  | none =>
    dsimp only
    have hnk : k ∉ M.map (·.1) := fun z => by
      obtain ⟨e, he, y⟩ := (ss_mem (P := P) (w := w) k).mp z
      have c := List.findIdx?_eq_none_iff.mp hfi e (by rw [T.row]; exact he)
      rw [y] at c
      cases c
    have hgw : ∀ (b : Bool) {s₁ : Shared} {Q' : Unit → Shared → Prop}, Q' () s₁ → wpAny (model P w) A (match b with | true => rule "set.scan.the-table-gave-way" | false => pure ()) Q' E s₁ :=
      fun b s₁ Q' q => by cases b <;> first | exact wpAny_pure q | exact wpAny_rule q
    have pm := layNew_perm tb xs ((Sk.kd P w).hash k) (Sk.val k tk)
    have hf1 := layNew_fits tb xs ((Sk.kd P w).hash k) (Sk.val k tk)
    have hr1 := layNew_ris tb xs ((Sk.kd P w).hash k) (Sk.val k tk) T.ris
    have hl1 := layNew_led tb xs ((Sk.kd P w).hash k) (Sk.val k tk)
    generalize layNew tb xs ((Sk.kd P w).hash k) (Sk.val k tk) = Z at pm hf1 hr1 hl1 ⊢
    obtain ⟨es1, t1, wasDummy, gave⟩ := Z
    dsimp only at pm hf1 hr1 hl1 ⊢
    rw [Array.toList_push, T.row] at pm
    have e0 : M.map (rwS P w) ++ [((Sk.kd P w).hash k, Sk.val k tk)] = (M ++ [(k, tk)]).map (rwS P w) := by rw [List.map_append]; rfl
    rw [e0] at pm
    obtain ⟨N, row1, pN⟩ := perm_of_map pm rfl
    have pN : N.Perm ((k, tk) :: M) := pN.trans (List.perm_append_singleton _ _)
    have nd1 : (N.map (·.1)).Nodup := (pN.map (·.1)).nodup_iff.mpr (by rw [List.map_cons]; exact List.nodup_cons.mpr ⟨hnk, T.nd⟩)
    have hsz : es1.size = M.length + 1 := by rw [ss_len row1, pN.length_eq, List.length_cons]
    have hb1 : es1.size < scanBound := by rw [hsz]; exact room
    have hled : w.params.followText "set-order" = true ∨ t1.led = true := T.led.imp id fun z => by rw [hl1]; exact z
    have fin : ∀ h' N2 ys n2 tb2, Heap.SameBut c s.heap h' → SetS P w h' c N2 ys n2 tb2 → N2.Perm N → Q true { s with heap := h' } := fun h' N2 ys n2 tb2 sb r p2 => q true h' N2 ys n2 tb2 sb r (fun z => absurd z hnk) fun _ => p2.trans pN
    refine wpAny_bind (hgw _ ?_)
    split
    · refine wpAny_bind ?_
      rw [hashByValue_scannable 8 hsc]
      refine wpAny_pure ?_
      refine ss_tail ?_ ho hex hd row1 nd1 hb1 ?_ ?_ ?_ ?_
      · intro b s₁ Q' q; cases b <;> first | exact wpAny_pure q | exact wpAny_rule q
      · first | (split <;> first | exact hf1 | exact SetTable.fits_plain_off hf1) | exact hf1
      · first | (split <;> exact hr1) | exact hr1
      · first | (split <;> exact hled) | exact hled
      · intro h' N2 ys n2 tb2 sb r p2; dsimp only; exact wpAny_pure (fin h' N2 ys n2 tb2 sb r p2)
    · refine wpAny_bind (wpAny_pure ?_)
      simp only [↓reduceIte]
      refine ss_tail ?_ ho hex hd row1 nd1 hb1 hf1 hr1 hled ?_
      · intro b s₁ Q' q; cases b <;> first | exact wpAny_pure q | exact wpAny_rule q
      · intro h' N2 ys n2 tb2 sb r p2; dsimp only; exact wpAny_pure (fin h' N2 ys n2 tb2 sb r p2)
theorem SetS.keep {h g : Heap} (T : SetS P w h c M xs n tb) (e : ∀ o, h.get? c = some o → g.get? c = some o) : SetS P w g c M xs n tb := by
  obtain ⟨o, a1, a2⟩ := T.obj
  exact ⟨⟨o, e o a1, a2⟩, T.row, T.nd, T.few, T.fit, T.ris, T.led⟩
theorem ss_fresh {h : Heap} {c : Addr} (e : h.get? c = some (emptySet w)) : SetS (κ := κ) P w h c [] #[] 0 (.fresh 0 0 (!w.params.followText "set-order")) where
  obj := ⟨_, e, ⟨rfl, rfl, rfl⟩, rfl⟩
  row := rfl
  nd := List.nodup_nil
  few := by decide
  fit := by simp [SetTable.fits, SetTable.fill, SetTable.fresh]
  ris := List.Pairwise.nil
  led := by
    cases w.params.followText "set-order"
    · exact .inr rfl
    · exact .inl rfl
structure HadS (ks : List (κ × Tok)) (i : Nat) (M : List (κ × Tok)) : Prop where
  sub : ∀ p ∈ M, p ∈ ks.take i
  all : ∀ p ∈ ks.take i, p.1 ∈ M.map (·.1)
theorem HadS.zero (ks : List (κ × Tok)) : HadS ks 0 [] := ⟨fun _ z => (by cases z), fun _ z => (by simp at z)⟩
theorem HadS.old {ks M : List (κ × Tok)} {i : Nat} {x : κ × Tok} (g : HadS ks i M) (e : ks[i]? = some x) (hm : x.1 ∈ M.map (·.1)) : HadS ks (i + 1) M := by
  constructor
  · intro p hp
    rw [take_one e]
    exact List.mem_append.mpr (.inl (g.sub p hp))
  · intro p hp
    rw [take_one e] at hp
    rcases List.mem_append.mp hp with z | z
    · exact g.all p z
    · cases List.mem_singleton.mp z
      exact hm
theorem HadS.new {ks M N : List (κ × Tok)} {i : Nat} {x : κ × Tok} (g : HadS ks i M) (e : ks[i]? = some x) (pm : N.Perm (x :: M)) : HadS ks (i + 1) N := by
  constructor
  · intro p hp
    rw [take_one e]
    rcases List.mem_cons.mp (pm.mem_iff.mp hp) with z | z
    · exact List.mem_append.mpr (.inr (List.mem_singleton.mpr z))
    · exact List.mem_append.mpr (.inl (g.sub p z))
  · intro p hp
    rw [(pm.map (·.1)).mem_iff, List.map_cons]
    rw [take_one e] at hp
    rcases List.mem_append.mp hp with z | z
    · exact List.mem_cons.mpr (.inr (g.all p z))
    · cases List.mem_singleton.mp z
      exact List.mem_cons_self
theorem HadS.len {ks M : List (κ × Tok)} {i : Nat} (g : HadS ks i M) (nd : (M.map (·.1)).Nodup) : M.length ≤ ks.length := by
  have := nodup_le (M.map (·.1)) (ks.map (·.1)) nd fun k hk => by
    obtain ⟨p, hp, rfl⟩ := List.mem_map.mp hk
    exact List.mem_map.mpr ⟨p, List.mem_of_mem_take (g.sub p hp), rfl⟩
  rw [List.length_map, List.length_map] at this
  exact this
theorem ss_loop {I : Addr} {fp wr : List Addr} {G : Array GenState → Array GenState → Prop} {m : Nat} {Pv : Nat → Value → Prop} {St : Nat → Shared → Prop} {R : Result → Shared → Prop}
    (W : WalksS P w A.in1 I fp wr G m Pv St) (c : Addr) (hcf : c ∉ fp) (ks : List (κ × Tok)) (em : m = ks.length) (few : ks.length + 1 < scanBound) (val : ∀ i v, Pv i v → ∃ p, ks[i]? = some p ∧ v = Sk.val p.1 p.2)
    (h0 : Heap) (c0 : h0.get? c = none) (w0 : ∀ b ∈ wr, h0.get? b = none) :
    ∀ (r i : Nat) (s : Shared), m - i = r → i ≤ m → St i s → (∀ b o, h0.get? b = some o → s.heap.get? b = some o) → (∃ M xs n tb, SetS P w s.heap c M xs n tb ∧ HadS ks i M) →
      (∀ s' M xs n tb, Moved (c :: wr) G s s' → SetS P w s'.heap c M xs n tb → HadS ks m M → (∀ b o, h0.get? b = some o → s'.heap.get? b = some o) → R (.ok (.ret .none)) s') →
      codeAny (model P w) A (.builtin "set.update.loop" ⟨[.ref c, .ref I], []⟩) R s := by
  have hcw : c ∉ wr := fun z => hcf (W.sub _ z)
  have more : ∀ b ∈ wr, b ∈ c :: wr := fun b z => List.mem_cons_of_mem c z
  have moved : ∀ {s s' : Shared}, Moved wr G s s' → (∀ b o, h0.get? b = some o → s.heap.get? b = some o) → ∀ b o, h0.get? b = some o → s'.heap.get? b = some o := fun mv k b o e => mv.heap b o (fun z => by
    rw [w0 b z] at e
    cases e) (k b o e)
  intro r
  induction r with
  | zero =>
    intro i s er le st kp ⟨M, xs, n, tb, T, g⟩ fin
    obtain rfl : i = m := by omega
    refine codeAny_builtin F.entry_set_update_loop ?_
    rw [Around.under_plainId F.plain_set_update_loop _]
    refine wpAny_bind (m := pyNext (.ref I)) (W.done s _ _ st fun s' mv => ?_)
    have kp' := moved mv kp
    exact wpAny_pure (fin s' M xs n tb (mv.mono more) (T.keep (fun o e => mv.heap c o hcw e)) g kp')
  | succ r ih =>
    intro i s er le st kp ⟨M, xs, n, tb, T, g⟩ fin
    have lt : i < m := by omega
    refine codeAny_builtin F.entry_set_update_loop ?_
    rw [Around.under_plainId F.plain_set_update_loop _]
    refine wpAny_bind (m := pyNext (.ref I)) (W.item i s _ _ lt st fun v s' pv st' mv => ?_)
    obtain ⟨p, hp, rfl⟩ := val i v pv
    have kp' := moved mv kp
    have T' : SetS P w s'.heap c M xs n tb := T.keep (fun o e => mv.heap c o hcw e)
    refine wpAny_bind (m := holding [Sk.val p.1 p.2] (setAdd c (Sk.val p.1 p.2))) (wpAny_holding ?_)
    unfold setAdd
    refine wpAny_holding ?_
    refine wpAny_bind ((Sk.kd P w).pyHash (Sk.at_ P w p.1 p.2) ?_)
    have room : M.length + 1 < scanBound := by have := g.len T.nd; omega
    refine ss_add (s := { s' with toks := s'.toks + 1 }) T' p.1 p.2 room fun b h' N ys n' tb' sb T2 yes no => ?_
    have g' : HadS ks (i + 1) N := by
      by_cases hm : p.1 ∈ M.map (·.1)
      · rw [yes hm]
        exact g.old hp hm
      · exact g.new hp (no hm)
    have kp2 : ∀ b o, h0.get? b = some o → h'.get? b = some o := fun b o e => (sb.2 b (fun z => by
      rw [z, c0] at e
      cases e)).trans (kp' b o e)
    refine wpAny_pure ⟨plainId_quiet F.plain_set_update_loop _, ih (i + 1) _ (by omega) lt (W.frame _ s' _ _ st' (Nat.le_add_right _ _) fun b hb o e => ?_) kp2 ⟨N, ys, n', tb', T2, g'⟩ fun s2 N2 ys2 n2 tb2 mv2 T3 g3 kp3 => ?_⟩
    · rw [sb.2 b (fun z : b = c => hcf (by rw [← z]; exact hb))]
      exact e
    · refine fin s2 N2 ys2 n2 tb2 (Moved.trans W.gtrans ((mv.mono more).then_heap (Nat.le_add_right _ _) fun b o hb e => ?_) mv2) T3 g3 kp3
      rw [sb.2 b (fun z : b = c => hb (by rw [z]; exact List.mem_cons_self))]
      exact e
/-- set(xs) -/
theorem ss_call {l : Addr} {its : Array Value} (ks : List (κ × Tok)) {Q : Value → Shared → Prop} (hh : A.handled = none) (hl : s.heap.IsList l its) (eit : its.toList = ks.map vlS)
    (few : ks.length + 1 < scanBound)
    (q : ∀ (h' : Heap) (tk : Nat) M xs n tb, SetS P w h' s.heap.objs.size M xs n tb → HadS ks ks.length M → (∀ b o, s.heap.get? b = some o → h'.get? b = some o) → Q (.ref s.heap.objs.size) { s with heap := h', toks := tk }) :
    wpAny (model P w) A (call (.type "set") [.ref l]) Q E s := by
  have lits : its.size = ks.length := by
    have z := congrArg List.length eit
    simpa using z
  have made0 := F.called_set.made
  have sub0 := F.called_set.sub
  obtain ⟨u1, u2, mro0⟩ := F.called_set.mro
  have ty0 := F.called_set.notType
  have can0 := F.called_set.canCreate
  have chk0 := F.typeCall_set_1 (.ref l)
  refine wpAny_call (codeAny_of_tree ?_)
  show wpAny (model P w) _ (callAny (.type "set") ⟨[.ref l], []⟩) _ _ s
  refine wpAny_pure ⟨Code.quiet_builtin _ (by decide +kernel), codeAny_builtin F.entry_type_call ?_⟩
  rw [Around.under_plain (weight_type_call_type "set" [Value.ref l] []) rfl]
  repeat (any_goals (first | assumption | wp_step))
  refine codeAny_mono (code_set_led1 (.ref l) (E := E) (Q₁ := fun v z => v = .ref s.heap.objs.size ∧ z = { s with heap := s.heap.push (emptySet w) }) ⟨rfl, rfl⟩) fun r s1 hr => ?_
  cases r with
  | error e => exact hr
  | ok fl =>
    cases fl with
    | ret v =>
      obtain ⟨rfl, rfl⟩ := hr
      have g0 : (s.heap.push (emptySet w)).get? s.heap.objs.size = some (emptySet w) := Heap.get?_push_size _ rfl
      have ty1 : Shared.TypeIs { s with heap := s.heap.push (emptySet w) } (.ref s.heap.objs.size) "set" := ⟨_, g0, rfl⟩
      have in1 := F.called_set.init.lookup
      have in2 := F.called_set.init.bind (.ref s.heap.objs.size)
      repeat (any_goals (first | assumption | wp_step))
      refine codeAny_mono (codeAny_call_builtin (R := wants (fun v z => v = .none ∧ ∃ h' tk M xs n tb, z = { s with heap := h', toks := tk } ∧ SetS P w h' s.heap.objs.size M xs n tb ∧ HadS ks ks.length M ∧ ∀ b o, s.heap.get? b = some o → h'.get? b = some o) E) F.called_set.init.plain F.entry_set_init (check_set_init_1 ty1 ?_)) fun r2 s2 hr2 => ?_
      · obtain ⟨⟨oc, od, oa, os⟩, go, gc, gn, gd⟩ := hl
        simp only at gc gd
        subst gc gd
        have go1 : (s.heap.push (emptySet w)).get? l = some { cls := .type "list", dict := od, data := .seq its gn, slots := os } := Heap.get?_push_of_some _ go
        have il1 : (s.heap.push (emptySet w)).IsList l its := ⟨_, go1, rfl, gn, rfl⟩
        have k1 := F.sub_list_set
        have k2 := F.sub_list_frozenset
        have k3 : (Value.type "list" == Value.type "dict") = false := by decide
        unfold Builtin.«set.__init__» noKeywords Builtin.Frozenset.updateFrom
        generalize hPI : pyIter = PI
        wp_walk
        subst hPI
        refine wpAny_pyIter_list il1 ?_
        refine wpAny_bind (wpAny_runValue ?_)
        have lt0 : l < s.heap.objs.size := Heap.lt_size go
        have sz1 : (s.heap.push (emptySet w)).objs.size = s.heap.objs.size + 1 := Heap.size_push ..
        have neI : l ≠ (s.heap.push (emptySet w)).objs.size := by
          rw [sz1]
          exact Nat.ne_of_lt (Nat.lt_succ_of_lt lt0)
        have free : ∀ b, s.heap.objs.size ≤ b → s.heap.get? b = none := fun b z => by
          cases y : s.heap.get? b with
          | none => rfl
          | some o => exact absurd (Nat.lt_of_lt_of_le (Heap.lt_size y) z) (Nat.lt_irrefl _)
        refine ss_loop ((Walks.list (A := A.in1.in1.in1) (by simp [hh]) _ l neI its).toS) s.heap.objs.size (fun z => ?_) ks lits few (fun i v y => ?_) s.heap (free _ (Nat.le_refl _)) (fun b z => free b ?_) its.size 0 _ (by omega) (Nat.zero_le _)
          ⟨⟨_, Heap.get?_push_size _ rfl, rfl, rfl⟩, il1.push _⟩ (fun b o e => Heap.get?_push_of_some _ (Heap.get?_push_of_some _ e)) ⟨[], #[], 0, _, ss_fresh (Heap.get?_push_of_some _ g0), HadS.zero ks⟩ fun z M xs n tb mv T g kp => ?_
        · rw [sz1] at z
          rcases List.mem_cons.mp z with y | y
          · exact absurd y (Nat.ne_of_lt (Nat.lt_succ_self _))
          · exact absurd (List.mem_singleton.mp y) (Nat.ne_of_gt lt0)
        · have e : its.toList[i]? = some v := by simpa using y
          rw [eit, List.getElem?_map] at e
          cases y2 : ks[i]? with
          | none =>
            rw [y2] at e
            cases e
          | some p =>
            rw [y2] at e
            exact ⟨p, rfl, (Option.some.inj e).symm⟩
        · rw [List.mem_singleton.mp z, sz1]
          exact Nat.le_succ _
        · obtain ⟨h', z2, z3, z4, z5⟩ := z
          have e2 : z2 = s.gens := mv.gens
          have e3 : z3 = s.drawn := mv.drawn
          have e5 : z5 = s.os := mv.os
          subst e2 e3 e5
          refine wpAny_pure ?_
          rw [lits] at g
          exact wpAny_pure ⟨rfl, h', z4, M, xs, n, tb, rfl, T, g, kp⟩
      · cases r2 with
        | error e => exact hr2
        | ok fl2 =>
          cases fl2 with
          | ret v =>
            obtain ⟨rfl, h', tk, M, xs, n, tb, rfl, T, g, kp⟩ := hr2
            repeat (any_goals (first | assumption | wp_step))
            exact q _ _ _ _ _ _ T g kp
          | _ => exact hr2.elim
    | _ => exact hr.elim
end
/-- texts, numbers as values -/
class Sv (α : Type) [DecidableEq α] [Py α] extends Sk α where
  un : ∀ {K : PySem.W.Frag} {R : Hp} {v : V} {u : Value} {a : α}, RelV v u → rep K R v a → ∃ t, u = val a t
instance instSvStr : Sv Str := ⟨fun {K R v u a} r h => by
  cases (show v = V.str a from h)
  obtain ⟨t, rfl⟩ := r
  exact ⟨t, rfl⟩⟩
instance instSvInt : Sv Int := ⟨fun {K R v u a} r h => by
  cases (show v = V.int a from h)
  obtain ⟨t, rfl⟩ := r
  exact ⟨t, rfl⟩⟩
section
variable {X : Cx} {R0 H0 : Hp} {Γ : List Slot} {a : Expr} {pos : Pos} {α : Type} [Py α] [DecidableEq α] [PySem.W.DatumOrd α] [Dh α] [Dso α] [Lo α] [Sv α]
def tdyS (l : List α) : Option (List α) := if l.length ≤ 4000 then some (srt (dd l)) else none
theorem each_keyS {pins : List (Addr × Obj)} {σ : L2.St} {H R : Hp} {s : Shared} (I : Inv X pins σ H s) (hi : Ex R H) : ∀ {vs : List V} {us : List Value} {as : List α}, Vals vs us → AllR X.K R vs as → ∃ ks : List (α × Tok), us = ks.map vlS ∧ as = ks.map (·.1) ∧
    ∀ p ∈ ks, (∃ v, RelV v (vlS p) ∧ rep X.K R v p.1) ∧ ∃ l, Reads s.heap (vlS p) (PySem.W.Datum.toD p.1) l
  | [], us, as, r, h => by
    cases r
    cases h
    exact ⟨[], rfl, rfl, fun _ z => (by cases z)⟩
  | v :: vs, us, as, r, h => by
    cases r with
    | cons r1 t1 =>
      cases h with
      | cons p1 q1 =>
        rename_i a0 as0
        obtain ⟨ks, e1, e2, e3⟩ := each_keyS I hi t1 q1
        obtain ⟨t, et⟩ := Sv.un r1 p1
        subst et
        refine ⟨(a0, t) :: ks, by rw [e1]; rfl, by rw [e2]; rfl, fun p hp => ?_⟩
        rcases List.mem_cons.mp hp with rfl | hp
        · exact ⟨⟨v, r1, p1⟩, Dh.hd I r1 (Py.mono hi p1)⟩
        · exact e3 p hp
/-- len(set(xs)) -/
def lenS (l : List α) : Option Int := if l.length ≤ 4000 then some ((dd l).length : Int) else none
theorem je_lenS {p p2 pos2 : Pos} {m : Option (List α)} (hm : X.mg "len" = none) (hm2 : X.mg "set" = none) (h : JB X R0 H0 Γ a m) (hc : X.calm = true := by rfl)
    (hg : Gl X "len" := by rfl) (hg2 : Gl X "set" := by rfl) (hs : starEach [a] X.env = (false, eval a X.env) :: starEach [] X.env := by rfl)
    (hs2 : starEach [.Call (.Name "set" p2) [a] [] pos2] X.env = (false, eval (.Call (.Name "set" p2) [a] [] pos2) X.env) :: starEach [] X.env := by rfl) :
    JE X R0 H0 Γ (.Call (.Name "len" p) [.Call (.Name "set" p2) [a] [] pos2] [] pos) (m.bind lenS) := .mk fun σ R H S z ez Q q => by
  obtain ⟨x, ex, ez⟩ := bind_some' ez
  unfold lenS at ez
  by_cases few : x.length ≤ 4000
  case neg =>
    rw [if_neg few] at ez
    cases ez
  rw [if_pos few] at ez
  have ez := (Option.some.inj ez).symm
  subst ez
  intro pins s I
  refine Call_ (ld_blt I hg hm PySem.boot_len (PyProof.Rows.callWith_builtin1 (args_cons (Call_ (ld_blt I hg2 hm2 PyProof.Rows.boot_set (PyProof.Rows.callWith_type1 (args_cons (thn (h σ R H S x ex (fun v H1 => ∃ R1, Ext R H R1 H1 ∧ bor X.K R1 H1 v x) (fun v R1 H1 x1 r1 => ⟨R1, x1, r1⟩) pins s I) fun u s1 ⟨v, H1, I1, r1, R1, x1, b1⟩ => args_nil ?_) hs) hs rfl))) hs2) hs2 rfl))
  obtain ⟨l, o, rfl, hl, vs, rfl, av⟩ := b1
  obtain rfl : u = Value.ref l := r1
  obtain ⟨its, t1, l1, hz⟩ := I1.list (.inl hl)
  obtain ⟨ks, e1, e2, e3⟩ := each_keyS (α := α) I1 x1.i t1 av
  have kl : ks.length = x.length := by rw [e2, List.length_map]
  refine ss_call (P := X.prog) (w := X.w) ks (I1.ok.hd hc) l1.isList (by simpa using e1) (by show ks.length + 1 < 4096; omega) fun h' tk M xs n tb T g kp => ?_
  refine args_nil ?_
  have sub : ∀ p ∈ M, p ∈ ks := fun p hp => List.mem_of_mem_take (g.sub p hp)
  have bp : (M.map (·.1)).Perm (dd x) := (List.perm_ext_iff_of_nodup T.nd (nodup_dd x)).mpr fun b => by
    rw [mem_dd, e2]
    constructor
    · intro hb
      obtain ⟨p, hp, rfl⟩ := List.mem_map.mp hb
      exact List.mem_map.mpr ⟨p, sub p hp, rfl⟩
    · intro hb
      obtain ⟨p, hp, rfl⟩ := List.mem_map.mp hb
      exact g.all p (by rw [List.take_length]; exact hp)
  obtain ⟨ob, g1, g2, g3⟩ := T.obj
  have lx := ss_len T.row
  have ls : xs.size < 4096 := T.few
  refine PySem.call_len_set (s := { s1 with heap := h', toks := tk }) g1 g2 g3 T.fit (by omega) ?_
  have hlen : (dd x).length = xs.size := by rw [← bp.length_eq, List.length_map, lx]
  rw [hlen] at q
  exact ⟨.int xs.size, H1, I1.kept (t' := tk + 1 + 1) kp, ⟨tk + 1, rfl⟩, q _ R1 H1 x1 rfl⟩
theorem je_lenS_t {p p2 pos2 : Pos} {x : List α} (hm : X.mg "len" = none) (hm2 : X.mg "set" = none) (h : JB X R0 H0 Γ a (some x)) (hc : X.calm = true := by rfl)
    (hg : Gl X "len" := by rfl) (hg2 : Gl X "set" := by rfl) (hs : starEach [a] X.env = (false, eval a X.env) :: starEach [] X.env := by rfl)
    (hs2 : starEach [.Call (.Name "set" p2) [a] [] pos2] X.env = (false, eval (.Call (.Name "set" p2) [a] [] pos2) X.env) :: starEach [] X.env := by rfl) :
    JE X R0 H0 Γ (.Call (.Name "len" p) [.Call (.Name "set" p2) [a] [] pos2] [] pos) (lenS x) := je_lenS hm hm2 h hc hg hg2 hs hs2
end
end FK

/-! lists told that the caller may change: they stand where nothing stood -/
namespace FK
open PySem PySem.Spec PyProof.Rows L2
def Nw (H : Hp) (p : Addr) : Prop := H p = none
structure Nl (N : Addr → Prop) (α : Type) where
  l : List α
instance instPyFl {N : Addr → Prop} {α : Type} [Py α] : Py (Nl N α) where
  rep := fun K R v a => ∃ p vs, v = .ref p ∧ N p ∧ R p = some (.lst vs) ∧ AllR K R vs a.l
  bor := fun K R _ v a => ∃ p vs, v = .ref p ∧ N p ∧ R p = some (.lst vs) ∧ AllR K R vs a.l
  mono := fun e ⟨p, vs, h, n, r, q⟩ => ⟨p, vs, h, n, e _ _ r, q.mono e⟩
  bmono := fun e _ ⟨p, vs, h, n, r, q⟩ => ⟨p, vs, h, n, e _ _ r, q.mono e⟩
  lend := fun _ h => h
theorem fl_list {N : Addr → Prop} {α : Type} [Py α] {K : PySem.W.Frag} {R : Hp} {v : V} {a : Nl N α} (h : rep K R v a) : rep K R v a.l := by
  obtain ⟨p, vs, e, _, r, q⟩ := h
  exact ⟨p, _, e, .inl r, vs, rfl, q⟩
theorem fl_weak {N N' : Addr → Prop} {α : Type} [Py α] {K : PySem.W.Frag} {R : Hp} {v : V} {l : List α} (w : ∀ p, N p → N' p) (h : rep K R v (⟨l⟩ : Nl N α)) : rep K R v (⟨l⟩ : Nl N' α) := by
  obtain ⟨p, vs, e, n, r, q⟩ := h
  exact ⟨p, vs, e, w p n, r, q⟩
section
variable {X : Cx} {R0 H0 : Hp} {Γ : List Slot} {e a b : Expr} {es : List Expr} {st : Stmt} {rest : List Stmt} {pos p : Pos} {γ β : Type} [Ar γ]
end
section
variable {X : Cx} {R0 H0 : Hp} {Γ : List Slot} {e a b : Expr} {es : List Expr} {st : Stmt} {rest : List Stmt} {pos p : Pos} {γ β : Type} [Ar γ]
/-! ### a def that tells new lists -/
def spXF {β : Type} {β' : (Addr → Prop) → Type} [∀ N, Py (β' N)] (K : PySem.W.Frag) (up : ∀ N, β → β' N) (m : γ → Option (Rs β)) : Sp := fun vs H Q E => ∃ R g r, Ex R H ∧ Ar.ok K R H vs g ∧ m g = some r ∧ (∀ a, r = .ok a → ∀ v R' H', Ext R H R' H' → rep K R' v (up (Nw H) a) → Q v H') ∧
  ∀ x, r = .ex x → ∀ cls d R' H', Ext R H R' H' → XOk K R' cls d x → E cls d H'
def outRF {β : Type} {β' : (Addr → Prop) → Type} [∀ N, Py (β' N)] (up : ∀ N, β → β' N) (H : Hp) : Rs β → Out
  | .ok a => .rt (up (Nw H) a)
  | .ex x => .ex x
/-- what it tells holds, as of now -/
def Wk {β : Type} {β' : (Addr → Prop) → Type} [∀ N, Py (β' N)] (up : ∀ N, β → β' N) : Prop := ∀ {K : PySem.W.Frag} {R : Hp} {v : V} {a : β} {N N' : Addr → Prop}, (∀ p, N p → N' p) → rep K R v (up N a) → rep K R v (up N' a)
def rmapF {β δ : Type} (f : β → δ) : Rs β → Rs δ
  | .ok a => .ok (f a)
  | .ex x => .ex x
/-! ### the rest of a def, over what stands now -/
/-- slots over what stands now -/
inductive Now : List Slot → List Slot → Prop
  | nil : Now [] []
  | any {s : Slot} {Γ Γ' : List Slot} : Now Γ Γ' → Now (s :: Γ) (.any :: Γ')
  | v {α : Type} [Py α] {a : α} {Γ Γ' : List Slot} : Now Γ Γ' → Now (.v a :: Γ) (.b (⟨a⟩ : Fz α) :: Γ')
  | b {α : Type} [Py α] {a : α} {Γ Γ' : List Slot} : Now Γ Γ' → Now (.b a :: Γ) (.b a :: Γ')
theorem Now.slots {K : PySem.W.Frag} {R0 H0 R H : Hp} (e0 : Ext R0 H0 R H) {Γ Γ' : List Slot} (n : Now Γ Γ') : ∀ {σ : L2.St} {os : List Addr}, SlotsOk K R0 H0 R H Γ σ os → SlotsOk K R H R H Γ' σ [] := by
  induction n with
  | nil =>
    intro σ os h
    cases σ with
    | nil => exact rfl
    | cons _ _ => exact h.elim
  | any n ih =>
    intro σ os h
    cases σ with
    | nil => exact h.elim
    | cons x σ =>
      obtain ⟨o1, o2, e, h1, h2⟩ := h
      exact ⟨[], [], rfl, rfl, ih h2⟩
  | v n ih =>
    intro σ os h
    cases σ with
    | nil => exact h.elim
    | cons x σ =>
      obtain ⟨o1, o2, e, ⟨_, v, hx, hv⟩, h2⟩ := h
      exact ⟨[], [], rfl, ⟨rfl, v, hx, hv⟩, ih h2⟩
  | b n ih =>
    intro σ os h
    cases σ with
    | nil => exact h.elim
    | cons x σ =>
      obtain ⟨o1, o2, e, ⟨_, v, hx, hv⟩, h2⟩ := h
      exact ⟨[], [], rfl, ⟨rfl, v, hx, Py.bmono e0.r e0.h hv⟩, ih h2⟩
theorem Now.sat {K : PySem.W.Frag} {R0 H0 R H : Hp} {Γ Γ' : List Slot} {σ : L2.St} (n : Now Γ Γ') (S : Sat K R0 H0 Γ σ R H) : Sat K R H Γ' σ R H := by
  obtain ⟨⟨os, s, nd, fr⟩, e0⟩ := S
  exact ⟨⟨[], n.slots e0 s, List.nodup_nil, fun p hp => (List.not_mem_nil hp).elim⟩, .refl e0.i⟩
inductive IsRt : Out → Prop
  | mk {α : Type} [Py α] (a : α) : IsRt (.rt a)
/-! ### one of them is changed -/
class Scl (α : Type) [Py α] : Prop where
  sc : ∀ {K : PySem.W.Frag} {R R' : Hp} {v : V} {a : α}, rep K R v a → rep K R' v a
instance : Scl Int := ⟨fun h => h⟩
instance : Scl Str := ⟨fun h => h⟩
instance : Scl Bool := ⟨fun h => h⟩
theorem AllR.scl {α : Type} [Py α] [Scl α] {K : PySem.W.Frag} {R R' : Hp} : ∀ {vs : List V} {as : List α}, AllR K R vs as → AllR K R' vs as
  | _, _, .nil => .nil
  | _, _, .cons h t => .cons (Scl.sc h) t.scl
/-- what stays when a new list is changed -/
inductive Lv : List Slot → List Slot → Prop
  | nil : Lv [] []
  | any {s : Slot} {Γ Γ' : List Slot} : Lv Γ Γ' → Lv (s :: Γ) (.any :: Γ')
  | b {α : Type} [Py α] {a : α} {Γ Γ' : List Slot} : Lv Γ Γ' → Lv (.b a :: Γ) (.b a :: Γ')
  | v {α : Type} [Py α] [Scl α] {a : α} {Γ Γ' : List Slot} : Lv Γ Γ' → Lv (.v a :: Γ) (.v a :: Γ')
  | o {α : Type} [Py α] [Scl α] {a : List α} {Γ Γ' : List Slot} : Lv Γ Γ' → Lv (.own a :: Γ) (.own a :: Γ')
def cut1 (R : Hp) (p : Addr) : Hp := fun a => if a = p then none else R a
theorem Lv.slots {K : PySem.W.Frag} {R0 H0 R H : Hp} {p : Addr} {u : HO} {Γ Γ' : List Slot} (n : Lv Γ Γ') : ∀ {σ : L2.St} {os : List Addr}, SlotsOk K R0 H0 R H Γ σ os → (∀ a ∈ os, a ≠ p) → ∃ os', os'.Sublist os ∧ SlotsOk K R0 H0 (cut1 R p) (upd H p u) Γ' σ os' := by
  induction n with
  | nil =>
    intro σ os h hp
    cases σ with
    | nil => exact ⟨os, .refl _, h⟩
    | cons _ _ => exact h.elim
  | any n ih =>
    intro σ os h hp
    cases σ with
    | nil => exact h.elim
    | cons x σ =>
      obtain ⟨o1, o2, e, h1, h2⟩ := h
      subst e
      obtain ⟨os', sl, k⟩ := ih h2 fun a ha => hp a (List.mem_append_right _ ha)
      exact ⟨os', sl.trans (List.sublist_append_right _ _), [], os', rfl, rfl, k⟩
  | b n ih =>
    intro σ os h hp
    cases σ with
    | nil => exact h.elim
    | cons x σ =>
      obtain ⟨o1, o2, e, h1, h2⟩ := h
      subst e
      obtain ⟨os', sl, k⟩ := ih h2 fun a ha => hp a (List.mem_append_right _ ha)
      exact ⟨os', sl.trans (List.sublist_append_right _ _), [], os', rfl, ⟨rfl, h1.2⟩, k⟩
  | v n ih =>
    intro σ os h hp
    cases σ with
    | nil => exact h.elim
    | cons x σ =>
      obtain ⟨o1, o2, e, ⟨_, v, hx, hv⟩, h2⟩ := h
      subst e
      obtain ⟨os', sl, k⟩ := ih h2 fun a ha => hp a (List.mem_append_right _ ha)
      exact ⟨os', sl.trans (List.sublist_append_right _ _), [], os', rfl, ⟨rfl, v, hx, Scl.sc hv⟩, k⟩
  | o n ih =>
    intro σ os h hp
    cases σ with
    | nil => exact h.elim
    | cons x σ =>
      obtain ⟨o1, o2, e, ⟨p1, o, e1, hx, hh, ⟨vs, eo, hv⟩⟩, h2⟩ := h
      subst e
      obtain ⟨os', sl, k⟩ := ih h2 fun a ha => hp a (List.mem_append_right _ ha)
      refine ⟨o1 ++ os', (List.Sublist.refl _).append sl, o1, os', rfl, ⟨p1, o, e1, hx, ?_, vs, eo, hv.scl⟩, k⟩
      rw [upd_ne (hp p1 (List.mem_append_left _ (by rw [e1]; exact List.mem_singleton.mpr rfl)))]
      exact hh
theorem Lv.sat {K : PySem.W.Frag} {R0 H0 R H : Hp} {Γ Γ' : List Slot} {σ : L2.St} {p : Addr} {o u : HO} (n : Lv Γ Γ') (S : Sat K R0 H0 Γ σ R H) (i0 : Ex R0 H0) (hn : H0 p = none) (hp : R p = some o) : Sat K R0 H0 Γ' σ (cut1 R p) (upd H p u) := by
  obtain ⟨⟨os, s, nd, fr⟩, e0⟩ := S
  obtain ⟨os', sl, k⟩ := n.slots (p := p) (u := u) s fun a ha c => by
    rw [← c, (fr a ha).1] at hp
    cases hp
  refine ⟨⟨os', k, nd.sublist sl, fun a ha => ?_⟩, ⟨fun a v ha => ?_, fun a v ha => ?_, fun a v ha => ?_, fun a v t ha hr => ?_⟩⟩
  · obtain ⟨f1, f2⟩ := fr a (sl.mem ha)
    refine ⟨?_, f2⟩
    unfold cut1
    split
    · rfl
    · exact f1
  · have c : a ≠ p := fun c => by
      subst c
      rw [i0 a v ha] at hn
      cases hn
    unfold cut1
    rw [if_neg c]
    exact e0.r a v ha
  · have c : a ≠ p := fun c => by rw [c, hn] at ha; cases ha
    rw [upd_ne c]
    exact e0.h a v ha
  · unfold cut1 at ha
    split at ha
    · cases ha
    · rename_i c
      rw [upd_ne c]
      exact e0.i a v ha
  · unfold cut1
    split
    · rfl
    · exact e0.n a v t ha hr
abbrev upIL : ∀ N : Addr → Prop, Int × List Int → Int × Nl N Int := fun _ a => (a.1, ⟨a.2⟩)
end
end FK

/-! lists of tuples of unlike lengths, read as lists of rows of numbers -/
namespace FK
open PySem PySem.Spec PyProof.Rows L2
def tlOf2 {α : Type} (x : α × α) : Tl α := ⟨[x.1, x.2]⟩
def tlOf3 {α : Type} (x : T3 α α α) : Tl α := ⟨[x.a, x.b, x.c]⟩
section
variable {X : Cx} {R0 H0 : Hp} {Γ : List Slot} {e a b : Expr} {es : List Expr} {st : Stmt} {rest : List Stmt} {pos p : Pos}
end
end FK

/-! new lists are emptied: what follows may count only on what stood at the start -/
namespace FK
open PySem PySem.Spec PyProof.Rows L2
/-- statements that change new lists: what follows is asked over the base alone -/
structure JSA (X : Cx) (R0 H0 : Hp) (Γ : List Slot) (st : List Stmt) {β : Type} (m : Option β) (out : β → Out) : Prop where
  run : ∀ σ R H, Sat X.K R0 H0 Γ σ R H → ∀ b, m = some b → ∀ D : Ends, Req X R0 H0 R0 D (out b) → sSem X st D σ H
/-- a list at a new place, whatever stands in it -/
structure Lx (N : Addr → Prop) where
instance instPyLx {N : Addr → Prop} : Py (Lx N) where
  rep := fun K R v _ => ∃ p vs, v = .ref p ∧ N p ∧ R p = some (.lst vs)
  bor := fun K R _ v _ => ∃ p vs, v = .ref p ∧ N p ∧ R p = some (.lst vs)
  mono := fun e ⟨p, vs, h, n, r⟩ => ⟨p, vs, h, n, e _ _ r⟩
  bmono := fun e _ ⟨p, vs, h, n, r⟩ => ⟨p, vs, h, n, e _ _ r⟩
  lend := fun _ h => h
/-- what still holds when a list is emptied -/
class Clr (α : Type) [Py α] : Prop where
  cl : ∀ {K : PySem.W.Frag} {R : Hp} {v : V} {a : α} {p : Addr} {ws : List V}, R p = some (.lst ws) → rep K R v a → rep K (upd R p (.lst [])) v a
instance {α : Type} [Py α] [Scl α] : Clr α := ⟨fun _ h => Scl.sc h⟩
theorem tup_upd {R : Hp} {p q : Addr} {ws vs us : List V} (h : R p = some (.lst ws)) (g : R q = some (.tup vs)) : upd R p (.lst us) q = some (.tup vs) := by
  have c : q ≠ p := fun c => by
    rw [c, h] at g
    cases g
  rw [upd_ne c]
  exact g
instance {α β : Type} [Py α] [Py β] [Clr α] [Clr β] : Clr (α × β) := ⟨fun hp ⟨p, vs, e, r, x, y, e2, h1, h2⟩ => ⟨p, vs, e, tup_upd hp r, x, y, e2, Clr.cl hp h1, Clr.cl hp h2⟩⟩
instance {α β γ : Type} [Py α] [Py β] [Py γ] [Clr α] [Clr β] [Clr γ] : Clr (T3 α β γ) := ⟨fun hp ⟨p, vs, e, r, x, y, z, e2, h1, h2, h3⟩ => ⟨p, vs, e, tup_upd hp r, x, y, z, e2, Clr.cl hp h1, Clr.cl hp h2, Clr.cl hp h3⟩⟩
instance {N : Addr → Prop} : Clr (Lx N) := ⟨fun {K R v a p ws} hp ⟨q, vs, e, n, r⟩ => by
  by_cases c : q = p
  · exact ⟨q, [], e, n, by rw [c, upd_same]⟩
  · exact ⟨q, vs, e, n, by rw [upd_ne c]; exact r⟩⟩
theorem AllR.clr {α : Type} [Py α] [Clr α] {K : PySem.W.Frag} {R : Hp} {p : Addr} {ws : List V} (hp : R p = some (.lst ws)) : ∀ {vs : List V} {as : List α}, AllR K R vs as → AllR K (upd R p (.lst [])) vs as
  | _, _, .nil => .nil
  | _, _, .cons h t => .cons (Clr.cl hp h) (t.clr hp)
/-- the slots that stay -/
inductive Lc : List Slot → List Slot → Prop
  | nil : Lc [] []
  | any {s : Slot} {Γ Γ' : List Slot} : Lc Γ Γ' → Lc (s :: Γ) (.any :: Γ')
  | b {α : Type} [Py α] {a : α} {Γ Γ' : List Slot} : Lc Γ Γ' → Lc (.b a :: Γ) (.b a :: Γ')
  | v {α : Type} [Py α] [Clr α] {a : α} {Γ Γ' : List Slot} : Lc Γ Γ' → Lc (.v a :: Γ) (.v a :: Γ')
  | o {α : Type} [Py α] [Clr α] {a : List α} {Γ Γ' : List Slot} : Lc Γ Γ' → Lc (.own a :: Γ) (.own a :: Γ')
theorem Lc.slots {K : PySem.W.Frag} {R0 H0 R H : Hp} {p : Addr} {ws : List V} (hp : R p = some (.lst ws)) {Γ Γ' : List Slot} (n : Lc Γ Γ') : ∀ {σ : L2.St} {os : List Addr}, SlotsOk K R0 H0 R H Γ σ os → (∀ a ∈ os, a ≠ p) → ∃ os', os'.Sublist os ∧ SlotsOk K R0 H0 (upd R p (.lst [])) (upd H p (.lst [])) Γ' σ os' := by
  induction n with
  | nil =>
    intro σ os h hn
    cases σ with
    | nil => exact ⟨os, .refl _, h⟩
    | cons _ _ => exact h.elim
  | any n ih =>
    intro σ os h hn
    cases σ with
    | nil => exact h.elim
    | cons x σ =>
      obtain ⟨o1, o2, e, h1, h2⟩ := h
      subst e
      obtain ⟨os', sl, k⟩ := ih h2 fun a ha => hn a (List.mem_append_right _ ha)
      exact ⟨os', sl.trans (List.sublist_append_right _ _), [], os', rfl, rfl, k⟩
  | b n ih =>
    intro σ os h hn
    cases σ with
    | nil => exact h.elim
    | cons x σ =>
      obtain ⟨o1, o2, e, h1, h2⟩ := h
      subst e
      obtain ⟨os', sl, k⟩ := ih h2 fun a ha => hn a (List.mem_append_right _ ha)
      exact ⟨os', sl.trans (List.sublist_append_right _ _), [], os', rfl, ⟨rfl, h1.2⟩, k⟩
  | v n ih =>
    intro σ os h hn
    cases σ with
    | nil => exact h.elim
    | cons x σ =>
      obtain ⟨o1, o2, e, ⟨_, v, hx, hv⟩, h2⟩ := h
      subst e
      obtain ⟨os', sl, k⟩ := ih h2 fun a ha => hn a (List.mem_append_right _ ha)
      exact ⟨os', sl.trans (List.sublist_append_right _ _), [], os', rfl, ⟨rfl, v, hx, Clr.cl hp hv⟩, k⟩
  | o n ih =>
    intro σ os h hn
    cases σ with
    | nil => exact h.elim
    | cons x σ =>
      obtain ⟨o1, o2, e, ⟨p1, o, e1, hx, hh, ⟨vs, eo, hv⟩⟩, h2⟩ := h
      subst e
      obtain ⟨os', sl, k⟩ := ih h2 fun a ha => hn a (List.mem_append_right _ ha)
      refine ⟨o1 ++ os', (List.Sublist.refl _).append sl, o1, os', rfl, ⟨p1, o, e1, hx, ?_, vs, eo, hv.clr hp⟩, k⟩
      rw [upd_ne (hn p1 (List.mem_append_left _ (by rw [e1]; exact List.mem_singleton.mpr rfl)))]
      exact hh
theorem Lc.sat {K : PySem.W.Frag} {R0 H0 R H : Hp} {Γ Γ' : List Slot} {σ : L2.St} {p : Addr} {ws : List V} (n : Lc Γ Γ') (S : Sat K R0 H0 Γ σ R H) (i0 : Ex R0 H0) (hn : H0 p = none) (hp : R p = some (.lst ws)) : Sat K R0 H0 Γ' σ (upd R p (.lst [])) (upd H p (.lst [])) := by
  obtain ⟨⟨os, s, nd, fr⟩, e0⟩ := S
  have hne : ∀ a ∈ os, a ≠ p := fun a ha c => by
    rw [← c, (fr a ha).1] at hp
    cases hp
  obtain ⟨os', sl, k⟩ := n.slots hp s hne
  have r0 : R0 p = none := by
    cases z : R0 p with
    | none => rfl
    | some o => rw [i0 p o z] at hn; cases hn
  refine ⟨⟨os', k, nd.sublist sl, fun a ha => ?_⟩, ⟨fun a v ha => ?_, fun a v ha => ?_, fun a v ha => ?_, fun a v t ha hr => ?_⟩⟩
  · obtain ⟨f1, f2⟩ := fr a (sl.mem ha)
    refine ⟨?_, f2⟩
    rw [upd_ne (hne a (sl.mem ha))]
    exact f1
  · have c : a ≠ p := fun c => by rw [c, r0] at ha; cases ha
    rw [upd_ne c]
    exact e0.r a v ha
  · have c : a ≠ p := fun c => by rw [c, hn] at ha; cases ha
    rw [upd_ne c]
    exact e0.h a v ha
  · by_cases c : a = p
    · rw [c, upd_same] at ha ⊢
      exact ha
    · rw [upd_ne c] at ha ⊢
      exact e0.i a v ha
  · have c : a ≠ p := fun c => by rw [c, hn] at ha; cases ha
    rw [upd_ne c]
    exact e0.n a v t ha hr
section
variable {X : Cx} {R0 H0 : Hp} {Γ : List Slot} {e a b : Expr} {es : List Expr} {st : Stmt} {rest : List Stmt} {pos p apos : Pos} {β : Type} {out : β → Out}
end
end FK

/-! a loop that empties new lists -/
namespace FK
open PySem PySem.Spec PyProof.Rows L2
structure J1A (X : Cx) (R0 H0 : Hp) (Γ : List Slot) (st : Stmt) {β : Type} (m : Option β) (out : β → Out) : Prop where
  run : ∀ σ R H, Sat X.K R0 H0 Γ σ R H → ∀ b, m = some b → ∀ D : Ends, Req X R0 H0 R0 D (out b) → s1Sem X st D σ H
/-- what is walked is no list -/
structure JIz (X : Cx) (R0 H0 : Hp) (Γ : List Slot) (tg iter : Expr) {α : Type} [Py α] (m : Option (List α)) : Prop where
  run : ∀ σ R H, Sat X.K R0 H0 Γ σ R H → ∀ xs, m = some xs → ∀ Q : It → Hp → Prop, (∀ J R' H', Ext R H R' H' → (∀ Rx, ItOk X.K H0 J xs Rx) → Q J H') → iSem X tg iter σ H Q
/-- the slots over the base, as before -/
inductive Bck : List Slot → List Slot → Prop
  | nil : Bck [] []
  | any {s : Slot} {Γ Γ' : List Slot} : Bck Γ Γ' → Bck (s :: Γ) (.any :: Γ')
  | v {α : Type} [Py α] {a : α} {Γ Γ' : List Slot} : Bck Γ Γ' → Bck (.b (⟨a⟩ : Fz α) :: Γ) (.v a :: Γ')
theorem Bck.slots {K : PySem.W.Frag} {R0 H0 Rb Hb R H : Hp} (er : Ex Rb R) {Γ Γ' : List Slot} (n : Bck Γ Γ') : ∀ {σ : L2.St} {os : List Addr}, SlotsOk K Rb Hb R H Γ σ os → SlotsOk K R0 H0 R H Γ' σ [] := by
  induction n with
  | nil =>
    intro σ os h
    cases σ with
    | nil => exact rfl
    | cons _ _ => exact h.elim
  | any n ih =>
    intro σ os h
    cases σ with
    | nil => exact h.elim
    | cons x σ =>
      obtain ⟨o1, o2, e, h1, h2⟩ := h
      exact ⟨[], [], rfl, rfl, ih h2⟩
  | v n ih =>
    rename_i α _ a Γ Γ'
    intro σ os h
    cases σ with
    | nil => exact h.elim
    | cons x σ =>
      obtain ⟨o1, o2, e, ⟨_, v, hx, hv⟩, h2⟩ := h
      exact ⟨[], [], rfl, ⟨rfl, v, hx, Py.mono (α := α) er hv⟩, ih h2⟩
theorem Bck.sat {K : PySem.W.Frag} {R0 H0 Rb Hb R H : Hp} {Γ Γ' : List Slot} {σ : L2.St} (n : Bck Γ Γ') (e : Ext R0 H0 Rb Hb) (S : Sat K Rb Hb Γ σ R H) : Sat K R0 H0 Γ' σ R H := by
  obtain ⟨⟨os, s, nd, fr⟩, e0⟩ := S
  exact ⟨⟨[], n.slots e0.r s, List.nodup_nil, fun p hp => (List.not_mem_nil hp).elim⟩, e.trans e0⟩
section
variable {X : Cx} {R0 H0 : Hp} {Γ : List Slot} {e a b tg : Expr} {es : List Expr} {st : Stmt} {rest : List Stmt} {pos p apos : Pos} {β : Type} {out : β → Out}
end
end FK

/-! what is told with new lists in it: the same values, another reading -/
namespace FK
open PySem PySem.Spec PyProof.Rows L2
/-- values whose lists may be told to stand at new places -/
class NewT (β : Type) [Py β] where
  rp : (Addr → Prop) → PySem.W.Frag → Hp → V → β → Prop
  mono : ∀ {N : Addr → Prop} {K : PySem.W.Frag} {R R' : Hp} {v : V} {a : β}, Ex R R' → rp N K R v a → rp N K R' v a
  wk : ∀ {N N' : Addr → Prop} {K : PySem.W.Frag} {R : Hp} {v : V} {a : β}, (∀ p, N p → N' p) → rp N K R v a → rp N' K R v a
  dn : ∀ {N : Addr → Prop} {K : PySem.W.Frag} {R : Hp} {v : V} {a : β}, rp N K R v a → rep K R v a
def Nu (N : Addr → Prop) (β : Type) : Type := β
instance instPyNu {N : Addr → Prop} {β : Type} [Py β] [NewT β] : Py (Nu N β) where
  rep := fun K R v a => NewT.rp (β := β) N K R v a
  bor := fun K R _ v a => NewT.rp (β := β) N K R v a
  mono := fun e h => NewT.mono (β := β) e h
  bmono := fun e _ h => NewT.mono (β := β) e h
  lend := fun _ h => h
instance instNewL {α : Type} [Py α] : NewT (List α) where
  rp := fun N K R v a => rep K R v (⟨a⟩ : Nl N α)
  mono := fun e h => Py.mono e h
  wk := fun w h => fl_weak w h
  dn := fun h => fl_list h
instance instNew3 {α β : Type} [Py α] [Py β] : NewT (T3 Int (List α) (List β)) where
  rp := fun N K R v a => rep K R v (⟨a.a, ⟨a.b⟩, ⟨a.c⟩⟩ : T3 Int (Nl N α) (Nl N β))
  mono := fun e h => Py.mono e h
  wk := fun w ⟨p, vs, e, q, x, y, z, e2, r1, r2, r3⟩ => ⟨p, vs, e, q, x, y, z, e2, r1, fl_weak w r2, fl_weak w r3⟩
  dn := fun ⟨p, vs, e, q, x, y, z, e2, r1, r2, r3⟩ => ⟨p, vs, e, q, x, y, z, e2, r1, fl_list r2, fl_list r3⟩
instance instNnNu3 {N : Addr → Prop} {α β : Type} [Py α] [Py β] : Nn (Nu N (T3 Int (List α) (List β))) := ⟨fun {K R v a} h e => by obtain ⟨p, o, h, _⟩ := h; rw [e] at h; cases h⟩
instance instNnNuL {N : Addr → Prop} {α : Type} [Py α] : Nn (Nu N (List α)) := ⟨fun {K R v a} h e => by obtain ⟨p, o, h, _⟩ := h; rw [e] at h; cases h⟩
instance {α : Type} [Py α] [Clr α] : Clr (Option α) := ⟨fun {K R v a p ws} hp h => by
  cases a with
  | none => exact h
  | some a => exact ⟨Clr.cl hp h.1, h.2⟩⟩
abbrev upNu (β : Type) : ∀ N : Addr → Prop, β → Nu N β := fun _ a => a
/-- emptied or not -/
abbrev lx3 (N : Addr → Prop) {α β : Type} (o : Option (T3 Int (List α) (List β))) : Option (T3 Int (Lx N) (Lx N)) := o.map fun a => ⟨a.a, ⟨⟩, ⟨⟩⟩
section
variable {X : Cx} {R0 H0 : Hp} {Γ : List Slot} {e a b tg : Expr} {es : List Expr} {st : Stmt} {rest : List Stmt} {pos p apos : Pos} {β γ : Type} [Ar γ] {out : β → Out}
end
end FK

/-! new lists of new lists, emptied one by one; the first of a pair that may be refused -/
namespace FK
open PySem PySem.Spec PyProof.Rows L2
section
variable {X : Cx} {R0 H0 : Hp} {Γ : List Slot} {e a b tst : Expr} {es : List Expr} {st : Stmt} {rest A : List Stmt} {pos p apos : Pos} {β : Type} {out : β → Out}
def ruU {α : Type} : Rs α → Rs Unit
  | .ok _ => .ok ()
  | .ex x => .ex x
/-- the first k emptied -/
def clrN {α : Type} (k : Nat) (xs : List (List α)) : List (List α) := (xs.take k).map (fun _ => []) ++ xs.drop k
end
end FK

/-! new lists of triples with new lists in them -/
namespace FK
open PySem PySem.Spec PyProof.Rows L2
section
variable {K : PySem.W.Frag} {R H R' H' : Hp} {α β γ : Type} [Py α] [Py β] [Py γ]
inductive KidT (K : PySem.W.Frag) (R H : Hp) : List V → List Addr → List (T3 α β (List γ)) → Prop
  | nil : KidT K R H [] [] []
  | cons {t c : Addr} {v w : V} {x : α} {y : β} {vs : List V} {l : List γ} {ts : List V} {cs : List Addr} {ls : List (T3 α β (List γ))} : R t = some (.tup [v, w, .ref c]) → rep K R v x → rep K R w y → H c = some (.lst vs) → AllR K R vs l → KidT K R H ts cs ls → KidT K R H (.ref t :: ts) (c :: cs) (⟨x, y, l⟩ :: ls)
theorem KidT.mono (e : Ex R R') : ∀ {ts : List V} {cs : List Addr} {ls : List (T3 α β (List γ))}, (∀ c ∈ cs, ∀ u, H c = some u → H' c = some u) → KidT K R H ts cs ls → KidT K R' H' ts cs ls
  | _, _, _, _, .nil => .nil
  | _, _, _, f, .cons h1 h2 h3 h4 h5 t => .cons (e _ _ h1) (Py.mono e h2) (Py.mono e h3) (f _ List.mem_cons_self _ h4) (h5.mono e) (t.mono e fun c hc => f c (List.mem_cons_of_mem _ hc))
theorem KidT.len : ∀ {ts : List V} {cs : List Addr} {ls : List (T3 α β (List γ))}, KidT K R H ts cs ls → ts.length = ls.length ∧ cs.length = ls.length
  | _, _, _, .nil => ⟨rfl, rfl⟩
  | _, _, _, .cons _ _ _ _ _ t => ⟨congrArg (· + 1) t.len.1, congrArg (· + 1) t.len.2⟩
theorem KidT.there : ∀ {ts : List V} {cs : List Addr} {ls : List (T3 α β (List γ))}, KidT K R H ts cs ls → ∀ c ∈ cs, ∃ u, H c = some u ∧ isT u = false
  | _, _, _, .nil, c, h => by cases h
  | _, _, _, .cons _ _ _ h4 _ t, c, h => by
    rcases List.mem_cons.mp h with e | z
    · exact ⟨_, by rw [e]; exact h4, rfl⟩
    · exact t.there c z
theorem KidT.get : ∀ {ts : List V} {cs : List Addr} {ls : List (T3 α β (List γ))} {j : Nat} {l : T3 α β (List γ)}, KidT K R H ts cs ls → ls[j]? = some l → ∃ t c v w vs, ts[j]? = some (.ref t) ∧ cs[j]? = some c ∧ R t = some (.tup [v, w, .ref c]) ∧ H c = some (.lst vs)
  | _, _, _, j, l, .nil, e => by simp at e
  | _, _, _, 0, l, .cons h1 h2 h3 h4 h5 _, e => ⟨_, _, _, _, _, rfl, rfl, h1, h4⟩
  | _, _, _, j + 1, l, .cons _ _ _ _ _ t, e => t.get (j := j) e
/-- one of them emptied -/
theorem KidT.set : ∀ {ts : List V} {cs : List Addr} {ls : List (T3 α β (List γ))} {j : Nat} {c : Addr} {r : T3 α β (List γ)}, KidT K R H ts cs ls → cs.Nodup → cs[j]? = some c → ls[j]? = some r → Ex R R' → (∀ z ∈ cs, z ≠ c → ∀ u, H z = some u → H' z = some u) → H' c = some (.lst []) → KidT K R' H' ts cs (ls.set j ⟨r.a, r.b, []⟩)
  | _, _, _, j, c, r, .nil, _, e, _, _, _, _ => by simp at e
  | _, _, _, 0, c, r, .cons h1 h2 h3 h4 h5 t, nd, e, e2, x, f, h => by
    cases Option.some.inj e
    cases Option.some.inj e2
    obtain ⟨n1, n2⟩ := List.nodup_cons.mp nd
    exact .cons (x _ _ h1) (Py.mono x h2) (Py.mono x h3) h .nil (t.mono x fun z hz => f z (List.mem_cons_of_mem _ hz) fun e => n1 (by rw [← e]; exact hz))
  | _, _, _, j + 1, c, r, .cons (c := c0) h1 h2 h3 h4 h5 t, nd, e, e2, x, f, h => by
    obtain ⟨n1, n2⟩ := List.nodup_cons.mp nd
    have ne : c0 ≠ c := fun z => n1 (by rw [z]; exact List.mem_of_getElem? e)
    exact .cons (x _ _ h1) (Py.mono x h2) (Py.mono x h3) (f _ List.mem_cons_self ne _ h4) (h5.mono x) (t.set n2 e e2 x (fun z hz => f z (List.mem_cons_of_mem _ hz)) h)
theorem KidT.app {t c : Addr} {v w : V} {x : α} {y : β} {vs : List V} {l : List γ} (h1 : R t = some (.tup [v, w, .ref c])) (h2 : rep K R v x) (h3 : rep K R w y) (h4 : H c = some (.lst vs)) (h5 : AllR K R vs l) : ∀ {ts : List V} {cs : List Addr} {ls : List (T3 α β (List γ))}, KidT K R H ts cs ls → KidT K R H (ts ++ [.ref t]) (cs ++ [c]) (ls ++ [⟨x, y, l⟩])
  | _, _, _, .nil => .cons h1 h2 h3 h4 h5 .nil
  | _, _, _, .cons g1 g2 g3 g4 g5 k => .cons g1 g2 g3 g4 g5 (KidT.app h1 h2 h3 h4 h5 k)
theorem KidT.all : ∀ {ts : List V} {cs : List Addr} {ls : List (T3 α β (List γ))}, KidT K R H ts cs ls → (∀ c ∈ cs, ∀ u, H c = some u → R' c = some u) → Ex R R' → AllR K R' ts ls
  | _, _, _, .nil, _, _ => .nil
  | _, _, _, .cons h1 h2 h3 h4 h5 t, f, e => .cons ⟨_, _, rfl, e _ _ h1, _, _, _, rfl, Py.mono e h2, Py.mono e h3, ⟨_, _, rfl, .inl (f _ List.mem_cons_self _ h4), _, rfl, h5.mono e⟩⟩ (t.all (fun c hc => f c (List.mem_cons_of_mem _ hc)) e)
instance instOdLT : Od (List (T3 α β (List γ))) where
  dh := fun K R H o ps a => ∃ ts, o = .lst ts ∧ KidT K R H ts ps a
  mono := fun {K R R' H H' o ps a} e f h => by
    obtain ⟨ts, h, k⟩ := h
    exact ⟨ts, h, k.mono e f⟩
  there := fun {K R H o ps a} h => by
    obtain ⟨_, _, k⟩ := h
    exact k.there
  nt := fun {K R H o ps a} h => by
    obtain ⟨_, h, _⟩ := h
    rw [h]
    rfl
end
section
variable {X : Cx} {R0 H0 : Hp} {Γ : List Slot} {e a b e3 : Expr} {es : List Expr} {st : Stmt} {rest : List Stmt} {pos p apos : Pos} {α β γ : Type} [Py α] [Py β] [Py γ]
/-- the first k emptied -/
def clrT (k : Nat) (xs : List (T3 α β (List γ))) : List (T3 α β (List γ)) := (xs.take k).map (fun r => ⟨r.a, r.b, []⟩) ++ xs.drop k
omit [Py α] [Py β] [Py γ] in
theorem clrT_all (xs : List (T3 α β (List γ))) : clrT xs.length xs = xs.map fun r => ⟨r.a, r.b, []⟩ := by
  unfold clrT
  rw [List.take_length, List.drop_length, List.append_nil]
omit [Py α] [Py β] [Py γ] in
theorem clrT_len (k : Nat) (xs : List (T3 α β (List γ))) : (clrT k xs).length = xs.length := by
  unfold clrT
  rw [List.length_append, List.length_map, List.length_take, List.length_drop]
  omega
omit [Py α] [Py β] [Py γ] in
theorem clrT_at {k : Nat} {xs : List (T3 α β (List γ))} (h : k < xs.length) : (clrT k xs)[k]? = some xs[k] := by
  unfold clrT
  rw [List.getElem?_append_right (by rw [List.length_map, List.length_take]; omega), List.length_map, List.length_take, List.getElem?_drop, show k + (k - min k xs.length) = k by omega, List.getElem?_eq_getElem h]
omit [Py α] [Py β] [Py γ] in
theorem clrT_set {k : Nat} {xs : List (T3 α β (List γ))} (h : k < xs.length) : (clrT k xs).set k ⟨xs[k].a, xs[k].b, []⟩ = clrT (k + 1) xs := by
  unfold clrT
  rw [List.set_append_right (h := by rw [List.length_map, List.length_take]; omega), List.length_map, List.length_take, show k - min k xs.length = 0 by omega, List.drop_eq_getElem_cons h, List.set_cons_zero, List.take_succ_eq_append_getElem h, List.map_append, List.append_assoc]
  rfl
end
end FK

/-! a try whose handler has no name -/
namespace FK
open PySem PySem.Spec PyProof.Rows L2
section
variable {X : Cx} {R0 H0 : Hp} {Γ : List Slot} {β : Type} {out : β → Out} {pos : Pos}
end
section
variable {X : Cx} {R0 H0 : Hp} {Γ : List Slot} {e lo : Expr} {pos : Pos}
end
end FK

/-! defs whose exceptions have no context; a suite that raises anew -/
namespace FK
open PySem PySem.Spec PyProof.Rows L2
def outRN {α : Type} [Py α] : Rs α → Out
  | .ok a => .rt a
  | .ex x => .exn x
section
variable {α : Type} [Py α]
end
section
variable {P : Program} {w : World} {K : PySem.W.Frag} {mg : Str → Option Value} {base : Heap} {x qual : Str} {st : Stmt} {f : Addr} {fd : FuncData} {N ps : List Str} {k : Nat} {γ β : Type} [Ar γ]
abbrev bodyN (P : Program) (w : World) (K : PySem.W.Frag) (mg : Str → Option Value) (base : Heap) (N : List Str) (qual : Str) (st : Stmt) (f : Addr) (cdv : Value) (A : Around) (outer : List Env) (s : Shared) (H : Hp) (E : XK) : Cx := cxOf (L2N.CX P w) P w K mg base N qual (defScope st) f cdv A outer s H E
end
/-! ### an exception made, without a context -/
def mkSemN (X : Cx) (e : Expr) : L2.St → Hp → XK → Prop := fun σ H Q => ∀ pins s, Inv X pins σ H s → wpAny (model X.prog X.w) X.A (eval e X.env) (L2N.MkP X pins σ Q) X.xe s
structure JMkN (X : Cx) (R0 H0 : Hp) (Γ : List Slot) (e : Expr) (m : Option Xv) : Prop where
  run : ∀ σ R H, Sat X.K R0 H0 Γ σ R H → ∀ x, m = some x → ∀ Q : XK, (∀ cls d R' H', Ext R H R' H' → XOk X.K R' cls d x → Q cls d H') → mkSemN X e σ H Q
section
variable {X : Cx} {e : Expr} {es : List Expr} {pos p : Pos}
end
/-- as XInit, where another exception is handled -/
def XHot (P : Program) (w : World) (K : PySem.W.Frag) (mg : Str → Option Value) (base : Heap) (nm f : Str) (ps : List Str) : Prop := ∃ C fI fd, XCls K mg nm C ∧ OexC K C ∧ PySem.W.findIn K (.ref C) "__init__" = some (some (.ref fI)) ∧
  PySem.W.typeIn K (.ref fI) = some (.type "function") ∧ L2H.FnH P w K mg base CX0 1 fI fd ps (spI C f) ∧ Binds K fd ps []
section
variable {X : Cx} {R0 H0 : Hp} {Γ : List Slot} {e : Expr} {rest : List Stmt} {pos p : Pos}
end
/-! ### a call whose exceptions have no context; raised anew -/
structure JXN (X : Cx) (R0 H0 : Hp) (Γ : List Slot) (e : Expr) {α : Type} [Py α] (m : Option (Rs α)) : Prop where
  run : ∀ σ R H, Sat X.K R0 H0 Γ σ R H → ∀ r, m = some r → ∀ (Q : VK) (W : WX), L2N.Takes X W → (∀ a, r = .ok a → ∀ v R' H', Ext R H R' H' → rep X.K R' v a → Q v H') →
    (∀ x, r = .ex x → ∀ cls d R' H', Ext R H R' H' → XOk X.K R' cls d x → W cls d σ H') → eSem X e σ H Q
def tryR {α : Type} (L : List Str) (mb : Option (Rs α)) (mx : Option Xv) : Option (Rs α) := mb.bind fun r => match r with
  | .ok a => some (.ok a)
  | .ex x => if x.c ∈ L then mx.bind fun y => some (.ex y) else none
section
variable {X : Cx} {R0 H0 : Hp} {Γ : List Slot} {e : Expr} {es : List Expr} {rest : List Stmt} {pos p : Pos} {γ β : Type} [Ar γ]
end
section
variable {X : Cx} {R0 H0 : Hp} {Γ : List Slot} {e : Expr} {pos : Pos}
end
end FK

/-! calls of defs whose exceptions have no context -/
namespace FK
open PySem PySem.Spec PyProof.Rows L2
def outNN {α : Type} (Γ1 : α → List Slot) : Rs α → Out
  | .ok a => .nx (Γ1 a)
  | .ex x => .exn x
section
variable {X : Cx} {R0 H0 : Hp} {Γ : List Slot} {e : Expr} {pos : Pos}
end
end FK

/-! the pairs of a dict whose keys are tuples -/
namespace FK
open PySem PySem.Spec PyProof.Rows L2
/-- each key's own tuple, and its value, in a new tuple -/
def ItiT (d : Addr) (o : Obj) (kvs : List (List L2.Key × V)) : It :=
  ⟨fun i H => H d = some (.frz o (.dT kvs)) ∧ i < kvs.length,
   fun i H x H' => ∃ (T : Addr) (k : List L2.Key) (v : V) (q : Addr), kvs[i]? = some (k, v) ∧ H q = some (.tup (k.map kV)) ∧ x = .ref T ∧ H T = none ∧ H' = upd H T (.tup [.ref q, v]),
   fun i H => H d = some (.frz o (.dT kvs)) ∧ kvs.length ≤ i⟩
section
variable {X : Cx} {pins : List (Addr × Obj)} {σ : L2.St} {H : Hp} {s : Shared} {d : Addr} {o : Obj}
/-- what stands at a locked dict with tuple keys, its values too -/
theorem frz_entries {kvs : List (List L2.Key × V)} (I : Inv X pins σ H s) (h : H d = some (.frz o (.dT kvs))) :
    (d == sysModules) = false ∧ s.heap.get? d = some o ∧ o.ExactDict ∧ ∃ (es : Array DictEntry) (ep : Nat), o.data = .dict es ep ∧ es.size = kvs.length ∧
      ∀ (i : Nat) (k : List L2.Key) (v : V), kvs[i]? = some (k, v) → ∃ (hi : i < es.size) (q : Addr), es[i].key = .ref q ∧ RelV v es[i].val ∧ H q = some (.tup (k.map kV)) := by
  obtain ⟨hd, _, hs, xs, pr, o', es, ep, ho, hx, hdt, he, _⟩ := I.hok d _ h
  rw [hd] at ho
  cases ho
  have l1 : es.size = xs.length := size_of_entries he
  have l2 : kvs.length = xs.length := Paired.length pr
  refine ⟨hs, hd, hx, es, ep, hdt, l1.trans l2.symm, fun i k v e => ?_⟩
  obtain ⟨b, hb, _, e2, e3⟩ := paired_get pr e
  have g := entry_at he i
  rw [hb] at g
  obtain ⟨hi, g⟩ := Array.getElem?_eq_some_iff.mp g
  refine ⟨hi, b.2.1, ?_, ?_, e2⟩
  · rw [g]
    rfl
  · rw [g]
    exact e3
end
section
variable {P : Program} {w : World} {K : PySem.W.Frag} {d : Addr} {o : Obj} {es : Array DictEntry} {ep : Nat}
theorem turn_pairs {kvs : List (List L2.Key × V)} {elts : List Expr} {kk : Nat} {tpos : Pos} (it : Addr) (hod : o.data = .dict es ep) :
    Turn P w K (.Tuple elts kk tpos) (ItiT d o kvs) [it] it (fun i h => ∃ ok ov, IsItemIter h it d i kvs.length ep ok ov) where
  mem := List.mem_singleton.mpr rfl
  obj := fun i h ⟨ok, ov, e⟩ b hb => by
    rw [List.mem_singleton.mp hb]
    exact ⟨_, e, fun v z => nomatch z⟩
  keep := fun i h h' ⟨ok, ov, e⟩ k => ⟨ok, ov, k it (List.mem_singleton.mpr rfl) _ e⟩
  item := by
    intro X hP hw hK hc i pins s σ H E I hf ⟨ok, ov, st⟩ ⟨hd, hi⟩
    subst hP hw hK
    obtain ⟨hs, hgd, hx, es', ep', hdt, hsz, ent⟩ := frz_entries I hd
    obtain ⟨rfl, rfl⟩ := dict_ep hod hdt
    obtain ⟨⟨k, v⟩, hkv⟩ : ∃ p, kvs[i]? = some p := ⟨kvs[i], List.getElem?_eq_getElem hi⟩
    obtain ⟨hi2, q, hq, ru, hkq⟩ := ent i k v hkv
    rw [← hsz] at st
    have hlt : it < s.heap.objs.size := Heap.lt_size st
    refine wpAny_pyNext_items_item_raw st ⟨o, hgd, hx, hdt⟩ hi2 fun h' ho hT hz hk => ?_
    refine ⟨_, rfl, wpAny_letOwnedTupleGo_items (s := { s with heap := h' }) ho fun h'' he' sb => ?_⟩
    have hT2 : h''.get? s.heap.objs.size = some { cls := .type "tuple", data := .seq #[es'[i].key, es'[i].val] } := (sb.2 _ (Nat.ne_of_gt hlt)).trans hT
    have new : ObjOk X.prog X.w (upd H s.heap.objs.size (.tup [.ref q, v])) h'' s.heap.objs.size (.tup [.ref q, v]) :=
      ⟨by show 2 ≤ sizeLine; decide, [es'[i].key, es'[i].val], .cons hq (.cons ru .nil), ⟨_, hT2, rfl, _, rfl⟩⟩
    have I1 : Inv X pins σ (upd H s.heap.objs.size (.tup [.ref q, v])) { s with heap := h'' } :=
      I.turnedNew (t' := s.toks) (ch := [it]) (fun b ob hb e => (sb.2 b fun z => hb (List.mem_singleton.mpr z)).trans (hk b ob (fun z => hb (List.mem_singleton.mpr z)) e)) hf (Nat.le_refl _) new
    refine ⟨.ref s.heap.objs.size, _, I1, rfl, ⟨_, k, v, q, hkv, hkq, rfl, I.hok.fresh (Nat.le_refl _), rfl⟩, ⟨_, _, by rw [← hsz]; exact he'⟩, fun b hb => ?_⟩
    rw [List.mem_singleton.mp hb, upd_ne (Nat.ne_of_lt hlt)]
    exact (hf it (List.mem_singleton.mpr rfl)).1
  done := by
    intro X hP hw hK hc i pins s σ H E I hf ⟨ok, ov, st⟩ ⟨hd, hi⟩
    subst hP hw hK
    obtain ⟨f0, f1, _, f3, f4, f5⟩ := hf it (List.mem_singleton.mpr rfl)
    obtain ⟨hs, hgd, hx, es', ep', hdt, hsz, _⟩ := frz_entries I hd
    obtain ⟨rfl, rfl⟩ := dict_ep hod hdt
    rw [← hsz] at st
    exact wpAny_pyNext_items_end_raw (I.ok.hd hc) st ⟨o, hgd, hx, hdt⟩ (by omega) fun h' eb => ⟨rfl, I.turned (t' := s.toks) (fun b ob hb e => eb b ob hb e) f0 f1 f3 f4 f5⟩
  self := fun A i s Q E ⟨_, _, st⟩ h => wpAny_pyIter_itemiter st h
end
def iPairs (td : TE) : TI := fun σ H R => td σ H fun x H1 => ∃ d o kvs, x = .ref d ∧ H1 d = some (.frz o (.dT kvs)) ∧ R (ItiT d o kvs) H1
theorem pi_pairs {X : Cx} {e : Expr} {td : TE} {apos cpos tpos : Pos} {elts : List Expr} {kk : Nat} (he : PE X e td) (hbase : attributeBase e "items" X.env (eval e X.env) = eval e X.env := by rfl) (hline : (apos.endLine == cpos.line) = true := by rfl) :
    PI X (.Tuple elts kk tpos) (.Call (.Attribute e "items" apos) [] [] cpos) (iPairs td) := by
  refine ⟨fun pins s σ H R I h => ?_⟩
  refine wpAny_Call_method (T := "dict") (id := "dict.items") hbase rfl hline F.plainAttrs_dict F.slot_dict_items F.type_dict_items (thn (he.run pins s σ H _ I h) fun u s1 ⟨x, H1, I1, rx, d, o, kvs, ex, hd, q⟩ => ?_)
  subst ex
  obtain rfl : u = Value.ref d := rx
  obtain ⟨hs, hgd, hx, es, ep, hdt, hsz, _⟩ := frz_entries I1 hd
  have raw : s1.heap.DictRaw d es ep := ⟨o, hgd, hx, hdt⟩
  refine ⟨raw.typeIs, fun a e => ⟨o, by cases e; exact hgd, hx.2.1⟩, ?_⟩
  have I2 : Inv X pins σ H1 { s1 with heap := s1.heap.push { cls := .type "dict_items", data := .fields #[.ref d] } } := I1.kept (t' := s1.toks) fun b ob q => Heap.get?_push_of_some _ q
  have fin : wpAny (model X.prog X.w) X.A (pyIter (.ref s1.heap.objs.size)) (PIE X pins σ (.Tuple elts kk tpos) R) X.xe { s1 with heap := s1.heap.push { cls := .type "dict_items", data := .fields #[.ref d] } } := by
    refine wpAny_pyIter_items_raw (d := d) ⟨_, Heap.get?_push_size _ rfl, rfl, rfl⟩ (raw.at fun o e => Heap.get?_push_of_some _ e) (pi_one (tk := s1.toks) I2 _ (turn_pairs _ hdt) ⟨.none, .none, ?_⟩ q)
    rw [← hsz]
    exact Heap.get?_push_size _ rfl
  show wpAny _ _ (callWith cpos (.builtin "dict.items") [.ref d] [] []) _ X.xe s1
  exact method_meetsIn F.slot_dict_items F.entry_dict_items rfl (PySem.evalArgs_none ⟨rfl, raw.typeIs, F.args_dict_items_1 _, _, meets_dict_items_raw d hs, ⟨es, ep, raw⟩, fin⟩)
/-! ### such a dict, only read from now on -/
structure Kz (κ α : Type) where
  l : List (κ × α)
abbrev Kz.d {κ α : Type} (x : Kz κ α) : Dct κ α := ⟨x.l⟩
section
variable {κ α : Type} [Py κ] [DecidableEq κ] [Kt κ] [Py α]
instance instPyKz : Py (Kz κ α) where
  rep := fun K R v a => ∃ p od kvs, v = .ref p ∧ R p = some (.frz od (.dT kvs)) ∧ DT K R kvs a.l
  bor := fun K R H v a => ∃ p od kvs, v = .ref p ∧ H p = some (.frz od (.dT kvs)) ∧ DT K R kvs a.l
  mono := fun e ⟨p, od, kvs, h, r, q⟩ => ⟨p, od, kvs, h, e _ _ r, q.mono e⟩
  bmono := fun e e2 ⟨p, od, kvs, h, r, q⟩ => ⟨p, od, kvs, h, e2 _ _ r, q.mono e⟩
  lend := fun e ⟨p, od, kvs, h, r, q⟩ => ⟨p, od, kvs, h, e _ _ r, q⟩
variable {X : Cx} {R0 H0 : Hp} {Γ : List Slot} {e tg : Expr} {st : List Stmt} {pos : Pos} {β : Type} {m : Option β} {out : β → Out}
theorem jb_kz {mz : Option (Kz κ α)} (h : JB X R0 H0 Γ e mz) : JB X R0 H0 Γ e (mz.bind fun x => some x.d) := .mk fun σ R H S a ea Q q => by
  obtain ⟨x, ex, ea⟩ := bind_some' ea
  cases ea
  exact h σ R H S x ex Q fun v R' H' x1 ⟨p, od, kvs, ev, hp, r⟩ => q v R' H' x1 ⟨p, .dT kvs, ev, .inr ⟨od, hp⟩, kvs, rfl, r⟩
theorem jb_kz_t {x : Kz κ α} (h : JB X R0 H0 Γ e (some x)) : JB X R0 H0 Γ e (some x.d) := jb_kz h
theorem Sat.kz {K : PySem.W.Frag} {R0 H0 R H : Hp} {Γ : List Slot} {σ : L2.St} {i : Nat} {d : Dct κ α} (S : Sat K R0 H0 Γ σ R H) (hi : Γ[i]? = some (.own d)) : ∃ p kvs, H p = some (.dT kvs) ∧ ∀ od, Ex R (upd R p (.frz od (.dT kvs))) ∧ Sat K R0 H0 (Γ.set i (.v (⟨d.l⟩ : Kz κ α))) σ (upd R p (.frz od (.dT kvs))) (upd H p (.frz od (.dT kvs))) := by
  obtain ⟨⟨os, s, nd, fr⟩, e0⟩ := S
  obtain ⟨x, o1, oa, ob, h1, h2, ⟨p, o, e1, hx, hp, kvs, ho, hr⟩, h4⟩ := s.at hi
  subst hx e1 h2 ho
  have hm : p ∈ oa ++ ([p] ++ ob) := List.mem_append_right _ (List.mem_append_left _ (List.mem_singleton.mpr rfl))
  obtain ⟨f1, f2⟩ := fr p hm
  refine ⟨p, kvs, hp, fun od => ?_⟩
  have er : Ex R (upd R p (.frz od (.dT kvs))) := .new f1
  have hne : ∀ z ∈ oa ++ ob, z ≠ p := fun z hz hzp => by
    subst hzp
    have hc := List.nodup_append.mp nd
    rcases List.mem_append.mp hz with hz | hz
    · exact hc.2.2 z hz z (List.mem_append_left _ (List.mem_singleton.mpr rfl)) rfl
    · exact (List.nodup_append.mp hc.2.1).2.2 z (List.mem_singleton.mpr rfl) z hz rfl
  have sub : (oa ++ ([] ++ ob)).Sublist (oa ++ ([p] ++ ob)) := List.Sublist.append (List.Sublist.refl _) (List.Sublist.append (List.nil_sublist _) (List.Sublist.refl _))
  refine ⟨er, ⟨oa ++ ([] ++ ob), ?_, nd.sublist sub, fun z hz => ?_⟩, ?_⟩
  · have g := h4 (upd R p (.frz od (.dT kvs))) (upd H p (.frz od (.dT kvs))) (.v (⟨d.l⟩ : Kz κ α)) (some (.ref p)) [] er (fun z hz u hu => by rw [upd_ne (hne z hz)]; exact hu) ⟨rfl, .ref p, rfl, p, od, kvs, rfl, upd_same, hr.mono er⟩
    rw [set_same h1] at g
    exact g
  · obtain ⟨g1, g2⟩ := fr z (sub.mem hz)
    exact ⟨by rw [upd_ne (hne z hz)]; exact g1, g2⟩
  · refine ⟨e0.r.trans er, e0.h.mut f2, e0.i.up, fun z u t hz hn => ?_⟩
    rw [upd_ne (ne_of_none hz f2)]
    exact e0.n z u t hz hn
theorem jn_fzz (i : Nat) {d : Dct κ α} (h : JN X R0 H0 (Γ.set i (.v (⟨d.l⟩ : Kz κ α))) st m out) (hi : Γ[i]? = some (.own d) := by rfl) : JN X R0 H0 Γ st m out := .mk fun σ R H S b eb D n q => by
  obtain ⟨p, kvs, hp, k⟩ := S.kz hi
  intro pins s I
  obtain ⟨od, I2⟩ := I.lock hp trivial
  obtain ⟨e1, S2⟩ := k od
  exact h σ _ _ S2 b eb D n (q.mono e1) pins s I2
/-- a new dict, locked at once -/
theorem je_oz {md : Option (Dct κ α)} (h : JO X R0 H0 Γ e md) : JE X R0 H0 Γ e (md.bind fun d => some (⟨d.l⟩ : Kz κ α)) := .mk fun σ R H S z ez Q q => by
  obtain ⟨d, ed, ez⟩ := bind_some' ez
  cases ez
  intro pins s I
  have base := h.run σ R H S d ed (fun v H1 => ∃ p kvs R1, v = .ref p ∧ Ext R H R1 H1 ∧ H p = none ∧ H1 p = some (.dT kvs) ∧ R1 p = none ∧ DT X.K R1 kvs d.l) (fun p o R' H' x np hp hr ⟨kvs, ho, hd⟩ => by
    subst ho
    exact ⟨p, kvs, R', rfl, x, np, hp, hr, hd⟩) pins s I
  refine thn base fun u s1 ⟨v, H1, I1, rv, p, kvs, R1, ev, x, np, hp, hr, hd⟩ => ?_
  subst ev
  obtain ⟨od, I2⟩ := I1.lock hp trivial
  refine ⟨.ref p, upd H1 p (.frz od (.dT kvs)), I2, rv, q (.ref p) (upd R1 p (.frz od (.dT kvs))) _ ⟨x.r.trans (.new hr), x.h.mut np, x.i.up, fun z u t hz hn => ?_⟩ ⟨p, od, kvs, rfl, upd_same, hd.mono (.new hr)⟩⟩
  rw [upd_ne (ne_of_none hz np)]
  exact x.n z u t hz hn
theorem DT.at {K : PySem.W.Frag} {R : Hp} : ∀ {kvs : List (List L2.Key × V)} {l : List (κ × α)} {i : Nat} {a : κ × α}, DT K R kvs l → l[i]? = some a → ∃ v, kvs[i]? = some (Kt.kt a.1, v) ∧ rep K R v a.2
  | _, _, i, a, .nil, h => by simp at h
  | _, _, 0, a, .cons h t, e => by
    cases Option.some.inj e
    exact ⟨_, rfl, h⟩
  | _, _, i + 1, a, .cons h t, e => t.at (i := i) e
theorem pairs_ok {K : PySem.W.Frag} {H0 R R1 : Hp} {p : Addr} {od : Obj} {kvs : List (List L2.Key × V)} {l : List (κ × α)} (r : DT K R kvs l) (hR : Ex R R1) (hp : ∀ R2 H2, Ex R1 R2 → Ex H0 H2 → Ex R2 H2 → H2 p = some (.frz od (.dT kvs))) : ItOk K H0 (ItiT p od kvs) l R1 := fun i R2 H2 e1 e2 e3 => by
  have hd := hp R2 H2 e1 e2 e3
  refine ⟨fun a ha => ?_, fun hi => ⟨hd, by rw [r.len]; exact hi⟩⟩
  obtain ⟨u, hk, ru⟩ := r.at ha
  have lt : i < kvs.length := by
    rcases Nat.lt_or_ge i kvs.length with z | z
    · exact z
    · rw [List.getElem?_eq_none z] at hk
      cases hk
  refine ⟨⟨hd, lt⟩, fun w H3 ⟨T, k, v, q, hk', hq, ew, hT, e4⟩ => ?_⟩
  rw [hk] at hk'
  cases hk'
  subst ew e4
  have x1 := Ext.frt e3 hq
  have hne : q ≠ T := fun z => by
    rw [z, hT] at hq
    cases hq
  have x2 : Ext (upd R2 q (.tup ((Kt.kt a.1).map kV))) H2 _ (upd H2 T (.tup [.ref q, u])) := .new x1.i hT
  refine ⟨_, x1.trans x2, T, _, rfl, upd_same, .ref q, u, rfl, Kt.vr ?_, Py.mono (e1.trans (x1.trans x2).r) (Py.mono hR ru)⟩
  rw [upd_ne hne, upd_same]
theorem ji_pairs (i : Nat) {x : Str} {px apos cpos tpos : Pos} {elts : List Expr} {kk : Nat} {d : Kz κ α} (hi : Γ[i]? = some (.b d) := by rfl) (hN : X.N[i]? = some x := by rfl) (hv : Vis X.env.scope x := by first | exact Or.inl rfl | exact Or.inr (Or.inl rfl) | exact Or.inr (Or.inr rfl)) (hd : (x == ("__debug__" : Str)) = false := by decide)
    (hcd : (x == ("__classdict__" : Str)) = false := by decide) (hb : attributeBase (.Name x px) "items" X.env (eval (.Name x px) X.env) = eval (.Name x px) X.env := by rfl) (hl : (apos.endLine == cpos.line) = true := by rfl) :
    JI X R0 H0 Γ (.Tuple elts kk tpos) (.Call (.Attribute (.Name x px) "items" apos) [] [] cpos) (some d.l) := .mk fun σ R H S xs ex Q q => by
  cases ex
  obtain ⟨v, hs, p, od, kvs, rfl, hp, r⟩ := S.get_b hi
  exact PI_to (pi_pairs (pv i hN hv hd hcd) hb hl) ⟨.ref p, hs, p, od, kvs, rfl, S.e0.h _ _ hp, q _ R H (.refl S.i) (pairs_ok r S.e0.r fun R2 H2 _ e2 _ => e2 _ _ hp)⟩
end
end FK

/-! x.append(y.pop(e)) -/
namespace FK
open PySem PySem.Spec PyProof.Rows L2
def popApp {α : Type} (ys xs : List α) (k : Int) : Option (List α × List α) := if ys.length < 16000000 ∧ xs.length < 16000000 then (ixN ys.length k).bind fun j => ys[j]?.bind fun y => some (ys.eraseIdx j, xs ++ [y]) else none
theorem AllR.erase {α : Type} [Py α] {K : PySem.W.Frag} {R : Hp} : ∀ {vs : List V} {as : List α} (j : Nat), AllR K R vs as → AllR K R (vs.eraseIdx j) (as.eraseIdx j)
  | _, _, _, .nil => .nil
  | _, _, 0, .cons _ t => t
  | _, _, j + 1, .cons h t => .cons h (t.erase j)
section
variable {X : Cx} {R0 H0 : Hp} {Γ : List Slot} {e : Expr} {pos : Pos}
theorem j1_popapp (i j : Nat) {x y : Str} {px py apos apos2 p p2 : Pos} {α : Type} [Py α] {xs ys : List α} {m : Option Int} (Γ' : List α × List α → List Slot) (h : JB X R0 H0 Γ e m) (hΓ : Γ[i]? = some (.own xs) := by rfl) (hΓ2 : Γ[j]? = some (.own ys) := by rfl) (hΓ3 : ∀ zs : List α, (Γ.set j (.own zs))[i]? = some (.own xs) := by intro _; rfl) (hu : ∀ q, Γ' q = (Γ.set j (.own q.1)).set i (.own q.2) := by intro _; rfl)
    (hN : X.N[i]? = some x := by rfl) (hN2 : X.N[j]? = some y := by rfl)
    (hv : Vis X.env.scope x := by first | exact Or.inl rfl | exact Or.inr (Or.inl rfl) | exact Or.inr (Or.inr rfl)) (hd : (x == ("__debug__" : Str)) = false := by decide) (hcd : (x == ("__classdict__" : Str)) = false := by decide)
    (hv2 : Vis X.env.scope y := by first | exact Or.inl rfl | exact Or.inr (Or.inl rfl) | exact Or.inr (Or.inr rfl)) (hd2 : (y == ("__debug__" : Str)) = false := by decide) (hcd2 : (y == ("__classdict__" : Str)) = false := by decide)
    (he2 : starEach (e :: []) X.env = (false, eval e X.env) :: starEach [] X.env := by rfl) (hpl2 : (backTo p2 (starEach ([] : List Expr) X.env)).any (·.1) = false := by rfl) (hfew2 : ((backTo p2 (starEach (e :: []) X.env)).all (fun x => !x.1) && (backToKw p2 (keywordEach [] X.env)).all (fun x => x.1.isSome) && decide ((e :: []).length + ([] : List Keyword).length + (if ([] : List Keyword).isEmpty then 0 else 1) < 30)) = true := by rfl) (hb2 : attributeBase (.Name y py) "pop" X.env (eval (.Name y py) X.env) = eval (.Name y py) X.env := by rfl) (hln2 : (apos2.endLine == p2.line) = true := by rfl)
    (he : starEach ((.Call (.Attribute (.Name y py) "pop" apos2) [e] [] p2) :: []) X.env = (false, eval (.Call (.Attribute (.Name y py) "pop" apos2) [e] [] p2) X.env) :: starEach [] X.env := by rfl) (hpl : (backTo p (starEach ([] : List Expr) X.env)).any (·.1) = false := by rfl) (hfew : ((backTo p (starEach ((.Call (.Attribute (.Name y py) "pop" apos2) [e] [] p2) :: []) X.env)).all (fun x => !x.1) && (backToKw p (keywordEach [] X.env)).all (fun x => x.1.isSome) && decide (((.Call (.Attribute (.Name y py) "pop" apos2) [e] [] p2) :: ([] : List Expr)).length + ([] : List Keyword).length + (if ([] : List Keyword).isEmpty then 0 else 1) < 30)) = true := by rfl) (hb : attributeBase (.Name x px) "append" X.env (eval (.Name x px) X.env) = eval (.Name x px) X.env := by rfl) (hln : (apos.endLine == p.line) = true := by rfl)
    (hsw : swapsWith (.Call (.Attribute (.Name x px) "append" apos) [.Call (.Attribute (.Name y py) "pop" apos2) [e] [] p2] [] p) none pos.line X.env = pure false := by rfl) :
    J1 X R0 H0 Γ (.Expr (.Call (.Attribute (.Name x px) "append" apos) [.Call (.Attribute (.Name y py) "pop" apos2) [e] [] p2] [] p) pos) (m.bind fun k => popApp ys xs k) fun q => .nx (Γ' q) := .mk fun σ R H S b eb D q => by
  obtain ⟨k, ek, eb⟩ := bind_some' eb
  unfold popApp at eb
  by_cases hz : ys.length < 16000000 ∧ xs.length < 16000000
  case neg =>
    rw [if_neg hz] at eb
    cases eb
  rw [if_pos hz] at eb
  obtain ⟨jj, ej, eb⟩ := bind_some' eb
  obtain ⟨z, ey, eb⟩ := bind_some' eb
  cases eb
  obtain ⟨s1, s2, s3, s4⟩ := ixN_seq ej
  obtain ⟨l, o, hs, hp, ⟨vs, rfl, hv0⟩, hR, hH, _⟩ := S.get_own hΓ
  obtain ⟨l2, o2, hs2, hp2, ⟨ws, rfl, hw0⟩, hR2, hH2, up2⟩ := S.get_own hΓ2
  have q : ∀ σ R' H, Ex R R' → Sat X.K R0 H0 (Γ' (ys.eraseIdx jj, xs ++ [z])) σ R' H → D.nx σ H := q
  rw [hu] at q
  have lw := hw0.len
  refine PS_to (ps_expr (pe_bm PySem.F.plainAttrs_list PySem.F.slot_list_append PySem.F.type_list_append mt_append (pv i hN hv hd hcd)
    (pa_cons (pe_bm PySem.F.plainAttrs_list PySem.F.slot_list_pop PySem.F.type_list_pop mt_popAt (pv j hN2 hv2 hd2 hcd2) (pa_cons eS pa_nil he2) (hbase := hb2) (hfew := hfew2) (hline := hln2) (hs := he2) (hplain := hpl2)) pa_nil he) (hbase := hb) (hfew := hfew) (hline := hln) (hs := he) (hplain := hpl)) hsw)
    ⟨.ref l, hs, .inl ⟨rfl, _, .inl (.inl hp)⟩, .ref l2, hs2, .inl ⟨rfl, _, .inl (.inl hp2)⟩, h σ R H S k ek _ fun u R1 H1 x1 r1 => ?_⟩
  have r1 : u = .int k := r1
  subst r1
  have hp21 : H1 l2 = some (.lst ws) := x1.h _ _ hp2
  obtain ⟨v, hv1, rv⟩ := hw0.get ey
  have S1 := up2 R1 H1 (.lst (ws.eraseIdx jj)) (ys.eraseIdx jj) x1 ⟨_, rfl, (hw0.mono x1.r).erase jj⟩
  obtain ⟨l', o', hs', hp', ⟨vs', rfl, hv'⟩, _, _, up⟩ := S1.get_own (hΓ3 (ys.eraseIdx jj))
  rw [hs] at hs'
  cases hs'
  refine ⟨l2, ws, k, jj, v, rfl, rfl, hp21, by omega, by omega, by rw [lw]; exact s1, hv1, ?_⟩
  refine ⟨l, vs', v, rfl, rfl, hp', ?_, ?_⟩
  · rw [hv'.len]
    exact Nat.lt_of_lt_of_le hz.2 (by rw [sizeLine_eq]; decide)
  · exact q _ _ _ x1.r (up R1 _ _ (xs ++ [z]) (.refl S1.i) ⟨_, rfl, hv'.app (.cons (Py.mono x1.r rv) .nil)⟩)
end
end FK

/-! e is True, where e may be None -/
namespace FK
open PySem PySem.Spec PyProof.Rows L2
def obV (x : V) : Option Bool → Prop
  | none => x = .non
  | some a => x = .bl a
def rIsOb : R2 := fun x y H Q => ∃ (o : Option Bool) (b : Bool), obV x o ∧ y = .bl b ∧ Q (.bl (decide (o = some b))) H
def rNotOb : R2 := fun x y H Q => ∃ (o : Option Bool) (b : Bool), obV x o ∧ y = .bl b ∧ Q (.bl (!decide (o = some b))) H
section
variable {X : Cx}
theorem op_isOb : OpR X (compareOp .Is) rIsOb := by
  intro pins s σ H x y v u Q I rx ry ⟨o, b, ex, ey, q⟩
  subst ey
  cases (show u = Value.bool b from ry)
  cases o with
  | none =>
    have ex : x = .non := ex
    subst ex
    cases (show v = Value.none from rx)
    exact wpAny_is_other rfl (fun z => by cases z) ⟨.bl false, H, I, rfl, by simpa using q⟩
  | some a =>
    have ex : x = .bl a := ex
    subst ex
    cases (show v = Value.bool a from rx)
    by_cases e : a = b
    · subst e
      exact wpAny_is_self rfl ⟨.bl true, H, I, rfl, by simpa using q⟩
    · exact wpAny_is_other rfl (fun z => e (Value.bool.inj z)) ⟨.bl false, H, I, rfl, by simpa [e] using q⟩
theorem op_notOb : OpR X (compareOp .IsNot) rNotOb := by
  intro pins s σ H x y v u Q I rx ry ⟨o, b, ex, ey, q⟩
  subst ey
  cases (show u = Value.bool b from ry)
  cases o with
  | none =>
    have ex : x = .non := ex
    subst ex
    cases (show v = Value.none from rx)
    exact wpAny_isNot_other rfl (fun z => by cases z) ⟨.bl true, H, I, rfl, by simpa using q⟩
  | some a =>
    have ex : x = .bl a := ex
    subst ex
    cases (show v = Value.bool a from rx)
    by_cases e : a = b
    · subst e
      exact wpAny_isNot_self rfl ⟨.bl false, H, I, rfl, by simpa using q⟩
    · exact wpAny_isNot_other rfl (fun z => e (Value.bool.inj z)) ⟨.bl true, H, I, rfl, by simpa [e] using q⟩
theorem ob_val {K : PySem.W.Frag} {R H : Hp} {v : V} {o : Option Bool} (h : bor K R H v o) : obV v o := by
  cases o with
  | none => exact h
  | some a => exact h.1
theorem isob_r {K : PySem.W.Frag} (R H : Hp) (v w : V) (x : Option Bool) (y z : Bool) (i : Ex R H) (h1 : bor K R H v x) (h2 : bor K R H w y) (h3 : some (decide (x = some y)) = some z) (Q : VK) (q : ∀ u R' H', Ext R H R' H' → rep K R' u z → Q u H') : rIsOb v w H Q := by
  cases h3
  exact ⟨x, y, ob_val h1, h2, q _ R H (.refl i) rfl⟩
theorem isnob_r {K : PySem.W.Frag} (R H : Hp) (v w : V) (x : Option Bool) (y z : Bool) (i : Ex R H) (h1 : bor K R H v x) (h2 : bor K R H w y) (h3 : some (!decide (x = some y)) = some z) (Q : VK) (q : ∀ u R' H', Ext R H R' H' → rep K R' u z → Q u H') : rNotOb v w H Q := by
  cases h3
  exact ⟨x, y, ob_val h1, h2, q _ R H (.refl i) rfl⟩
end
section
variable {X : Cx} {R0 H0 : Hp} {Γ : List Slot} {a b : Expr} {pos : Pos} {ma : Option (Option Bool)} {mb : Option Bool} {x : Option Bool} {y : Bool}
theorem jt_isob (ha : JB X R0 H0 Γ a ma) (hb : JB X R0 H0 Γ b mb) : JT X R0 H0 Γ (.Compare a [.Is] [b] pos) (ma.bind fun x => mb.bind fun y => some (decide (x = some y))) := jt_cmp2 op_isOb (nomark _) isob_r ha hb
theorem jt_isob_t (ha : JB X R0 H0 Γ a (some x)) (hb : JB X R0 H0 Γ b (some y)) : JT X R0 H0 Γ (.Compare a [.Is] [b] pos) (some (decide (x = some y))) := jt_isob ha hb
theorem jt_isnob (ha : JB X R0 H0 Γ a ma) (hb : JB X R0 H0 Γ b mb) : JT X R0 H0 Γ (.Compare a [.IsNot] [b] pos) (ma.bind fun x => mb.bind fun y => some (!decide (x = some y))) := jt_cmp2 op_notOb (nomark _) isnob_r ha hb
theorem je_isob (ha : JB X R0 H0 Γ a ma) (hb : JB X R0 H0 Γ b mb) : JE X R0 H0 Γ (.Compare a [.Is] [b] pos) (ma.bind fun x => mb.bind fun y => some (decide (x = some y))) := je_cmp2 op_isOb (nomark _) isob_r ha hb
theorem je_isob_t (ha : JB X R0 H0 Γ a (some x)) (hb : JB X R0 H0 Γ b (some y)) : JE X R0 H0 Γ (.Compare a [.Is] [b] pos) (some (decide (x = some y))) := je_isob ha hb
end
end FK

/-! papers: tuples within tuples -/
namespace FK
open PySem PySem.Spec PyProof.Rows L2
inductive Pap where
  | never (r : List Int)
  | rings (rows : List (List Int × Int))
  | case (i j : Int) (h q : Pap)
def papV (K : PySem.W.Frag) (R : Hp) : Pap → V → Prop
  | .never r, v => ∃ p x, v = .ref p ∧ R p = some (.tup [.str "never", x]) ∧ rep K R x r
  | .rings rows, v => ∃ p x, v = .ref p ∧ R p = some (.tup [.str "rings", x]) ∧ rep K R x rows
  | .case i j h q, v => ∃ p x y, v = .ref p ∧ R p = some (.tup [.str "case", .int i, .int j, x, y]) ∧ papV K R h x ∧ papV K R q y
theorem papV_mono {K : PySem.W.Frag} {R R' : Hp} (e : Ex R R') : ∀ {a : Pap} {v : V}, papV K R a v → papV K R' a v
  | .never r, _, ⟨p, x, h1, h2, h3⟩ => ⟨p, x, h1, e _ _ h2, Py.mono e h3⟩
  | .rings r, _, ⟨p, x, h1, h2, h3⟩ => ⟨p, x, h1, e _ _ h2, Py.mono e h3⟩
  | .case i j h q, _, ⟨p, x, y, h1, h2, h3, h4⟩ => ⟨p, x, y, h1, e _ _ h2, papV_mono e h3, papV_mono e h4⟩
instance instPyPap : Py Pap where
  rep := fun K R v a => papV K R a v
  bor := fun K R _ v a => papV K R a v
  mono := fun e h => papV_mono e h
  bmono := fun e _ h => papV_mono e h
  lend := fun _ h => h
def Pap.tag : Pap → Str
  | .never _ => "never"
  | .rings _ => "rings"
  | .case .. => "case"
def Pap.nev : Pap → Option (List Int)
  | .never r => some r
  | _ => none
def Pap.rgs : Pap → Option (List (List Int × Int))
  | .rings r => some r
  | _ => none
def Pap.i1 : Pap → Option Int
  | .case i _ _ _ => some i
  | _ => none
def Pap.i2 : Pap → Option Int
  | .case _ j _ _ => some j
  | _ => none
def Pap.s3 : Pap → Option Pap
  | .case _ _ h _ => some h
  | _ => none
def Pap.s4 : Pap → Option Pap
  | .case _ _ _ q => some q
  | _ => none
section
variable {X : Cx} {R0 H0 : Hp} {Γ : List Slot} {a : Expr} {pos p2 : Pos} {j : Nat} {m : Option Pap} {x : Pap}
theorem je_pap0 (h : JB X R0 H0 Γ a m) (hs : PlainIx (.Constant (.int 0) j p2) := by exact fun _ _ => rfl) : JE X R0 H0 Γ (.Subscript a (.Constant (.int 0) j p2) pos) (m.bind fun x => some x.tag) := .mk fun σ R H S z ez Q q => by
  obtain ⟨x, ex, ez⟩ := bind_some' ez
  cases ez
  refine PE_to (pe_ix ix_tup eS pe_int hs) (h σ R H S x ex _ fun v R1 H1 e1 r1 => ?_)
  cases x with
  | never r =>
    obtain ⟨p, y, rfl, hp, _⟩ := (show papV X.K R1 (.never r) v from r1)
    exact ⟨p, _, 0, _, rfl, rfl, dsq (e1.i _ _ hp), rfl, q _ R1 H1 e1 rfl⟩
  | rings r =>
    obtain ⟨p, y, rfl, hp, _⟩ := (show papV X.K R1 (.rings r) v from r1)
    exact ⟨p, _, 0, _, rfl, rfl, dsq (e1.i _ _ hp), rfl, q _ R1 H1 e1 rfl⟩
  | case i k h' q' =>
    obtain ⟨p, y, y2, rfl, hp, _⟩ := (show papV X.K R1 (.case i k h' q') v from r1)
    exact ⟨p, _, 0, _, rfl, rfl, dsq (e1.i _ _ hp), rfl, q _ R1 H1 e1 rfl⟩
theorem je_pap0_t (h : JB X R0 H0 Γ a (some x)) (hs : PlainIx (.Constant (.int 0) j p2) := by exact fun _ _ => rfl) : JE X R0 H0 Γ (.Subscript a (.Constant (.int 0) j p2) pos) (some x.tag) := je_pap0 h hs
theorem je_papn (h : JB X R0 H0 Γ a m) (hs : PlainIx (.Constant (.int 1) j p2) := by exact fun _ _ => rfl) : JE X R0 H0 Γ (.Subscript a (.Constant (.int 1) j p2) pos) (m.bind Pap.nev) := .mk fun σ R H S z ez Q q => by
  obtain ⟨x, ex, ez⟩ := bind_some' ez
  refine PE_to (pe_ix ix_tup eS pe_int hs) (h σ R H S x ex _ fun v R1 H1 e1 r1 => ?_)
  cases x with
  | never r =>
    have ez := Option.some.inj ez
    subst ez
    obtain ⟨p, y, rfl, hp, hr⟩ := (show papV X.K R1 (.never r) v from r1)
    exact ⟨p, _, 1, _, rfl, rfl, dsq (e1.i _ _ hp), rfl, q _ R1 H1 e1 hr⟩
  | rings r => cases ez
  | case i k h' q' => cases ez
theorem je_papn_t (h : JB X R0 H0 Γ a (some x)) (hs : PlainIx (.Constant (.int 1) j p2) := by exact fun _ _ => rfl) : JE X R0 H0 Γ (.Subscript a (.Constant (.int 1) j p2) pos) x.nev := je_papn h hs
theorem je_papr (h : JB X R0 H0 Γ a m) (hs : PlainIx (.Constant (.int 1) j p2) := by exact fun _ _ => rfl) : JE X R0 H0 Γ (.Subscript a (.Constant (.int 1) j p2) pos) (m.bind Pap.rgs) := .mk fun σ R H S z ez Q q => by
  obtain ⟨x, ex, ez⟩ := bind_some' ez
  refine PE_to (pe_ix ix_tup eS pe_int hs) (h σ R H S x ex _ fun v R1 H1 e1 r1 => ?_)
  cases x with
  | never r => cases ez
  | rings r =>
    have ez := Option.some.inj ez
    subst ez
    obtain ⟨p, y, rfl, hp, hr⟩ := (show papV X.K R1 (.rings r) v from r1)
    exact ⟨p, _, 1, _, rfl, rfl, dsq (e1.i _ _ hp), rfl, q _ R1 H1 e1 hr⟩
  | case i k h' q' => cases ez
theorem je_papr_t (h : JB X R0 H0 Γ a (some x)) (hs : PlainIx (.Constant (.int 1) j p2) := by exact fun _ _ => rfl) : JE X R0 H0 Γ (.Subscript a (.Constant (.int 1) j p2) pos) x.rgs := je_papr h hs
theorem je_pap1 (h : JB X R0 H0 Γ a m) (hs : PlainIx (.Constant (.int 1) j p2) := by exact fun _ _ => rfl) : JE X R0 H0 Γ (.Subscript a (.Constant (.int 1) j p2) pos) (m.bind Pap.i1) := .mk fun σ R H S z ez Q q => by
  obtain ⟨x, ex, ez⟩ := bind_some' ez
  refine PE_to (pe_ix ix_tup eS pe_int hs) (h σ R H S x ex _ fun v R1 H1 e1 r1 => ?_)
  cases x with
  | never r => cases ez
  | rings r => cases ez
  | case i k h' q' =>
    have ez := Option.some.inj ez
    subst ez
    obtain ⟨p, y, y2, rfl, hp, _⟩ := (show papV X.K R1 (.case i k h' q') v from r1)
    exact ⟨p, _, 1, _, rfl, rfl, dsq (e1.i _ _ hp), rfl, q _ R1 H1 e1 rfl⟩
theorem je_pap1_t (h : JB X R0 H0 Γ a (some x)) (hs : PlainIx (.Constant (.int 1) j p2) := by exact fun _ _ => rfl) : JE X R0 H0 Γ (.Subscript a (.Constant (.int 1) j p2) pos) x.i1 := je_pap1 h hs
theorem je_pap2 (h : JB X R0 H0 Γ a m) (hs : PlainIx (.Constant (.int 2) j p2) := by exact fun _ _ => rfl) : JE X R0 H0 Γ (.Subscript a (.Constant (.int 2) j p2) pos) (m.bind Pap.i2) := .mk fun σ R H S z ez Q q => by
  obtain ⟨x, ex, ez⟩ := bind_some' ez
  refine PE_to (pe_ix ix_tup eS pe_int hs) (h σ R H S x ex _ fun v R1 H1 e1 r1 => ?_)
  cases x with
  | never r => cases ez
  | rings r => cases ez
  | case i k h' q' =>
    have ez := Option.some.inj ez
    subst ez
    obtain ⟨p, y, y2, rfl, hp, _⟩ := (show papV X.K R1 (.case i k h' q') v from r1)
    exact ⟨p, _, 2, _, rfl, rfl, dsq (e1.i _ _ hp), rfl, q _ R1 H1 e1 rfl⟩
theorem je_pap2_t (h : JB X R0 H0 Γ a (some x)) (hs : PlainIx (.Constant (.int 2) j p2) := by exact fun _ _ => rfl) : JE X R0 H0 Γ (.Subscript a (.Constant (.int 2) j p2) pos) x.i2 := je_pap2 h hs
theorem je_pap3 (h : JB X R0 H0 Γ a m) (hs : PlainIx (.Constant (.int 3) j p2) := by exact fun _ _ => rfl) : JE X R0 H0 Γ (.Subscript a (.Constant (.int 3) j p2) pos) (m.bind Pap.s3) := .mk fun σ R H S z ez Q q => by
  obtain ⟨x, ex, ez⟩ := bind_some' ez
  refine PE_to (pe_ix ix_tup eS pe_int hs) (h σ R H S x ex _ fun v R1 H1 e1 r1 => ?_)
  cases x with
  | never r => cases ez
  | rings r => cases ez
  | case i k h' q' =>
    have ez := Option.some.inj ez
    subst ez
    obtain ⟨p, y, y2, rfl, hp, h1, h2⟩ := (show papV X.K R1 (.case i k h' q') v from r1)
    exact ⟨p, _, 3, _, rfl, rfl, dsq (e1.i _ _ hp), rfl, q _ R1 H1 e1 h1⟩
theorem je_pap3_t (h : JB X R0 H0 Γ a (some x)) (hs : PlainIx (.Constant (.int 3) j p2) := by exact fun _ _ => rfl) : JE X R0 H0 Γ (.Subscript a (.Constant (.int 3) j p2) pos) x.s3 := je_pap3 h hs
theorem je_pap4 (h : JB X R0 H0 Γ a m) (hs : PlainIx (.Constant (.int 4) j p2) := by exact fun _ _ => rfl) : JE X R0 H0 Γ (.Subscript a (.Constant (.int 4) j p2) pos) (m.bind Pap.s4) := .mk fun σ R H S z ez Q q => by
  obtain ⟨x, ex, ez⟩ := bind_some' ez
  refine PE_to (pe_ix ix_tup eS pe_int hs) (h σ R H S x ex _ fun v R1 H1 e1 r1 => ?_)
  cases x with
  | never r => cases ez
  | rings r => cases ez
  | case i k h' q' =>
    have ez := Option.some.inj ez
    subst ez
    obtain ⟨p, y, y2, rfl, hp, h1, h2⟩ := (show papV X.K R1 (.case i k h' q') v from r1)
    exact ⟨p, _, 4, _, rfl, rfl, dsq (e1.i _ _ hp), rfl, q _ R1 H1 e1 h2⟩
theorem je_pap4_t (h : JB X R0 H0 Γ a (some x)) (hs : PlainIx (.Constant (.int 4) j p2) := by exact fun _ _ => rfl) : JE X R0 H0 Γ (.Subscript a (.Constant (.int 4) j p2) pos) x.s4 := je_pap4 h hs
end
section
variable {X : Cx} {R0 H0 : Hp} {Γ : List Slot} {a b c d e : Expr} {pos : Pos} {kk : Nat}
theorem je_mkn {m : Option (List Int)} (h1 : JE X R0 H0 Γ a (some ("never" : Str))) (h2 : JE X R0 H0 Γ b m) (s1 : starEach (a :: [b]) X.env = (false, eval a X.env) :: starEach [b] X.env := by rfl) (s2 : starEach (b :: []) X.env = (false, eval b X.env) :: starEach [] X.env := by rfl) : JE X R0 H0 Γ (.Tuple [a, b] kk pos) (m.bind fun r => some (Pap.never r)) := .mk fun σ R H S z ez Q q => by
  obtain ⟨r, er, ez⟩ := bind_some' ez
  cases ez
  refine PE_to (pe_tup (pa_cons eS (pa_cons eS pa_nil s2) s1)) (h1 σ R H S _ rfl _ fun v1 R1 H1 y1 r1 => h2 σ R1 H1 (S.ext y1) r er _ fun v2 R2 H2 y2 r2 => ⟨(by show 2 ≤ sizeLine; rw [sizeLine_eq]; decide), ?_⟩)
  have r1 : v1 = .str "never" := r1
  subst r1
  exact tup_lay (K := X.K) (α := Pap) (f := fun _ _ _ _ => True) (y1.trans y2) fun v R' H' w ⟨p, ev, hp, ex⟩ => q v R' H' w ⟨p, v2, ev, hp, Py.mono ex r2⟩
theorem je_mkr {m : Option (List (List Int × Int))} (h1 : JE X R0 H0 Γ a (some ("rings" : Str))) (h2 : JE X R0 H0 Γ b m) (s1 : starEach (a :: [b]) X.env = (false, eval a X.env) :: starEach [b] X.env := by rfl) (s2 : starEach (b :: []) X.env = (false, eval b X.env) :: starEach [] X.env := by rfl) : JE X R0 H0 Γ (.Tuple [a, b] kk pos) (m.bind fun r => some (Pap.rings r)) := .mk fun σ R H S z ez Q q => by
  obtain ⟨r, er, ez⟩ := bind_some' ez
  cases ez
  refine PE_to (pe_tup (pa_cons eS (pa_cons eS pa_nil s2) s1)) (h1 σ R H S _ rfl _ fun v1 R1 H1 y1 r1 => h2 σ R1 H1 (S.ext y1) r er _ fun v2 R2 H2 y2 r2 => ⟨(by show 2 ≤ sizeLine; rw [sizeLine_eq]; decide), ?_⟩)
  have r1 : v1 = .str "rings" := r1
  subst r1
  exact tup_lay (K := X.K) (α := Pap) (f := fun _ _ _ _ => True) (y1.trans y2) fun v R' H' w ⟨p, ev, hp, ex⟩ => q v R' H' w ⟨p, v2, ev, hp, Py.mono ex r2⟩
theorem je_mkc {m1 m2 : Option Int} {m3 m4 : Option Pap} (h0 : JE X R0 H0 Γ a (some ("case" : Str))) (h1 : JE X R0 H0 Γ b m1) (h2 : JE X R0 H0 Γ c m2) (h3 : JE X R0 H0 Γ d m3) (h4 : JE X R0 H0 Γ e m4) (s0 : starEach (a :: [b, c, d, e]) X.env = (false, eval a X.env) :: starEach [b, c, d, e] X.env := by rfl)
    (s1 : starEach (b :: [c, d, e]) X.env = (false, eval b X.env) :: starEach [c, d, e] X.env := by rfl) (s2 : starEach (c :: [d, e]) X.env = (false, eval c X.env) :: starEach [d, e] X.env := by rfl) (s3 : starEach (d :: [e]) X.env = (false, eval d X.env) :: starEach [e] X.env := by rfl) (s4 : starEach (e :: []) X.env = (false, eval e X.env) :: starEach [] X.env := by rfl) :
    JE X R0 H0 Γ (.Tuple [a, b, c, d, e] kk pos) (m1.bind fun i => m2.bind fun j => m3.bind fun h => m4.bind fun q => some (Pap.case i j h q)) := .mk fun σ R H S z ez Q q => by
  obtain ⟨x1, e1, ez⟩ := bind_some' ez
  obtain ⟨x2, e2, ez⟩ := bind_some' ez
  obtain ⟨x3, e3, ez⟩ := bind_some' ez
  obtain ⟨x4, e4, ez⟩ := bind_some' ez
  cases ez
  refine PE_to (pe_tup (pa_cons eS (pa_cons eS (pa_cons eS (pa_cons eS (pa_cons eS pa_nil s4) s3) s2) s1) s0)) (h0 σ R H S _ rfl _ fun v0 R0' H0' y0 r0 => h1 σ R0' H0' (S.ext y0) x1 e1 _ fun v1 R1 H1 y1 r1 => h2 σ R1 H1 ((S.ext y0).ext y1) x2 e2 _ fun v2 R2 H2 y2 r2 => h3 σ R2 H2 (((S.ext y0).ext y1).ext y2) x3 e3 _ fun v3 R3 H3 y3 r3 => h4 σ R3 H3 ((((S.ext y0).ext y1).ext y2).ext y3) x4 e4 _ fun v4 R4 H4 y4 r4 => ⟨(by show 5 ≤ sizeLine; rw [sizeLine_eq]; decide), ?_⟩)
  have r0 : v0 = .str "case" := r0
  have r1 : v1 = .int x1 := r1
  have r2 : v2 = .int x2 := r2
  subst r0 r1 r2
  exact tup_lay (K := X.K) (α := Pap) (f := fun _ _ _ _ => True) ((((y0.trans y1).trans y2).trans y3).trans y4) fun v R' H' w ⟨p, ev, hp, ex⟩ => q v R' H' w ⟨p, v3, v4, ev, hp, papV_mono ex (papV_mono y4.r r3), papV_mono ex r4⟩
end
end FK

/-! dict(d): keys that are pairs of whole numbers -/
namespace FK
open PySem PySem.Spec PyProof.Rows L2
section
variable {prog : Program} {w : World} {A : Around} {E : Value → Shared → Prop} {s : Shared} {K : Type} [DecidableEq K] {knd : HeapKind prog w K}
theorem call_dict_heap {o : Addr} {more : List (K × Addr × Value)} {Q : Value → Shared → Prop} (hu : knd.room A.in1.in1) (hoS : (o == sysModules) = false) (ho : s.heap.DictOfH knd o more)
    (ho2 : (s.heap.push { cls := .type "dict", data := .dict #[] }).DictOfH knd o more)
    (hty : ∀ x ∈ more, s.TypeIs (.ref x.2.1) "tuple") (hap : (more.map fun x => knd.hash x.1).Nodup) (hsz : more.length ≤ sizeLine)
    (h : ∀ h', h'.DictOfH knd s.heap.objs.size more → Heap.SameBut s.heap.objs.size (s.heap.push { cls := .type "dict", data := .dict #[] }) h' → Q (.ref s.heap.objs.size) { s with heap := h' }) :
    wpAny (model prog w) A (call (.type "dict") [.ref o]) Q E s := by
  refine callType_codes (Q₁ := fun obj s₁ => obj = .ref s.heap.objs.size ∧ s₁ = { s with heap := s.heap.push { cls := .type "dict", data := .dict #[] } }) F.kt_called_dict (F.kt_typeCall_dict_1 _) F.entry_dict_init (kt_code_dict_new _ ⟨rfl, rfl⟩) ?_
  rintro obj s₁ ⟨rfl, rfl⟩
  have hnew : (s.heap.push { cls := .type "dict", data := .dict #[] }).DictOfH knd s.heap.objs.size [] := Heap.DictOfH.new s.heap
  have hn : (more.map (·.1)).Nodup := let ⟨_, _, _, _, _, _, _, _, hn⟩ := ho; hn
  have hdo : s.heap.objs.size ≠ o := by
    obtain ⟨_, _, _, hg, _⟩ := ho
    exact fun e => absurd (Heap.lt_size hg) (by rw [e]; exact Nat.lt_irrefl _)
  refine ⟨hnew.typeIs, F.args_dict_init_2 _ _, ?_⟩
  unfold Builtin.«dict.__init__»
  refine wpAny_bind ?_
  unfold Builtin.Dict.selfAndRest
  refine wpAny_bind (wpAny_notOrdered_dict hnew.typeIs ?_)
  refine wpAny_pure ?_
  refine updateFrom_dictH (A := A.in1) (kvs := []) .none hu hdo hoS hnew ho2 (.inr ⟨fun x hx => ?_, hap⟩) (by simpa using hsz) fun h' hd' ho' hs' => ?_
  · obtain ⟨ob, e1, e2⟩ := hty x hx
    exact ⟨ob, Heap.get?_push_of_some _ e1, e2⟩
  · rw [storedAllH_nil_of_nodup more hn] at hd'
    exact ⟨rfl, h h' hd' hs'⟩
end
/-- a pair's hash -/
def hPi (p : Int × Int) : Int := reduceHash (Builtin.Tuple.tupleHashOf [hashInt p.1, hashInt p.2])
def dCopy {α : Type} (d : Dct (Int × Int) α) : Option (Dct (Int × Int) α) := if (d.l.map fun x => hPi x.1).Nodup then some d else none
theorem call_dictT {X : Cx} (hu : X.A.units + 64 < cLine) : CallR X (.type "dict") (fun xs H Q => ∃ (a : Addr) (kvs : List (List L2.Key × V)), xs = [.ref a] ∧ Rd H a (.dT kvs) ∧ (kvs.map fun x => (tupleKind (mixKind X.prog X.w)).hash x.1).Nodup ∧ ∀ p, H p = none → Q (.ref p) (upd H p (.dT kvs))) := by
  intro pins s σ H xs us Q I r q
  obtain ⟨a, kvs, ex, hd, hh, q⟩ := q
  subst ex
  obtain ⟨u, eu, rx⟩ := vals1 r
  subst eu
  cases rx
  obtain ⟨z, lo, vs, rel, dd⟩ := dt_rd I.hok hd
  have I2 : Inv X pins σ H { s with heap := s.heap.push { cls := .type "dict", data := .dict #[] } } := I.kept (t' := s.toks) fun b ob q => Heap.get?_push_of_some _ q
  have each : ∀ x ∈ vs, H x.2.1 = some (.tup (x.1.map kV)) := by
    have all : ∀ {l : List (List L2.Key × V)} {m : List (List L2.Key × Addr × Value)}, KT H l m → ∀ x ∈ m, H x.2.1 = some (.tup (x.1.map kV)) := by
      intro l m q
      induction q with
      | nil => intro x hx; exact nomatch hx
      | @cons p q ps qs hq t ih =>
        intro x hx
        rcases List.mem_cons.mp hx with e | hx
        · subst e
          rw [← hq.1]
          exact hq.2.1
        · exact ih x hx
    exact all rel
  have ep : vs.map (fun x => x.1) = kvs.map fun x => x.1 := by
    have all : ∀ {l : List (List L2.Key × V)} {m : List (List L2.Key × Addr × Value)}, KT H l m → m.map (fun x => x.1) = l.map fun x => x.1 := by
      intro l m q
      induction q with
      | nil => rfl
      | @cons p q ps qs hq t ih => rw [List.map_cons, List.map_cons, hq.1, ih]
    exact all rel
  have lv : vs.length = kvs.length := by
    have := congrArg List.length ep
    rwa [List.length_map, List.length_map] at this
  obtain ⟨od, es, epp, g1, g2, g3, g4, g5, g6⟩ := dd
  have dd : s.heap.DictOfH (tupleKind (mixKind X.prog X.w)) a vs := ⟨od, es, epp, g1, g2, g3, g4, g5, g6⟩
  have dd2 : (s.heap.push { cls := .type "dict", data := .dict #[] }).DictOfH (tupleKind (mixKind X.prog X.w)) a vs :=
    ⟨od, es, epp, Heap.get?_push_of_some _ g1, g2, g3, g4, fun x hx => key_of I2.hok (each x hx), g6⟩
  refine call_dict_heap (by show X.A.in1.in1.units < cLine; simp only [Around.in1_units]; omega) lo dd dd2 (fun x hx => ?_) ?_ (by rw [lv]; exact z) fun h' d' hs => ?_
  · obtain ⟨_, its, _, ob, ht, hc, _⟩ := (show ObjOk X.prog X.w H s.heap x.2.1 (.tup (x.1.map kV)) from I.hok _ _ (each x hx))
    exact ⟨ob, ht, hc⟩
  · have := hh
    rw [show (kvs.map fun x => (tupleKind (mixKind X.prog X.w)).hash x.1) = (kvs.map fun x => x.1).map (tupleKind (mixKind X.prog X.w)).hash from by rw [List.map_map]; rfl, ← ep, List.map_map] at this
    exact this
  · have hm : (s.heap.objs.size == sysModules) = false := beq_eq_false_iff_ne.mpr (Nat.ne_of_gt I.big)
    have fr : H s.heap.objs.size = none := I.hok.fresh (Nat.le_refl _)
    obtain ⟨od2, es2, ep2, k1, k2, k3, k4, k5, k6⟩ := d'
    have rel2 : KT (upd H s.heap.objs.size (.dT kvs)) kvs vs := by
      have all : ∀ {l : List (List L2.Key × V)} {m : List (List L2.Key × Addr × Value)}, KT H l m → KT (upd H s.heap.objs.size (.dT kvs)) l m := by
        intro l m q
        induction q with
        | nil => exact .nil
        | @cons p q ps qs hq t ih => exact .cons ⟨hq.1, by rw [upd_ne (ne_of_none hq.2.1 fr)]; exact hq.2.1, hq.2.2⟩ ih
      exact all rel
    exact ⟨.ref s.heap.objs.size, upd H s.heap.objs.size (.dT kvs), I.laid (t' := s.toks) (fun b u e => (hs.2 b (Nat.ne_of_lt (Heap.lt_size e))).trans (Heap.get?_push_of_some _ e)) (Nat.le_refl _)
      (show ObjOk X.prog X.w _ _ _ (.dT kvs) from ⟨z, hm, vs, rel2, od2, es2, ep2, k1, k2, k3, k4, k6⟩), rfl, q _ fr⟩
section
variable {α : Type} [Py α] {X : Cx} {R0 H0 : Hp} {Γ : List Slot} {e : Expr} {pos p : Pos} {m : Option (Dct (Int × Int) α)}
theorem DT.hashes {K : PySem.W.Frag} {R : Hp} {P : Program} {w : World} : ∀ {vs : List ((List L2.Key) × V)} {l : List ((Int × Int) × α)}, DT K R vs l → (vs.map fun x => (tupleKind (mixKind P w)).hash x.1) = l.map fun x => hPi x.1
  | _, _, .nil => rfl
  | _, _, .cons (k := k) h t => by
    rw [List.map_cons, List.map_cons, DT.hashes t]
    rfl
/-- dict(e) -/
theorem jo_dcpT (hun : X.A.units + 64 < cLine) (h : JB X R0 H0 Γ e m) (hm : X.mg "dict" = none) (hg : Gl X "dict" := by rfl) (hs : starEach (e :: []) X.env = (false, eval e X.env) :: starEach [] X.env := by rfl) (hpl : (backTo pos (starEach [] X.env)).any (·.1) = false := by rfl) :
    JO X R0 H0 Γ (.Call (.Name "dict" p) [e] [] pos) (m.bind dCopy) := .mk fun σ R H S z ez Q q => by
  obtain ⟨d, ed, ez⟩ := bind_some' ez
  unfold dCopy at ez
  by_cases hz : (d.l.map fun x => hPi x.1).Nodup
  case neg =>
    rw [if_neg hz] at ez
    cases ez
  rw [if_pos hz] at ez
  have ez := Option.some.inj ez
  subst ez
  refine PE_to (pe_callTy (call_dictT hun) hg hm (by decide +kernel) (pa_cons eS pa_nil hs) (he := hs) (hpl := hpl)) (h σ R H S d ed _ fun v R1 H1 x1 r1 => ?_)
  obtain ⟨a, o, rfl, hp, kvs, rfl, hd⟩ := (show bor X.K R1 H1 v d from r1)
  refine ⟨a, kvs, rfl, hp, ?_, fun q' hq' => ?_⟩
  · rw [DT.hashes hd]
    exact hz
  · exact q q' _ R1 _ (x1.trans (.own x1.i hq')) (by cases e : H q' with | none => rfl | some o => rw [x1.h _ _ e] at hq'; cases hq') upd_same (x1.i.none hq') ⟨kvs, rfl, hd⟩
end
/-- y.pop(e), what it answers let go -/
def popAt {α : Type} (ys : List α) (k : Int) : Option (List α) := if ys.length < 16000000 then (ixN ys.length k).bind fun j => some (ys.eraseIdx j) else none
section
variable {X : Cx} {R0 H0 : Hp} {Γ : List Slot} {e : Expr} {pos : Pos}
theorem j1_popl (j : Nat) {y : Str} {py apos2 p2 : Pos} {α : Type} [Py α] {ys : List α} {m : Option Int} (Γ' : List α → List Slot) (h : JB X R0 H0 Γ e m) (hΓ2 : Γ[j]? = some (.own ys) := by rfl) (hu : ∀ q, Γ' q = Γ.set j (.own q) := by intro _; rfl)
    (hN2 : X.N[j]? = some y := by rfl)
    (hv2 : Vis X.env.scope y := by first | exact Or.inl rfl | exact Or.inr (Or.inl rfl) | exact Or.inr (Or.inr rfl)) (hd2 : (y == ("__debug__" : Str)) = false := by decide) (hcd2 : (y == ("__classdict__" : Str)) = false := by decide)
    (he2 : starEach (e :: []) X.env = (false, eval e X.env) :: starEach [] X.env := by rfl) (hpl2 : (backTo p2 (starEach ([] : List Expr) X.env)).any (·.1) = false := by rfl) (hfew2 : ((backTo p2 (starEach (e :: []) X.env)).all (fun x => !x.1) && (backToKw p2 (keywordEach [] X.env)).all (fun x => x.1.isSome) && decide ((e :: []).length + ([] : List Keyword).length + (if ([] : List Keyword).isEmpty then 0 else 1) < 30)) = true := by rfl) (hb2 : attributeBase (.Name y py) "pop" X.env (eval (.Name y py) X.env) = eval (.Name y py) X.env := by rfl) (hln2 : (apos2.endLine == p2.line) = true := by rfl)
    (hsw : swapsWith (.Call (.Attribute (.Name y py) "pop" apos2) [e] [] p2) none pos.line X.env = pure false := by rfl) :
    J1 X R0 H0 Γ (.Expr (.Call (.Attribute (.Name y py) "pop" apos2) [e] [] p2) pos) (m.bind fun k => popAt ys k) fun q => .nx (Γ' q) := .mk fun σ R H S b eb D q => by
  obtain ⟨k, ek, eb⟩ := bind_some' eb
  unfold popAt at eb
  by_cases hz : ys.length < 16000000
  case neg =>
    rw [if_neg hz] at eb
    cases eb
  rw [if_pos hz] at eb
  obtain ⟨jj, ej, eb⟩ := bind_some' eb
  cases eb
  obtain ⟨s1, s2, s3, s4⟩ := ixN_seq ej
  obtain ⟨l2, o2, hs2, hp2, ⟨ws, rfl, hw0⟩, hR2, hH2, up2⟩ := S.get_own hΓ2
  have q : ∀ σ R' H, Ex R R' → Sat X.K R0 H0 (Γ' (ys.eraseIdx jj)) σ R' H → D.nx σ H := q
  rw [hu] at q
  have lw := hw0.len
  refine PS_to (ps_expr (pe_bm PySem.F.plainAttrs_list PySem.F.slot_list_pop PySem.F.type_list_pop mt_popAt (pv j hN2 hv2 hd2 hcd2) (pa_cons eS pa_nil he2) (hbase := hb2) (hfew := hfew2) (hline := hln2) (hs := he2) (hplain := hpl2)) hsw)
    ⟨.ref l2, hs2, .inl ⟨rfl, _, .inl (.inl hp2)⟩, h σ R H S k ek _ fun u R1 H1 x1 r1 => ?_⟩
  have r1 : u = .int k := r1
  subst r1
  have hp21 : H1 l2 = some (.lst ws) := x1.h _ _ hp2
  have hlt : jj < ws.length := by omega
  have hv1 : ws[jj]? = some ws[jj] := List.getElem?_eq_getElem hlt
  have S1 := up2 R1 H1 (.lst (ws.eraseIdx jj)) (ys.eraseIdx jj) x1 ⟨_, rfl, (hw0.mono x1.r).erase jj⟩
  refine ⟨l2, ws, k, jj, ws[jj], rfl, rfl, hp21, by omega, by omega, by rw [lw]; exact s1, hv1, ?_⟩
  exact q _ _ _ x1.r S1
end
instance : Flat Pap := ⟨fun h => h⟩
end FK

namespace K42
open PySem PySem.Spec PyProof.Rows L2 FK
def topS (i : Nat) : Stmt := PySem.Challenge.pw_folk_k42_nevers_shown.main.body.getD i (.Pass ⟨0, 0, 0, 0⟩)
structure Txt (P : Program) (w : World) (K : PySem.W.Frag) (mg : Str → Option Value) (base : Heap) : Prop where
  ok : True
  n_abs : mg "abs" = none
  n_all : mg "all" = none
  n_bool : mg "bool" = none
  n_dict : mg "dict" = none
  n_int : mg "int" = none
  n_isinstance : mg "isinstance" = none
  n_len : mg "len" = none
  n_list : mg "list" = none
  n_max : mg "max" = none
  n_min : mg "min" = none
  n_range : mg "range" = none
  n_reversed : mg "reversed" = none
  n_set : mg "set" = none
  n_sorted : mg "sorted" = none
section
variable {P : Program} {w : World} {K : PySem.W.Frag} {mg : Str → Option Value} {base : Heap}
abbrev s__law_cell_at : Stmt := topS 12
abbrev n__law_cell_at : List Str := ["_law_script", "_law_k"]
theorem sc__law_cell_at : FnScope n__law_cell_at ["_law_script", "_law_k"] (defScope s__law_cell_at) := ⟨rfl, rfl, rfl, by decide +kernel, rfl, by decide +kernel, by decide +kernel⟩
def m__law_cell_at : Scr × Int × Unit → Option Int := fun (g : Scr × Int × Unit) => (ifM (some (decide (g.2.1 < (g.1.l.length : Int)))) (atI g.1.l g.2.1) (some (0 : Int)))
theorem ok__law_cell_at {f : Addr} {fd : FuncData} (F : Fun K "_law_cell_at" "_law_cell_at" s__law_cell_at f fd) (T : Txt P w K mg base)  : FnOk P w K mg base CX0 1 f fd ["_law_script", "_law_k"] (spV K m__law_cell_at) := by
  refine fn_v F sc__law_cell_at (ar2 K) fun cdv A outer s H R E g hr => jn_sub (Γ' := [.b g.1, .b g.2.1]) sub_rfl ?_
  exact (jn_ifr (jt_lt_t (jb_var 1) (jb_e (je_lenscr_t T.n_len (jb_var 0)))) (jn_ret (je_ixscr_t (jb_var 0) (jb_var 1) (fun _ _ => rfl))) (jn_ret je_int))
abbrev s__law_ring_drawn : Stmt := topS 20
abbrev n__law_ring_drawn : List Str := ["_law_many", "_law_cell", "_law_number", "_law_some", "_law_ring_here", "_law_k"]
theorem sc__law_ring_drawn : FnScope n__law_ring_drawn ["_law_many", "_law_cell"] (defScope s__law_ring_drawn) := ⟨rfl, rfl, rfl, by decide +kernel, rfl, by decide +kernel, by decide +kernel⟩
def b__law_ring_drawn_1  (s4 : (Int × (List Int) × (List Int))) (x8 : Int) : (Option (Int × (List Int) × (List Int))) := (Option.bind (some ((s4.1 * 48271) % 4294967311)) fun (number_9 : Int) => (Option.bind (Option.bind (imod (number_9 / 7) (s4.2.2.length : Int)) fun (t11 : Int) => popApp s4.2.2 s4.2.1 t11) fun (p10 : ((List Int) × (List Int))) => (some (number_9, p10.2, p10.1))))
def m__law_ring_drawn : Int × Int × Unit → Option (List Int) := fun (g : Int × Int × Unit) => (Option.bind (some ((g.2.1 % 4294967311) + (1 : Int))) fun (number_1 : Int) => (Option.bind (lrange1 g.1) fun (some_2 : (List Int)) => (Option.bind (some ([] : (List Int))) fun (ring_here_3 : (List Int)) => (Option.bind (Option.bind (Option.bind (Option.bind (some (3 : Int)) fun (t5 : Int) => Option.bind (imod g.2.1 (g.1 - (2 : Int))) fun (t6 : Int) => some (t5 + t6)) fun (t7 : Int) => (range1 t7)) fun (xs12 : List Int) => forS (S := (Int × (List Int) × (List Int))) (b__law_ring_drawn_1) xs12 (number_1, ring_here_3, some_2)) fun (s13 : (Int × (List Int) × (List Int))) => (some s13.2.1)))))
theorem ok__law_ring_drawn {f : Addr} {fd : FuncData} (F : Fun K "_law_ring_drawn" "_law_ring_drawn" s__law_ring_drawn f fd) (T : Txt P w K mg base)  : FnOk P w K mg base CX0 1 f fd ["_law_many", "_law_cell"] (spO K m__law_ring_drawn) := by
  refine fn_o F sc__law_ring_drawn (ar2 K) fun cdv A outer s H R E g hr => jn_sub (Γ' := [.b g.1, .b g.2.1, .any, .any, .any, .any]) sub_rfl ?_
  exact (jn_c (Γ1 := fun (number_1 : Int) => [.b g.1, .b g.2.1, .v number_1, .any, .any, .any]) (j1_set 2 (fun (number_1 : Int) => [.b g.1, .b g.2.1, .v number_1, .any, .any, .any]) (je_add_t (jb_e (je_modc_t (jb_var 1))) (jb_e je_int)) sc__law_ring_drawn.nd) (fun number_1 => (jn_c (Γ1 := fun (some_2 : (List Int)) => [.b g.1, .b g.2.1, .v number_1, .own some_2, .any, .any]) (j1_seto 3 (fun (some_2 : (List Int)) => [.b g.1, .b g.2.1, .v number_1, .own some_2, .any, .any]) (jo_lrange1_t T.n_list T.n_range (jb_var 0)) sc__law_ring_drawn.nd) (fun some_2 => (jn_c (Γ1 := fun (ring_here_3 : (List Int)) => [.b g.1, .b g.2.1, .v number_1, .own some_2, .own ring_here_3, .any]) (j1_seto 4 (fun (ring_here_3 : (List Int)) => [.b g.1, .b g.2.1, .v number_1, .own some_2, .own ring_here_3, .any]) jo_nil sc__law_ring_drawn.nd) (fun ring_here_3 => (jn_c (Γ1 := fun (s13 : (Int × (List Int) × (List Int))) => [.b g.1, .b g.2.1, .v s13.1, .own s13.2.2, .own s13.2.1, .any]) (j1_for (S := (Int × (List Int) × (List Int))) (number_1, ring_here_3, some_2) (fun (s4 : (Int × (List Int) × (List Int))) => [.b g.1, .b g.2.1, .v s4.1, .own s4.2.2, .own s4.2.1, .any]) (fun (s4 : (Int × (List Int) × (List Int))) (x8 : Int) => [.b g.1, .b g.2.1, .v s4.1, .own s4.2.2, .own s4.2.1, .v x8]) PassesOwn.never rfl sub_rfl (ji_range1 T.n_range (jb_e (je_add (jb_e je_int) (jb_e (je_mod_t (jb_var 1) (jb_e (je_sub_t (jb_var 0) (jb_e je_int)))))))) (fun s4 => jg_name 5 sc__law_ring_drawn.nd) (fun s4 x8 => (js_c (Γ1 := fun (number_9 : Int) => [.b g.1, .b g.2.1, .v number_9, .own s4.2.2, .own s4.2.1, .v x8]) (j1_set 2 (fun (number_9 : Int) => [.b g.1, .b g.2.1, .v number_9, .own s4.2.2, .own s4.2.1, .v x8]) (je_modc_t (jb_e (je_mulc_t (jb_e (je_var 2))))) sc__law_ring_drawn.nd) (fun number_9 => (js_c (Γ1 := fun (p10 : ((List Int) × (List Int))) => [.b g.1, .b g.2.1, .v number_9, .own p10.1, .own p10.2, .v x8]) (j1_popapp 4 3 (fun (p10 : ((List Int) × (List Int))) => [.b g.1, .b g.2.1, .v number_9, .own p10.1, .own p10.2, .v x8]) (m := (imod (number_9 / 7) (s4.2.2.length : Int))) (jb_e (je_mod_t (jb_e (je_fdivc_t (jb_e (je_var 2)))) (jb_e (je_lenl_t T.n_len (jb_own 3)))))) (fun p10 => (js_nil (sub_drop 5 (h := sub_rfl))))))))) (fun s13 => (jn_retv 4)))))))))
abbrev s__law_pair : Stmt := topS 13
abbrev n__law_pair : List Str := ["_law_one", "_law_other"]
theorem sc__law_pair : FnScope n__law_pair ["_law_one", "_law_other"] (defScope s__law_pair) := ⟨rfl, rfl, rfl, by decide +kernel, rfl, by decide +kernel, by decide +kernel⟩
def m__law_pair : Int × Int × Unit → Option (Int × Int) := fun (g : Int × Int × Unit) => (some ((imin2 g.1 g.2.1), (imax2 g.1 g.2.1)))
theorem ok__law_pair {f : Addr} {fd : FuncData} (F : Fun K "_law_pair" "_law_pair" s__law_pair f fd) (T : Txt P w K mg base)  : FnOk P w K mg base CX0 1 f fd ["_law_one", "_law_other"] (spV K m__law_pair) := by
  refine fn_v F sc__law_pair (ar2 K) fun cdv A outer s H R E g hr => jn_sub (Γ' := [.b g.1, .b g.2.1]) sub_rfl ?_
  exact (jn_ret (je_tup2_t (je_min2_t T.n_min (jb_var 0) (jb_var 1)) (je_max2_t T.n_max (jb_var 0) (jb_var 1))))
abbrev s__law_links : Stmt := topS 14
abbrev n__law_links : List Str := ["_law_ring_here", "_law_k"]
theorem sc__law_links : FnScope n__law_links ["_law_ring_here"] (defScope s__law_links) := ⟨rfl, rfl, rfl, by decide +kernel, rfl, by decide +kernel, by decide +kernel⟩
def b__law_links_1 (g : ((List Int) × Unit)) (x1 : Int) : (Option (Int × Int)) := (Option.bind (Option.bind (atI g.1 x1) fun (t4 : Int) => Option.bind (Option.bind (atI g.1 (x1 + (1 : Int))) fun (t2 : Int) => Option.bind (some ()) fun (t3 : Unit) => some (t2, t3)) fun (t5 : (Int × Unit)) => some (t4, t5)) m__law_pair)
def m__law_links : (List Int) × Unit → Option (List (Int × Int)) := fun (g : (List Int) × Unit) => (Option.bind (range1 ((g.1.length : Int) - (1 : Int))) fun (xs6 : List Int) => lcG (fun (x1 : Int) => (some true)) (b__law_links_1 g) xs6)
theorem ok__law_links {f : Addr} {fd : FuncData} (F : Fun K "_law_links" "_law_links" s__law_links f fd) (T : Txt P w K mg base) (c__law_pair : Cal P w K mg base CX0 1 "_law_pair" ["_law_one", "_law_other"] (spV K m__law_pair)) : FnOk P w K mg base CX0 2 f fd ["_law_ring_here"] (spO K m__law_links) := by
  refine fn_o F sc__law_links (ar1 K) fun cdv A outer s H R E g hr => jn_sub (Γ' := [.b g.1, .any]) sub_rfl ?_
  exact (jn_reto (jo_lc (own := [("_law_k", 1)]) (ts := [1]) [.b g.1, .any] (fun (x1 : Int) => [.b g.1, .v x1]) rfl sc__law_links.nd (ji_range1_t T.n_range (jb_e (je_sub_t (jb_e (je_lenl_t T.n_len (jb_var 0))) (jb_e je_int)))) (blkOk_by (N := n__law_links) (sc := defScope s__law_links) (by decide +kernel)) rfl (fun q => jg_name 1 sc__law_links.nd) (fun q x1 => jts_nil) (fun q x1 => (je_call c__law_pair (hr.mono (by decide)) (ja_cons (jb_e (je_ixl_t (jb_var 0) (jb_e (je_var 1)) (fun _ _ => rfl))) (ja_cons (jb_e (je_ixl_t (jb_var 0) (jb_e (je_add_t (jb_e (je_var 1)) (jb_e je_int))) (fun _ _ => rfl))) ja_nil))))))
abbrev s__law_told : Stmt := topS 21
abbrev n__law_told : List Str := ["_law_ring_here", "_law_cell", "_law_way", "_law_at"]
theorem sc__law_told : FnScope n__law_told ["_law_ring_here", "_law_cell"] (defScope s__law_told) := ⟨rfl, rfl, rfl, by decide +kernel, rfl, by decide +kernel, by decide +kernel⟩
def m__law_told : (List Int) × Int × Unit → Option (List Int) := fun (g : (List Int) × Int × Unit) => (Option.bind (some (g.2.1 % 8)) fun (way_1 : Int) => (Option.bind (Option.bind (some (1 : Int)) fun (t3 : Int) => Option.bind (imod (g.2.1 / 8) ((g.1.length : Int) - (1 : Int))) fun (t4 : Int) => some (t3 + t4)) fun (at_2 : Int) => (ifM (some (decide (way_1 = (1 : Int)))) (some (List.reverse g.1)) (ifM (some (decide (way_1 = (2 : Int)))) (lCat (cutA g.1 (some at_2) none) (cutA g.1 none (some at_2))) (ifM (some (decide (way_1 = (3 : Int)))) (lCat (cutA g.1 none (some at_2)) (cutA g.1 (some (at_2 + (1 : Int))) none)) (ifM (some (decide (way_1 = (4 : Int)))) (lCat g.1 (cutA g.1 none (some (1 : Int)))) (ifM (some (decide (way_1 = (5 : Int)))) (some (cutA g.1 none (some (2 : Int)))) (ifM (some (decide (way_1 = (6 : Int)))) (some ([] : (List Int))) (some g.1)))))))))
theorem ok__law_told {f : Addr} {fd : FuncData} (F : Fun K "_law_told" "_law_told" s__law_told f fd) (T : Txt P w K mg base)  : FnOk P w K mg base CX0 1 f fd ["_law_ring_here", "_law_cell"] (spV K m__law_told) := by
  refine fn_v F sc__law_told (ar2 K) fun cdv A outer s H R E g hr => jn_sub (Γ' := [.b g.1, .b g.2.1, .any, .any]) sub_rfl ?_
  exact (jn_c (Γ1 := fun (way_1 : Int) => [.b g.1, .b g.2.1, .v way_1, .any]) (j1_set 2 (fun (way_1 : Int) => [.b g.1, .b g.2.1, .v way_1, .any]) (je_modc_t (jb_var 1)) sc__law_told.nd) (fun way_1 => (jn_c (Γ1 := fun (at_2 : Int) => [.b g.1, .b g.2.1, .v way_1, .v at_2]) (j1_set 3 (fun (at_2 : Int) => [.b g.1, .b g.2.1, .v way_1, .v at_2]) (je_add (jb_e je_int) (jb_e (je_mod_t (jb_e (je_fdivc_t (jb_var 1))) (jb_e (je_sub_t (jb_e (je_lenl_t T.n_len (jb_var 0))) (jb_e je_int)))))) sc__law_told.nd) (fun at_2 => (jn_ifr (jt_eq_t (jb_e (je_var 2)) (jb_e je_int)) (jn_ret (je_o (jo_lrev_t T.n_list T.n_reversed (jb_var 0)))) (jn_ifr (jt_eq_t (jb_e (je_var 2)) (jb_e je_int)) (jn_ret (je_o (jo_catl_t (jb_o (jo_cutl_t (jb_var 0) (jp_some_t (jb_e (je_var 3))) jp_none)) (jb_o (jo_cutl_t (jb_var 0) jp_none (jp_some_t (jb_e (je_var 3)))))))) (jn_ifr (jt_eq_t (jb_e (je_var 2)) (jb_e je_int)) (jn_ret (je_o (jo_catl_t (jb_o (jo_cutl_t (jb_var 0) jp_none (jp_some_t (jb_e (je_var 3))))) (jb_o (jo_cutl_t (jb_var 0) (jp_some_t (jb_e (je_add_t (jb_e (je_var 3)) (jb_e je_int)))) jp_none))))) (jn_ifr (jt_eq_t (jb_e (je_var 2)) (jb_e je_int)) (jn_ret (je_o (jo_catl_t (jb_var 0) (jb_o (jo_cutl_t (jb_var 0) jp_none (jp_some_t (jb_e je_int))))))) (jn_ifr (jt_eq_t (jb_e (je_var 2)) (jb_e je_int)) (jn_ret (je_o (jo_cutl_t (jb_var 0) jp_none (jp_some_t (jb_e je_int))))) (jn_ifr (jt_eq_t (jb_e (je_var 2)) (jb_e je_int)) (jn_ret (je_o jo_nil)) (jn_ret (je_o (jo_list_t T.n_list (jb_var 0))))))))))))))
abbrev s__law_paper : Stmt := topS 22
abbrev n__law_paper : List Str := ["_law_ring_here", "_law_told_here", "_law_pairs", "_law_paper_here", "_law_i", "_law_j", "_law_held"]
theorem sc__law_paper : FnScope n__law_paper ["_law_ring_here", "_law_told_here", "_law_pairs"] (defScope s__law_paper) := ⟨rfl, rfl, rfl, by decide +kernel, rfl, by decide +kernel, by decide +kernel⟩
def b__law_paper_1  (s3 : Pap) (x4 : (T3 Int Int Bool)) : (Option Pap) := (ifM (some x4.c) (Option.bind (Option.bind (some x4.a) fun (t10 : Int) => Option.bind (some x4.b) fun (t11 : Int) => Option.bind (some s3) fun (t12 : Pap) => Option.bind (Option.bind (some ([] : (List ((List Int) × Int)))) fun (t9 : (List ((List Int) × Int))) => some (Pap.rings t9)) fun (t13 : Pap) => some (Pap.case t10 t11 t12 t13)) fun (paper_here_8 : Pap) => (some paper_here_8)) (Option.bind (Option.bind (some x4.a) fun (t16 : Int) => Option.bind (some x4.b) fun (t17 : Int) => Option.bind (Option.bind (some ([] : (List ((List Int) × Int)))) fun (t15 : (List ((List Int) × Int))) => some (Pap.rings t15)) fun (t18 : Pap) => Option.bind (some s3) fun (t19 : Pap) => some (Pap.case t16 t17 t18 t19)) fun (paper_here_14 : Pap) => (some paper_here_14)))
def m__law_paper : (List Int) × (Fz (List Int)) × (List (T3 Int Int Bool)) × Unit → Option Pap := fun (g : (List Int) × (Fz (List Int)) × (List (T3 Int Int Bool)) × Unit) => (Option.bind (Option.bind (some g.2.1.val) fun (t2 : (List Int)) => some (Pap.never t2)) fun (paper_here_1 : Pap) => (Option.bind (Option.bind (some (List.reverse g.2.2.1)) fun (xs20 : List (T3 Int Int Bool)) => forS (S := Pap) (b__law_paper_1) xs20 paper_here_1) fun (s21 : Pap) => (some s21)))
theorem ok__law_paper {f : Addr} {fd : FuncData} (F : Fun K "_law_paper" "_law_paper" s__law_paper f fd) (T : Txt P w K mg base)  : FnOk P w K mg base CX0 1 f fd ["_law_ring_here", "_law_told_here", "_law_pairs"] (spV K m__law_paper) := by
  refine fn_v F sc__law_paper (ar3 K) fun cdv A outer s H R E g hr => jn_sub (Γ' := [.b g.1, .v g.2.1.val, .b g.2.2.1, .any, .any, .any, .any]) (sub_fzv 1 (h := sub_rfl)) ?_
  exact (jn_c (Γ1 := fun (paper_here_1 : Pap) => [.b g.1, .v g.2.1.val, .b g.2.2.1, .v paper_here_1, .any, .any, .any]) (j1_set 3 (fun (paper_here_1 : Pap) => [.b g.1, .v g.2.1.val, .b g.2.2.1, .v paper_here_1, .any, .any, .any]) (je_mkn je_str (je_var 1)) sc__law_paper.nd) (fun paper_here_1 => (jn_c (Γ1 := fun (s21 : Pap) => [.b g.1, .v g.2.1.val, .b g.2.2.1, .v s21, .any, .any, .any]) (j1_for (S := Pap) paper_here_1 (fun (s3 : Pap) => [.b g.1, .v g.2.1.val, .b g.2.2.1, .v s3, .any, .any, .any]) (fun (s3 : Pap) (x4 : (T3 Int Int Bool)) => [.b g.1, .v g.2.1.val, .b g.2.2.1, .v s3, .v x4.a, .v x4.b, .v x4.c]) PassesOwn.never rfl sub_rfl (ji_rev_t T.n_reversed (jl_b 2)) (fun s3 => jg_3 (u1 := fun (u5 : Int) => [.b g.1, .v g.2.1.val, .b g.2.2.1, .v s3, .v u5, .any, .any]) (u2 := fun (u5 : Int) (u6 : Int) => [.b g.1, .v g.2.1.val, .b g.2.2.1, .v s3, .v u5, .v u6, .any]) rfl (jg_name 4 sc__law_paper.nd) (fun u5 => jg_name 5 sc__law_paper.nd) (fun u5 u6 => jg_name 6 sc__law_paper.nd)) (fun s3 x4 => (js_last (j1_if (jt_e (jb_e (je_var 6))) (js_c (Γ1 := fun (paper_here_8 : Pap) => [.b g.1, .v g.2.1.val, .b g.2.2.1, .v paper_here_8, .v x4.a, .v x4.b, .v x4.c]) (j1_set 3 (fun (paper_here_8 : Pap) => [.b g.1, .v g.2.1.val, .b g.2.2.1, .v paper_here_8, .v x4.a, .v x4.b, .v x4.c]) (je_mkc je_str (je_var 4) (je_var 5) (je_var 3) (je_mkr je_str (je_o jo_nil))) sc__law_paper.nd) (fun paper_here_8 => (js_nil (sub_drop 4 (h := (sub_drop 5 (h := (sub_drop 6 (h := sub_rfl))))))))) (js_c (Γ1 := fun (paper_here_14 : Pap) => [.b g.1, .v g.2.1.val, .b g.2.2.1, .v paper_here_14, .v x4.a, .v x4.b, .v x4.c]) (j1_set 3 (fun (paper_here_14 : Pap) => [.b g.1, .v g.2.1.val, .b g.2.2.1, .v paper_here_14, .v x4.a, .v x4.b, .v x4.c]) (je_mkc je_str (je_var 4) (je_var 5) (je_mkr je_str (je_o jo_nil)) (je_var 3)) sc__law_paper.nd) (fun paper_here_14 => (js_nil (sub_drop 4 (h := (sub_drop 5 (h := (sub_drop 6 (h := sub_rfl))))))))))))) (fun s21 => (jn_ret (je_var 3))))))
abbrev s__law_ring : Stmt := topS 15
abbrev n__law_ring : List Str := ["_law_ring_here", "_law_weights_here", "_law_decided_here", "_law_never", "_law_gap", "_law_many", "_law_pair_here", "_law_weight"]
theorem sc__law_ring : FnScope n__law_ring ["_law_ring_here", "_law_weights_here", "_law_decided_here", "_law_never"] (defScope s__law_ring) := ⟨rfl, rfl, rfl, by decide +kernel, rfl, by decide +kernel, by decide +kernel⟩
def b__law_ring_1 (g : ((List Int) × (Dct (Int × Int) Int) × (Kz (Int × Int) Bool) × Bool × Unit)) (gap_3 : (Int × Int)) (s9 : Int) (x12 : (Int × Int)) : (Option (Fl Int Bool)) := (Option.bind (some ((dGet g.2.1.l x12).getD (0 : Int))) fun (weight_13 : Int) => (ifM (some (dHas (g.2.2.1).d.l x12)) (ifM (Option.bind (dGet (g.2.2.1).d.l x12) fun (t14 : Bool) => Option.bind (some (!decide (x12 = gap_3))) fun (t15 : Bool) => some (!decide (t14 = t15))) (some (Fl.rt false)) (some (Fl.nx s9))) (ifM (bOr (some g.2.2.2.1) (bOr (bAnd (some (decide (x12 = gap_3))) (some (decide ((0 : Int) ≤ weight_13)))) (bAnd (some (!decide (x12 = gap_3))) (some (decide (weight_13 ≤ (0 : Int))))))) (some (Fl.rt false)) (Option.bind (some (s9 + (1 : Int))) fun (many_16 : Int) => (some (Fl.nx many_16))))))
def m__law_ring : (List Int) × (Dct (Int × Int) Int) × (Kz (Int × Int) Bool) × Bool × Unit → Option Bool := fun (g : (List Int) × (Dct (Int × Int) Int) × (Kz (Int × Int) Bool) × Bool × Unit) => (ifM (bOr (some (decide ((g.1.length : Int) < (3 : Int)))) (Option.bind (lenS g.1) fun (t1 : Int) => Option.bind (some (g.1.length : Int)) fun (t2 : Int) => some (!decide (t1 = t2)))) (some false) (Option.bind (Option.bind (Option.bind (atI g.1 (0 : Int)) fun (t6 : Int) => Option.bind (Option.bind (atI g.1 (-(1 : Int))) fun (t4 : Int) => Option.bind (some ()) fun (t5 : Unit) => some (t4, t5)) fun (t7 : (Int × Unit)) => some (t6, t7)) m__law_pair) fun (gap_3 : (Int × Int)) => (Option.bind (some (0 : Int)) fun (many_8 : Int) => (thenF (S := Int) (ρ := Bool) (Option.bind (Option.bind (m__law_links (g.1, ())) fun (t10 : (List (Int × Int))) => Option.bind (some [gap_3]) fun (t11 : (List (Int × Int))) => (lCat t10 t11)) fun (xs17 : List (Int × Int)) => forF (S := Int) (ρ := Bool) (b__law_ring_1 g gap_3) xs17 many_8) (fun (s18 : Int) => (bOr (some g.2.2.2.1) (some (decide ((0 : Int) < s18))))) (fun v => some v) (fun _ => none) (fun _ => none)))))
theorem ok__law_ring {f : Addr} {fd : FuncData} (F : Fun K "_law_ring" "_law_ring" s__law_ring f fd) (T : Txt P w K mg base) (c__law_pair : Cal P w K mg base CX0 1 "_law_pair" ["_law_one", "_law_other"] (spV K m__law_pair)) (c__law_links : Cal P w K mg base CX0 2 "_law_links" ["_law_ring_here"] (spO K m__law_links)) : FnOk P w K mg base CX0 3 f fd ["_law_ring_here", "_law_weights_here", "_law_decided_here", "_law_never"] (spV K m__law_ring) := by
  refine fn_v F sc__law_ring (ar4 K) fun cdv A outer s H R E g hr => jn_sub (Γ' := [.b g.1, .b g.2.1, .b g.2.2.1, .b g.2.2.2.1, .any, .any, .any, .any]) sub_rfl ?_
  exact (jn_ifr (jt_w (jw_or (jt_lt_t (jb_e (je_lenl_t T.n_len (jb_var 0))) (jb_e je_int)) (jw_or1 (jt_ne (jb_e (je_lenS_t T.n_len T.n_set (jb_var 0))) (jb_e (je_lenl_t T.n_len (jb_var 0))))))) (jn_ret je_bl) (jn_c (Γ1 := fun (gap_3 : (Int × Int)) => [.b g.1, .b g.2.1, .b g.2.2.1, .b g.2.2.2.1, .v gap_3, .any, .any, .any]) (j1_set 4 (fun (gap_3 : (Int × Int)) => [.b g.1, .b g.2.1, .b g.2.2.1, .b g.2.2.2.1, .v gap_3, .any, .any, .any]) (je_call c__law_pair (hr.mono (by decide)) (ja_cons (jb_e (je_ixl_t (jb_var 0) (jb_e je_int) (fun _ _ => rfl))) (ja_cons (jb_e (je_ixl_t (jb_var 0) (jb_e (je_neg_t (jb_e je_int))) (fun _ _ => rfl))) ja_nil))) sc__law_ring.nd) (fun gap_3 => (jn_c (Γ1 := fun (many_8 : Int) => [.b g.1, .b g.2.1, .b g.2.2.1, .b g.2.2.2.1, .v gap_3, .v many_8, .any, .any]) (j1_set 5 (fun (many_8 : Int) => [.b g.1, .b g.2.1, .b g.2.2.1, .b g.2.2.2.1, .v gap_3, .v many_8, .any, .any]) je_int sc__law_ring.nd) (fun many_8 => (jn_f (ret := fun a => .rt a) (r := fun v => v) (Γ1 := fun (s18 : Int) => [.b g.1, .b g.2.1, .b g.2.2.1, .b g.2.2.2.1, .v gap_3, .v s18, .any, .any]) (j1_forF (S := Int) (ρ := Bool) (ret := fun a => .rt a) many_8 (fun (s9 : Int) => [.b g.1, .b g.2.1, .b g.2.2.1, .b g.2.2.2.1, .v gap_3, .v s9, .any, .any]) (fun (s9 : Int) (x12 : (Int × Int)) => [.b g.1, .b g.2.1, .b g.2.2.1, .b g.2.2.2.1, .v gap_3, .v s9, .v x12, .any]) PassesOwn.never rfl sub_rfl (ji_list (je_o (jo_catl (jb_o (jo_call_t c__law_links (hr.mono (by decide)) (ja_cons_t (jb_var 0) ja_nil))) (jb_o (jo_lst (ll_cons_t (je_var 4) ll_nil)))))) (fun s9 => jg_name 6 sc__law_ring.nd) (fun s9 x12 => (js_c (Γ1 := fun (weight_13 : Int) => [.b g.1, .b g.2.1, .b g.2.2.1, .b g.2.2.2.1, .v gap_3, .v s9, .v x12, .v weight_13]) (j1_set 7 (fun (weight_13 : Int) => [.b g.1, .b g.2.1, .b g.2.2.1, .b g.2.2.2.1, .v gap_3, .v s9, .v x12, .v weight_13]) (je_getxT_t hr.units (jb_var 1) (jb_e (je_var 6)) je_int) sc__law_ring.nd) (fun weight_13 => (js_last (j1_if (jt_indT_t hr.units (jb_e (je_var 6)) (jb_kz_t (jb_var 2))) (js_ifr (jt_ne (jb_e (je_dgetT_t hr.units (jb_kz_t (jb_var 2)) (jb_e (je_var 6)) (fun _ _ => rfl))) (jb_e (je_ned_t hr.units (jb_e (je_var 6)) (jb_e (je_var 4))))) (jn_map_t Fl.rt (jn_ret je_bl)) (js_nil (sub_drop 6 (h := (sub_drop 7 (h := sub_rfl)))))) (js_last (j1_if (jt_w (jw_or (jt_e (jb_var 3)) (jw_or (jt_w (jw_and (jt_eqd_t hr.units (jb_e (je_var 6)) (jb_e (je_var 4))) (jw_and1 (jt_ge_t (jb_e (je_var 7)) (jb_e je_int))))) (jw_or1 (jt_w (jw_and (jt_ned_t hr.units (jb_e (je_var 6)) (jb_e (je_var 4))) (jw_and1 (jt_le_t (jb_e (je_var 7)) (jb_e je_int))))))))) (js_n (jn_map_t Fl.rt (jn_ret je_bl))) (js_c (Γ1 := fun (many_16 : Int) => [.b g.1, .b g.2.1, .b g.2.2.1, .b g.2.2.2.1, .v gap_3, .v many_16, .v x12, .v weight_13]) (j1_set 5 (fun (many_16 : Int) => [.b g.1, .b g.2.1, .b g.2.2.1, .b g.2.2.2.1, .v gap_3, .v many_16, .v x12, .v weight_13]) (je_add_t (jb_e (je_var 5)) (jb_e je_int)) sc__law_ring.nd) (fun many_16 => (js_nil (sub_drop 6 (h := (sub_drop 7 (h := sub_rfl))))))))))))))) (fun s18 => (jn_ret (je_or (jb_var 3) (je_one (jb_e (je_gt_t (jb_e (je_var 5)) (jb_e je_int)))))))))))))
abbrev s__law_leaf : Stmt := topS 16
abbrev n__law_leaf : List Str := ["_law_rows", "_law_weights_here", "_law_decided_here", "_law_least", "_law_total", "_law_pair_here", "_law_held", "_law_used", "_law_ring_here", "_law_amount"]
theorem sc__law_leaf : FnScope n__law_leaf ["_law_rows", "_law_weights_here", "_law_decided_here", "_law_least"] (defScope s__law_leaf) := ⟨rfl, rfl, rfl, by decide +kernel, rfl, by decide +kernel, by decide +kernel⟩
def b__law_leaf_1 (x11 : ((List Int) × Int)) (g : ((List ((List Int) × Int)) × (Dct (Int × Int) Int) × (Kz (Int × Int) Bool) × Int × Unit)) (s16 : (Dct (Int × Int) Int)) (x25 : (Int × Int)) : (Option (Fl (Dct (Int × Int) Int) Bool)) := (Option.bind (Option.bind (some (((dGet s16.l x25).getD (0 : Int)) + x11.2)) fun (t27 : Int) => Option.bind (some x25) fun (t28 : (Int × Int)) => (dSet s16 t28 t27)) fun (used_26 : (Dct (Int × Int) Int)) => (ifM (bAnd (some (!dHas (g.2.2.1).d.l x25)) (Option.bind (dGet used_26.l x25) fun (t30 : Int) => Option.bind (Option.bind (dGet g.2.1.l x25) fun (t29 : Int) => some (iabs t29)) fun (t31 : Int) => some (decide (t31 < t30)))) (some (Fl.rt false)) (some (Fl.nx used_26))))
def b__law_leaf_2 (g : ((List ((List Int) × Int)) × (Dct (Int × Int) Int) × (Kz (Int × Int) Bool) × Int × Unit)) (s10 : (Int × (Dct (Int × Int) Int))) (x11 : ((List Int) × Int)) : (Option (Fl (Int × (Dct (Int × Int) Int)) Bool)) := (ifM (bOr (some (decide (x11.2 < (1 : Int)))) (Option.bind (m__law_ring (x11.1, (g.2.1, (g.2.2.1, (false, ()))))) fun (t14 : Bool) => some (!t14))) (some (Fl.rt false)) (Option.bind (some (s10.1 + x11.2)) fun (total_15 : Int) => (thenF (S := (Dct (Int × Int) Int)) (ρ := Bool) (Option.bind (Option.bind (m__law_links (x11.1, ())) fun (t23 : (List (Int × Int))) => Option.bind (Option.bind (Option.bind (Option.bind (atI x11.1 (0 : Int)) fun (t19 : Int) => Option.bind (Option.bind (atI x11.1 (-(1 : Int))) fun (t17 : Int) => Option.bind (some ()) fun (t18 : Unit) => some (t17, t18)) fun (t20 : (Int × Unit)) => some (t19, t20)) m__law_pair) fun (t21 : (Int × Int)) => Option.bind (some ([] : List (Int × Int))) fun (t22 : List (Int × Int)) => some (t21 :: t22)) fun (t24 : (List (Int × Int))) => (lCat t23 t24)) fun (xs32 : List (Int × Int)) => forF (S := (Dct (Int × Int) Int)) (ρ := Bool) (b__law_leaf_1 x11 g) xs32 s10.2) (fun (s33 : (Dct (Int × Int) Int)) => (some (Fl.nx (total_15, s33)))) (fun v => some (Fl.rt v)) (fun _ => none) (fun _ => none))))
def b__law_leaf_3 (g : ((List ((List Int) × Int)) × (Dct (Int × Int) Int) × (Kz (Int × Int) Bool) × Int × Unit)) (s2 : Int) (x3 : ((Int × Int) × Bool)) : (Option Int) := (ifM (some (decide (x3.2 = (decide (((dGet g.2.1.l x3.1).getD (0 : Int)) < (0 : Int)))))) (Option.bind (some (s2 + (iabs ((dGet g.2.1.l x3.1).getD (0 : Int))))) fun (total_6 : Int) => (some total_6)) (some s2))
def m__law_leaf : (List ((List Int) × Int)) × (Dct (Int × Int) Int) × (Kz (Int × Int) Bool) × Int × Unit → Option Bool := fun (g : (List ((List Int) × Int)) × (Dct (Int × Int) Int) × (Kz (Int × Int) Bool) × Int × Unit) => (Option.bind (some (0 : Int)) fun (total_1 : Int) => (Option.bind (Option.bind (some g.2.2.1.l) fun (xs7 : List ((Int × Int) × Bool)) => forS (S := Int) (b__law_leaf_3 g) xs7 total_1) fun (s8 : Int) => (Option.bind (some (⟨[]⟩ : (Dct (Int × Int) Int))) fun (used_9 : (Dct (Int × Int) Int)) => (thenF (S := (Int × (Dct (Int × Int) Int))) (ρ := Bool) (Option.bind (some g.1) fun (xs34 : List ((List Int) × Int)) => forF (S := (Int × (Dct (Int × Int) Int))) (ρ := Bool) (b__law_leaf_2 g) xs34 (s8, used_9)) (fun (s35 : (Int × (Dct (Int × Int) Int))) => (some (decide (g.2.2.2.1 ≤ s35.1)))) (fun v => some v) (fun _ => none) (fun _ => none)))))
theorem ok__law_leaf {f : Addr} {fd : FuncData} (F : Fun K "_law_leaf" "_law_leaf" s__law_leaf f fd) (T : Txt P w K mg base) (c__law_ring : Cal P w K mg base CX0 3 "_law_ring" ["_law_ring_here", "_law_weights_here", "_law_decided_here", "_law_never"] (spV K m__law_ring)) (c__law_links : Cal P w K mg base CX0 2 "_law_links" ["_law_ring_here"] (spO K m__law_links)) (c__law_pair : Cal P w K mg base CX0 1 "_law_pair" ["_law_one", "_law_other"] (spV K m__law_pair)) : FnOk P w K mg base CX0 4 f fd ["_law_rows", "_law_weights_here", "_law_decided_here", "_law_least"] (spV K m__law_leaf) := by
  refine fn_v F sc__law_leaf (ar4 K) fun cdv A outer s H R E g hr => jn_sub (Γ' := [.b g.1, .b g.2.1, .b g.2.2.1, .b g.2.2.2.1, .any, .any, .any, .any, .any, .any]) sub_rfl ?_
  exact (jn_c (Γ1 := fun (total_1 : Int) => [.b g.1, .b g.2.1, .b g.2.2.1, .b g.2.2.2.1, .v total_1, .any, .any, .any, .any, .any]) (j1_set 4 (fun (total_1 : Int) => [.b g.1, .b g.2.1, .b g.2.2.1, .b g.2.2.2.1, .v total_1, .any, .any, .any, .any, .any]) je_int sc__law_leaf.nd) (fun total_1 => (jn_c (Γ1 := fun (s8 : Int) => [.b g.1, .b g.2.1, .b g.2.2.1, .b g.2.2.2.1, .v s8, .any, .any, .any, .any, .any]) (j1_for (S := Int) total_1 (fun (s2 : Int) => [.b g.1, .b g.2.1, .b g.2.2.1, .b g.2.2.2.1, .v s2, .any, .any, .any, .any, .any]) (fun (s2 : Int) (x3 : ((Int × Int) × Bool)) => [.b g.1, .b g.2.1, .b g.2.2.1, .b g.2.2.2.1, .v s2, .v x3.1, .v x3.2, .any, .any, .any]) PassesOwn.never rfl sub_rfl (ji_pairs 2) (fun s2 => jg_2 (u1 := fun (u4 : (Int × Int)) => [.b g.1, .b g.2.1, .b g.2.2.1, .b g.2.2.2.1, .v s2, .v u4, .any, .any, .any, .any]) rfl (jg_name 5 sc__law_leaf.nd) (fun u4 => jg_name 6 sc__law_leaf.nd)) (fun s2 x3 => (js_last (j1_if (jt_eq_t (jb_e (je_var 6)) (jb_e (je_lt_t (jb_e (je_getxT_t hr.units (jb_var 1) (jb_e (je_var 5)) je_int)) (jb_e je_int)))) (js_c (Γ1 := fun (total_6 : Int) => [.b g.1, .b g.2.1, .b g.2.2.1, .b g.2.2.2.1, .v total_6, .v x3.1, .v x3.2, .any, .any, .any]) (j1_set 4 (fun (total_6 : Int) => [.b g.1, .b g.2.1, .b g.2.2.1, .b g.2.2.2.1, .v total_6, .v x3.1, .v x3.2, .any, .any, .any]) (je_add_t (jb_e (je_var 4)) (jb_e (je_abs_t T.n_abs (jb_e (je_getxT_t hr.units (jb_var 1) (jb_e (je_var 5)) je_int))))) sc__law_leaf.nd) (fun total_6 => (js_nil (sub_drop 5 (h := (sub_drop 6 (h := sub_rfl))))))) (js_nil (sub_drop 5 (h := (sub_drop 6 (h := sub_rfl))))))))) (fun s8 => (jn_c (Γ1 := fun (used_9 : (Dct (Int × Int) Int)) => [.b g.1, .b g.2.1, .b g.2.2.1, .b g.2.2.2.1, .v s8, .any, .any, .own used_9, .any, .any]) (j1_seto 7 (fun (used_9 : (Dct (Int × Int) Int)) => [.b g.1, .b g.2.1, .b g.2.2.1, .b g.2.2.2.1, .v s8, .any, .any, .own used_9, .any, .any]) jo_dnewT sc__law_leaf.nd) (fun used_9 => (jn_f (ret := fun a => .rt a) (r := fun v => v) (Γ1 := fun (s35 : (Int × (Dct (Int × Int) Int))) => [.b g.1, .b g.2.1, .b g.2.2.1, .b g.2.2.2.1, .v s35.1, .any, .any, .own s35.2, .any, .any]) (j1_forF (S := (Int × (Dct (Int × Int) Int))) (ρ := Bool) (ret := fun a => .rt a) (s8, used_9) (fun (s10 : (Int × (Dct (Int × Int) Int))) => [.b g.1, .b g.2.1, .b g.2.2.1, .b g.2.2.2.1, .v s10.1, .any, .any, .own s10.2, .any, .any]) (fun (s10 : (Int × (Dct (Int × Int) Int))) (x11 : ((List Int) × Int)) => [.b g.1, .b g.2.1, .b g.2.2.1, .b g.2.2.2.1, .v s10.1, .any, .any, .own s10.2, .v x11.1, .v x11.2]) PassesOwn.never rfl sub_rfl (ji_param 0) (fun s10 => jg_2 (u1 := fun (u12 : (List Int)) => [.b g.1, .b g.2.1, .b g.2.2.1, .b g.2.2.2.1, .v s10.1, .any, .any, .own s10.2, .v u12, .any]) rfl (jg_name 8 sc__law_leaf.nd) (fun u12 => jg_name 9 sc__law_leaf.nd)) (fun s10 x11 => (js_ifr (jt_w (jw_or (jt_lt_t (jb_e (je_var 9)) (jb_e je_int)) (jw_or1 (jt_not (jt_e (jb_e (je_call_t c__law_ring (hr.mono (by decide)) (ja_cons_t (jb_e (je_var 8)) (ja_cons_t (jb_var 1) (ja_cons_t (jb_var 2) (ja_cons_t (jb_e je_bl) ja_nil))))))))))) (jn_map_t Fl.rt (jn_ret je_bl)) (js_c (Γ1 := fun (total_15 : Int) => [.b g.1, .b g.2.1, .b g.2.2.1, .b g.2.2.2.1, .v total_15, .any, .any, .own s10.2, .v x11.1, .v x11.2]) (j1_set 4 (fun (total_15 : Int) => [.b g.1, .b g.2.1, .b g.2.2.1, .b g.2.2.2.1, .v total_15, .any, .any, .own s10.2, .v x11.1, .v x11.2]) (je_add_t (jb_e (je_var 4)) (jb_e (je_var 9))) sc__law_leaf.nd) (fun total_15 => (js_f (ret := fun a => .rt a) (r := Fl.rt) (Γ1 := fun (s33 : (Dct (Int × Int) Int)) => [.b g.1, .b g.2.1, .b g.2.2.1, .b g.2.2.2.1, .v total_15, .any, .any, .own s33, .v x11.1, .v x11.2]) (j1_forF (S := (Dct (Int × Int) Int)) (ρ := Bool) (ret := fun a => .rt a) s10.2 (fun (s16 : (Dct (Int × Int) Int)) => [.b g.1, .b g.2.1, .b g.2.2.1, .b g.2.2.2.1, .v total_15, .any, .any, .own s16, .v x11.1, .v x11.2]) (fun (s16 : (Dct (Int × Int) Int)) (x25 : (Int × Int)) => [.b g.1, .b g.2.1, .b g.2.2.1, .b g.2.2.2.1, .v total_15, .v x25, .any, .own s16, .v x11.1, .v x11.2]) PassesOwn.never rfl sub_rfl (ji_list (je_o (jo_catl (jb_o (jo_call_t c__law_links (hr.mono (by decide)) (ja_cons_t (jb_e (je_var 8)) ja_nil))) (jb_o (jo_lst (ll_cons (je_call c__law_pair (hr.mono (by decide)) (ja_cons (jb_e (je_ixl_t (jb_e (je_var 8)) (jb_e je_int) (fun _ _ => rfl))) (ja_cons (jb_e (je_ixl_t (jb_e (je_var 8)) (jb_e (je_neg_t (jb_e je_int))) (fun _ _ => rfl))) ja_nil))) ll_nil)))))) (fun s16 => jg_name 5 sc__law_leaf.nd) (fun s16 x25 => (js_c (Γ1 := fun (used_26 : (Dct (Int × Int) Int)) => [.b g.1, .b g.2.1, .b g.2.2.1, .b g.2.2.2.1, .v total_15, .v x25, .any, .own used_26, .v x11.1, .v x11.2]) (j1_dputT 7 (fun (used_26 : (Dct (Int × Int) Int)) => [.b g.1, .b g.2.1, .b g.2.2.1, .b g.2.2.2.1, .v total_15, .v x25, .any, .own used_26, .v x11.1, .v x11.2]) hr.units (je_add_t (jb_e (je_getxT_t hr.units (jb_own 7) (jb_e (je_var 5)) je_int)) (jb_e (je_var 9))) (je_var 5)) (fun used_26 => (js_ifr (jt_w (jw_and (jt_nindT_t hr.units (jb_e (je_var 5)) (jb_kz_t (jb_var 2))) (jw_and1 (jt_gt (jb_e (je_dgetT_t hr.units (jb_own 7) (jb_e (je_var 5)) (fun _ _ => rfl))) (jb_e (je_abs T.n_abs (jb_e (je_dgetT_t hr.units (jb_var 1) (jb_e (je_var 5)) (fun _ _ => rfl))))))))) (jn_map_t Fl.rt (jn_ret je_bl)) (js_nil (sub_drop 5 (h := sub_rfl)))))))) (fun s33 => (js_nil (sub_drop 8 (h := (sub_drop 9 (h := sub_rfl)))))))))))) (fun s35 => (jn_ret (je_ge_t (jb_e (je_var 4)) (jb_var 3)))))))))))
abbrev s__law_judge : Stmt := topS 17
abbrev n__law_judge : List Str := ["_law_paper_here", "_law_weights_here", "_law_decided_here", "_law_least", "_law_pair_here", "_law_held", "_law_parted"]
theorem sc__law_judge : FnScope n__law_judge ["_law_paper_here", "_law_weights_here", "_law_decided_here", "_law_least"] (defScope s__law_judge) := ⟨rfl, rfl, rfl, by decide +kernel, rfl, by decide +kernel, by decide +kernel⟩
def st__law_judge (mr : Pap × (Dct (Int × Int) Int) × (Kz (Int × Int) Bool) × Int × Unit → Option Bool) : Pap × (Dct (Int × Int) Int) × (Kz (Int × Int) Bool) × Int × Unit → Option Bool := fun (g : Pap × (Dct (Int × Int) Int) × (Kz (Int × Int) Bool) × Int × Unit) => (ifM (some (decide ((g.1.tag) = ("never" : Str)))) (Option.bind (Option.bind (g.1.nev) fun (t7 : (List Int)) => Option.bind (Option.bind (some g.2.1) fun (t5 : (Dct (Int × Int) Int)) => Option.bind (Option.bind (some g.2.2.1) fun (t3 : (Kz (Int × Int) Bool)) => Option.bind (Option.bind (some true) fun (t1 : Bool) => Option.bind (some ()) fun (t2 : Unit) => some (t1, t2)) fun (t4 : (Bool × Unit)) => some (t3, t4)) fun (t6 : ((Kz (Int × Int) Bool) × (Bool × Unit))) => some (t5, t6)) fun (t8 : ((Dct (Int × Int) Int) × ((Kz (Int × Int) Bool) × (Bool × Unit)))) => some (t7, t8)) m__law_ring) (ifM (some (decide ((g.1.tag) = ("rings" : Str)))) (Option.bind (Option.bind (g.1.rgs) fun (t15 : (List ((List Int) × Int))) => Option.bind (Option.bind (some g.2.1) fun (t13 : (Dct (Int × Int) Int)) => Option.bind (Option.bind (some g.2.2.1) fun (t11 : (Kz (Int × Int) Bool)) => Option.bind (Option.bind (some g.2.2.2.1) fun (t9 : Int) => Option.bind (some ()) fun (t10 : Unit) => some (t9, t10)) fun (t12 : (Int × Unit)) => some (t11, t12)) fun (t14 : ((Kz (Int × Int) Bool) × (Int × Unit))) => some (t13, t14)) fun (t16 : ((Dct (Int × Int) Int) × ((Kz (Int × Int) Bool) × (Int × Unit)))) => some (t15, t16)) m__law_leaf) (Option.bind (Option.bind (g.1.i1) fun (t18 : Int) => Option.bind (g.1.i2) fun (t19 : Int) => some (t18, t19)) fun (pair_here_17 : (Int × Int)) => (ifM (bOr (some (decide (pair_here_17.2 ≤ pair_here_17.1))) (some (dHas (g.2.2.1).d.l pair_here_17))) (some false) (Option.bind (Option.bind (some (g.2.2.1).d) fun (t21 : (Dct (Int × Int) Bool)) => dCopy t21) fun (held_20 : (Dct (Int × Int) Bool)) => (Option.bind (Option.bind (some true) fun (t23 : Bool) => Option.bind (some pair_here_17) fun (t24 : (Int × Int)) => (dSet held_20 t24 t23)) fun (held_22 : (Dct (Int × Int) Bool)) => (Option.bind (Option.bind (some (g.2.2.1).d) fun (t26 : (Dct (Int × Int) Bool)) => dCopy t26) fun (parted_25 : (Dct (Int × Int) Bool)) => (Option.bind (Option.bind (some false) fun (t28 : Bool) => Option.bind (some pair_here_17) fun (t29 : (Int × Int)) => (dSet parted_25 t29 t28)) fun (parted_27 : (Dct (Int × Int) Bool)) => (bAnd (Option.bind (Option.bind (g.1.s3) fun (t36 : Pap) => Option.bind (Option.bind (some g.2.1) fun (t34 : (Dct (Int × Int) Int)) => Option.bind (Option.bind (some (⟨held_22.l⟩ : Kz (Int × Int) Bool)) fun (t32 : (Kz (Int × Int) Bool)) => Option.bind (Option.bind (some g.2.2.2.1) fun (t30 : Int) => Option.bind (some ()) fun (t31 : Unit) => some (t30, t31)) fun (t33 : (Int × Unit)) => some (t32, t33)) fun (t35 : ((Kz (Int × Int) Bool) × (Int × Unit))) => some (t34, t35)) fun (t37 : ((Dct (Int × Int) Int) × ((Kz (Int × Int) Bool) × (Int × Unit)))) => some (t36, t37)) mr) (Option.bind (Option.bind (g.1.s4) fun (t44 : Pap) => Option.bind (Option.bind (some g.2.1) fun (t42 : (Dct (Int × Int) Int)) => Option.bind (Option.bind (some (⟨parted_27.l⟩ : Kz (Int × Int) Bool)) fun (t40 : (Kz (Int × Int) Bool)) => Option.bind (Option.bind (some g.2.2.2.1) fun (t38 : Int) => Option.bind (some ()) fun (t39 : Unit) => some (t38, t39)) fun (t41 : (Int × Unit)) => some (t40, t41)) fun (t43 : ((Kz (Int × Int) Bool) × (Int × Unit))) => some (t42, t43)) fun (t45 : ((Dct (Int × Int) Int) × ((Kz (Int × Int) Bool) × (Int × Unit)))) => some (t44, t45)) mr))))))))))
def m__law_judge : Nat → Pap × (Dct (Int × Int) Int) × (Kz (Int × Int) Bool) × Int × Unit → Option Bool
  | 0 => fun _ => none
  | n + 1 => st__law_judge (m__law_judge n)
theorem okS__law_judge {f : Addr} {fd : FuncData} (F : Fun K "_law_judge" "_law_judge" s__law_judge f fd) (T : Txt P w K mg base) (c__law_ring : Cal P w K mg base CX0 3 "_law_ring" ["_law_ring_here", "_law_weights_here", "_law_decided_here", "_law_never"] (spV K m__law_ring)) (c__law_leaf : Cal P w K mg base CX0 4 "_law_leaf" ["_law_rows", "_law_weights_here", "_law_decided_here", "_law_least"] (spV K m__law_leaf)) {mr : Pap × (Dct (Int × Int) Int) × (Kz (Int × Int) Bool) × Int × Unit → Option Bool} {j : Nat} (hj : 5 ≤ j) (c__law_judge : Cal P w K mg base CX0 j "_law_judge" ["_law_paper_here", "_law_weights_here", "_law_decided_here", "_law_least"] (spV K mr)) : FnOk P w K mg base CX0 (j + 1) f fd ["_law_paper_here", "_law_weights_here", "_law_decided_here", "_law_least"] (spV K (st__law_judge mr)) := by
  refine fn_v F sc__law_judge (ar4 K) fun cdv A outer s H R E g hr => jn_sub (Γ' := [.b g.1, .b g.2.1, .b g.2.2.1, .b g.2.2.2.1, .any, .any, .any]) sub_rfl ?_
  exact (jn_ifr (jt_eq_t (jb_e (je_pap0_t (jb_var 0))) (jb_e je_str)) (jn_ret (je_call c__law_ring (hr.mono (Nat.le_trans (by decide) hj)) (ja_cons (jb_e (je_papn_t (jb_var 0))) (ja_cons (jb_var 1) (ja_cons (jb_var 2) (ja_cons (jb_e je_bl) ja_nil)))))) (jn_ifr (jt_eq_t (jb_e (je_pap0_t (jb_var 0))) (jb_e je_str)) (jn_ret (je_call c__law_leaf (hr.mono (Nat.le_trans (by decide) hj)) (ja_cons (jb_e (je_papr_t (jb_var 0))) (ja_cons (jb_var 1) (ja_cons (jb_var 2) (ja_cons (jb_var 3) ja_nil)))))) (jn_c (Γ1 := fun (pair_here_17 : (Int × Int)) => [.b g.1, .b g.2.1, .b g.2.2.1, .b g.2.2.2.1, .v pair_here_17, .any, .any]) (j1_set 4 (fun (pair_here_17 : (Int × Int)) => [.b g.1, .b g.2.1, .b g.2.2.1, .b g.2.2.2.1, .v pair_here_17, .any, .any]) (je_tup2 (je_pap1_t (jb_var 0)) (je_pap2_t (jb_var 0))) sc__law_judge.nd) (fun pair_here_17 => (jn_ifr (jt_w (jw_or (jt_ge_t (jb_e (je_ixt20_t (jb_e (je_var 4)))) (jb_e (je_ixt21_t (jb_e (je_var 4))))) (jw_or1 (jt_indT_t hr.units (jb_e (je_var 4)) (jb_kz_t (jb_var 2)))))) (jn_ret je_bl) (jn_c (Γ1 := fun (held_20 : (Dct (Int × Int) Bool)) => [.b g.1, .b g.2.1, .b g.2.2.1, .b g.2.2.2.1, .v pair_here_17, .own held_20, .any]) (j1_seto 5 (fun (held_20 : (Dct (Int × Int) Bool)) => [.b g.1, .b g.2.1, .b g.2.2.1, .b g.2.2.2.1, .v pair_here_17, .own held_20, .any]) (jo_dcpT hr.units (m := (some (g.2.2.1).d)) (jb_kz_t (jb_var 2)) T.n_dict) sc__law_judge.nd) (fun held_20 => (jn_c (Γ1 := fun (held_22 : (Dct (Int × Int) Bool)) => [.b g.1, .b g.2.1, .b g.2.2.1, .b g.2.2.2.1, .v pair_here_17, .own held_22, .any]) (j1_dputT 5 (fun (held_22 : (Dct (Int × Int) Bool)) => [.b g.1, .b g.2.1, .b g.2.2.1, .b g.2.2.2.1, .v pair_here_17, .own held_22, .any]) hr.units je_bl (je_var 4)) (fun held_22 => (jn_c (Γ1 := fun (parted_25 : (Dct (Int × Int) Bool)) => [.b g.1, .b g.2.1, .b g.2.2.1, .b g.2.2.2.1, .v pair_here_17, .own held_22, .own parted_25]) (j1_seto 6 (fun (parted_25 : (Dct (Int × Int) Bool)) => [.b g.1, .b g.2.1, .b g.2.2.1, .b g.2.2.2.1, .v pair_here_17, .own held_22, .own parted_25]) (jo_dcpT hr.units (m := (some (g.2.2.1).d)) (jb_kz_t (jb_var 2)) T.n_dict) sc__law_judge.nd) (fun parted_25 => (jn_c (Γ1 := fun (parted_27 : (Dct (Int × Int) Bool)) => [.b g.1, .b g.2.1, .b g.2.2.1, .b g.2.2.2.1, .v pair_here_17, .own held_22, .own parted_27]) (j1_dputT 6 (fun (parted_27 : (Dct (Int × Int) Bool)) => [.b g.1, .b g.2.1, .b g.2.2.1, .b g.2.2.2.1, .v pair_here_17, .own held_22, .own parted_27]) hr.units je_bl (je_var 4)) (fun parted_27 => (jn_fzz 5 (jn_fzz 6 (jn_ret (je_and (jb_e (je_call c__law_judge hr (ja_cons (jb_e (je_pap3_t (jb_var 0))) (ja_cons (jb_var 1) (ja_cons (jb_e (je_var 5)) (ja_cons (jb_var 3) ja_nil)))))) (je_one (jb_e (je_call c__law_judge hr (ja_cons (jb_e (je_pap4_t (jb_var 0))) (ja_cons (jb_var 1) (ja_cons (jb_e (je_var 6)) (ja_cons (jb_var 3) ja_nil))))))))))))))))))))))))
theorem ok__law_judge {f : Addr} {fd : FuncData} (F : Fun K "_law_judge" "_law_judge" s__law_judge f fd) (T : Txt P w K mg base) (c__law_ring : Cal P w K mg base CX0 3 "_law_ring" ["_law_ring_here", "_law_weights_here", "_law_decided_here", "_law_never"] (spV K m__law_ring)) (c__law_leaf : Cal P w K mg base CX0 4 "_law_leaf" ["_law_rows", "_law_weights_here", "_law_decided_here", "_law_least"] (spV K m__law_leaf)) (mkc : ∀ (j : Nat) (sp : Sp), FnOk P w K mg base CX0 j f fd ["_law_paper_here", "_law_weights_here", "_law_decided_here", "_law_least"] sp → Cal P w K mg base CX0 j "_law_judge" ["_law_paper_here", "_law_weights_here", "_law_decided_here", "_law_least"] sp) : ∀ n : Nat, FnOk P w K mg base CX0 (5 + n) f fd ["_law_paper_here", "_law_weights_here", "_law_decided_here", "_law_least"] (spV K (m__law_judge n))
  | 0 => by
    refine fn_v (k := 4) F sc__law_judge (ar4 K) fun cdv A outer s H R E g hr => jn_sub (Γ' := [.b g.1, .b g.2.1, .b g.2.2.1, .b g.2.2.2.1, .any, .any, .any]) sub_rfl ?_
    exact jn_never
  | n + 1 => okS__law_judge F T c__law_ring c__law_leaf (Nat.le_add_right 5 n) (mkc _ _ (ok__law_judge F T c__law_ring c__law_leaf mkc n))
abbrev s__law_decided : Stmt := topS 19
abbrev n__law_decided : List Str := ["_law_aparts", "_law_decided_here", "_law_pair_here"]
theorem sc__law_decided : FnScope n__law_decided ["_law_aparts"] (defScope s__law_decided) := ⟨rfl, rfl, rfl, by decide +kernel, rfl, by decide +kernel, by decide +kernel⟩
def b__law_decided_1  (s2 : (Dct (Int × Int) Bool)) (x3 : (Int × Int)) : (Option (Dct (Int × Int) Bool)) := (Option.bind (Option.bind (some false) fun (t5 : Bool) => Option.bind (some x3) fun (t6 : (Int × Int)) => (dSet s2 t6 t5)) fun (decided_here_4 : (Dct (Int × Int) Bool)) => (some decided_here_4))
def m__law_decided : (List (Int × Int)) × Unit → Option (Dct (Int × Int) Bool) := fun (g : (List (Int × Int)) × Unit) => (Option.bind (some (⟨[]⟩ : (Dct (Int × Int) Bool))) fun (decided_here_1 : (Dct (Int × Int) Bool)) => (Option.bind (Option.bind (some g.1) fun (xs7 : List (Int × Int)) => forS (S := (Dct (Int × Int) Bool)) (b__law_decided_1) xs7 decided_here_1) fun (s8 : (Dct (Int × Int) Bool)) => (some s8)))
theorem ok__law_decided {f : Addr} {fd : FuncData} (F : Fun K "_law_decided" "_law_decided" s__law_decided f fd) (T : Txt P w K mg base)  : FnOk P w K mg base CX0 1 f fd ["_law_aparts"] (spO K m__law_decided) := by
  refine fn_o F sc__law_decided (ar1 K) fun cdv A outer s H R E g hr => jn_sub (Γ' := [.b g.1, .any, .any]) sub_rfl ?_
  exact (jn_c (Γ1 := fun (decided_here_1 : (Dct (Int × Int) Bool)) => [.b g.1, .own decided_here_1, .any]) (j1_seto 1 (fun (decided_here_1 : (Dct (Int × Int) Bool)) => [.b g.1, .own decided_here_1, .any]) jo_dnewT sc__law_decided.nd) (fun decided_here_1 => (jn_c (Γ1 := fun (s8 : (Dct (Int × Int) Bool)) => [.b g.1, .own s8, .any]) (j1_for (S := (Dct (Int × Int) Bool)) decided_here_1 (fun (s2 : (Dct (Int × Int) Bool)) => [.b g.1, .own s2, .any]) (fun (s2 : (Dct (Int × Int) Bool)) (x3 : (Int × Int)) => [.b g.1, .own s2, .v x3]) PassesOwn.never rfl sub_rfl (ji_param 0) (fun s2 => jg_name 2 sc__law_decided.nd) (fun s2 x3 => (js_c (Γ1 := fun (decided_here_4 : (Dct (Int × Int) Bool)) => [.b g.1, .own decided_here_4, .v x3]) (j1_dputT 1 (fun (decided_here_4 : (Dct (Int × Int) Bool)) => [.b g.1, .own decided_here_4, .v x3]) hr.units je_bl (je_var 2)) (fun decided_here_4 => (js_nil (sub_drop 2 (h := sub_rfl))))))) (fun s8 => (jn_retv 1)))))
abbrev s_is_ring : Stmt := topS 3
abbrev n_is_ring : List Str := ["ring"]
theorem sc_is_ring : FnScope n_is_ring ["ring"] (defScope s_is_ring) := ⟨rfl, rfl, rfl, by decide +kernel, rfl, by decide +kernel, by decide +kernel⟩
def m_is_ring : (List Int) × Unit → Option Bool := fun (g : (List Int) × Unit) => (bAnd (some (decide ((3 : Int) ≤ (g.1.length : Int)))) (Option.bind (lenS g.1) fun (t1 : Int) => Option.bind (some (g.1.length : Int)) fun (t2 : Int) => some (decide (t1 = t2))))
theorem ok_is_ring {f : Addr} {fd : FuncData} (F : Fun K "is_ring" "is_ring" s_is_ring f fd) (T : Txt P w K mg base)  : FnOk P w K mg base CX0 1 f fd ["ring"] (spV K m_is_ring) := by
  refine fn_v F sc_is_ring (ar1 K) fun cdv A outer s H R E g hr => jn_sub (Γ' := [.b g.1]) sub_rfl ?_
  exact (jn_ret (je_and (jb_e (je_ge_t (jb_e (je_lenl_t T.n_len (jb_var 0))) (jb_e je_int))) (je_one (jb_e (je_eq (jb_e (je_lenS_t T.n_len T.n_set (jb_var 0))) (jb_e (je_lenl_t T.n_len (jb_var 0))))))))
abbrev s_pair_of : Stmt := topS 1
abbrev n_pair_of : List Str := ["one", "other"]
theorem sc_pair_of : FnScope n_pair_of ["one", "other"] (defScope s_pair_of) := ⟨rfl, rfl, rfl, by decide +kernel, rfl, by decide +kernel, by decide +kernel⟩
def m_pair_of : Int × Int × Unit → Option (Int × Int) := fun (g : Int × Int × Unit) => (some ((imin2 g.1 g.2.1), (imax2 g.1 g.2.1)))
theorem ok_pair_of {f : Addr} {fd : FuncData} (F : Fun K "pair_of" "pair_of" s_pair_of f fd) (T : Txt P w K mg base)  : FnOk P w K mg base CX0 1 f fd ["one", "other"] (spV K m_pair_of) := by
  refine fn_v F sc_pair_of (ar2 K) fun cdv A outer s H R E g hr => jn_sub (Γ' := [.b g.1, .b g.2.1]) sub_rfl ?_
  exact (jn_ret (je_tup2_t (je_min2_t T.n_min (jb_var 0) (jb_var 1)) (je_max2_t T.n_max (jb_var 0) (jb_var 1))))
abbrev s_links_of : Stmt := topS 2
abbrev n_links_of : List Str := ["ring", "k"]
theorem sc_links_of : FnScope n_links_of ["ring"] (defScope s_links_of) := ⟨rfl, rfl, rfl, by decide +kernel, rfl, by decide +kernel, by decide +kernel⟩
def b_links_of_1 (g : ((List Int) × Unit)) (x1 : Int) : (Option (Int × Int)) := (Option.bind (Option.bind (atI g.1 x1) fun (t4 : Int) => Option.bind (Option.bind (atI g.1 (x1 + (1 : Int))) fun (t2 : Int) => Option.bind (some ()) fun (t3 : Unit) => some (t2, t3)) fun (t5 : (Int × Unit)) => some (t4, t5)) m_pair_of)
def m_links_of : (List Int) × Unit → Option (List (Int × Int)) := fun (g : (List Int) × Unit) => (Option.bind (range1 ((g.1.length : Int) - (1 : Int))) fun (xs6 : List Int) => lcG (fun (x1 : Int) => (some true)) (b_links_of_1 g) xs6)
theorem ok_links_of {f : Addr} {fd : FuncData} (F : Fun K "links_of" "links_of" s_links_of f fd) (T : Txt P w K mg base) (c_pair_of : Cal P w K mg base CX0 1 "pair_of" ["one", "other"] (spV K m_pair_of)) : FnOk P w K mg base CX0 2 f fd ["ring"] (spO K m_links_of) := by
  refine fn_o F sc_links_of (ar1 K) fun cdv A outer s H R E g hr => jn_sub (Γ' := [.b g.1, .any]) sub_rfl ?_
  exact (jn_reto (jo_lc (own := [("k", 1)]) (ts := [1]) [.b g.1, .any] (fun (x1 : Int) => [.b g.1, .v x1]) rfl sc_links_of.nd (ji_range1_t T.n_range (jb_e (je_sub_t (jb_e (je_lenl_t T.n_len (jb_var 0))) (jb_e je_int)))) (blkOk_by (N := n_links_of) (sc := defScope s_links_of) (by decide +kernel)) rfl (fun q => jg_name 1 sc_links_of.nd) (fun q x1 => jts_nil) (fun q x1 => (je_call c_pair_of (hr.mono (by decide)) (ja_cons (jb_e (je_ixl_t (jb_var 0) (jb_e (je_var 1)) (fun _ _ => rfl))) (ja_cons (jb_e (je_ixl_t (jb_var 0) (jb_e (je_add_t (jb_e (je_var 1)) (jb_e je_int))) (fun _ _ => rfl))) ja_nil))))))
abbrev s_is_never : Stmt := topS 4
abbrev n_is_never : List Str := ["ring", "decided", "pair"]
theorem sc_is_never : FnScope n_is_never ["ring", "decided"] (defScope s_is_never) := ⟨rfl, rfl, rfl, by decide +kernel, rfl, by decide +kernel, by decide +kernel⟩
def m_is_never : (List Int) × (Kz (Int × Int) Bool) × Unit → Option Bool := fun (g : (List Int) × (Kz (Int × Int) Bool) × Unit) => (ifM (bOr (Option.bind (m_is_ring (g.1, ())) fun (t1 : Bool) => some (!t1)) (Option.bind (Option.bind (some (g.2.1).d) fun (t6 : (Dct (Int × Int) Bool)) => Option.bind (Option.bind (Option.bind (atI g.1 (0 : Int)) fun (t4 : Int) => Option.bind (Option.bind (atI g.1 (-(1 : Int))) fun (t2 : Int) => Option.bind (some ()) fun (t3 : Unit) => some (t2, t3)) fun (t5 : (Int × Unit)) => some (t4, t5)) m_pair_of) fun (t7 : (Int × Int)) => some (dGet t6.l t7)) fun (t8 : (Option Bool)) => Option.bind (some false) fun (t9 : Bool) => some (!decide (t8 = some t9)))) (some false) (Option.bind (Option.bind (m_links_of (g.1, ())) fun (xs11 : List (Int × Int)) => lcG (fun (x10 : (Int × Int)) => (some true)) (fun (x10 : (Int × Int)) => (some (decide ((dGet (g.2.1).d.l x10) = some true)))) xs11) fun (t12 : (List Bool)) => some (t12.all id)))
theorem ok_is_never {f : Addr} {fd : FuncData} (F : Fun K "is_never" "is_never" s_is_never f fd) (T : Txt P w K mg base) (c_is_ring : Cal P w K mg base CX0 1 "is_ring" ["ring"] (spV K m_is_ring)) (c_pair_of : Cal P w K mg base CX0 1 "pair_of" ["one", "other"] (spV K m_pair_of)) (c_links_of : Cal P w K mg base CX0 2 "links_of" ["ring"] (spO K m_links_of)) : FnOk P w K mg base CX0 3 f fd ["ring", "decided"] (spV K m_is_never) := by
  refine fn_v F sc_is_never (ar2 K) fun cdv A outer s H R E g hr => jn_sub (Γ' := [.b g.1, .b g.2.1, .any]) sub_rfl ?_
  exact (jn_ifr (jt_w (jw_or (jt_not (jt_e (jb_e (je_call_t c_is_ring (hr.mono (by decide)) (ja_cons_t (jb_var 0) ja_nil))))) (jw_or1 (jt_isnob (jb_e (je_getdT hr.units (jb_kz_t (jb_var 1)) (jb_e (je_call c_pair_of (hr.mono (by decide)) (ja_cons (jb_e (je_ixl_t (jb_var 0) (jb_e je_int) (fun _ _ => rfl))) (ja_cons (jb_e (je_ixl_t (jb_var 0) (jb_e (je_neg_t (jb_e je_int))) (fun _ _ => rfl))) ja_nil)))))) (jb_e je_bl))))) (jn_ret je_bl) (jn_ret (je_all T.n_all (jb_o (jo_lc (own := [("pair", 2)]) (ts := [2]) [.b g.1, .b g.2.1, .any] (fun (x10 : (Int × Int)) => [.b g.1, .b g.2.1, .v x10]) rfl sc_is_never.nd (ji_list (je_o (jo_call_t c_links_of (hr.mono (by decide)) (ja_cons_t (jb_var 0) ja_nil)))) (blkOk_by (N := n_is_never) (sc := defScope s_is_never) (by decide +kernel)) rfl (fun q => jg_name 2 sc_is_never.nd) (fun q x10 => jts_nil) (fun q x10 => (je_isob_t (jb_e (je_getdT_t hr.units (jb_kz_t (jb_var 1)) (jb_e (je_var 2)))) (jb_e je_bl))))))))
abbrev s_lost_by : Stmt := topS 6
abbrev n_lost_by : List Str := ["weights", "decided", "lost", "pair", "held", "weight"]
theorem sc_lost_by : FnScope n_lost_by ["weights", "decided"] (defScope s_lost_by) := ⟨rfl, rfl, rfl, by decide +kernel, rfl, by decide +kernel, by decide +kernel⟩
def b_lost_by_1 (g : ((Dct (Int × Int) Int) × (Kz (Int × Int) Bool) × Unit)) (s2 : Int) (x3 : ((Int × Int) × Bool)) : (Option Int) := (Option.bind (some ((dGet g.1.l x3.1).getD (0 : Int))) fun (weight_6 : Int) => (ifM (some x3.2) (Option.bind (some (s2 + (imax2 (0 : Int) (-weight_6)))) fun (lost_7 : Int) => (some lost_7)) (Option.bind (some (s2 + (imax2 (0 : Int) weight_6))) fun (lost_8 : Int) => (some lost_8))))
def m_lost_by : (Dct (Int × Int) Int) × (Kz (Int × Int) Bool) × Unit → Option Int := fun (g : (Dct (Int × Int) Int) × (Kz (Int × Int) Bool) × Unit) => (Option.bind (some (0 : Int)) fun (lost_1 : Int) => (Option.bind (Option.bind (some g.2.1.l) fun (xs9 : List ((Int × Int) × Bool)) => forS (S := Int) (b_lost_by_1 g) xs9 lost_1) fun (s10 : Int) => (some s10)))
theorem ok_lost_by {f : Addr} {fd : FuncData} (F : Fun K "lost_by" "lost_by" s_lost_by f fd) (T : Txt P w K mg base)  : FnOk P w K mg base CX0 1 f fd ["weights", "decided"] (spV K m_lost_by) := by
  refine fn_v F sc_lost_by (ar2 K) fun cdv A outer s H R E g hr => jn_sub (Γ' := [.b g.1, .b g.2.1, .any, .any, .any, .any]) sub_rfl ?_
  exact (jn_c (Γ1 := fun (lost_1 : Int) => [.b g.1, .b g.2.1, .v lost_1, .any, .any, .any]) (j1_set 2 (fun (lost_1 : Int) => [.b g.1, .b g.2.1, .v lost_1, .any, .any, .any]) je_int sc_lost_by.nd) (fun lost_1 => (jn_c (Γ1 := fun (s10 : Int) => [.b g.1, .b g.2.1, .v s10, .any, .any, .any]) (j1_for (S := Int) lost_1 (fun (s2 : Int) => [.b g.1, .b g.2.1, .v s2, .any, .any, .any]) (fun (s2 : Int) (x3 : ((Int × Int) × Bool)) => [.b g.1, .b g.2.1, .v s2, .v x3.1, .v x3.2, .any]) PassesOwn.never rfl sub_rfl (ji_pairs 1) (fun s2 => jg_2 (u1 := fun (u4 : (Int × Int)) => [.b g.1, .b g.2.1, .v s2, .v u4, .any, .any]) rfl (jg_name 3 sc_lost_by.nd) (fun u4 => jg_name 4 sc_lost_by.nd)) (fun s2 x3 => (js_c (Γ1 := fun (weight_6 : Int) => [.b g.1, .b g.2.1, .v s2, .v x3.1, .v x3.2, .v weight_6]) (j1_set 5 (fun (weight_6 : Int) => [.b g.1, .b g.2.1, .v s2, .v x3.1, .v x3.2, .v weight_6]) (je_getxT_t hr.units (jb_var 0) (jb_e (je_var 3)) je_int) sc_lost_by.nd) (fun weight_6 => (js_last (j1_if (jt_e (jb_e (je_var 4))) (js_c (Γ1 := fun (lost_7 : Int) => [.b g.1, .b g.2.1, .v lost_7, .v x3.1, .v x3.2, .v weight_6]) (j1_set 2 (fun (lost_7 : Int) => [.b g.1, .b g.2.1, .v lost_7, .v x3.1, .v x3.2, .v weight_6]) (je_add_t (jb_e (je_var 2)) (jb_e (je_max2_t T.n_max (jb_e je_int) (jb_e (je_neg_t (jb_e (je_var 5))))))) sc_lost_by.nd) (fun lost_7 => (js_nil (sub_drop 3 (h := (sub_drop 4 (h := (sub_drop 5 (h := sub_rfl))))))))) (js_c (Γ1 := fun (lost_8 : Int) => [.b g.1, .b g.2.1, .v lost_8, .v x3.1, .v x3.2, .v weight_6]) (j1_set 2 (fun (lost_8 : Int) => [.b g.1, .b g.2.1, .v lost_8, .v x3.1, .v x3.2, .v weight_6]) (je_add_t (jb_e (je_var 2)) (jb_e (je_max2_t T.n_max (jb_e je_int) (jb_e (je_var 5))))) sc_lost_by.nd) (fun lost_8 => (js_nil (sub_drop 3 (h := (sub_drop 4 (h := (sub_drop 5 (h := sub_rfl))))))))))))))) (fun s10 => (jn_ret (je_var 2))))))
abbrev s_is_sound : Stmt := topS 5
abbrev n_is_sound : List Str := ["ring", "weights", "decided", "gap", "open_ones", "pair"]
theorem sc_is_sound : FnScope n_is_sound ["ring", "weights", "decided"] (defScope s_is_sound) := ⟨rfl, rfl, rfl, by decide +kernel, rfl, by decide +kernel, by decide +kernel⟩
def b_is_sound_1 (g : ((List Int) × (Dct (Int × Int) Int) × (Kz (Int × Int) Bool) × Unit)) (s8 : Int) (x9 : (Int × Int)) : (Option (Fl Int Bool)) := (ifM (bOr (some (decide ((dGet (g.2.2.1).d.l x9) = some false))) (bAnd (some (!dHas (g.2.2.1).d.l x9)) (some (decide (((dGet g.2.1.l x9).getD (0 : Int)) ≤ (0 : Int)))))) (some (Fl.rt false)) (Option.bind (some (s8 + (bint (!dHas (g.2.2.1).d.l x9)))) fun (open_ones_10 : Int) => (some (Fl.nx open_ones_10))))
def m_is_sound : (List Int) × (Dct (Int × Int) Int) × (Kz (Int × Int) Bool) × Unit → Option Bool := fun (g : (List Int) × (Dct (Int × Int) Int) × (Kz (Int × Int) Bool) × Unit) => (ifM (Option.bind (m_is_ring (g.1, ())) fun (t1 : Bool) => some (!t1)) (some false) (Option.bind (Option.bind (Option.bind (atI g.1 (0 : Int)) fun (t5 : Int) => Option.bind (Option.bind (atI g.1 (-(1 : Int))) fun (t3 : Int) => Option.bind (some ()) fun (t4 : Unit) => some (t3, t4)) fun (t6 : (Int × Unit)) => some (t5, t6)) m_pair_of) fun (gap_2 : (Int × Int)) => (ifM (bOr (some (decide ((dGet (g.2.2.1).d.l gap_2) = some true))) (bAnd (some (!dHas (g.2.2.1).d.l gap_2)) (some (decide ((0 : Int) ≤ ((dGet g.2.1.l gap_2).getD (0 : Int))))))) (some false) (Option.bind (some (bint (!dHas (g.2.2.1).d.l gap_2))) fun (open_ones_7 : Int) => (thenF (S := Int) (ρ := Bool) (Option.bind (m_links_of (g.1, ())) fun (xs11 : List (Int × Int)) => forF (S := Int) (ρ := Bool) (b_is_sound_1 g) xs11 open_ones_7) (fun (s12 : Int) => (some (decide ((0 : Int) < s12)))) (fun v => some v) (fun _ => none) (fun _ => none))))))
theorem ok_is_sound {f : Addr} {fd : FuncData} (F : Fun K "is_sound" "is_sound" s_is_sound f fd) (T : Txt P w K mg base) (c_is_ring : Cal P w K mg base CX0 1 "is_ring" ["ring"] (spV K m_is_ring)) (c_pair_of : Cal P w K mg base CX0 1 "pair_of" ["one", "other"] (spV K m_pair_of)) (c_links_of : Cal P w K mg base CX0 2 "links_of" ["ring"] (spO K m_links_of)) : FnOk P w K mg base CX0 3 f fd ["ring", "weights", "decided"] (spV K m_is_sound) := by
  refine fn_v F sc_is_sound (ar3 K) fun cdv A outer s H R E g hr => jn_sub (Γ' := [.b g.1, .b g.2.1, .b g.2.2.1, .any, .any, .any]) sub_rfl ?_
  exact (jn_ifr (jt_not (jt_e (jb_e (je_call_t c_is_ring (hr.mono (by decide)) (ja_cons_t (jb_var 0) ja_nil))))) (jn_ret je_bl) (jn_c (Γ1 := fun (gap_2 : (Int × Int)) => [.b g.1, .b g.2.1, .b g.2.2.1, .v gap_2, .any, .any]) (j1_set 3 (fun (gap_2 : (Int × Int)) => [.b g.1, .b g.2.1, .b g.2.2.1, .v gap_2, .any, .any]) (je_call c_pair_of (hr.mono (by decide)) (ja_cons (jb_e (je_ixl_t (jb_var 0) (jb_e je_int) (fun _ _ => rfl))) (ja_cons (jb_e (je_ixl_t (jb_var 0) (jb_e (je_neg_t (jb_e je_int))) (fun _ _ => rfl))) ja_nil))) sc_is_sound.nd) (fun gap_2 => (jn_ifr (jt_w (jw_or (jt_isob_t (jb_e (je_getdT_t hr.units (jb_kz_t (jb_var 2)) (jb_e (je_var 3)))) (jb_e je_bl)) (jw_or1 (jt_w (jw_and (jt_nindT_t hr.units (jb_e (je_var 3)) (jb_kz_t (jb_var 2))) (jw_and1 (jt_ge_t (jb_e (je_getxT_t hr.units (jb_var 1) (jb_e (je_var 3)) je_int)) (jb_e je_int)))))))) (jn_ret je_bl) (jn_c (Γ1 := fun (open_ones_7 : Int) => [.b g.1, .b g.2.1, .b g.2.2.1, .v gap_2, .v open_ones_7, .any]) (j1_set 4 (fun (open_ones_7 : Int) => [.b g.1, .b g.2.1, .b g.2.2.1, .v gap_2, .v open_ones_7, .any]) (je_intb_t T.n_int (jb_e (je_nindT_t hr.units (jb_e (je_var 3)) (jb_kz_t (jb_var 2))))) sc_is_sound.nd) (fun open_ones_7 => (jn_f (ret := fun a => .rt a) (r := fun v => v) (Γ1 := fun (s12 : Int) => [.b g.1, .b g.2.1, .b g.2.2.1, .v gap_2, .v s12, .any]) (j1_forF (S := Int) (ρ := Bool) (ret := fun a => .rt a) open_ones_7 (fun (s8 : Int) => [.b g.1, .b g.2.1, .b g.2.2.1, .v gap_2, .v s8, .any]) (fun (s8 : Int) (x9 : (Int × Int)) => [.b g.1, .b g.2.1, .b g.2.2.1, .v gap_2, .v s8, .v x9]) PassesOwn.never rfl sub_rfl (ji_list (je_o (jo_call_t c_links_of (hr.mono (by decide)) (ja_cons_t (jb_var 0) ja_nil)))) (fun s8 => jg_name 5 sc_is_sound.nd) (fun s8 x9 => (js_ifr (jt_w (jw_or (jt_isob_t (jb_e (je_getdT_t hr.units (jb_kz_t (jb_var 2)) (jb_e (je_var 5)))) (jb_e je_bl)) (jw_or1 (jt_w (jw_and (jt_nindT_t hr.units (jb_e (je_var 5)) (jb_kz_t (jb_var 2))) (jw_and1 (jt_le_t (jb_e (je_getxT_t hr.units (jb_var 1) (jb_e (je_var 5)) je_int)) (jb_e je_int)))))))) (jn_map_t Fl.rt (jn_ret je_bl)) (js_c (Γ1 := fun (open_ones_10 : Int) => [.b g.1, .b g.2.1, .b g.2.2.1, .v gap_2, .v open_ones_10, .v x9]) (j1_set 4 (fun (open_ones_10 : Int) => [.b g.1, .b g.2.1, .b g.2.2.1, .v gap_2, .v open_ones_10, .v x9]) (je_add_t (jb_e (je_var 4)) (jb_e (je_intb_t T.n_int (jb_e (je_nindT_t hr.units (jb_e (je_var 5)) (jb_kz_t (jb_var 2))))))) sc_is_sound.nd) (fun open_ones_10 => (js_nil (sub_drop 5 (h := sub_rfl)))))))) (fun s12 => (jn_ret (je_gt_t (jb_e (je_var 4)) (jb_e je_int)))))))))))
abbrev s_rings_show : Stmt := topS 7
abbrev n_rings_show : List Str := ["rows", "weights", "decided", "least", "used", "total", "ring", "amount", "pair"]
theorem sc_rings_show : FnScope n_rings_show ["rows", "weights", "decided", "least"] (defScope s_rings_show) := ⟨rfl, rfl, rfl, by decide +kernel, rfl, by decide +kernel, by decide +kernel⟩
def b_rings_show_1 (g : ((List ((List Int) × Int)) × (Dct (Int × Int) Int) × (Kz (Int × Int) Bool) × Int × Unit)) (x4 : ((List Int) × Int)) (s9 : (Dct (Int × Int) Int)) (x18 : (Int × Int)) : (Option (Fl (Dct (Int × Int) Int) Bool)) := (ifM (some (!dHas (g.2.2.1).d.l x18)) (Option.bind (Option.bind (some (((dGet s9.l x18).getD (0 : Int)) + x4.2)) fun (t20 : Int) => Option.bind (some x18) fun (t21 : (Int × Int)) => (dSet s9 t21 t20)) fun (used_19 : (Dct (Int × Int) Int)) => (ifM (Option.bind (dGet used_19.l x18) fun (t23 : Int) => Option.bind (Option.bind (dGet g.2.1.l x18) fun (t22 : Int) => some (iabs t22)) fun (t24 : Int) => some (decide (t24 < t23))) (some (Fl.rt false)) (some (Fl.nx used_19)))) (some (Fl.nx s9)))
def b_rings_show_2 (g : ((List ((List Int) × Int)) × (Dct (Int × Int) Int) × (Kz (Int × Int) Bool) × Int × Unit)) (s3 : (Int × (Dct (Int × Int) Int))) (x4 : ((List Int) × Int)) : (Option (Fl (Int × (Dct (Int × Int) Int)) Bool)) := (ifM (bOr (some (decide (x4.2 < (1 : Int)))) (Option.bind (m_is_sound (x4.1, (g.2.1, (g.2.2.1, ())))) fun (t7 : Bool) => some (!t7))) (some (Fl.rt false)) (Option.bind (some (s3.1 + x4.2)) fun (total_8 : Int) => (thenF (S := (Dct (Int × Int) Int)) (ρ := Bool) (Option.bind (Option.bind (m_links_of (x4.1, ())) fun (t16 : (List (Int × Int))) => Option.bind (Option.bind (Option.bind (Option.bind (atI x4.1 (0 : Int)) fun (t12 : Int) => Option.bind (Option.bind (atI x4.1 (-(1 : Int))) fun (t10 : Int) => Option.bind (some ()) fun (t11 : Unit) => some (t10, t11)) fun (t13 : (Int × Unit)) => some (t12, t13)) m_pair_of) fun (t14 : (Int × Int)) => Option.bind (some ([] : List (Int × Int))) fun (t15 : List (Int × Int)) => some (t14 :: t15)) fun (t17 : (List (Int × Int))) => (lCat t16 t17)) fun (xs25 : List (Int × Int)) => forF (S := (Dct (Int × Int) Int)) (ρ := Bool) (b_rings_show_1 g x4) xs25 s3.2) (fun (s26 : (Dct (Int × Int) Int)) => (some (Fl.nx (total_8, s26)))) (fun v => some (Fl.rt v)) (fun _ => none) (fun _ => none))))
def m_rings_show : (List ((List Int) × Int)) × (Dct (Int × Int) Int) × (Kz (Int × Int) Bool) × Int × Unit → Option Bool := fun (g : (List ((List Int) × Int)) × (Dct (Int × Int) Int) × (Kz (Int × Int) Bool) × Int × Unit) => (Option.bind (some (⟨[]⟩ : (Dct (Int × Int) Int))) fun (used_1 : (Dct (Int × Int) Int)) => (Option.bind (m_lost_by (g.2.1, (g.2.2.1, ()))) fun (total_2 : Int) => (thenF (S := (Int × (Dct (Int × Int) Int))) (ρ := Bool) (Option.bind (some g.1) fun (xs27 : List ((List Int) × Int)) => forF (S := (Int × (Dct (Int × Int) Int))) (ρ := Bool) (b_rings_show_2 g) xs27 (total_2, used_1)) (fun (s28 : (Int × (Dct (Int × Int) Int))) => (some (decide (g.2.2.2.1 ≤ s28.1)))) (fun v => some v) (fun _ => none) (fun _ => none))))
theorem ok_rings_show {f : Addr} {fd : FuncData} (F : Fun K "rings_show" "rings_show" s_rings_show f fd) (T : Txt P w K mg base) (c_lost_by : Cal P w K mg base CX0 1 "lost_by" ["weights", "decided"] (spV K m_lost_by)) (c_is_sound : Cal P w K mg base CX0 3 "is_sound" ["ring", "weights", "decided"] (spV K m_is_sound)) (c_links_of : Cal P w K mg base CX0 2 "links_of" ["ring"] (spO K m_links_of)) (c_pair_of : Cal P w K mg base CX0 1 "pair_of" ["one", "other"] (spV K m_pair_of)) : FnOk P w K mg base CX0 4 f fd ["rows", "weights", "decided", "least"] (spV K m_rings_show) := by
  refine fn_v F sc_rings_show (ar4 K) fun cdv A outer s H R E g hr => jn_sub (Γ' := [.b g.1, .b g.2.1, .b g.2.2.1, .b g.2.2.2.1, .any, .any, .any, .any, .any]) sub_rfl ?_
  exact (jn_c (Γ1 := fun (used_1 : (Dct (Int × Int) Int)) => [.b g.1, .b g.2.1, .b g.2.2.1, .b g.2.2.2.1, .own used_1, .any, .any, .any, .any]) (j1_seto 4 (fun (used_1 : (Dct (Int × Int) Int)) => [.b g.1, .b g.2.1, .b g.2.2.1, .b g.2.2.2.1, .own used_1, .any, .any, .any, .any]) jo_dnewT sc_rings_show.nd) (fun used_1 => (jn_c (Γ1 := fun (total_2 : Int) => [.b g.1, .b g.2.1, .b g.2.2.1, .b g.2.2.2.1, .own used_1, .v total_2, .any, .any, .any]) (j1_set 5 (fun (total_2 : Int) => [.b g.1, .b g.2.1, .b g.2.2.1, .b g.2.2.2.1, .own used_1, .v total_2, .any, .any, .any]) (je_call_t c_lost_by (hr.mono (by decide)) (ja_cons_t (jb_var 1) (ja_cons_t (jb_var 2) ja_nil))) sc_rings_show.nd) (fun total_2 => (jn_f (ret := fun a => .rt a) (r := fun v => v) (Γ1 := fun (s28 : (Int × (Dct (Int × Int) Int))) => [.b g.1, .b g.2.1, .b g.2.2.1, .b g.2.2.2.1, .own s28.2, .v s28.1, .any, .any, .any]) (j1_forF (S := (Int × (Dct (Int × Int) Int))) (ρ := Bool) (ret := fun a => .rt a) (total_2, used_1) (fun (s3 : (Int × (Dct (Int × Int) Int))) => [.b g.1, .b g.2.1, .b g.2.2.1, .b g.2.2.2.1, .own s3.2, .v s3.1, .any, .any, .any]) (fun (s3 : (Int × (Dct (Int × Int) Int))) (x4 : ((List Int) × Int)) => [.b g.1, .b g.2.1, .b g.2.2.1, .b g.2.2.2.1, .own s3.2, .v s3.1, .v x4.1, .v x4.2, .any]) PassesOwn.never rfl sub_rfl (ji_param 0) (fun s3 => jg_2 (u1 := fun (u5 : (List Int)) => [.b g.1, .b g.2.1, .b g.2.2.1, .b g.2.2.2.1, .own s3.2, .v s3.1, .v u5, .any, .any]) rfl (jg_name 6 sc_rings_show.nd) (fun u5 => jg_name 7 sc_rings_show.nd)) (fun s3 x4 => (js_ifr (jt_w (jw_or (jt_lt_t (jb_e (je_var 7)) (jb_e je_int)) (jw_or1 (jt_not (jt_e (jb_e (je_call_t c_is_sound (hr.mono (by decide)) (ja_cons_t (jb_e (je_var 6)) (ja_cons_t (jb_var 1) (ja_cons_t (jb_var 2) ja_nil)))))))))) (jn_map_t Fl.rt (jn_ret je_bl)) (js_c (Γ1 := fun (total_8 : Int) => [.b g.1, .b g.2.1, .b g.2.2.1, .b g.2.2.2.1, .own s3.2, .v total_8, .v x4.1, .v x4.2, .any]) (j1_set 5 (fun (total_8 : Int) => [.b g.1, .b g.2.1, .b g.2.2.1, .b g.2.2.2.1, .own s3.2, .v total_8, .v x4.1, .v x4.2, .any]) (je_add_t (jb_e (je_var 5)) (jb_e (je_var 7))) sc_rings_show.nd) (fun total_8 => (js_f (ret := fun a => .rt a) (r := Fl.rt) (Γ1 := fun (s26 : (Dct (Int × Int) Int)) => [.b g.1, .b g.2.1, .b g.2.2.1, .b g.2.2.2.1, .own s26, .v total_8, .v x4.1, .v x4.2, .any]) (j1_forF (S := (Dct (Int × Int) Int)) (ρ := Bool) (ret := fun a => .rt a) s3.2 (fun (s9 : (Dct (Int × Int) Int)) => [.b g.1, .b g.2.1, .b g.2.2.1, .b g.2.2.2.1, .own s9, .v total_8, .v x4.1, .v x4.2, .any]) (fun (s9 : (Dct (Int × Int) Int)) (x18 : (Int × Int)) => [.b g.1, .b g.2.1, .b g.2.2.1, .b g.2.2.2.1, .own s9, .v total_8, .v x4.1, .v x4.2, .v x18]) PassesOwn.never rfl sub_rfl (ji_list (je_o (jo_catl (jb_o (jo_call_t c_links_of (hr.mono (by decide)) (ja_cons_t (jb_e (je_var 6)) ja_nil))) (jb_o (jo_lst (ll_cons (je_call c_pair_of (hr.mono (by decide)) (ja_cons (jb_e (je_ixl_t (jb_e (je_var 6)) (jb_e je_int) (fun _ _ => rfl))) (ja_cons (jb_e (je_ixl_t (jb_e (je_var 6)) (jb_e (je_neg_t (jb_e je_int))) (fun _ _ => rfl))) ja_nil))) ll_nil)))))) (fun s9 => jg_name 8 sc_rings_show.nd) (fun s9 x18 => (js_last (j1_if (jt_nindT_t hr.units (jb_e (je_var 8)) (jb_kz_t (jb_var 2))) (js_c (Γ1 := fun (used_19 : (Dct (Int × Int) Int)) => [.b g.1, .b g.2.1, .b g.2.2.1, .b g.2.2.2.1, .own used_19, .v total_8, .v x4.1, .v x4.2, .v x18]) (j1_dputT 4 (fun (used_19 : (Dct (Int × Int) Int)) => [.b g.1, .b g.2.1, .b g.2.2.1, .b g.2.2.2.1, .own used_19, .v total_8, .v x4.1, .v x4.2, .v x18]) hr.units (je_add_t (jb_e (je_getxT_t hr.units (jb_own 4) (jb_e (je_var 8)) je_int)) (jb_e (je_var 7))) (je_var 8)) (fun used_19 => (js_ifr (jt_gt (jb_e (je_dgetT_t hr.units (jb_own 4) (jb_e (je_var 8)) (fun _ _ => rfl))) (jb_e (je_abs T.n_abs (jb_e (je_dgetT_t hr.units (jb_var 1) (jb_e (je_var 8)) (fun _ _ => rfl)))))) (jn_map_t Fl.rt (jn_ret je_bl)) (js_nil (sub_drop 8 (h := sub_rfl)))))) (js_nil (sub_drop 8 (h := sub_rfl))))))) (fun s26 => (js_nil (sub_drop 6 (h := (sub_drop 7 (h := sub_rfl)))))))))))) (fun s28 => (jn_ret (je_ge_t (jb_e (je_var 5)) (jb_var 3)))))))))
abbrev s_with_pair : Stmt := topS 8
abbrev n_with_pair : List Str := ["decided", "pair", "held", "more"]
theorem sc_with_pair : FnScope n_with_pair ["decided", "pair", "held"] (defScope s_with_pair) := ⟨rfl, rfl, rfl, by decide +kernel, rfl, by decide +kernel, by decide +kernel⟩
def m_with_pair : (Kz (Int × Int) Bool) × (Int × Int) × Bool × Unit → Option (Dct (Int × Int) Bool) := fun (g : (Kz (Int × Int) Bool) × (Int × Int) × Bool × Unit) => (Option.bind (Option.bind (some (g.1).d) fun (t2 : (Dct (Int × Int) Bool)) => dCopy t2) fun (more_1 : (Dct (Int × Int) Bool)) => (Option.bind (Option.bind (some g.2.2.1) fun (t4 : Bool) => Option.bind (some g.2.1) fun (t5 : (Int × Int)) => (dSet more_1 t5 t4)) fun (more_3 : (Dct (Int × Int) Bool)) => (some more_3)))
theorem ok_with_pair {f : Addr} {fd : FuncData} (F : Fun K "with_pair" "with_pair" s_with_pair f fd) (T : Txt P w K mg base)  : FnOk P w K mg base CX0 1 f fd ["decided", "pair", "held"] (spO K m_with_pair) := by
  refine fn_o F sc_with_pair (ar3 K) fun cdv A outer s H R E g hr => jn_sub (Γ' := [.b g.1, .b g.2.1, .b g.2.2.1, .any]) sub_rfl ?_
  exact (jn_c (Γ1 := fun (more_1 : (Dct (Int × Int) Bool)) => [.b g.1, .b g.2.1, .b g.2.2.1, .own more_1]) (j1_seto 3 (fun (more_1 : (Dct (Int × Int) Bool)) => [.b g.1, .b g.2.1, .b g.2.2.1, .own more_1]) (jo_dcpT hr.units (m := (some (g.1).d)) (jb_kz_t (jb_var 0)) T.n_dict) sc_with_pair.nd) (fun more_1 => (jn_c (Γ1 := fun (more_3 : (Dct (Int × Int) Bool)) => [.b g.1, .b g.2.1, .b g.2.2.1, .own more_3]) (j1_dputT 3 (fun (more_3 : (Dct (Int × Int) Bool)) => [.b g.1, .b g.2.1, .b g.2.2.1, .own more_3]) hr.units (je_f (jb_var 2)) (je_f (jb_var 1))) (fun more_3 => (jn_retv 3)))))
abbrev s_walked : Stmt := topS 9
abbrev n_walked : List Str := ["paper", "weights", "decided", "least", "pair"]
theorem sc_walked : FnScope n_walked ["paper", "weights", "decided", "least"] (defScope s_walked) := ⟨rfl, rfl, rfl, by decide +kernel, rfl, by decide +kernel, by decide +kernel⟩
def st_walked (mr : Pap × (Dct (Int × Int) Int) × (Kz (Int × Int) Bool) × Int × Unit → Option Bool) : Pap × (Dct (Int × Int) Int) × (Kz (Int × Int) Bool) × Int × Unit → Option Bool := fun (g : Pap × (Dct (Int × Int) Int) × (Kz (Int × Int) Bool) × Int × Unit) => (ifM (some (decide ((g.1.tag) = ("never" : Str)))) (Option.bind (Option.bind (g.1.nev) fun (t3 : (List Int)) => Option.bind (Option.bind (some g.2.2.1) fun (t1 : (Kz (Int × Int) Bool)) => Option.bind (some ()) fun (t2 : Unit) => some (t1, t2)) fun (t4 : ((Kz (Int × Int) Bool) × Unit)) => some (t3, t4)) m_is_never) (ifM (some (decide ((g.1.tag) = ("rings" : Str)))) (Option.bind (Option.bind (g.1.rgs) fun (t11 : (List ((List Int) × Int))) => Option.bind (Option.bind (some g.2.1) fun (t9 : (Dct (Int × Int) Int)) => Option.bind (Option.bind (some g.2.2.1) fun (t7 : (Kz (Int × Int) Bool)) => Option.bind (Option.bind (some g.2.2.2.1) fun (t5 : Int) => Option.bind (some ()) fun (t6 : Unit) => some (t5, t6)) fun (t8 : (Int × Unit)) => some (t7, t8)) fun (t10 : ((Kz (Int × Int) Bool) × (Int × Unit))) => some (t9, t10)) fun (t12 : ((Dct (Int × Int) Int) × ((Kz (Int × Int) Bool) × (Int × Unit)))) => some (t11, t12)) m_rings_show) (Option.bind (Option.bind (g.1.i1) fun (t14 : Int) => Option.bind (g.1.i2) fun (t15 : Int) => some (t14, t15)) fun (pair_13 : (Int × Int)) => (ifM (bOr (Option.bind (g.1.i1) fun (t16 : Int) => Option.bind (g.1.i2) fun (t17 : Int) => some (decide (t17 ≤ t16))) (some (dHas (g.2.2.1).d.l pair_13))) (some false) (ifM (Option.bind (Option.bind (Option.bind (g.1.s3) fun (t25 : Pap) => Option.bind (Option.bind (some g.2.1) fun (t23 : (Dct (Int × Int) Int)) => Option.bind (Option.bind (Option.bind (m_with_pair (g.2.2.1, (pair_13, (true, ())))) fun (t18 : (Dct (Int × Int) Bool)) => some (⟨t18.l⟩ : (Kz (Int × Int) Bool))) fun (t21 : (Kz (Int × Int) Bool)) => Option.bind (Option.bind (some g.2.2.2.1) fun (t19 : Int) => Option.bind (some ()) fun (t20 : Unit) => some (t19, t20)) fun (t22 : (Int × Unit)) => some (t21, t22)) fun (t24 : ((Kz (Int × Int) Bool) × (Int × Unit))) => some (t23, t24)) fun (t26 : ((Dct (Int × Int) Int) × ((Kz (Int × Int) Bool) × (Int × Unit)))) => some (t25, t26)) mr) fun (t27 : Bool) => some (!t27)) (some false) (Option.bind (Option.bind (g.1.s4) fun (t35 : Pap) => Option.bind (Option.bind (some g.2.1) fun (t33 : (Dct (Int × Int) Int)) => Option.bind (Option.bind (Option.bind (m_with_pair (g.2.2.1, (pair_13, (false, ())))) fun (t28 : (Dct (Int × Int) Bool)) => some (⟨t28.l⟩ : (Kz (Int × Int) Bool))) fun (t31 : (Kz (Int × Int) Bool)) => Option.bind (Option.bind (some g.2.2.2.1) fun (t29 : Int) => Option.bind (some ()) fun (t30 : Unit) => some (t29, t30)) fun (t32 : (Int × Unit)) => some (t31, t32)) fun (t34 : ((Kz (Int × Int) Bool) × (Int × Unit))) => some (t33, t34)) fun (t36 : ((Dct (Int × Int) Int) × ((Kz (Int × Int) Bool) × (Int × Unit)))) => some (t35, t36)) mr))))))
def m_walked : Nat → Pap × (Dct (Int × Int) Int) × (Kz (Int × Int) Bool) × Int × Unit → Option Bool
  | 0 => fun _ => none
  | n + 1 => st_walked (m_walked n)
theorem okS_walked {f : Addr} {fd : FuncData} (F : Fun K "walked" "walked" s_walked f fd) (T : Txt P w K mg base) (c_is_never : Cal P w K mg base CX0 3 "is_never" ["ring", "decided"] (spV K m_is_never)) (c_rings_show : Cal P w K mg base CX0 4 "rings_show" ["rows", "weights", "decided", "least"] (spV K m_rings_show)) (c_with_pair : Cal P w K mg base CX0 1 "with_pair" ["decided", "pair", "held"] (spO K m_with_pair)) {mr : Pap × (Dct (Int × Int) Int) × (Kz (Int × Int) Bool) × Int × Unit → Option Bool} {j : Nat} (hj : 5 ≤ j) (c_walked : Cal P w K mg base CX0 j "walked" ["paper", "weights", "decided", "least"] (spV K mr)) : FnOk P w K mg base CX0 (j + 1) f fd ["paper", "weights", "decided", "least"] (spV K (st_walked mr)) := by
  refine fn_v F sc_walked (ar4 K) fun cdv A outer s H R E g hr => jn_sub (Γ' := [.b g.1, .b g.2.1, .b g.2.2.1, .b g.2.2.2.1, .any]) sub_rfl ?_
  exact (jn_ifr (jt_eq_t (jb_e (je_pap0_t (jb_var 0))) (jb_e je_str)) (jn_ret (je_call c_is_never (hr.mono (Nat.le_trans (by decide) hj)) (ja_cons (jb_e (je_papn_t (jb_var 0))) (ja_cons (jb_var 2) ja_nil)))) (jn_ifr (jt_eq_t (jb_e (je_pap0_t (jb_var 0))) (jb_e je_str)) (jn_ret (je_call c_rings_show (hr.mono (Nat.le_trans (by decide) hj)) (ja_cons (jb_e (je_papr_t (jb_var 0))) (ja_cons (jb_var 1) (ja_cons (jb_var 2) (ja_cons (jb_var 3) ja_nil)))))) (jn_c (Γ1 := fun (pair_13 : (Int × Int)) => [.b g.1, .b g.2.1, .b g.2.2.1, .b g.2.2.2.1, .v pair_13]) (j1_set 4 (fun (pair_13 : (Int × Int)) => [.b g.1, .b g.2.1, .b g.2.2.1, .b g.2.2.2.1, .v pair_13]) (je_tup2 (je_pap1_t (jb_var 0)) (je_pap2_t (jb_var 0))) sc_walked.nd) (fun pair_13 => (jn_ifr (jt_w (jw_or (jt_ge (jb_e (je_pap1_t (jb_var 0))) (jb_e (je_pap2_t (jb_var 0)))) (jw_or1 (jt_indT_t hr.units (jb_e (je_var 4)) (jb_kz_t (jb_var 2)))))) (jn_ret je_bl) (jn_ifr (jt_not (jt_e (jb_e (je_call c_walked hr (ja_cons (jb_e (je_pap3_t (jb_var 0))) (ja_cons (jb_var 1) (ja_cons (jb_e (je_oz (jo_call_t c_with_pair (hr.mono (Nat.le_trans (by decide) hj)) (ja_cons_t (jb_var 2) (ja_cons_t (jb_e (je_var 4)) (ja_cons_t (jb_e je_bl) ja_nil)))))) (ja_cons (jb_var 3) ja_nil)))))))) (jn_ret je_bl) (jn_ret (je_call c_walked hr (ja_cons (jb_e (je_pap4_t (jb_var 0))) (ja_cons (jb_var 1) (ja_cons (jb_e (je_oz (jo_call_t c_with_pair (hr.mono (Nat.le_trans (by decide) hj)) (ja_cons_t (jb_var 2) (ja_cons_t (jb_e (je_var 4)) (ja_cons_t (jb_e je_bl) ja_nil)))))) (ja_cons (jb_var 3) ja_nil))))))))))))
theorem ok_walked {f : Addr} {fd : FuncData} (F : Fun K "walked" "walked" s_walked f fd) (T : Txt P w K mg base) (c_is_never : Cal P w K mg base CX0 3 "is_never" ["ring", "decided"] (spV K m_is_never)) (c_rings_show : Cal P w K mg base CX0 4 "rings_show" ["rows", "weights", "decided", "least"] (spV K m_rings_show)) (c_with_pair : Cal P w K mg base CX0 1 "with_pair" ["decided", "pair", "held"] (spO K m_with_pair)) (mkc : ∀ (j : Nat) (sp : Sp), FnOk P w K mg base CX0 j f fd ["paper", "weights", "decided", "least"] sp → Cal P w K mg base CX0 j "walked" ["paper", "weights", "decided", "least"] sp) : ∀ n : Nat, FnOk P w K mg base CX0 (5 + n) f fd ["paper", "weights", "decided", "least"] (spV K (m_walked n))
  | 0 => by
    refine fn_v (k := 4) F sc_walked (ar4 K) fun cdv A outer s H R E g hr => jn_sub (Γ' := [.b g.1, .b g.2.1, .b g.2.2.1, .b g.2.2.2.1, .any]) sub_rfl ?_
    exact jn_never
  | n + 1 => okS_walked F T c_is_never c_rings_show c_with_pair (Nat.le_add_right 5 n) (mkc _ _ (ok_walked F T c_is_never c_rings_show c_with_pair mkc n))
abbrev s_is_shown : Stmt := topS 10
abbrev n_is_shown : List Str := ["paper", "many", "pairs", "aparts", "least", "weights", "i", "j", "weight", "decided", "pair"]
theorem sc_is_shown : FnScope n_is_shown ["paper", "many", "pairs", "aparts", "least"] (defScope s_is_shown) := ⟨rfl, rfl, rfl, by decide +kernel, rfl, by decide +kernel, by decide +kernel⟩
def b_is_shown_1  (s13 : (Dct (Int × Int) Bool)) (x14 : (Int × Int)) : (Option (Dct (Int × Int) Bool)) := (Option.bind (Option.bind (some false) fun (t16 : Bool) => Option.bind (some x14) fun (t17 : (Int × Int)) => (dSet s13 t17 t16)) fun (decided_15 : (Dct (Int × Int) Bool)) => (some decided_15))
def b_is_shown_2  (s2 : (Dct (Int × Int) Int)) (x3 : (T3 Int Int Int)) : (Option (Dct (Int × Int) Int)) := (Option.bind (Option.bind (some x3.c) fun (t8 : Int) => Option.bind (some (x3.a, x3.b)) fun (t9 : (Int × Int)) => (dSet s2 t9 t8)) fun (weights_7 : (Dct (Int × Int) Int)) => (some weights_7))
def m_is_shown : Pap × Int × (List (T3 Int Int Int)) × (List (Int × Int)) × Int × Unit → Option Bool := fun (g : Pap × Int × (List (T3 Int Int Int)) × (List (Int × Int)) × Int × Unit) => (Option.bind (some (⟨[]⟩ : (Dct (Int × Int) Int))) fun (weights_1 : (Dct (Int × Int) Int)) => (Option.bind (Option.bind (some g.2.2.1) fun (xs10 : List (T3 Int Int Int)) => forS (S := (Dct (Int × Int) Int)) (b_is_shown_2) xs10 weights_1) fun (s11 : (Dct (Int × Int) Int)) => (Option.bind (some (⟨[]⟩ : (Dct (Int × Int) Bool))) fun (decided_12 : (Dct (Int × Int) Bool)) => (Option.bind (Option.bind (some g.2.2.2.1) fun (xs18 : List (Int × Int)) => forS (S := (Dct (Int × Int) Bool)) (b_is_shown_1) xs18 decided_12) fun (s19 : (Dct (Int × Int) Bool)) => ((m_walked 9) (g.1, (s11, ((⟨s19.l⟩ : Kz (Int × Int) Bool), (g.2.2.2.2.1, ())))))))))
theorem ok_is_shown {f : Addr} {fd : FuncData} (F : Fun K "is_shown" "is_shown" s_is_shown f fd) (T : Txt P w K mg base) (c_walked : Cal P w K mg base CX0 14 "walked" ["paper", "weights", "decided", "least"] (spV K (m_walked 9))) : FnOk P w K mg base CX0 15 f fd ["paper", "many", "pairs", "aparts", "least"] (spV K m_is_shown) := by
  refine fn_v F sc_is_shown (ar5 K) fun cdv A outer s H R E g hr => jn_sub (Γ' := [.b g.1, .b g.2.1, .b g.2.2.1, .b g.2.2.2.1, .b g.2.2.2.2.1, .any, .any, .any, .any, .any, .any]) sub_rfl ?_
  exact (jn_c (Γ1 := fun (weights_1 : (Dct (Int × Int) Int)) => [.b g.1, .b g.2.1, .b g.2.2.1, .b g.2.2.2.1, .b g.2.2.2.2.1, .own weights_1, .any, .any, .any, .any, .any]) (j1_seto 5 (fun (weights_1 : (Dct (Int × Int) Int)) => [.b g.1, .b g.2.1, .b g.2.2.1, .b g.2.2.2.1, .b g.2.2.2.2.1, .own weights_1, .any, .any, .any, .any, .any]) jo_dnewT sc_is_shown.nd) (fun weights_1 => (jn_c (Γ1 := fun (s11 : (Dct (Int × Int) Int)) => [.b g.1, .b g.2.1, .b g.2.2.1, .b g.2.2.2.1, .b g.2.2.2.2.1, .own s11, .any, .any, .any, .any, .any]) (j1_for (S := (Dct (Int × Int) Int)) weights_1 (fun (s2 : (Dct (Int × Int) Int)) => [.b g.1, .b g.2.1, .b g.2.2.1, .b g.2.2.2.1, .b g.2.2.2.2.1, .own s2, .any, .any, .any, .any, .any]) (fun (s2 : (Dct (Int × Int) Int)) (x3 : (T3 Int Int Int)) => [.b g.1, .b g.2.1, .b g.2.2.1, .b g.2.2.2.1, .b g.2.2.2.2.1, .own s2, .v x3.a, .v x3.b, .v x3.c, .any, .any]) PassesOwn.never rfl sub_rfl (ji_param 2) (fun s2 => jg_3 (u1 := fun (u4 : Int) => [.b g.1, .b g.2.1, .b g.2.2.1, .b g.2.2.2.1, .b g.2.2.2.2.1, .own s2, .v u4, .any, .any, .any, .any]) (u2 := fun (u4 : Int) (u5 : Int) => [.b g.1, .b g.2.1, .b g.2.2.1, .b g.2.2.2.1, .b g.2.2.2.2.1, .own s2, .v u4, .v u5, .any, .any, .any]) rfl (jg_name 6 sc_is_shown.nd) (fun u4 => jg_name 7 sc_is_shown.nd) (fun u4 u5 => jg_name 8 sc_is_shown.nd)) (fun s2 x3 => (js_c (Γ1 := fun (weights_7 : (Dct (Int × Int) Int)) => [.b g.1, .b g.2.1, .b g.2.2.1, .b g.2.2.2.1, .b g.2.2.2.2.1, .own weights_7, .v x3.a, .v x3.b, .v x3.c, .any, .any]) (j1_dputT 5 (fun (weights_7 : (Dct (Int × Int) Int)) => [.b g.1, .b g.2.1, .b g.2.2.1, .b g.2.2.2.1, .b g.2.2.2.2.1, .own weights_7, .v x3.a, .v x3.b, .v x3.c, .any, .any]) hr.units (je_var 8) (je_tup2_t (je_var 6) (je_var 7))) (fun weights_7 => (js_nil (sub_drop 6 (h := (sub_drop 7 (h := (sub_drop 8 (h := sub_rfl))))))))))) (fun s11 => (jn_c (Γ1 := fun (decided_12 : (Dct (Int × Int) Bool)) => [.b g.1, .b g.2.1, .b g.2.2.1, .b g.2.2.2.1, .b g.2.2.2.2.1, .own s11, .any, .any, .any, .own decided_12, .any]) (j1_seto 9 (fun (decided_12 : (Dct (Int × Int) Bool)) => [.b g.1, .b g.2.1, .b g.2.2.1, .b g.2.2.2.1, .b g.2.2.2.2.1, .own s11, .any, .any, .any, .own decided_12, .any]) jo_dnewT sc_is_shown.nd) (fun decided_12 => (jn_c (Γ1 := fun (s19 : (Dct (Int × Int) Bool)) => [.b g.1, .b g.2.1, .b g.2.2.1, .b g.2.2.2.1, .b g.2.2.2.2.1, .own s11, .any, .any, .any, .own s19, .any]) (j1_for (S := (Dct (Int × Int) Bool)) decided_12 (fun (s13 : (Dct (Int × Int) Bool)) => [.b g.1, .b g.2.1, .b g.2.2.1, .b g.2.2.2.1, .b g.2.2.2.2.1, .own s11, .any, .any, .any, .own s13, .any]) (fun (s13 : (Dct (Int × Int) Bool)) (x14 : (Int × Int)) => [.b g.1, .b g.2.1, .b g.2.2.1, .b g.2.2.2.1, .b g.2.2.2.2.1, .own s11, .any, .any, .any, .own s13, .v x14]) PassesOwn.never rfl sub_rfl (ji_param 3) (fun s13 => jg_name 10 sc_is_shown.nd) (fun s13 x14 => (js_c (Γ1 := fun (decided_15 : (Dct (Int × Int) Bool)) => [.b g.1, .b g.2.1, .b g.2.2.1, .b g.2.2.2.1, .b g.2.2.2.2.1, .own s11, .any, .any, .any, .own decided_15, .v x14]) (j1_dputT 9 (fun (decided_15 : (Dct (Int × Int) Bool)) => [.b g.1, .b g.2.1, .b g.2.2.1, .b g.2.2.2.1, .b g.2.2.2.2.1, .own s11, .any, .any, .any, .own decided_15, .v x14]) hr.units je_bl (je_var 10)) (fun decided_15 => (js_nil (sub_drop 10 (h := sub_rfl))))))) (fun s19 => (jn_fzz 9 (jn_ret (je_call_t c_walked (hr.mono (by decide)) (ja_cons_t (jb_var 0) (ja_cons_t (jb_own 5) (ja_cons_t (jb_e (je_var 9)) (ja_cons_t (jb_var 4) ja_nil)))))))))))))))
abbrev s_law : Stmt := topS 23
abbrev n_law : List Str := ["_law_script", "_law_many", "_law_ring_here", "_law_weights_here", "_law_k", "_law_cell", "_law_pair_here", "_law_pairs", "_law_first", "_law_start", "_law_gap", "_law_aparts", "_law_told_here", "_law_paper_here", "_law_least", "_law_due", "_law_rows", "_law_found", "_law_link"]
theorem sc_law : FnScope n_law ["_law_script"] (defScope s_law) := ⟨rfl, rfl, rfl, by decide +kernel, rfl, by decide +kernel, by decide +kernel⟩
def b_law_1 (s25 : (Dct (Int × Int) Int)) (x66 : (Int × Int)) : (Option (T3 Int Int Int)) := (Option.bind (some x66.1) fun (t67 : Int) => Option.bind (some x66.2) fun (t68 : Int) => Option.bind (dGet s25.l x66) fun (t69 : Int) => some (⟨t67, t68, t69⟩ : (T3 Int Int Int)))
def b_law_2 (g : (Scr × Unit)) (many_1 : Int) (s11 : (Dct (Int × Int) Int)) (x12 : Int) : (Option (Dct (Int × Int) Int)) := (Option.bind (m__law_cell_at (g.1, (((4 : Int) + x12), ()))) fun (cell_13 : Int) => (Option.bind (Option.bind (Option.bind (imod cell_13 many_1) fun (t17 : Int) => Option.bind (Option.bind (imod (cell_13 / 8) many_1) fun (t15 : Int) => Option.bind (some ()) fun (t16 : Unit) => some (t15, t16)) fun (t18 : (Int × Unit)) => some (t17, t18)) m__law_pair) fun (pair_here_14 : (Int × Int)) => (ifM (some (decide (pair_here_14.1 < pair_here_14.2))) (Option.bind (Option.bind (Option.bind (atI [(1 : Int), (-(1 : Int))] ((cell_13 / 64) % 2)) fun (t19 : Int) => Option.bind (some ((1 : Int) + ((cell_13 / 128) % (1000000000000000000000000000000 : Int)))) fun (t20 : Int) => (imul t19 t20)) fun (t22 : Int) => Option.bind (some pair_here_14) fun (t23 : (Int × Int)) => (dSet s11 t23 t22)) fun (weights_here_21 : (Dct (Int × Int) Int)) => (some weights_here_21)) (some s11))))
def m_law : Scr × Unit → Option Bool := fun (g : Scr × Unit) => (Option.bind (Option.bind (some (3 : Int)) fun (t3 : Int) => Option.bind (Option.bind (m__law_cell_at (g.1, ((0 : Int), ()))) fun (t2 : Int) => some (t2 % 4)) fun (t4 : Int) => some (t3 + t4)) fun (many_1 : Int) => (Option.bind (Option.bind (Option.bind (some many_1) fun (t8 : Int) => Option.bind (Option.bind (m__law_cell_at (g.1, ((1 : Int), ()))) fun (t6 : Int) => Option.bind (some ()) fun (t7 : Unit) => some (t6, t7)) fun (t9 : (Int × Unit)) => some (t8, t9)) m__law_ring_drawn) fun (ring_here_5 : (List Int)) => (Option.bind (some (⟨[]⟩ : (Dct (Int × Int) Int))) fun (weights_here_10 : (Dct (Int × Int) Int)) => (Option.bind (Option.bind (range1 (10 : Int)) fun (xs24 : List Int) => forS (S := (Dct (Int × Int) Int)) (b_law_2 g many_1) xs24 weights_here_10) fun (s25 : (Dct (Int × Int) Int)) => (Option.bind (Option.bind (m__law_links (ring_here_5, ())) fun (xs28 : List (Int × Int)) => lcG (fun (x27 : (Int × Int)) => (some true)) (fun (x27 : (Int × Int)) => (some (⟨x27.1, x27.2, true⟩ : (T3 Int Int Bool)))) xs28) fun (pairs_26 : (List (T3 Int Int Bool))) => (Option.bind (m__law_cell_at (g.1, ((2 : Int), ()))) fun (first_29 : Int) => (Option.bind (imod first_29 (pairs_26.length : Int)) fun (start_30 : Int) => (Option.bind (lCat (cutA pairs_26 (some start_30) none) (cutA pairs_26 none (some start_30))) fun (pairs_31 : (List (T3 Int Int Bool))) => (Option.bind (Option.bind (Option.bind (atI ring_here_5 (0 : Int)) fun (t35 : Int) => Option.bind (Option.bind (atI ring_here_5 (-(1 : Int))) fun (t33 : Int) => Option.bind (some ()) fun (t34 : Unit) => some (t33, t34)) fun (t36 : (Int × Unit)) => some (t35, t36)) m__law_pair) fun (gap_32 : (Int × Int)) => (Option.bind (some ([] : (List (Int × Int)))) fun (aparts_37 : (List (Int × Int))) => (Option.bind (ifM (some (decide (((first_29 / 8) % 2) = (1 : Int)))) (Option.bind (some [gap_32]) fun (aparts_39 : (List (Int × Int))) => (some (aparts_39, pairs_31))) (Option.bind (Option.bind (some (⟨gap_32.1, gap_32.2, false⟩ : (T3 Int Int Bool))) fun (t41 : (T3 Int Int Bool)) => (lApp pairs_31 t41)) fun (pairs_40 : (List (T3 Int Int Bool))) => (some (aparts_37, pairs_40)))) fun (s38 : ((List (Int × Int)) × (List (T3 Int Int Bool)))) => (Option.bind (ifM (some (decide (((first_29 / 16) % 4) = (1 : Int)))) (Option.bind (Option.bind (imod (first_29 / 64) (s38.2.length : Int)) fun (t44 : Int) => popAt s38.2 t44) fun (_law_pairs_43 : (List (T3 Int Int Bool))) => (some _law_pairs_43)) (some s38.2)) fun (s42 : (List (T3 Int Int Bool))) => (Option.bind (Option.bind (Option.bind (some ring_here_5) fun (t48 : (List Int)) => Option.bind (Option.bind (m__law_cell_at (g.1, ((3 : Int), ()))) fun (t46 : Int) => Option.bind (some ()) fun (t47 : Unit) => some (t46, t47)) fun (t49 : (Int × Unit)) => some (t48, t49)) m__law_told) fun (told_here_45 : (List Int)) => (Option.bind (m__law_paper (ring_here_5, ((⟨told_here_45⟩ : (Fz (List Int))), (s42, ())))) fun (paper_here_50 : Pap) => (Option.bind (Option.bind (some [(0 : Int), (0 : Int), (1 : Int), (-(1 : Int))]) fun (t53 : (List Int)) => Option.bind (Option.bind (m__law_cell_at (g.1, ((14 : Int), ()))) fun (t52 : Int) => some (t52 % 4)) fun (t54 : Int) => (atI t53 t54)) fun (least_51 : Int) => (Option.bind (Option.bind (Option.bind (some paper_here_50) fun (t63 : Pap) => Option.bind (Option.bind (some s25) fun (t61 : (Dct (Int × Int) Int)) => Option.bind (Option.bind (Option.bind (m__law_decided (s38.1, ())) fun (t56 : (Dct (Int × Int) Bool)) => some (⟨t56.l⟩ : (Kz (Int × Int) Bool))) fun (t59 : (Kz (Int × Int) Bool)) => Option.bind (Option.bind (some least_51) fun (t57 : Int) => Option.bind (some ()) fun (t58 : Unit) => some (t57, t58)) fun (t60 : (Int × Unit)) => some (t59, t60)) fun (t62 : ((Kz (Int × Int) Bool) × (Int × Unit))) => some (t61, t62)) fun (t64 : ((Dct (Int × Int) Int) × ((Kz (Int × Int) Bool) × (Int × Unit)))) => some (t63, t64)) (m__law_judge 9)) fun (due_55 : Bool) => (ifM (bAnd (some (decide (told_here_45 = ring_here_5))) (bAnd (some (!decide (((first_29 / 16) % 4) = (1 : Int)))) (bAnd (some (decide (least_51 ≤ (0 : Int)))) (some (!due_55))))) (some false) (Option.bind (Option.bind (sSort (s25.l.map (·.1))) fun (xs70 : List (Int × Int)) => lcG (fun (x66 : (Int × Int)) => (some true)) (b_law_1 s25) xs70) fun (rows_65 : (List (T3 Int Int Int))) => (Option.bind (m_is_shown (paper_here_50, (many_1, (rows_65, (s38.1, (least_51, ())))))) fun (found_71 : Bool) => (bAnd (some true) (some (decide (found_71 = due_55)))))))))))))))))))))))
theorem ok_law {f : Addr} {fd : FuncData} (F : Fun K "law" "law" s_law f fd) (T : Txt P w K mg base) (c__law_cell_at : Cal P w K mg base CX0 1 "_law_cell_at" ["_law_script", "_law_k"] (spV K m__law_cell_at)) (c__law_ring_drawn : Cal P w K mg base CX0 1 "_law_ring_drawn" ["_law_many", "_law_cell"] (spO K m__law_ring_drawn)) (c__law_pair : Cal P w K mg base CX0 1 "_law_pair" ["_law_one", "_law_other"] (spV K m__law_pair)) (c__law_links : Cal P w K mg base CX0 2 "_law_links" ["_law_ring_here"] (spO K m__law_links)) (c__law_told : Cal P w K mg base CX0 1 "_law_told" ["_law_ring_here", "_law_cell"] (spV K m__law_told)) (c__law_paper : Cal P w K mg base CX0 1 "_law_paper" ["_law_ring_here", "_law_told_here", "_law_pairs"] (spV K m__law_paper)) (c__law_decided : Cal P w K mg base CX0 1 "_law_decided" ["_law_aparts"] (spO K m__law_decided)) (c__law_judge : Cal P w K mg base CX0 14 "_law_judge" ["_law_paper_here", "_law_weights_here", "_law_decided_here", "_law_least"] (spV K (m__law_judge 9))) (c_is_shown : Cal P w K mg base CX0 15 "is_shown" ["paper", "many", "pairs", "aparts", "least"] (spV K m_is_shown)) : FnOk P w K mg base CX0 16 f fd ["_law_script"] (spV K m_law) := by
  refine fn_v F sc_law (ar1 K) fun cdv A outer s H R E g hr => jn_sub (Γ' := [.b g.1, .any, .any, .any, .any, .any, .any, .any, .any, .any, .any, .any, .any, .any, .any, .any, .any, .any, .any]) sub_rfl ?_
  exact (jn_c (Γ1 := fun (many_1 : Int) => [.b g.1, .v many_1, .any, .any, .any, .any, .any, .any, .any, .any, .any, .any, .any, .any, .any, .any, .any, .any, .any]) (j1_set 1 (fun (many_1 : Int) => [.b g.1, .v many_1, .any, .any, .any, .any, .any, .any, .any, .any, .any, .any, .any, .any, .any, .any, .any, .any, .any]) (je_add (jb_e je_int) (jb_e (je_modc (jb_e (je_call_t c__law_cell_at (hr.mono (by decide)) (ja_cons_t (jb_var 0) (ja_cons_t (jb_e je_int) ja_nil))))))) sc_law.nd) (fun many_1 => (jn_c (Γ1 := fun (ring_here_5 : (List Int)) => [.b g.1, .v many_1, .own ring_here_5, .any, .any, .any, .any, .any, .any, .any, .any, .any, .any, .any, .any, .any, .any, .any, .any]) (j1_seto 2 (fun (ring_here_5 : (List Int)) => [.b g.1, .v many_1, .own ring_here_5, .any, .any, .any, .any, .any, .any, .any, .any, .any, .any, .any, .any, .any, .any, .any, .any]) (jo_call c__law_ring_drawn (hr.mono (by decide)) (ja_cons (jb_e (je_var 1)) (ja_cons (jb_e (je_call_t c__law_cell_at (hr.mono (by decide)) (ja_cons_t (jb_var 0) (ja_cons_t (jb_e je_int) ja_nil)))) ja_nil))) sc_law.nd) (fun ring_here_5 => (jn_c (Γ1 := fun (weights_here_10 : (Dct (Int × Int) Int)) => [.b g.1, .v many_1, .own ring_here_5, .own weights_here_10, .any, .any, .any, .any, .any, .any, .any, .any, .any, .any, .any, .any, .any, .any, .any]) (j1_seto 3 (fun (weights_here_10 : (Dct (Int × Int) Int)) => [.b g.1, .v many_1, .own ring_here_5, .own weights_here_10, .any, .any, .any, .any, .any, .any, .any, .any, .any, .any, .any, .any, .any, .any, .any]) jo_dnewT sc_law.nd) (fun weights_here_10 => (jn_c (Γ1 := fun (s25 : (Dct (Int × Int) Int)) => [.b g.1, .v many_1, .own ring_here_5, .own s25, .any, .any, .any, .any, .any, .any, .any, .any, .any, .any, .any, .any, .any, .any, .any]) (j1_for (S := (Dct (Int × Int) Int)) weights_here_10 (fun (s11 : (Dct (Int × Int) Int)) => [.b g.1, .v many_1, .own ring_here_5, .own s11, .any, .any, .any, .any, .any, .any, .any, .any, .any, .any, .any, .any, .any, .any, .any]) (fun (s11 : (Dct (Int × Int) Int)) (x12 : Int) => [.b g.1, .v many_1, .own ring_here_5, .own s11, .v x12, .any, .any, .any, .any, .any, .any, .any, .any, .any, .any, .any, .any, .any, .any]) PassesOwn.never rfl sub_rfl (ji_range1_t T.n_range (jb_e je_int)) (fun s11 => jg_name 4 sc_law.nd) (fun s11 x12 => (js_c (Γ1 := fun (cell_13 : Int) => [.b g.1, .v many_1, .own ring_here_5, .own s11, .v x12, .v cell_13, .any, .any, .any, .any, .any, .any, .any, .any, .any, .any, .any, .any, .any]) (j1_set 5 (fun (cell_13 : Int) => [.b g.1, .v many_1, .own ring_here_5, .own s11, .v x12, .v cell_13, .any, .any, .any, .any, .any, .any, .any, .any, .any, .any, .any, .any, .any]) (je_call_t c__law_cell_at (hr.mono (by decide)) (ja_cons_t (jb_var 0) (ja_cons_t (jb_e (je_add_t (jb_e je_int) (jb_e (je_var 4)))) ja_nil))) sc_law.nd) (fun cell_13 => (js_c (Γ1 := fun (pair_here_14 : (Int × Int)) => [.b g.1, .v many_1, .own ring_here_5, .own s11, .v x12, .v cell_13, .v pair_here_14, .any, .any, .any, .any, .any, .any, .any, .any, .any, .any, .any, .any]) (j1_set 6 (fun (pair_here_14 : (Int × Int)) => [.b g.1, .v many_1, .own ring_here_5, .own s11, .v x12, .v cell_13, .v pair_here_14, .any, .any, .any, .any, .any, .any, .any, .any, .any, .any, .any, .any]) (je_call c__law_pair (hr.mono (by decide)) (ja_cons (jb_e (je_mod_t (jb_e (je_var 5)) (jb_e (je_var 1)))) (ja_cons (jb_e (je_mod_t (jb_e (je_fdivc_t (jb_e (je_var 5)))) (jb_e (je_var 1)))) ja_nil))) sc_law.nd) (fun pair_here_14 => (js_last (j1_if (jt_lt_t (jb_e (je_ixt20_t (jb_e (je_var 6)))) (jb_e (je_ixt21_t (jb_e (je_var 6))))) (js_c (Γ1 := fun (weights_here_21 : (Dct (Int × Int) Int)) => [.b g.1, .v many_1, .own ring_here_5, .own weights_here_21, .v x12, .v cell_13, .v pair_here_14, .any, .any, .any, .any, .any, .any, .any, .any, .any, .any, .any, .any]) (j1_dputT 3 (fun (weights_here_21 : (Dct (Int × Int) Int)) => [.b g.1, .v many_1, .own ring_here_5, .own weights_here_21, .v x12, .v cell_13, .v pair_here_14, .any, .any, .any, .any, .any, .any, .any, .any, .any, .any, .any, .any]) hr.units (je_mul (jb_e (je_ixl_t (jb_o (jo_lst (ll_cons_t je_int (ll_cons_t (je_neg_t (jb_e je_int)) ll_nil)))) (jb_e (je_modc_t (jb_e (je_fdivc_t (jb_e (je_var 5)))))) (fun _ _ => rfl))) (jb_e (je_add_t (jb_e je_int) (jb_e (je_modp_t (jb_e (je_fdivc_t (jb_e (je_var 5)))) (jb_e je_powc)))))) (je_var 6)) (fun weights_here_21 => (js_nil (sub_drop 4 (h := (sub_drop 5 (h := (sub_drop 6 (h := sub_rfl))))))))) (js_nil (sub_drop 4 (h := (sub_drop 5 (h := (sub_drop 6 (h := sub_rfl))))))))))))))) (fun s25 => (jn_c (Γ1 := fun (pairs_26 : (List (T3 Int Int Bool))) => [.b g.1, .v many_1, .own ring_here_5, .own s25, .any, .any, .any, .own pairs_26, .any, .any, .any, .any, .any, .any, .any, .any, .any, .any, .any]) (j1_setlc 7 (fun (pairs_26 : (List (T3 Int Int Bool))) => [.b g.1, .v many_1, .own ring_here_5, .own s25, .any, .any, .any, .own pairs_26, .any, .any, .any, .any, .any, .any, .any, .any, .any, .any, .any]) (own := [("_law_link", 18)]) (ts := [18]) [.b g.1, .v many_1, .own ring_here_5, .own s25, .any, .any, .any, .any, .any, .any, .any, .any, .any, .any, .any, .any, .any, .any, .any] (fun (x27 : (Int × Int)) => [.b g.1, .v many_1, .own ring_here_5, .own s25, .any, .any, .any, .any, .any, .any, .any, .any, .any, .any, .any, .any, .any, .any, .v x27]) rfl sc_law.nd (ji_list (je_o (jo_call_t c__law_links (hr.mono (by decide)) (ja_cons_t (jb_own 2) ja_nil)))) (blkOk_by (N := n_law) (sc := defScope s_law) (by decide +kernel)) rfl (fun q => jg_name 18 sc_law.nd) (fun q x27 => jts_nil) (fun q x27 => (je_tup3_t (je_ixt20_t (jb_e (je_var 18))) (je_ixt21_t (jb_e (je_var 18))) je_bl))) (fun pairs_26 => (jn_c (Γ1 := fun (first_29 : Int) => [.b g.1, .v many_1, .own ring_here_5, .own s25, .any, .any, .any, .own pairs_26, .v first_29, .any, .any, .any, .any, .any, .any, .any, .any, .any, .any]) (j1_set 8 (fun (first_29 : Int) => [.b g.1, .v many_1, .own ring_here_5, .own s25, .any, .any, .any, .own pairs_26, .v first_29, .any, .any, .any, .any, .any, .any, .any, .any, .any, .any]) (je_call_t c__law_cell_at (hr.mono (by decide)) (ja_cons_t (jb_var 0) (ja_cons_t (jb_e je_int) ja_nil))) sc_law.nd) (fun first_29 => (jn_c (Γ1 := fun (start_30 : Int) => [.b g.1, .v many_1, .own ring_here_5, .own s25, .any, .any, .any, .own pairs_26, .v first_29, .v start_30, .any, .any, .any, .any, .any, .any, .any, .any, .any]) (j1_set 9 (fun (start_30 : Int) => [.b g.1, .v many_1, .own ring_here_5, .own s25, .any, .any, .any, .own pairs_26, .v first_29, .v start_30, .any, .any, .any, .any, .any, .any, .any, .any, .any]) (je_mod_t (jb_e (je_var 8)) (jb_e (je_lenl_t T.n_len (jb_own 7)))) sc_law.nd) (fun start_30 => (jn_c (Γ1 := fun (pairs_31 : (List (T3 Int Int Bool))) => [.b g.1, .v many_1, .own ring_here_5, .own s25, .any, .any, .any, .own pairs_31, .v first_29, .v start_30, .any, .any, .any, .any, .any, .any, .any, .any, .any]) (j1_seto 7 (fun (pairs_31 : (List (T3 Int Int Bool))) => [.b g.1, .v many_1, .own ring_here_5, .own s25, .any, .any, .any, .own pairs_31, .v first_29, .v start_30, .any, .any, .any, .any, .any, .any, .any, .any, .any]) (jo_catl_t (jb_o (jo_cutl_t (jb_own 7) (jp_some_t (jb_e (je_var 9))) jp_none)) (jb_o (jo_cutl_t (jb_own 7) jp_none (jp_some_t (jb_e (je_var 9)))))) sc_law.nd) (fun pairs_31 => (jn_c (Γ1 := fun (gap_32 : (Int × Int)) => [.b g.1, .v many_1, .own ring_here_5, .own s25, .any, .any, .any, .own pairs_31, .v first_29, .v start_30, .v gap_32, .any, .any, .any, .any, .any, .any, .any, .any]) (j1_set 10 (fun (gap_32 : (Int × Int)) => [.b g.1, .v many_1, .own ring_here_5, .own s25, .any, .any, .any, .own pairs_31, .v first_29, .v start_30, .v gap_32, .any, .any, .any, .any, .any, .any, .any, .any]) (je_call c__law_pair (hr.mono (by decide)) (ja_cons (jb_e (je_ixl_t (jb_own 2) (jb_e je_int) (fun _ _ => rfl))) (ja_cons (jb_e (je_ixl_t (jb_own 2) (jb_e (je_neg_t (jb_e je_int))) (fun _ _ => rfl))) ja_nil))) sc_law.nd) (fun gap_32 => (jn_c (Γ1 := fun (aparts_37 : (List (Int × Int))) => [.b g.1, .v many_1, .own ring_here_5, .own s25, .any, .any, .any, .own pairs_31, .v first_29, .v start_30, .v gap_32, .own aparts_37, .any, .any, .any, .any, .any, .any, .any]) (j1_seto 11 (fun (aparts_37 : (List (Int × Int))) => [.b g.1, .v many_1, .own ring_here_5, .own s25, .any, .any, .any, .own pairs_31, .v first_29, .v start_30, .v gap_32, .own aparts_37, .any, .any, .any, .any, .any, .any, .any]) jo_nil sc_law.nd) (fun aparts_37 => (jn_c (Γ1 := fun (s38 : ((List (Int × Int)) × (List (T3 Int Int Bool)))) => [.b g.1, .v many_1, .own ring_here_5, .own s25, .any, .any, .any, .own s38.2, .v first_29, .v start_30, .v gap_32, .own s38.1, .any, .any, .any, .any, .any, .any, .any]) (j1_if (jt_eq_t (jb_e (je_modc_t (jb_e (je_fdivc_t (jb_e (je_var 8)))))) (jb_e je_int)) (js_c (Γ1 := fun (aparts_39 : (List (Int × Int))) => [.b g.1, .v many_1, .own ring_here_5, .own s25, .any, .any, .any, .own pairs_31, .v first_29, .v start_30, .v gap_32, .own aparts_39, .any, .any, .any, .any, .any, .any, .any]) (j1_seto 11 (fun (aparts_39 : (List (Int × Int))) => [.b g.1, .v many_1, .own ring_here_5, .own s25, .any, .any, .any, .own pairs_31, .v first_29, .v start_30, .v gap_32, .own aparts_39, .any, .any, .any, .any, .any, .any, .any]) (jo_lst (ll_cons_t (je_var 10) ll_nil)) sc_law.nd) (fun aparts_39 => (js_nil sub_rfl))) (js_c (Γ1 := fun (pairs_40 : (List (T3 Int Int Bool))) => [.b g.1, .v many_1, .own ring_here_5, .own s25, .any, .any, .any, .own pairs_40, .v first_29, .v start_30, .v gap_32, .own aparts_37, .any, .any, .any, .any, .any, .any, .any]) (j1_app 7 (fun (pairs_40 : (List (T3 Int Int Bool))) => [.b g.1, .v many_1, .own ring_here_5, .own s25, .any, .any, .any, .own pairs_40, .v first_29, .v start_30, .v gap_32, .own aparts_37, .any, .any, .any, .any, .any, .any, .any]) (je_tup3_t (je_ixt20_t (jb_e (je_var 10))) (je_ixt21_t (jb_e (je_var 10))) je_bl)) (fun pairs_40 => (js_nil sub_rfl)))) (fun s38 => (jn_c (Γ1 := fun (s42 : (List (T3 Int Int Bool))) => [.b g.1, .v many_1, .own ring_here_5, .own s25, .any, .any, .any, .own s42, .v first_29, .v start_30, .v gap_32, .own s38.1, .any, .any, .any, .any, .any, .any, .any]) (j1_if (jt_eq_t (jb_e (je_modc_t (jb_e (je_fdivc_t (jb_e (je_var 8)))))) (jb_e je_int)) (js_c (Γ1 := fun (_law_pairs_43 : (List (T3 Int Int Bool))) => [.b g.1, .v many_1, .own ring_here_5, .own s25, .any, .any, .any, .own _law_pairs_43, .v first_29, .v start_30, .v gap_32, .own s38.1, .any, .any, .any, .any, .any, .any, .any]) (j1_popl 7 (fun (_law_pairs_43 : (List (T3 Int Int Bool))) => [.b g.1, .v many_1, .own ring_here_5, .own s25, .any, .any, .any, .own _law_pairs_43, .v first_29, .v start_30, .v gap_32, .own s38.1, .any, .any, .any, .any, .any, .any, .any]) (m := (imod (first_29 / 64) (s38.2.length : Int))) (jb_e (je_mod_t (jb_e (je_fdivc_t (jb_e (je_var 8)))) (jb_e (je_lenl_t T.n_len (jb_own 7)))))) (fun _law_pairs_43 => (js_nil sub_rfl))) (js_nil sub_rfl)) (fun s42 => (jn_c (Γ1 := fun (told_here_45 : (List Int)) => [.b g.1, .v many_1, .own ring_here_5, .own s25, .any, .any, .any, .own s42, .v first_29, .v start_30, .v gap_32, .own s38.1, .v told_here_45, .any, .any, .any, .any, .any, .any]) (j1_set 12 (fun (told_here_45 : (List Int)) => [.b g.1, .v many_1, .own ring_here_5, .own s25, .any, .any, .any, .own s42, .v first_29, .v start_30, .v gap_32, .own s38.1, .v told_here_45, .any, .any, .any, .any, .any, .any]) (je_call c__law_told (hr.mono (by decide)) (ja_cons (jb_own 2) (ja_cons (jb_e (je_call_t c__law_cell_at (hr.mono (by decide)) (ja_cons_t (jb_var 0) (ja_cons_t (jb_e je_int) ja_nil)))) ja_nil))) sc_law.nd) (fun told_here_45 => (jn_c (Γ1 := fun (paper_here_50 : Pap) => [.b g.1, .v many_1, .own ring_here_5, .own s25, .any, .any, .any, .own s42, .v first_29, .v start_30, .v gap_32, .own s38.1, .v told_here_45, .v paper_here_50, .any, .any, .any, .any, .any]) (j1_set 13 (fun (paper_here_50 : Pap) => [.b g.1, .v many_1, .own ring_here_5, .own s25, .any, .any, .any, .own s42, .v first_29, .v start_30, .v gap_32, .own s38.1, .v told_here_45, .v paper_here_50, .any, .any, .any, .any, .any]) (je_call_t c__law_paper (hr.mono (by decide)) (ja_cons_t (jb_own 2) (ja_cons_t (jb_fz_t (je_var 12)) (ja_cons_t (jb_own 7) ja_nil)))) sc_law.nd) (fun paper_here_50 => (jn_c (Γ1 := fun (least_51 : Int) => [.b g.1, .v many_1, .own ring_here_5, .own s25, .any, .any, .any, .own s42, .v first_29, .v start_30, .v gap_32, .own s38.1, .v told_here_45, .v paper_here_50, .v least_51, .any, .any, .any, .any]) (j1_set 14 (fun (least_51 : Int) => [.b g.1, .v many_1, .own ring_here_5, .own s25, .any, .any, .any, .own s42, .v first_29, .v start_30, .v gap_32, .own s38.1, .v told_here_45, .v paper_here_50, .v least_51, .any, .any, .any, .any]) (je_ixl (jb_o (jo_lst (ll_cons_t je_int (ll_cons_t je_int (ll_cons_t je_int (ll_cons_t (je_neg_t (jb_e je_int)) ll_nil)))))) (jb_e (je_modc (jb_e (je_call_t c__law_cell_at (hr.mono (by decide)) (ja_cons_t (jb_var 0) (ja_cons_t (jb_e je_int) ja_nil)))))) (fun _ _ => rfl)) sc_law.nd) (fun least_51 => (jn_c (Γ1 := fun (due_55 : Bool) => [.b g.1, .v many_1, .own ring_here_5, .own s25, .any, .any, .any, .own s42, .v first_29, .v start_30, .v gap_32, .own s38.1, .v told_here_45, .v paper_here_50, .v least_51, .v due_55, .any, .any, .any]) (j1_set 15 (fun (due_55 : Bool) => [.b g.1, .v many_1, .own ring_here_5, .own s25, .any, .any, .any, .own s42, .v first_29, .v start_30, .v gap_32, .own s38.1, .v told_here_45, .v paper_here_50, .v least_51, .v due_55, .any, .any, .any]) (je_call c__law_judge (hr.mono (by decide)) (ja_cons (jb_e (je_var 13)) (ja_cons (jb_own 3) (ja_cons (jb_e (je_oz (jo_call_t c__law_decided (hr.mono (by decide)) (ja_cons_t (jb_own 11) ja_nil)))) (ja_cons (jb_e (je_var 14)) ja_nil))))) sc_law.nd) (fun due_55 => (jn_ifr (jt_w (jw_and (jt_eqd_t hr.units (jb_e (je_var 12)) (jb_own 2)) (jw_and (jt_ne_t (jb_e (je_modc_t (jb_e (je_fdivc_t (jb_e (je_var 8)))))) (jb_e je_int)) (jw_and (jt_le_t (jb_e (je_var 14)) (jb_e je_int)) (jw_and1 (jt_not_t (jt_e (jb_e (je_var 15))))))))) (jn_ret je_bl) (jn_c (Γ1 := fun (rows_65 : (List (T3 Int Int Int))) => [.b g.1, .v many_1, .own ring_here_5, .own s25, .any, .any, .any, .own s42, .v first_29, .v start_30, .v gap_32, .own s38.1, .v told_here_45, .v paper_here_50, .v least_51, .v due_55, .own rows_65, .any, .any]) (j1_setlc 16 (fun (rows_65 : (List (T3 Int Int Int))) => [.b g.1, .v many_1, .own ring_here_5, .own s25, .any, .any, .any, .own s42, .v first_29, .v start_30, .v gap_32, .own s38.1, .v told_here_45, .v paper_here_50, .v least_51, .v due_55, .own rows_65, .any, .any]) (own := [("_law_pair_here", 6)]) (ts := [6]) [.b g.1, .v many_1, .own ring_here_5, .own s25, .any, .any, .any, .own s42, .v first_29, .v start_30, .v gap_32, .own s38.1, .v told_here_45, .v paper_here_50, .v least_51, .v due_55, .any, .any, .any] (fun (x66 : (Int × Int)) => [.b g.1, .v many_1, .own ring_here_5, .own s25, .any, .any, .v x66, .own s42, .v first_29, .v start_30, .v gap_32, .own s38.1, .v told_here_45, .v paper_here_50, .v least_51, .v due_55, .any, .any, .any]) rfl sc_law.nd (ji_list (je_o (jo_srtdkT 3 hr.units T.n_sorted))) (blkOk_by (N := n_law) (sc := defScope s_law) (by decide +kernel)) rfl (fun q => jg_name 6 sc_law.nd) (fun q x66 => jts_nil) (fun q x66 => (je_tup3 (je_ixt20_t (jb_e (je_var 6))) (je_ixt21_t (jb_e (je_var 6))) (je_dgetT_t hr.units (jb_own 3) (jb_e (je_var 6)) (fun _ _ => rfl))))) (fun rows_65 => (jn_c (Γ1 := fun (found_71 : Bool) => [.b g.1, .v many_1, .own ring_here_5, .own s25, .any, .any, .any, .own s42, .v first_29, .v start_30, .v gap_32, .own s38.1, .v told_here_45, .v paper_here_50, .v least_51, .v due_55, .own rows_65, .v found_71, .any]) (j1_set 17 (fun (found_71 : Bool) => [.b g.1, .v many_1, .own ring_here_5, .own s25, .any, .any, .any, .own s42, .v first_29, .v start_30, .v gap_32, .own s38.1, .v told_here_45, .v paper_here_50, .v least_51, .v due_55, .own rows_65, .v found_71, .any]) (je_call_t c_is_shown (hr.mono (by decide)) (ja_cons_t (jb_e (je_var 13)) (ja_cons_t (jb_e (je_var 1)) (ja_cons_t (jb_own 16) (ja_cons_t (jb_own 11) (ja_cons_t (jb_e (je_var 14)) ja_nil)))))) sc_law.nd) (fun found_71 => (jn_ret (je_and (jb_e (je_isi_t (Tn := "bool") (nm0 := "bool") true T.n_isinstance T.n_bool (jb_e (je_var 17)))) (je_one (jb_e (je_eq_t (jb_e (je_var 17)) (jb_e (je_var 15))))))))))))))))))))))))))))))))))))))))))))
end
theorem all_mk {l : PySem.W.OpenLaw} {w : World} {K : PySem.W.Frag} {h : Heap} {mg : Str → Option Value} {fa : Addr} (X : K.In h) (G : h.Ns mainGlobals mg) (hfa : mg "law" = some (.ref fa))
    {f1 : Addr} {od1 an1 : Option Addr} {sl1 : Array (Option Value)} {oc1 kV1 dc1 pm1 cd1 ct1 : Value} (a1 : PySem.W.nsIn K mainGlobals "_law_cell_at" = some (some (.ref f1))) (l1 : K.lookup f1 = some ⟨oc1, od1, .func (PySem.W.fnOf "_law_cell_at" "_law_cell_at" (defArgs s__law_cell_at) (defBody s__law_cell_at) (defScope s__law_cell_at) .none kV1 dc1 pm1 an1 cd1 ct1), sl1⟩) (c1 : PySem.W.codeIn K cd1 "_law_cell_at" = true) (k1 : PySem.W.keepIn K (.ref f1) = true)
    {f2 : Addr} {od2 an2 : Option Addr} {sl2 : Array (Option Value)} {oc2 kV2 dc2 pm2 cd2 ct2 : Value} (a2 : PySem.W.nsIn K mainGlobals "_law_ring_drawn" = some (some (.ref f2))) (l2 : K.lookup f2 = some ⟨oc2, od2, .func (PySem.W.fnOf "_law_ring_drawn" "_law_ring_drawn" (defArgs s__law_ring_drawn) (defBody s__law_ring_drawn) (defScope s__law_ring_drawn) .none kV2 dc2 pm2 an2 cd2 ct2), sl2⟩) (c2 : PySem.W.codeIn K cd2 "_law_ring_drawn" = true) (k2 : PySem.W.keepIn K (.ref f2) = true)
    {f3 : Addr} {od3 an3 : Option Addr} {sl3 : Array (Option Value)} {oc3 kV3 dc3 pm3 cd3 ct3 : Value} (a3 : PySem.W.nsIn K mainGlobals "_law_pair" = some (some (.ref f3))) (l3 : K.lookup f3 = some ⟨oc3, od3, .func (PySem.W.fnOf "_law_pair" "_law_pair" (defArgs s__law_pair) (defBody s__law_pair) (defScope s__law_pair) .none kV3 dc3 pm3 an3 cd3 ct3), sl3⟩) (c3 : PySem.W.codeIn K cd3 "_law_pair" = true) (k3 : PySem.W.keepIn K (.ref f3) = true)
    {f4 : Addr} {od4 an4 : Option Addr} {sl4 : Array (Option Value)} {oc4 kV4 dc4 pm4 cd4 ct4 : Value} (a4 : PySem.W.nsIn K mainGlobals "_law_links" = some (some (.ref f4))) (l4 : K.lookup f4 = some ⟨oc4, od4, .func (PySem.W.fnOf "_law_links" "_law_links" (defArgs s__law_links) (defBody s__law_links) (defScope s__law_links) .none kV4 dc4 pm4 an4 cd4 ct4), sl4⟩) (c4 : PySem.W.codeIn K cd4 "_law_links" = true) (k4 : PySem.W.keepIn K (.ref f4) = true)
    {f5 : Addr} {od5 an5 : Option Addr} {sl5 : Array (Option Value)} {oc5 kV5 dc5 pm5 cd5 ct5 : Value} (a5 : PySem.W.nsIn K mainGlobals "_law_told" = some (some (.ref f5))) (l5 : K.lookup f5 = some ⟨oc5, od5, .func (PySem.W.fnOf "_law_told" "_law_told" (defArgs s__law_told) (defBody s__law_told) (defScope s__law_told) .none kV5 dc5 pm5 an5 cd5 ct5), sl5⟩) (c5 : PySem.W.codeIn K cd5 "_law_told" = true) (k5 : PySem.W.keepIn K (.ref f5) = true)
    {f6 : Addr} {od6 an6 : Option Addr} {sl6 : Array (Option Value)} {oc6 kV6 dc6 pm6 cd6 ct6 : Value} (a6 : PySem.W.nsIn K mainGlobals "_law_paper" = some (some (.ref f6))) (l6 : K.lookup f6 = some ⟨oc6, od6, .func (PySem.W.fnOf "_law_paper" "_law_paper" (defArgs s__law_paper) (defBody s__law_paper) (defScope s__law_paper) .none kV6 dc6 pm6 an6 cd6 ct6), sl6⟩) (c6 : PySem.W.codeIn K cd6 "_law_paper" = true) (k6 : PySem.W.keepIn K (.ref f6) = true)
    {f7 : Addr} {od7 an7 : Option Addr} {sl7 : Array (Option Value)} {oc7 kV7 dc7 pm7 cd7 ct7 : Value} (a7 : PySem.W.nsIn K mainGlobals "_law_ring" = some (some (.ref f7))) (l7 : K.lookup f7 = some ⟨oc7, od7, .func (PySem.W.fnOf "_law_ring" "_law_ring" (defArgs s__law_ring) (defBody s__law_ring) (defScope s__law_ring) .none kV7 dc7 pm7 an7 cd7 ct7), sl7⟩) (c7 : PySem.W.codeIn K cd7 "_law_ring" = true) (k7 : PySem.W.keepIn K (.ref f7) = true)
    {f8 : Addr} {od8 an8 : Option Addr} {sl8 : Array (Option Value)} {oc8 kV8 dc8 pm8 cd8 ct8 : Value} (a8 : PySem.W.nsIn K mainGlobals "_law_leaf" = some (some (.ref f8))) (l8 : K.lookup f8 = some ⟨oc8, od8, .func (PySem.W.fnOf "_law_leaf" "_law_leaf" (defArgs s__law_leaf) (defBody s__law_leaf) (defScope s__law_leaf) .none kV8 dc8 pm8 an8 cd8 ct8), sl8⟩) (c8 : PySem.W.codeIn K cd8 "_law_leaf" = true) (k8 : PySem.W.keepIn K (.ref f8) = true)
    {f9 : Addr} {od9 an9 : Option Addr} {sl9 : Array (Option Value)} {oc9 kV9 dc9 pm9 cd9 ct9 : Value} (a9 : PySem.W.nsIn K mainGlobals "_law_judge" = some (some (.ref f9))) (l9 : K.lookup f9 = some ⟨oc9, od9, .func (PySem.W.fnOf "_law_judge" "_law_judge" (defArgs s__law_judge) (defBody s__law_judge) (defScope s__law_judge) .none kV9 dc9 pm9 an9 cd9 ct9), sl9⟩) (c9 : PySem.W.codeIn K cd9 "_law_judge" = true) (k9 : PySem.W.keepIn K (.ref f9) = true)
    {f10 : Addr} {od10 an10 : Option Addr} {sl10 : Array (Option Value)} {oc10 kV10 dc10 pm10 cd10 ct10 : Value} (a10 : PySem.W.nsIn K mainGlobals "_law_decided" = some (some (.ref f10))) (l10 : K.lookup f10 = some ⟨oc10, od10, .func (PySem.W.fnOf "_law_decided" "_law_decided" (defArgs s__law_decided) (defBody s__law_decided) (defScope s__law_decided) .none kV10 dc10 pm10 an10 cd10 ct10), sl10⟩) (c10 : PySem.W.codeIn K cd10 "_law_decided" = true) (k10 : PySem.W.keepIn K (.ref f10) = true)
    {f11 : Addr} {od11 an11 : Option Addr} {sl11 : Array (Option Value)} {oc11 kV11 dc11 pm11 cd11 ct11 : Value} (a11 : PySem.W.nsIn K mainGlobals "is_ring" = some (some (.ref f11))) (l11 : K.lookup f11 = some ⟨oc11, od11, .func (PySem.W.fnOf "is_ring" "is_ring" (defArgs s_is_ring) (defBody s_is_ring) (defScope s_is_ring) .none kV11 dc11 pm11 an11 cd11 ct11), sl11⟩) (c11 : PySem.W.codeIn K cd11 "is_ring" = true) (k11 : PySem.W.keepIn K (.ref f11) = true)
    {f12 : Addr} {od12 an12 : Option Addr} {sl12 : Array (Option Value)} {oc12 kV12 dc12 pm12 cd12 ct12 : Value} (a12 : PySem.W.nsIn K mainGlobals "pair_of" = some (some (.ref f12))) (l12 : K.lookup f12 = some ⟨oc12, od12, .func (PySem.W.fnOf "pair_of" "pair_of" (defArgs s_pair_of) (defBody s_pair_of) (defScope s_pair_of) .none kV12 dc12 pm12 an12 cd12 ct12), sl12⟩) (c12 : PySem.W.codeIn K cd12 "pair_of" = true) (k12 : PySem.W.keepIn K (.ref f12) = true)
    {f13 : Addr} {od13 an13 : Option Addr} {sl13 : Array (Option Value)} {oc13 kV13 dc13 pm13 cd13 ct13 : Value} (a13 : PySem.W.nsIn K mainGlobals "links_of" = some (some (.ref f13))) (l13 : K.lookup f13 = some ⟨oc13, od13, .func (PySem.W.fnOf "links_of" "links_of" (defArgs s_links_of) (defBody s_links_of) (defScope s_links_of) .none kV13 dc13 pm13 an13 cd13 ct13), sl13⟩) (c13 : PySem.W.codeIn K cd13 "links_of" = true) (k13 : PySem.W.keepIn K (.ref f13) = true)
    {f14 : Addr} {od14 an14 : Option Addr} {sl14 : Array (Option Value)} {oc14 kV14 dc14 pm14 cd14 ct14 : Value} (a14 : PySem.W.nsIn K mainGlobals "is_never" = some (some (.ref f14))) (l14 : K.lookup f14 = some ⟨oc14, od14, .func (PySem.W.fnOf "is_never" "is_never" (defArgs s_is_never) (defBody s_is_never) (defScope s_is_never) .none kV14 dc14 pm14 an14 cd14 ct14), sl14⟩) (c14 : PySem.W.codeIn K cd14 "is_never" = true) (k14 : PySem.W.keepIn K (.ref f14) = true)
    {f15 : Addr} {od15 an15 : Option Addr} {sl15 : Array (Option Value)} {oc15 kV15 dc15 pm15 cd15 ct15 : Value} (a15 : PySem.W.nsIn K mainGlobals "lost_by" = some (some (.ref f15))) (l15 : K.lookup f15 = some ⟨oc15, od15, .func (PySem.W.fnOf "lost_by" "lost_by" (defArgs s_lost_by) (defBody s_lost_by) (defScope s_lost_by) .none kV15 dc15 pm15 an15 cd15 ct15), sl15⟩) (c15 : PySem.W.codeIn K cd15 "lost_by" = true) (k15 : PySem.W.keepIn K (.ref f15) = true)
    {f16 : Addr} {od16 an16 : Option Addr} {sl16 : Array (Option Value)} {oc16 kV16 dc16 pm16 cd16 ct16 : Value} (a16 : PySem.W.nsIn K mainGlobals "is_sound" = some (some (.ref f16))) (l16 : K.lookup f16 = some ⟨oc16, od16, .func (PySem.W.fnOf "is_sound" "is_sound" (defArgs s_is_sound) (defBody s_is_sound) (defScope s_is_sound) .none kV16 dc16 pm16 an16 cd16 ct16), sl16⟩) (c16 : PySem.W.codeIn K cd16 "is_sound" = true) (k16 : PySem.W.keepIn K (.ref f16) = true)
    {f17 : Addr} {od17 an17 : Option Addr} {sl17 : Array (Option Value)} {oc17 kV17 dc17 pm17 cd17 ct17 : Value} (a17 : PySem.W.nsIn K mainGlobals "rings_show" = some (some (.ref f17))) (l17 : K.lookup f17 = some ⟨oc17, od17, .func (PySem.W.fnOf "rings_show" "rings_show" (defArgs s_rings_show) (defBody s_rings_show) (defScope s_rings_show) .none kV17 dc17 pm17 an17 cd17 ct17), sl17⟩) (c17 : PySem.W.codeIn K cd17 "rings_show" = true) (k17 : PySem.W.keepIn K (.ref f17) = true)
    {f18 : Addr} {od18 an18 : Option Addr} {sl18 : Array (Option Value)} {oc18 kV18 dc18 pm18 cd18 ct18 : Value} (a18 : PySem.W.nsIn K mainGlobals "with_pair" = some (some (.ref f18))) (l18 : K.lookup f18 = some ⟨oc18, od18, .func (PySem.W.fnOf "with_pair" "with_pair" (defArgs s_with_pair) (defBody s_with_pair) (defScope s_with_pair) .none kV18 dc18 pm18 an18 cd18 ct18), sl18⟩) (c18 : PySem.W.codeIn K cd18 "with_pair" = true) (k18 : PySem.W.keepIn K (.ref f18) = true)
    {f19 : Addr} {od19 an19 : Option Addr} {sl19 : Array (Option Value)} {oc19 kV19 dc19 pm19 cd19 ct19 : Value} (a19 : PySem.W.nsIn K mainGlobals "walked" = some (some (.ref f19))) (l19 : K.lookup f19 = some ⟨oc19, od19, .func (PySem.W.fnOf "walked" "walked" (defArgs s_walked) (defBody s_walked) (defScope s_walked) .none kV19 dc19 pm19 an19 cd19 ct19), sl19⟩) (c19 : PySem.W.codeIn K cd19 "walked" = true) (k19 : PySem.W.keepIn K (.ref f19) = true)
    {f20 : Addr} {od20 an20 : Option Addr} {sl20 : Array (Option Value)} {oc20 kV20 dc20 pm20 cd20 ct20 : Value} (a20 : PySem.W.nsIn K mainGlobals "is_shown" = some (some (.ref f20))) (l20 : K.lookup f20 = some ⟨oc20, od20, .func (PySem.W.fnOf "is_shown" "is_shown" (defArgs s_is_shown) (defBody s_is_shown) (defScope s_is_shown) .none kV20 dc20 pm20 an20 cd20 ct20), sl20⟩) (c20 : PySem.W.codeIn K cd20 "is_shown" = true) (k20 : PySem.W.keepIn K (.ref f20) = true)
    {f21 : Addr} {od21 an21 : Option Addr} {sl21 : Array (Option Value)} {oc21 kV21 dc21 pm21 cd21 ct21 : Value} (a21 : PySem.W.nsIn K mainGlobals "law" = some (some (.ref f21))) (l21 : K.lookup f21 = some ⟨oc21, od21, .func (PySem.W.fnOf "law" "law" (defArgs s_law) (defBody s_law) (defScope s_law) .none kV21 dc21 pm21 an21 cd21 ct21), sl21⟩) (c21 : PySem.W.codeIn K cd21 "law" = true) (k21 : PySem.W.keepIn K (.ref f21) = true)
    (z1 : PySem.W.nsIn K mainGlobals "abs" = some none)
    (z2 : PySem.W.nsIn K mainGlobals "all" = some none)
    (z3 : PySem.W.nsIn K mainGlobals "bool" = some none)
    (z4 : PySem.W.nsIn K mainGlobals "dict" = some none)
    (z5 : PySem.W.nsIn K mainGlobals "int" = some none)
    (z6 : PySem.W.nsIn K mainGlobals "isinstance" = some none)
    (z7 : PySem.W.nsIn K mainGlobals "len" = some none)
    (z8 : PySem.W.nsIn K mainGlobals "list" = some none)
    (z9 : PySem.W.nsIn K mainGlobals "max" = some none)
    (z10 : PySem.W.nsIn K mainGlobals "min" = some none)
    (z11 : PySem.W.nsIn K mainGlobals "range" = some none)
    (z12 : PySem.W.nsIn K mainGlobals "reversed" = some none)
    (z13 : PySem.W.nsIn K mainGlobals "set" = some none)
    (z14 : PySem.W.nsIn K mainGlobals "sorted" = some none)
    : ∃ fd : FuncData, (∀ (s : Shared) (v : Value), BindsTo s fd ⟨[v], []⟩ [("_law_script", v)]) ∧ ∀ base : Heap, K.In base → base.Ns mainGlobals mg → FnOk l.prog w K mg base CX0 16 fa fd ["_law_script"] (spV K m_law) := by
  have e := hfa.symm.trans (PySem.W.mg_of X G a21)
  cases e
  have F1 := fun_mk (st := s__law_cell_at) l1 c1 k1
  have F2 := fun_mk (st := s__law_ring_drawn) l2 c2 k2
  have F3 := fun_mk (st := s__law_pair) l3 c3 k3
  have F4 := fun_mk (st := s__law_links) l4 c4 k4
  have F5 := fun_mk (st := s__law_told) l5 c5 k5
  have F6 := fun_mk (st := s__law_paper) l6 c6 k6
  have F7 := fun_mk (st := s__law_ring) l7 c7 k7
  have F8 := fun_mk (st := s__law_leaf) l8 c8 k8
  have F9 := fun_mk (st := s__law_judge) l9 c9 k9
  have F10 := fun_mk (st := s__law_decided) l10 c10 k10
  have F11 := fun_mk (st := s_is_ring) l11 c11 k11
  have F12 := fun_mk (st := s_pair_of) l12 c12 k12
  have F13 := fun_mk (st := s_links_of) l13 c13 k13
  have F14 := fun_mk (st := s_is_never) l14 c14 k14
  have F15 := fun_mk (st := s_lost_by) l15 c15 k15
  have F16 := fun_mk (st := s_is_sound) l16 c16 k16
  have F17 := fun_mk (st := s_rings_show) l17 c17 k17
  have F18 := fun_mk (st := s_with_pair) l18 c18 k18
  have F19 := fun_mk (st := s_walked) l19 c19 k19
  have F20 := fun_mk (st := s_is_shown) l20 c20 k20
  have F21 := fun_mk (st := s_law) l21 c21 k21
  refine ⟨PySem.W.fnOf "law" "law" (defArgs s_law) (defBody s_law) (defScope s_law) .none kV21 dc21 pm21 an21 cd21 ct21, fun s v => .of_eq rfl, fun base _ _ => ?_⟩
  have T : Txt l.prog w K mg base := ⟨trivial, PySem.W.mg_none_of X G z1, PySem.W.mg_none_of X G z2, PySem.W.mg_none_of X G z3, PySem.W.mg_none_of X G z4, PySem.W.mg_none_of X G z5, PySem.W.mg_none_of X G z6, PySem.W.mg_none_of X G z7, PySem.W.mg_none_of X G z8, PySem.W.mg_none_of X G z9, PySem.W.mg_none_of X G z10, PySem.W.mg_none_of X G z11, PySem.W.mg_none_of X G z12, PySem.W.mg_none_of X G z13, PySem.W.mg_none_of X G z14⟩
  have C1 : Cal l.prog w K mg base CX0 1 "_law_cell_at" ["_law_script", "_law_k"] (spV K m__law_cell_at) := ⟨f1, _, PySem.W.mg_of X G a1, k1, F1.binds (ps := ["_law_script", "_law_k"]) fun _ _ _ _ _ _ us hl => match us, hl with | [_, _], _ => rfl, ok__law_cell_at F1 T ⟩
  have C2 : Cal l.prog w K mg base CX0 1 "_law_ring_drawn" ["_law_many", "_law_cell"] (spO K m__law_ring_drawn) := ⟨f2, _, PySem.W.mg_of X G a2, k2, F2.binds (ps := ["_law_many", "_law_cell"]) fun _ _ _ _ _ _ us hl => match us, hl with | [_, _], _ => rfl, ok__law_ring_drawn F2 T ⟩
  have C3 : Cal l.prog w K mg base CX0 1 "_law_pair" ["_law_one", "_law_other"] (spV K m__law_pair) := ⟨f3, _, PySem.W.mg_of X G a3, k3, F3.binds (ps := ["_law_one", "_law_other"]) fun _ _ _ _ _ _ us hl => match us, hl with | [_, _], _ => rfl, ok__law_pair F3 T ⟩
  have C4 : Cal l.prog w K mg base CX0 2 "_law_links" ["_law_ring_here"] (spO K m__law_links) := ⟨f4, _, PySem.W.mg_of X G a4, k4, F4.binds (ps := ["_law_ring_here"]) fun _ _ _ _ _ _ us hl => match us, hl with | [_], _ => rfl, ok__law_links F4 T C3⟩
  have C5 : Cal l.prog w K mg base CX0 1 "_law_told" ["_law_ring_here", "_law_cell"] (spV K m__law_told) := ⟨f5, _, PySem.W.mg_of X G a5, k5, F5.binds (ps := ["_law_ring_here", "_law_cell"]) fun _ _ _ _ _ _ us hl => match us, hl with | [_, _], _ => rfl, ok__law_told F5 T ⟩
  have C6 : Cal l.prog w K mg base CX0 1 "_law_paper" ["_law_ring_here", "_law_told_here", "_law_pairs"] (spV K m__law_paper) := ⟨f6, _, PySem.W.mg_of X G a6, k6, F6.binds (ps := ["_law_ring_here", "_law_told_here", "_law_pairs"]) fun _ _ _ _ _ _ us hl => match us, hl with | [_, _, _], _ => rfl, ok__law_paper F6 T ⟩
  have C7 : Cal l.prog w K mg base CX0 3 "_law_ring" ["_law_ring_here", "_law_weights_here", "_law_decided_here", "_law_never"] (spV K m__law_ring) := ⟨f7, _, PySem.W.mg_of X G a7, k7, F7.binds (ps := ["_law_ring_here", "_law_weights_here", "_law_decided_here", "_law_never"]) fun _ _ _ _ _ _ us hl => match us, hl with | [_, _, _, _], _ => rfl, ok__law_ring F7 T C3 C4⟩
  have C8 : Cal l.prog w K mg base CX0 4 "_law_leaf" ["_law_rows", "_law_weights_here", "_law_decided_here", "_law_least"] (spV K m__law_leaf) := ⟨f8, _, PySem.W.mg_of X G a8, k8, F8.binds (ps := ["_law_rows", "_law_weights_here", "_law_decided_here", "_law_least"]) fun _ _ _ _ _ _ us hl => match us, hl with | [_, _, _, _], _ => rfl, ok__law_leaf F8 T C7 C4 C3⟩
  have K9 : ∀ (j : Nat) (sp : Sp), FnOk l.prog w K mg base CX0 j f9 _ ["_law_paper_here", "_law_weights_here", "_law_decided_here", "_law_least"] sp → Cal l.prog w K mg base CX0 j "_law_judge" ["_law_paper_here", "_law_weights_here", "_law_decided_here", "_law_least"] sp := fun j sp h => ⟨f9, _, PySem.W.mg_of X G a9, k9, F9.binds (ps := ["_law_paper_here", "_law_weights_here", "_law_decided_here", "_law_least"]) fun _ _ _ _ _ _ us hl => match us, hl with | [_, _, _, _], _ => rfl, h⟩
  have C9 : Cal l.prog w K mg base CX0 14 "_law_judge" ["_law_paper_here", "_law_weights_here", "_law_decided_here", "_law_least"] (spV K (m__law_judge 9)) := K9 _ _ (ok__law_judge F9 T C7 C8 K9 9)
  have C10 : Cal l.prog w K mg base CX0 1 "_law_decided" ["_law_aparts"] (spO K m__law_decided) := ⟨f10, _, PySem.W.mg_of X G a10, k10, F10.binds (ps := ["_law_aparts"]) fun _ _ _ _ _ _ us hl => match us, hl with | [_], _ => rfl, ok__law_decided F10 T ⟩
  have C11 : Cal l.prog w K mg base CX0 1 "is_ring" ["ring"] (spV K m_is_ring) := ⟨f11, _, PySem.W.mg_of X G a11, k11, F11.binds (ps := ["ring"]) fun _ _ _ _ _ _ us hl => match us, hl with | [_], _ => rfl, ok_is_ring F11 T ⟩
  have C12 : Cal l.prog w K mg base CX0 1 "pair_of" ["one", "other"] (spV K m_pair_of) := ⟨f12, _, PySem.W.mg_of X G a12, k12, F12.binds (ps := ["one", "other"]) fun _ _ _ _ _ _ us hl => match us, hl with | [_, _], _ => rfl, ok_pair_of F12 T ⟩
  have C13 : Cal l.prog w K mg base CX0 2 "links_of" ["ring"] (spO K m_links_of) := ⟨f13, _, PySem.W.mg_of X G a13, k13, F13.binds (ps := ["ring"]) fun _ _ _ _ _ _ us hl => match us, hl with | [_], _ => rfl, ok_links_of F13 T C12⟩
  have C14 : Cal l.prog w K mg base CX0 3 "is_never" ["ring", "decided"] (spV K m_is_never) := ⟨f14, _, PySem.W.mg_of X G a14, k14, F14.binds (ps := ["ring", "decided"]) fun _ _ _ _ _ _ us hl => match us, hl with | [_, _], _ => rfl, ok_is_never F14 T C11 C12 C13⟩
  have C15 : Cal l.prog w K mg base CX0 1 "lost_by" ["weights", "decided"] (spV K m_lost_by) := ⟨f15, _, PySem.W.mg_of X G a15, k15, F15.binds (ps := ["weights", "decided"]) fun _ _ _ _ _ _ us hl => match us, hl with | [_, _], _ => rfl, ok_lost_by F15 T ⟩
  have C16 : Cal l.prog w K mg base CX0 3 "is_sound" ["ring", "weights", "decided"] (spV K m_is_sound) := ⟨f16, _, PySem.W.mg_of X G a16, k16, F16.binds (ps := ["ring", "weights", "decided"]) fun _ _ _ _ _ _ us hl => match us, hl with | [_, _, _], _ => rfl, ok_is_sound F16 T C11 C12 C13⟩
  have C17 : Cal l.prog w K mg base CX0 4 "rings_show" ["rows", "weights", "decided", "least"] (spV K m_rings_show) := ⟨f17, _, PySem.W.mg_of X G a17, k17, F17.binds (ps := ["rows", "weights", "decided", "least"]) fun _ _ _ _ _ _ us hl => match us, hl with | [_, _, _, _], _ => rfl, ok_rings_show F17 T C15 C16 C13 C12⟩
  have C18 : Cal l.prog w K mg base CX0 1 "with_pair" ["decided", "pair", "held"] (spO K m_with_pair) := ⟨f18, _, PySem.W.mg_of X G a18, k18, F18.binds (ps := ["decided", "pair", "held"]) fun _ _ _ _ _ _ us hl => match us, hl with | [_, _, _], _ => rfl, ok_with_pair F18 T ⟩
  have K19 : ∀ (j : Nat) (sp : Sp), FnOk l.prog w K mg base CX0 j f19 _ ["paper", "weights", "decided", "least"] sp → Cal l.prog w K mg base CX0 j "walked" ["paper", "weights", "decided", "least"] sp := fun j sp h => ⟨f19, _, PySem.W.mg_of X G a19, k19, F19.binds (ps := ["paper", "weights", "decided", "least"]) fun _ _ _ _ _ _ us hl => match us, hl with | [_, _, _, _], _ => rfl, h⟩
  have C19 : Cal l.prog w K mg base CX0 14 "walked" ["paper", "weights", "decided", "least"] (spV K (m_walked 9)) := K19 _ _ (ok_walked F19 T C14 C17 C18 K19 9)
  have C20 : Cal l.prog w K mg base CX0 15 "is_shown" ["paper", "many", "pairs", "aparts", "least"] (spV K m_is_shown) := ⟨f20, _, PySem.W.mg_of X G a20, k20, F20.binds (ps := ["paper", "many", "pairs", "aparts", "least"]) fun _ _ _ _ _ _ us hl => match us, hl with | [_, _, _, _, _], _ => rfl, ok_is_shown F20 T C19⟩
  exact ok_law F21 T C1 C2 C3 C4 C5 C6 C10 C9 C20
end K42

/-! texts as lists of signs; put put -/
namespace MS
open PySem PySem.Builtin PySem.Builtin.Str PySem.StrLaws TL L2 FK
abbrev c1 (c : Nat) : Str := ⟨#[c]⟩
abbrev mks (l : List Nat) : Str := ⟨l.toArray⟩
theorem tl_mks (l : List Nat) : tl (mks l) = l := rfl
theorem mks_tl (x : Str) : mks (tl x) = x := mk_tl x
theorem mks_inj {a b : List Nat} : mks a = mks b ↔ a = b := ⟨fun h => by have := congrArg tl h; exact this, fun h => by rw [h]⟩
theorem len_mks (l : List Nat) : (mks l).length = l.length := by rw [len_tl]
theorem sgn_tl (x : Str) : sgn x = (tl x).map c1 := rfl
theorem app_mks (a b : List Nat) : mks a ++ mks b = mks (a ++ b) := ext_tl (by rw [tl_append])
theorem pre1 (c : Nat) (l : List Nat) (i : Nat) : pre [c] (l.drop i) = true ↔ l[i]? = some c := by
  unfold pre
  cases h : l.drop i with
  | nil =>
    have hl : l.length ≤ i := List.drop_eq_nil_iff.mp h
    rw [List.getElem?_eq_none hl]
    simp
  | cons d r =>
    have hi : i < l.length := by
      by_cases hi : i < l.length
      · exact hi
      · rw [List.drop_eq_nil_iff.mpr (by omega)] at h
        cases h
    rw [List.drop_eq_getElem_cons hi] at h
    injection h with h1 h2
    rw [List.getElem?_eq_getElem hi, h1]
    simp
/-- where a sign stands first, -1 if nowhere -/
def fpos (c : Nat) (l : List Nat) : Int := if c ∈ l then (l.idxOf c : Int) else -1
theorem idx_first {c : Nat} : ∀ {l : List Nat} {i : Nat}, l[i]? = some c → (∀ k, k < i → l[k]? ≠ some c) → l.idxOf c = i
  | [], i, h, _ => by simp at h
  | d :: r, 0, h, _ => by
    have e : d = c := Option.some.inj h
    rw [e, List.idxOf_cons_self]
  | d :: r, i + 1, h, hn => by
    have hd : d ≠ c := fun e => hn 0 (Nat.succ_pos i) (by rw [e]; rfl)
    have hb : (d == c) = false := by simpa using hd
    rw [List.idxOf_cons, hb, cond_false, idx_first (l := r) (i := i) h fun k hk => hn (k + 1) (Nat.succ_lt_succ hk)]
theorem find1 (x : Str) (c : Nat) : Txt.find x (c1 c) = fpos c (tl x) := by
  have hy : tl (c1 c) ≠ [] := by
    show [c] ≠ []
    simp
  have hat : ∀ i, At x (c1 c) x.length i ↔ (tl x)[i]? = some c := fun i => (at_iff hy i).trans (pre1 c (tl x) i)
  unfold Txt.find fpos
  rcases occ_head x (c1 c) 1 (Nat.le_refl 1) with ⟨h, hn⟩ | ⟨i, r, h, hi, hk⟩
  · rw [h]
    have : c ∉ tl x := fun hm => by
      obtain ⟨i, hi, e⟩ := List.mem_iff_getElem.mp hm
      exact hn i ((hat i).mpr (by rw [List.getElem?_eq_getElem hi, e]))
    rw [if_neg this]
  · rw [h]
    have e := (hat i).mp hi
    have : c ∈ tl x := List.mem_of_getElem? e
    rw [if_pos this, idx_first e fun k hk' z => hk k hk' ((hat k).mpr z)]
abbrev GREAT : Str := "ABCDEFGHIJKLMNOPQRSTUVWXYZ"
abbrev SMALL : Str := "abcdefghijklmnopqrstuvwxyz"
theorem tl_great : tl GREAT = List.range' 65 26 := by decide +kernel
theorem tl_small : tl SMALL = List.range' 97 26 := by decide +kernel
theorem idx_range (s n : Nat) : ∀ c, s ≤ c → c < s + n → (List.range' s n).idxOf c = c - s := by
  intro c h1 h2
  refine idx_first ?_ fun k hk => ?_
  · rw [List.getElem?_range' (by omega)]
    congr 1
    omega
  · rw [List.getElem?_range' (by omega)]
    intro e
    have := Option.some.inj e
    omega
theorem mem_range (s n c : Nat) : c ∈ List.range' s n ↔ s ≤ c ∧ c < s + n := by
  rw [List.mem_range'_1]
theorem fpos_range {s n c : Nat} (h1 : s ≤ c) (h2 : c < s + n) : fpos c (List.range' s n) = ((c - s : Nat) : Int) := by
  unfold fpos
  rw [if_pos ((mem_range s n c).mpr ⟨h1, h2⟩), idx_range s n c h1 h2]
theorem fpos_no {s n c : Nat} (h : ¬ (s ≤ c ∧ c < s + n)) : fpos c (List.range' s n) = -1 := by
  unfold fpos
  rw [if_neg fun z => h ((mem_range s n c).mp z)]
theorem atI_nat' {α : Type} (l : List α) (k : Nat) (h : k < l.length) : atI l (k : Int) = some l[k] := by
  unfold atI ixN
  rw [if_pos (by omega), if_pos (by omega)]
  show l[(k : Int).toNat]? = _
  rw [Int.toNat_natCast, List.getElem?_eq_getElem h]
theorem sAt_nat (x : Str) (k : Nat) (h : k < (tl x).length) (hz : x.length ≤ 16000000) : sAt x (k : Int) = some (c1 (tl x)[k]) := by
  unfold sAt
  rw [if_pos hz, atI_nat' _ k h]
  rfl
/-- a great letter's small one -/
def low (c : Nat) : Nat := if 65 ≤ c ∧ c < 91 then c + 32 else c
theorem low_eq (c : Nat) : ((some (Txt.find GREAT (c1 c))).bind fun (a : Int) => ifM (some (decide (a < 0))) (some (c1 c)) (sAt SMALL a)) = some (c1 (low c)) := by
  show (if decide (Txt.find GREAT (c1 c) < 0) = true then some (c1 c) else sAt SMALL (Txt.find GREAT (c1 c))) = _
  rw [find1, tl_great]
  unfold low
  by_cases h : 65 ≤ c ∧ c < 91
  · rw [if_pos h, fpos_range h.1 (by omega), if_neg (by simp)]
    have hl : (tl SMALL).length = 26 := by rw [tl_small, List.length_range']
    have hk : c - 65 < (tl SMALL).length := by rw [hl]; omega
    rw [sAt_nat SMALL (c - 65) hk (by rw [len_tl, hl]; decide)]
    congr 2
    have : (tl SMALL)[c - 65]? = some (c + 32) := by
      rw [tl_small, List.getElem?_range' (by omega)]
      congr 1
      omega
    rw [List.getElem?_eq_getElem hk] at this
    exact Option.some.inj this
  · rw [if_neg h, fpos_no (by omega)]
    rfl
/-! ### words -/
def wd (cur : List Nat) : List Nat → List (List Nat)
  | [] => if cur = [] then [] else [cur]
  | c :: r => if c = 32 then (if cur = [] then wd [] r else cur :: wd [] r) else wd (cur ++ [c]) r
theorem spl_wd : ∀ (l cur : List Nat), (spl [32] 0 cur l).filter (fun w => !decide (w = [])) = wd cur l
  | [], cur => by
    unfold wd
    rw [spl_nil]
    by_cases h : cur = []
    · rw [if_pos h, h]
      rfl
    · rw [if_neg h, List.filter_cons, if_pos (by simp [h])]
      rfl
  | c :: r, cur => by
    unfold wd
    by_cases hc : c = 32
    · rw [if_pos hc]
      have hp : pre [32] (c :: r) = true := by
        rw [hc]
        exact (pre1 32 (32 :: r) 0).mpr rfl
      rw [spl_hit hp]
      show List.filter _ (cur :: spl [32] 0 [] r) = _
      rw [List.filter_cons, spl_wd r []]
      by_cases h : cur = []
      · rw [if_pos h, if_neg (by simp [h])]
      · rw [if_neg h, if_pos (by simp [h])]
    · rw [if_neg hc]
      have hp : pre [32] (c :: r) = false := by
        cases e : pre [32] (c :: r) with
        | false => rfl
        | true =>
          have := (pre1 32 (c :: r) 0).mp e
          exact absurd (Option.some.inj this) hc
      rw [spl_miss hp, spl_wd r (cur ++ [c])]
/-- words: not empty, without blanks -/
def Wds (W : List (List Nat)) : Prop := ∀ w ∈ W, w ≠ [] ∧ 32 ∉ w
/-- put put -/
def put (l : List Nat) : List Nat := (joinL [32] (wd [] l)).map low
theorem join_len : ∀ W : List (List Nat), (joinL [32] W).length ≤ (W.map (·.length)).sum + W.length
  | [] => Nat.le_refl _
  | [p] => by
    show p.length ≤ p.length + 0 + 1
    omega
  | p :: q :: r => by
    show (p ++ ([32] ++ joinL [32] (q :: r))).length ≤ (p.length + ((q :: r).map (·.length)).sum) + ((q :: r).length + 1)
    have := join_len (q :: r)
    rw [List.length_append, List.length_append, List.length_singleton]
    omega
theorem wd_len : ∀ (l cur : List Nat), ((wd cur l).map (·.length)).sum + (wd cur l).length ≤ l.length + cur.length + 1
  | [], cur => by
    unfold wd
    by_cases h : cur = []
    · rw [if_pos h]
      show 0 + 0 ≤ _
      omega
    · rw [if_neg h]
      show (cur.length + 0) + 1 ≤ 0 + cur.length + 1
      omega
  | c :: r, cur => by
    unfold wd
    by_cases hc : c = 32
    · rw [if_pos hc]
      have := wd_len r []
      by_cases h : cur = []
      · rw [if_pos h, h]
        rw [List.length_cons]
        simp only [List.length_nil] at this ⊢
        omega
      · rw [if_neg h]
        show (cur.length + ((wd [] r).map (·.length)).sum) + ((wd [] r).length + 1) ≤ (r.length + 1) + cur.length + 1
        simp only [List.length_nil] at this
        omega
    · rw [if_neg hc]
      have := wd_len r (cur ++ [c])
      rw [List.length_append, List.length_singleton] at this
      rw [List.length_cons]
      omega
theorem put_len (l : List Nat) : (put l).length ≤ l.length + 1 := by
  unfold put
  rw [List.length_map]
  have := join_len (wd [] l)
  have := wd_len l []
  simp only [List.length_nil] at this
  omega
/-! ### the law's own way: sign by sign -/
def pstep (a : List Nat) (c : Nat) : List Nat := if c ≠ 32 ∨ (a ≠ [] ∧ a.getLast? ≠ some 32) then a ++ [low c] else a
def pstrip (a : List Nat) : List Nat := if a.getLast? = some 32 then a.dropLast else a
/-- what the walk has behind some words D and a word begun -/
def stateOf (D : List (List Nat)) (cur : List Nat) : List Nat :=
  if cur = [] then (if D = [] then [] else (joinL [32] D).map low ++ [32]) else (joinL [32] (D ++ [cur])).map low
end MS

namespace MS
open PySem PySem.StrLaws TL L2 FK
/-! ### loops without a stop -/
theorem forS_exr {S : Type} {f : S → Int → Option S} (P : Nat → S → Prop) (a : Int) : ∀ (n : Nat) (s : S), (∀ k s, k < n → P k s → ∃ s', f s (a + (k : Nat)) = some s' ∧ P (k + 1) s') → P 0 s → ∃ s', forS f (rng a n) s = some s' ∧ P n s' := by
  have key : ∀ (m : Nat) (k : Nat) (n : Nat) (s : S), k + m = n → (∀ k s, k < n → P k s → ∃ s', f s (a + (k : Nat)) = some s' ∧ P (k + 1) s') → P k s → ∃ s', forS f ((List.range' k m).map fun (k : Nat) => a + (k : Int)) s = some s' ∧ P n s' := by
    intro m
    induction m with
    | zero => intro k n s e _ h; rw [Nat.add_zero] at e; subst e; exact ⟨s, rfl, h⟩
    | succ m ih =>
      intro k n s e st h
      obtain ⟨s1, e1, h1⟩ := st k s (by omega) h
      obtain ⟨s2, e2, h2⟩ := ih (k + 1) n s1 (by omega) st h1
      refine ⟨s2, ?_, h2⟩
      show (f s (a + (k : Nat))).bind (forS f _) = _
      rw [e1]
      exact e2
  intro n s st h
  have := key n 0 n s (by omega) st h
  rw [← List.range_eq_range'] at this
  exact this
theorem forS_map {S α : Type} {f : S → α → Option S} {g : S → α → S} : ∀ (xs : List α) (s : S), (∀ s x, x ∈ xs → f s x = some (g s x)) → forS f xs s = some (xs.foldl g s)
  | [], s, _ => rfl
  | x :: r, s, h => by
    show (f s x).bind (forS f r) = _
    rw [h s x List.mem_cons_self]
    exact forS_map r (g s x) fun s y hy => h s y (List.mem_cons_of_mem _ hy)
theorem add_mks (a b : List Nat) (h : a.length + b.length ≤ 16000000) : sAdd (mks a) (mks b) = some (mks (a ++ b)) := by
  unfold sAdd
  rw [if_pos (by rw [len_mks, len_mks]; exact h), app_mks]
/-! ### plain_of -/
theorem lc_map {α β : Type} {f : α → Option β} {g : α → β} : ∀ xs : List α, (∀ x ∈ xs, f x = some (g x)) → lcM (fun _ => some true) f xs = some (xs.map g)
  | [], _ => rfl
  | x :: r, h => by
    show ((f x).bind fun y => (lcM (fun _ => some true) f r).bind fun ys => some (y :: ys)) = _
    rw [h x List.mem_cons_self, lc_map r fun y hy => h y (List.mem_cons_of_mem _ hy)]
    rfl
theorem lc_filter {α : Type} {t : α → Bool} : ∀ xs : List α, lcM (fun x => some (t x)) (fun x => some x) xs = some (xs.filter t)
  | [] => rfl
  | x :: r => by
    show (if t x = true then (some x).bind fun y => (lcM (fun x => some (t x)) (fun x => some x) r).bind fun ys => some (y :: ys) else lcM (fun x => some (t x)) (fun x => some x) r) = _
    rw [lc_filter r, List.filter_cons]
    cases t x <;> rfl
theorem split_blank (x : Str) (hz : x.length ≤ 15000000) : sSplit x (" " : Str) = some (Txt.split x (" " : Str)) := if_pos ⟨rfl, hz⟩
theorem split_words (x : Str) : ((Txt.split x (" " : Str)).filter fun w => !decide (w = ("" : Str))).map tl = wd [] (tl x) := by
  have h := split_spl x (" " : Str) (by decide +kernel) (kind_ok (by decide +kernel))
  have e : tl (" " : Str) = [32] := by decide +kernel
  rw [e] at h
  rw [← spl_wd, ← h, List.filter_map]
  congr 1
  refine List.filter_congr fun w _ => ?_
  show (!decide (w = ("" : Str))) = !decide (tl w = [])
  congr 1
  refine decide_eq_decide.mpr ⟨fun z => by rw [z]; rfl, fun z => ext_tl z⟩
theorem split_len (x : Str) : (Txt.split x (" " : Str)).length ≤ x.length + 2 := PyProof.Rows.split_le x _
theorem map_len (ys : List Str) : ys.map (·.length) = (ys.map tl).map (·.length) := by
  rw [List.map_map]
  exact List.map_congr_left fun y _ => len_tl y
theorem join_signs (l : List Nat) : Txt.join ("" : Str) (l.map c1) = mks l := by
  rw [join_eq]
  refine ext_tl ?_
  rw [tl_join]
  show joinL [] ((l.map c1).map tl) = l
  rw [List.map_map]
  have : ∀ l : List Nat, joinL [] (l.map (tl ∘ c1)) = l := by
    intro l
    induction l with
    | nil => rfl
    | cons c r ih =>
      cases r with
      | nil => rfl
      | cons d r =>
        show [c] ++ ([] ++ joinL [] ((d :: r).map (tl ∘ c1))) = c :: d :: r
        rw [ih]
        rfl
  exact this l
theorem sum_ones (l : List Nat) : ((l.map c1).map (·.length)).sum = l.length := by
  induction l with
  | nil => rfl
  | cons c r ih =>
    show (c1 c).length + ((r.map c1).map (·.length)).sum = r.length + 1
    rw [ih]
    show 1 + r.length = _
    omega
def gPlain (sm : Str × Unit → Option Str) (x : Str) : Option Str := (Option.bind (Option.bind (sSplit x (" " : Str)) fun (xs3 : List Str) => lcG (fun (x2 : Str) => (some (!decide (x2 = ("" : Str))))) (fun (x2 : Str) => (some x2)) xs3) fun (words_1 : (List Str)) => (Option.bind (some ("" : Str)) fun (t7 : Str) => Option.bind (Option.bind (Option.bind (sJoin (" " : Str) words_1) fun (t4 : Str) => some (sgn t4)) fun (xs6 : List Str) => lcG (fun (x5 : Str) => (some true)) (fun (x5 : Str) => (sm (x5, ()))) xs6) fun (t8 : (List Str)) => (sJoin t7 t8)))
theorem plain_gen {sm : Str × Unit → Option Str} (hsm : ∀ c, sm (c1 c, ()) = some (c1 (low c))) (l : List Nat) (hl : l.length ≤ 500000) : gPlain sm (mks l) = some (mks (put l)) := by
  unfold gPlain
  rw [split_blank _ (by rw [len_mks]; omega)]
  have hlen := split_len (mks l)
  rw [len_mks] at hlen
  have hw := split_words (mks l)
  generalize hY : (Txt.split (mks l) (" " : Str)).filter (fun w => !decide (w = ("" : Str))) = Y at hw
  have hj : sJoin (" " : Str) Y = some (Txt.join (" " : Str) Y) := by
    refine if_pos ?_
    have h1 := wd_len l []
    rw [map_len, hw]
    have h2 : Y.length = (wd [] (tl (mks l))).length := by rw [← hw, List.length_map]
    rw [h2]
    show ((wd [] l).map (·.length)).sum + (wd [] l).length * 1 ≤ 16000000
    simp only [List.length_nil] at h1
    omega
  have ej : tl (Txt.join (" " : Str) Y) = joinL [32] (wd [] l) := by
    rw [join_eq, tl_join, hw]
    rfl
  show Option.bind (Option.bind (some (Txt.split (mks l) (" " : Str))) fun (xs3 : List Str) => lcG _ _ xs3) _ = _
  show Option.bind (lcG (fun (x2 : Str) => some (!decide (x2 = ("" : Str)))) (fun (x2 : Str) => some x2) (Txt.split (mks l) (" " : Str))) _ = _
  have e1 : lcG (fun (x2 : Str) => some (!decide (x2 = ("" : Str)))) (fun (x2 : Str) => some x2) (Txt.split (mks l) (" " : Str)) = some Y := by
    unfold lcG
    rw [if_pos (by omega), lc_filter, hY]
  rw [e1]
  show Option.bind (Option.bind (Option.bind (sJoin (" " : Str) Y) fun (t4 : Str) => some (sgn t4)) fun (xs6 : List Str) => lcG (fun (_ : Str) => some true) (fun (x5 : Str) => sm (x5, ())) xs6) (fun (t8 : List Str) => sJoin ("" : Str) t8) = _
  rw [hj]
  show Option.bind (lcG (fun (_ : Str) => some true) (fun (x5 : Str) => sm (x5, ())) (sgn (Txt.join (" " : Str) Y))) (fun (t8 : List Str) => sJoin ("" : Str) t8) = _
  have e2 : lcG (fun (_ : Str) => some true) (fun (x5 : Str) => sm (x5, ())) (sgn (Txt.join (" " : Str) Y)) = some ((put l).map c1) := by
    unfold lcG
    have hs : sgn (Txt.join (" " : Str) Y) = (joinL [32] (wd [] l)).map c1 := by rw [sgn_tl, ej]
    have hb := put_len l
    rw [hs, if_pos (by rw [List.length_map]; unfold put at hb; rw [List.length_map] at hb; omega), lc_map (g := fun x => c1 (low (x.cps.getD 0 0)))]
    · congr 1
      unfold put
      rw [List.map_map, List.map_map]
      exact List.map_congr_left fun c _ => rfl
    · intro x hx
      obtain ⟨c, _, e⟩ := List.mem_map.mp hx
      subst e
      exact hsm c
  rw [e2]
  show sJoin ("" : Str) ((put l).map c1) = _
  unfold sJoin
  have hb := put_len l
  rw [if_pos, join_signs]
  rw [sum_ones]
  show (put l).length + _ * 0 ≤ _
  omega
/-! ### the law's own -/
theorem c1_eq (a b : Nat) : (c1 a = c1 b) ↔ a = b := ⟨fun h => by have := congrArg tl h; exact List.singleton_inj.mp this, fun h => by rw [h]⟩
def gLawPlain (sm : Str × Unit → Option Str) (x : Str) : Option Str := (Option.bind (some ("" : Str)) fun (plain_here_1 : Str) => (Option.bind (Option.bind (some (sgn x)) fun (xs9 : List Str) => forS (S := Str) (fun (s2 : Str) (x3 : Str) => (ifM (bOr (some (!decide (x3 = (" " : Str)))) (bAnd (some (!decide (s2 = ("" : Str)))) (Option.bind (sAt s2 (-(1 : Int))) fun (t4 : Str) => Option.bind (some (" " : Str)) fun (t5 : Str) => some (!decide (t4 = t5))))) (Option.bind (Option.bind (some s2) fun (t7 : Str) => Option.bind (sm (x3, ())) fun (t8 : Str) => (sAdd t7 t8)) fun (plain_here_6 : Str) => (some plain_here_6)) (some s2))) xs9 plain_here_1) fun (s10 : Str) => (ifM (bAnd (some (!decide (s10 = ("" : Str)))) (Option.bind (sAt s10 (-(1 : Int))) fun (t11 : Str) => Option.bind (some (" " : Str)) fun (t12 : Str) => some (decide (t11 = t12)))) (sCut s10 none (some (-(1 : Int)))) (some s10))))
/-! ### the law's text -/
def gSign (x : Int) : Option Str := (Option.bind (some (" !\"#$&'()*+,-./0123456789:;<=>?@ABCDEFGHIJKLMNOPQRSTUVWXYZ[\\]^_`" : Str)) fun (some_1 : Str) => (Option.bind (sAdd some_1 ("abcdefghijklmnopqrstuvwxyz{|}~" : Str)) fun (some_2 : Str) => (sAt some_2 (x % 94))))
theorem cut_len {α : Type} (xs : List α) (lo hi : Option Int) : (cutA xs lo hi).length ≤ xs.length := by
  unfold cutA
  rw [List.length_take, List.length_drop]
  omega
/-- texts of one sign -/
def Sgs (ss : List Str) : Prop := ∀ s ∈ ss, ∃ c, s = c1 c
theorem sgs_map : ∀ {ss : List Str}, Sgs ss → ∃ l : List Nat, ss = l.map c1 ∧ l.length = ss.length
  | [], _ => ⟨[], rfl, rfl⟩
  | s :: r, h => by
    obtain ⟨c, hc⟩ := h s List.mem_cons_self
    obtain ⟨l, e, hl⟩ := sgs_map (ss := r) fun x hx => h x (List.mem_cons_of_mem _ hx)
    exact ⟨c :: l, by rw [hc, e]; rfl, by rw [List.length_cons, List.length_cons, hl]⟩
theorem sgs_join {ss : List Str} (h : Sgs ss) (hz : ss.length ≤ 1000000) : ∃ l : List Nat, sJoin ("" : Str) ss = some (mks l) ∧ l.length = ss.length := by
  obtain ⟨l, rfl, hl⟩ := sgs_map h
  refine ⟨l, ?_, hl⟩
  unfold sJoin
  rw [if_pos, join_signs]
  rw [sum_ones]
  show l.length + _ * 0 ≤ _
  omega
theorem app_eq {α : Type} (xs : List α) (x : α) (h : xs.length < 16000000) : lApp xs x = some (xs ++ [x]) := if_pos h
theorem cutS_mks (l : List Nat) (lo hi : Option Int) : cutS (mks l) lo hi = mks (cutA l lo hi) := by
  refine ext_tl ?_
  unfold cutA
  show _ = (l.drop (HT.sIx l.length 0 lo)).take (HT.sIx l.length l.length hi - HT.sIx l.length 0 lo)
  rw [← len_mks]
  rfl
theorem cut_mks (l : List Nat) (lo hi : Option Int) (h : l.length ≤ 16000000) : sCut (mks l) lo hi = some (mks (cutA l lo hi)) := by
  unfold sCut
  rw [if_pos (by rw [len_mks]; exact h), cutS_mks]
theorem six (n d : Nat) (z : Int) (h : 0 ≤ z) : HT.sIx n d (some z) = min z.toNat n := by
  show (if z < 0 then (z + (n : Int)).toNat else min z.toNat n) = _
  rw [if_neg (by omega)]
theorem bs {α β : Type} (x : α) (f : α → Option β) : Option.bind (some x) f = f x := Option.bind_some x f
theorem and2 (p q : Prop) [Decidable p] [Decidable q] : bAnd (some (decide p)) (some (decide q)) = some (decide (p ∧ q)) := by
  by_cases hp : p
  · by_cases hq : q
    · rw [decide_eq_true hp, decide_eq_true hq, decide_eq_true (And.intro hp hq)]
      rfl
    · rw [decide_eq_true hp, decide_eq_false hq, decide_eq_false (fun z : p ∧ q => hq z.2)]
      rfl
  · rw [decide_eq_false hp, decide_eq_false (fun z : p ∧ q => hp z.1)]
    rfl
end MS

namespace MS
open PySem PySem.StrLaws TL L2 FK
/-! ### loops by places -/
theorem forS_at {S α : Type} {f : S → α → Option S} (g : Nat → S) : ∀ (xs : List α) (i : Nat), (∀ k (hk : k < xs.length), f (g (i + k)) xs[k] = some (g (i + k + 1))) → forS f xs (g i) = some (g (i + xs.length))
  | [], i, _ => rfl
  | x :: r, i, h => by
    show (f (g i) x).bind (forS f r) = _
    have h0 := h 0 (Nat.succ_pos _)
    rw [Nat.add_zero] at h0
    rw [show f (g i) x = some (g (i + 1)) from h0]
    show forS f r (g (i + 1)) = _
    rw [forS_at g r (i + 1) fun k hk => by
      have := h (k + 1) (Nat.succ_lt_succ hk)
      rw [show i + 1 + k = i + (k + 1) by omega]
      exact this, List.length_cons, show i + 1 + r.length = i + (r.length + 1) by omega]
theorem rng_len (a : Int) (n : Nat) : (rng a n).length = n := by
  unfold rng
  rw [List.length_map, List.length_range]
theorem forS_rng {S : Type} {f : S → Int → Option S} (g : Nat → S) (a : Int) (n : Nat) (h : ∀ k, k < n → f (g k) (a + (k : Nat)) = some (g (k + 1))) : forS f (rng a n) (g 0) = some (g n) := by
  have := forS_at (f := f) g (rng a n) 0 fun k hk => by
    rw [rng_len] at hk
    rw [Nat.zero_add]
    have e : (rng a n)[k]'(by rw [rng_len]; exact hk) = a + (k : Nat) := by
      unfold rng
      rw [List.getElem_map, List.getElem_range]
    rw [e]
    exact h k hk
  rw [Nat.zero_add, rng_len] at this
  exact this
theorem at_map {α : Type} (f : Nat → α) (n k : Nat) (h : k < n) : atI ((List.range n).map f) (k : Int) = some (f k) := by
  rw [atI_nat' _ k (by rw [List.length_map, List.length_range]; exact h), List.getElem_map, List.getElem_range]
theorem at_map' {α : Type} (f : Nat → α) (n k : Nat) (z : Int) (hz : z = k) (h : k < n) : atI ((List.range n).map f) z = some (f k) := by
  rw [hz]
  exact at_map f n k h
theorem map_snoc {α : Type} (f : Nat → α) (n : Nat) : (List.range n).map f ++ [f n] = (List.range (n + 1)).map f := by
  rw [List.range_succ, List.map_append]
  rfl
theorem range1_nat (n : Nat) (h : n ≤ 16000000) : range1 (n : Int) = some (rng 0 n) := by
  unfold range1
  rw [if_pos (by omega), Int.toNat_natCast]
theorem sLen_mks (l : List Nat) (h : l.length ≤ 16000000) : sLen (mks l) = some (l.length : Int) := by
  unfold sLen
  rw [len_mks, if_pos h]
theorem sAt_mks (l : List Nat) (k : Nat) (h : k < l.length) (hz : l.length ≤ 16000000) : sAt (mks l) (k : Int) = some (c1 l[k]) := sAt_nat (mks l) k h (by rw [len_mks]; exact hz)
/-! ### the distance of two lists of signs -/
def ne1 (a b : Nat) : Nat := if a = b then 0 else 1
def lev : List Nat → List Nat → Nat
  | [], b => b.length
  | _ :: x, [] => x.length + 1
  | a :: x, b :: y => min (lev x y + ne1 a b) (min (lev x (b :: y) + 1) (lev (a :: x) y + 1))
termination_by a b => a.length + b.length
theorem lev_nil (b : List Nat) : lev [] b = b.length := by rw [lev]
theorem lev_nil2 (a : List Nat) : lev a [] = a.length := by
  cases a with
  | nil => rw [lev]
  | cons x r => rw [lev, List.length_cons]
theorem lev_cons (a b : Nat) (x y : List Nat) : lev (a :: x) (b :: y) = min (lev x y + ne1 a b) (min (lev x (b :: y) + 1) (lev (a :: x) y + 1)) := by rw [lev]
inductive Ed : List Nat → List Nat → Nat → Prop
  | nil : Ed [] [] 0
  | keep {x y : List Nat} {n : Nat} (a : Nat) : Ed x y n → Ed (a :: x) (a :: y) n
  | turn {x y : List Nat} {n : Nat} (a b : Nat) : Ed x y n → Ed (a :: x) (b :: y) (n + 1)
  | cut {x y : List Nat} {n : Nat} (a : Nat) : Ed x y n → Ed (a :: x) y (n + 1)
  | put {x y : List Nat} {n : Nat} (b : Nat) : Ed x y n → Ed x (b :: y) (n + 1)
theorem ed_cuts : ∀ x : List Nat, Ed x [] x.length
  | [] => .nil
  | a :: x => .cut a (ed_cuts x)
theorem ed_puts : ∀ x : List Nat, Ed [] x x.length
  | [] => .nil
  | a :: x => .put a (ed_puts x)
theorem lev_ed : ∀ (x y : List Nat), Ed x y (lev x y)
  | [], y => by rw [lev_nil]; exact ed_puts y
  | a :: x, [] => by rw [lev_nil2]; exact ed_cuts (a :: x)
  | a :: x, b :: y => by
    rw [lev_cons]
    have h1 := lev_ed x y
    have h2 := lev_ed x (b :: y)
    have h3 := lev_ed (a :: x) y
    have e1 : Ed (a :: x) (b :: y) (lev x y + ne1 a b) := by
      unfold ne1
      by_cases h : a = b
      · rw [if_pos h, h]
        exact .keep b h1
      · rw [if_neg h]
        exact .turn a b h1
    rcases Nat.le_total (lev x y + ne1 a b) (min (lev x (b :: y) + 1) (lev (a :: x) y + 1)) with h | h
    · rw [Nat.min_eq_left h]
      exact e1
    · rw [Nat.min_eq_right h]
      rcases Nat.le_total (lev x (b :: y) + 1) (lev (a :: x) y + 1) with h | h
      · rw [Nat.min_eq_left h]
        exact .cut a h2
      · rw [Nat.min_eq_right h]
        exact .put b h3
termination_by x y => x.length + y.length
theorem lev_le {x y : List Nat} {n : Nat} (h : Ed x y n) : lev x y ≤ n := by
  induction h with
  | nil => rw [lev_nil]; exact Nat.le_refl _
  | keep a _ ih =>
    rw [lev_cons]
    unfold ne1
    rw [if_pos rfl]
    omega
  | turn a b _ ih =>
    rw [lev_cons]
    unfold ne1
    split <;> omega
  | @cut x y n a _ ih =>
    cases y with
    | nil => rw [lev_nil2] at ih ⊢; rw [List.length_cons]; omega
    | cons b y => rw [lev_cons]; omega
  | @put x y n b _ ih =>
    cases x with
    | nil => rw [lev_nil] at ih ⊢; rw [List.length_cons]; omega
    | cons a x => rw [lev_cons]; omega
theorem Ed.app {x y u v : List Nat} {n m : Nat} (h : Ed x y n) (k : Ed u v m) : Ed (x ++ u) (y ++ v) (n + m) := by
  induction h with
  | nil => rw [Nat.zero_add]; exact k
  | keep a _ ih => exact .keep a ih
  | @turn x y n a b _ ih => rw [show n + 1 + m = n + m + 1 by omega]; exact .turn a b ih
  | @cut x y n a _ ih => rw [show n + 1 + m = n + m + 1 by omega]; exact .cut a ih
  | @put x y n b _ ih => rw [show n + 1 + m = n + m + 1 by omega]; exact .put b ih
theorem Ed.rev {x y : List Nat} {n : Nat} (h : Ed x y n) : Ed x.reverse y.reverse n := by
  induction h with
  | nil => exact .nil
  | keep a _ ih => rw [List.reverse_cons, List.reverse_cons]; exact ih.app (.keep a .nil)
  | turn a b _ ih => rw [List.reverse_cons, List.reverse_cons]; exact ih.app (.turn a b .nil)
  | cut a _ ih => rw [List.reverse_cons]; have := ih.app (.cut a .nil); rw [List.append_nil] at this; exact this
  | put b _ ih => rw [List.reverse_cons]; have := ih.app (.put b .nil); rw [List.append_nil] at this; exact this
theorem Ed.symm {x y : List Nat} {n : Nat} (h : Ed x y n) : Ed y x n := by
  induction h with
  | nil => exact .nil
  | keep a _ ih => exact .keep a ih
  | turn a b _ ih => exact .turn b a ih
  | cut a _ ih => exact .put a ih
  | put b _ ih => exact .cut b ih
theorem lev_rev (x y : List Nat) : lev x.reverse y.reverse = lev x y := by
  have h1 := lev_le (lev_ed x y).rev
  have h2 := lev_le (lev_ed x.reverse y.reverse).rev
  rw [List.reverse_reverse, List.reverse_reverse] at h2
  omega
theorem lev_symm (x y : List Nat) : lev x y = lev y x := by
  have h1 := lev_le (lev_ed x y).symm
  have h2 := lev_le (lev_ed y x).symm
  omega
theorem Ed.zero {x y : List Nat} {n : Nat} (h : Ed x y n) : n = 0 → x = y := by
  induction h with
  | nil => intro _; rfl
  | keep a _ ih => intro e; rw [ih e]
  | turn a b _ ih => intro e; omega
  | cut a _ ih => intro e; omega
  | put b _ ih => intro e; omega
theorem ed_self : ∀ x : List Nat, Ed x x 0
  | [] => .nil
  | a :: x => .keep a (ed_self x)
theorem lev_zero (x y : List Nat) : lev x y = 0 ↔ x = y := by
  refine ⟨(lev_ed x y).zero, fun e => ?_⟩
  have := lev_le (ed_self x)
  rw [← e]
  omega
theorem Ed.le_len {x y : List Nat} {n : Nat} (h : Ed x y n) : x.length ≤ y.length + n ∧ y.length ≤ x.length + n := by
  induction h with
  | nil => simp
  | keep a _ ih => rw [List.length_cons, List.length_cons]; omega
  | turn a b _ ih => rw [List.length_cons, List.length_cons]; omega
  | cut a _ ih => rw [List.length_cons]; omega
  | put b _ ih => rw [List.length_cons]; omega
/-- a way and a way behind it -/
theorem Ed.trans : ∀ {y x z : List Nat} {n m : Nat}, Ed x y n → Ed y z m → ∃ k, k ≤ n + m ∧ Ed x z k := by
  intro y x z n m h
  induction h generalizing z m with
  | nil => intro k; exact ⟨m, by omega, k⟩
  | @cut x y n a _ ih => intro k; obtain ⟨j, hj, e⟩ := ih k; exact ⟨j + 1, by omega, .cut a e⟩
  | @keep x y n a h0 ih =>
    intro k
    generalize hw : a :: y = w at k
    induction k with
    | nil => cases hw
    | @keep y' z n' b k' _ => injection hw with e1 e2; subst e1; subst e2; obtain ⟨j, hj, e⟩ := ih k'; exact ⟨j, by omega, .keep a e⟩
    | @turn y' z n' b c k' _ => injection hw with e1 e2; subst e1; subst e2; obtain ⟨j, hj, e⟩ := ih k'; exact ⟨j + 1, by omega, .turn a c e⟩
    | @cut y' z n' b k' _ => injection hw with e1 e2; subst e1; subst e2; obtain ⟨j, hj, e⟩ := ih k'; exact ⟨j + 1, by omega, .cut a e⟩
    | @put y' z n' b k' ih2 => obtain ⟨j, hj, e⟩ := ih2 hw; exact ⟨j + 1, by omega, .put b e⟩
  | @turn x y n a c h0 ih =>
    intro k
    generalize hw : c :: y = w at k
    induction k with
    | nil => cases hw
    | @keep y' z n' b k' _ => injection hw with e1 e2; subst e1; subst e2; obtain ⟨j, hj, e⟩ := ih k'; exact ⟨j + 1, by omega, .turn a c e⟩
    | @turn y' z n' b d k' _ => injection hw with e1 e2; subst e1; subst e2; obtain ⟨j, hj, e⟩ := ih k'; exact ⟨j + 1, by omega, .turn a d e⟩
    | @cut y' z n' b k' _ => injection hw with e1 e2; subst e1; subst e2; obtain ⟨j, hj, e⟩ := ih k'; exact ⟨j + 1, by omega, .cut a e⟩
    | @put y' z n' b k' ih2 => obtain ⟨j, hj, e⟩ := ih2 hw; exact ⟨j + 1, by omega, .put b e⟩
  | @put x y n c h0 ih =>
    intro k
    generalize hw : c :: y = w at k
    induction k with
    | nil => cases hw
    | @keep y' z n' b k' _ => injection hw with e1 e2; subst e1; subst e2; obtain ⟨j, hj, e⟩ := ih k'; exact ⟨j + 1, by omega, .put c e⟩
    | @turn y' z n' b d k' _ => injection hw with e1 e2; subst e1; subst e2; obtain ⟨j, hj, e⟩ := ih k'; exact ⟨j + 1, by omega, .put d e⟩
    | @cut y' z n' b k' _ => injection hw with e1 e2; subst e1; subst e2; obtain ⟨j, hj, e⟩ := ih k'; exact ⟨j, by omega, e⟩
    | @put y' z n' b k' ih2 => obtain ⟨j, hj, e⟩ := ih2 hw; exact ⟨j + 1, by omega, .put b e⟩
theorem lev_tri (x y z : List Nat) : lev x z ≤ lev x y + lev y z := by
  obtain ⟨k, hk, e⟩ := (lev_ed x y).trans (lev_ed y z)
  have := lev_le e
  omega
/-! ### reckoned from the heads -/
def fw (a b : List Nat) (i j : Nat) : Nat := lev (a.take i).reverse (b.take j).reverse
def bw (a b : List Nat) (i j : Nat) : Nat := lev (a.drop i) (b.drop j)
theorem take_rev (a : List Nat) (i : Nat) (h : i < a.length) : (a.take (i + 1)).reverse = a[i] :: (a.take i).reverse := by
  rw [List.take_succ_eq_append_getElem h, List.reverse_append]
  rfl
theorem fw_step (a b : List Nat) (i j : Nat) (hi : i < a.length) (hj : j < b.length) : fw a b (i + 1) (j + 1) = min (fw a b i j + ne1 a[i] b[j]) (min (fw a b i (j + 1) + 1) (fw a b (i + 1) j + 1)) := by
  unfold fw
  rw [take_rev a i hi, take_rev b j hj, lev_cons]
theorem fw_0 (a b : List Nat) (j : Nat) (hj : j ≤ b.length) : fw a b 0 j = j := by
  unfold fw
  rw [List.take_zero, List.reverse_nil, lev_nil, List.length_reverse, List.length_take]
  omega
theorem fw_1 (a b : List Nat) (i : Nat) (hi : i ≤ a.length) : fw a b i 0 = i := by
  unfold fw
  rw [List.take_zero, List.reverse_nil, lev_nil2, List.length_reverse, List.length_take]
  omega
theorem fw_all (a b : List Nat) : fw a b a.length b.length = lev a b := by
  unfold fw
  rw [List.take_length, List.take_length, lev_rev]
theorem min3_nat (x y z : Nat) : imin3 (x : Int) (y : Int) (z : Int) = ((min x (min y z) : Nat) : Int) := by
  unfold imin3 imin2
  split <;> split <;> omega
theorem ne_bint (a b : Nat) : bint (!decide (c1 a = c1 b)) = (ne1 a b : Int) := by
  unfold ne1
  by_cases h : a = b
  · rw [if_pos h, decide_eq_true ((c1_eq a b).mpr h)]
    rfl
  · rw [if_neg h, decide_eq_false fun z => h ((c1_eq a b).mp z)]
    rfl
/-! ### whiles -/
theorem whileS_run {S : Type} {c : S → Option Bool} {f : S → Option S} (g : Nat → S) : ∀ (n i N : Nat), n < N → (∀ k, i ≤ k → k < i + n → c (g k) = some true ∧ f (g k) = some (g (k + 1))) → c (g (i + n)) = some false → whileS c f N (g i) = some (g (i + n))
  | 0, i, N + 1, _, _, h => by
    show (c (g i)).bind _ = _
    rw [show c (g i) = some false from h]
    rfl
  | n + 1, i, N + 1, hn, st, h => by
    obtain ⟨h1, h2⟩ := st i (Nat.le_refl i) (by omega)
    show (c (g i)).bind _ = _
    rw [h1]
    show (f (g i)).bind (whileS c f N) = _
    rw [h2]
    show whileS c f N (g (i + 1)) = _
    rw [show i + (n + 1) = i + 1 + n by omega] at h ⊢
    exact whileS_run g n (i + 1) N (by omega) (fun k hk hk2 => st k (by omega) (by omega)) h
  | n, i, 0, hn, _, _ => absurd hn (by omega)
theorem cut_from {α : Type} (l : List α) (p : Nat) : cutA l (some (p : Int)) none = l.drop p := by
  unfold cutA
  rw [six _ _ _ (by omega), show HT.sIx l.length l.length none = l.length from rfl, Int.toNat_natCast]
  by_cases h : p ≤ l.length
  · rw [Nat.min_eq_left h, List.take_of_length_le (by rw [List.length_drop]; omega)]
  · rw [Nat.min_eq_right (by omega), List.drop_eq_nil_of_le (Nat.le_refl l.length), List.drop_eq_nil_of_le (show l.length ≤ p by omega), List.take_nil]
theorem cut_upto {α : Type} (l : List α) (p : Nat) : cutA l none (some (p : Int)) = l.take p := by
  unfold cutA
  rw [six _ _ _ (by omega), show HT.sIx l.length 0 none = 0 from rfl, Int.toNat_natCast, List.drop_zero, Nat.sub_zero]
  by_cases h : p ≤ l.length
  · rw [Nat.min_eq_left h]
  · rw [Nat.min_eq_right (by omega), List.take_length, List.take_of_length_le (by omega)]
/-! ### at most one change -/
def cpl : List Nat → List Nat → Nat
  | a :: x, b :: y => if a = b then cpl x y + 1 else 0
  | _, _ => 0
theorem lev_head (c : Nat) (x y : List Nat) : lev (c :: x) (c :: y) = lev x y := by
  have h1 := lev_le (.keep c (lev_ed x y))
  have hx : lev x (c :: x) ≤ 1 := lev_le (.put c (ed_self x))
  have t1 := lev_tri x (c :: x) (c :: y)
  have e1 : ne1 c c = 0 := by unfold ne1; rw [if_pos rfl]
  have h2 := lev_cons c c x y
  rw [e1, Nat.add_zero] at h2
  have a1 : lev x y ≤ lev x (c :: y) + 1 := by
    have := lev_tri x (c :: y) y
    have := lev_le (.cut c (ed_self y))
    omega
  have a2 : lev x y ≤ lev (c :: x) y + 1 := by
    have := lev_tri x (c :: x) y
    omega
  omega
theorem lev_cpl : ∀ (x y : List Nat), lev (x.drop (cpl x y)) (y.drop (cpl x y)) = lev x y
  | [], y => by rfl
  | a :: x, [] => by rfl
  | a :: x, b :: y => by
    unfold cpl
    by_cases h : a = b
    · rw [if_pos h, List.drop_succ_cons, List.drop_succ_cons, lev_cpl x y, h, lev_head]
    · rw [if_neg h]
      rfl
theorem cpl_le : ∀ (x y : List Nat), cpl x y ≤ x.length ∧ cpl x y ≤ y.length
  | [], y => by unfold cpl; simp
  | a :: x, [] => by unfold cpl; simp
  | a :: x, b :: y => by
    have := cpl_le x y
    unfold cpl
    split
    · rw [List.length_cons, List.length_cons]
      omega
    · simp
theorem cpl_same : ∀ (x y : List Nat) (k : Nat), k < cpl x y → x[k]? = y[k]?
  | [], y, k, h => by unfold cpl at h; omega
  | a :: x, [], k, h => by unfold cpl at h; omega
  | a :: x, b :: y, k, h => by
    unfold cpl at h
    split at h
    · cases k with
      | zero => rename_i e; show some a = some b; rw [e]
      | succ k => exact cpl_same x y k (by omega)
    · omega
theorem cpl_end : ∀ (x y : List Nat), cpl x y < x.length → cpl x y < y.length → x[cpl x y]? ≠ y[cpl x y]?
  | [], y, h, _ => by simp at h
  | a :: x, [], _, h => by simp at h
  | a :: x, b :: y, h, h2 => by
    unfold cpl at h h2 ⊢
    by_cases e : a = b
    · rw [if_pos e] at h h2 ⊢
      rw [List.length_cons] at h h2
      exact cpl_end x y (by omega) (by omega)
    · rw [if_neg e] at h h2 ⊢
      show some a ≠ some b
      exact fun z => e (Option.some.inj z)
/-- the same, or the same but for a first sign -/
def oneOff (x y : List Nat) : Prop := x = y ∨ x.drop 1 = y ∨ x = y.drop 1 ∨ x.drop 1 = y.drop 1
theorem oneOff_iff (x y : List Nat) (h : x[0]? ≠ y[0]? ∨ x = [] ∨ y = []) : oneOff x y ↔ lev x y ≤ 1 := by
  unfold oneOff
  cases x with
  | nil =>
    rw [lev_nil]
    cases y with
    | nil => simp
    | cons b y =>
      cases y with
      | nil => simp
      | cons c y => simp
  | cons a x =>
    cases y with
    | nil =>
      rw [lev_nil2]
      cases x with
      | nil => simp
      | cons c x => simp
    | cons b y =>
      have hab : a ≠ b := by
        rcases h with h | h | h
        · intro e
          exact h (by rw [e]; rfl)
        · cases h
        · cases h
      rw [lev_cons]
      have e1 : ne1 a b = 1 := by unfold ne1; rw [if_neg hab]
      rw [e1]
      have z1 := lev_zero x y
      have z2 := lev_zero x (b :: y)
      have z3 := lev_zero (a :: x) y
      constructor
      · rintro (e | e | e | e)
        · injection e with e
          exact absurd e hab
        · have := z2.mpr e
          omega
        · have := z3.mpr e
          omega
        · have := z1.mpr e
          omega
      · intro hle
        by_cases q1 : lev x y = 0
        · exact .inr (.inr (.inr (z1.mp q1)))
        · by_cases q2 : lev x (b :: y) = 0
          · exact .inr (.inl (z2.mp q2))
          · by_cases q3 : lev (a :: x) y = 0
            · exact .inr (.inr (.inl (z3.mp q3)))
            · omega
theorem near_iff (x y : List Nat) : oneOff (x.drop (cpl x y)) (y.drop (cpl x y)) ↔ lev x y ≤ 1 := by
  rw [oneOff_iff, lev_cpl]
  have hl := cpl_le x y
  by_cases h1 : cpl x y < x.length
  · by_cases h2 : cpl x y < y.length
    · refine .inl ?_
      rw [List.getElem?_drop, List.getElem?_drop, Nat.add_zero]
      exact cpl_end x y h1 h2
    · exact .inr (.inr (List.drop_eq_nil_of_le (by omega)))
  · exact .inr (.inl (List.drop_eq_nil_of_le (by omega)))
end MS

namespace MS
open PySem PySem.StrLaws TL L2 FK
/-! ### the rows of distances (the program's def) -/
def rowF (a b : List Nat) (i n : Nat) : List Int := (List.range n).map fun j => (fw a b i j : Int)
def gRow1 (s7 : (List (List Int))) (x9 : Int) (g : (Str × Str × Unit)) (s11 : (List Int)) (x13 : Int) : (Option (List Int)) := (Option.bind (Option.bind (Option.bind (atI s7 x9) fun (t15 : (List Int)) => Option.bind (some x13) fun (t16 : Int) => (atI t15 t16)) fun (t20 : Int) => Option.bind (Option.bind (Option.bind (sAt g.1 x9) fun (t17 : Str) => Option.bind (sAt g.2.1 x13) fun (t18 : Str) => some (!decide (t17 = t18))) fun (t19 : Bool) => some (bint t19)) fun (t21 : Int) => some (t20 + t21)) fun (turn_14 : Int) => (Option.bind (Option.bind (Option.bind (some turn_14) fun (t28 : Int) => Option.bind (Option.bind (Option.bind (atI s7 x9) fun (t22 : (List Int)) => Option.bind (some (x13 + (1 : Int))) fun (t23 : Int) => (atI t22 t23)) fun (t24 : Int) => Option.bind (some (1 : Int)) fun (t25 : Int) => some (t24 + t25)) fun (t29 : Int) => Option.bind (Option.bind (atI s11 x13) fun (t26 : Int) => Option.bind (some (1 : Int)) fun (t27 : Int) => some (t26 + t27)) fun (t30 : Int) => some (imin3 t28 t29 t30)) fun (t32 : Int) => (lApp s11 t32)) fun (row_31 : (List Int)) => (some row_31)))
def gRow2 (g : (Str × Str × Unit)) (s7 : (List (List Int))) (x9 : Int) : (Option (List (List Int))) := (Option.bind (some [(x9 + (1 : Int))]) fun (row_10 : (List Int)) => (Option.bind (Option.bind (Option.bind (sLen g.2.1) fun (t12 : Int) => (range1 t12)) fun (xs33 : List Int) => forS (S := (List Int)) (gRow1 s7 x9 g) xs33 row_10) fun (s34 : (List Int)) => (Option.bind (Option.bind (some s34) fun (t36 : (List Int)) => (lApp s7 t36)) fun (rows_35 : (List (List Int))) => (some rows_35))))
def gRows : Str × Str × Unit → Option (List (List Int)) := fun (g : Str × Str × Unit) => (Option.bind (Option.bind (Option.bind (Option.bind (sLen g.2.1) fun (t2 : Int) => Option.bind (some (1 : Int)) fun (t3 : Int) => some (t2 + t3)) fun (t4 : Int) => (lrange1 t4)) fun (t5 : (List Int)) => Option.bind (some ([] : List (List Int))) fun (t6 : List (List Int)) => some (t5 :: t6)) fun (rows_1 : (List (List Int))) => (Option.bind (Option.bind (Option.bind (sLen g.1) fun (t8 : Int) => (range1 t8)) fun (xs37 : List Int) => forS (S := (List (List Int))) (gRow2 g) xs37 rows_1) fun (s38 : (List (List Int))) => (some s38)))
def gDist : Str × Str × Unit → Option Int := fun (g : Str × Str × Unit) => (Option.bind (Option.bind (gRows (g.1, (g.2.1, ()))) fun (t1 : (List (List Int))) => Option.bind (sLen g.1) fun (t2 : Int) => (atI t1 t2)) fun (t3 : (List Int)) => Option.bind (sLen g.2.1) fun (t4 : Int) => (atI t3 t4))
def rowsF (a b : List Nat) (n : Nat) : List (List Int) := (List.range n).map fun i => rowF a b i (b.length + 1)
theorem row1_eq (a b : List Nat) (i j : Nat) (hi : i < a.length) (hj : j < b.length) (ha : a.length ≤ 10000) (hb : b.length ≤ 10000) :
    gRow1 (rowsF a b (i + 1)) (i : Int) (mks a, (mks b, ())) (rowF a b (i + 1) (j + 1)) (0 + (j : Nat)) = some (rowF a b (i + 1) (j + 1 + 1)) := by
  unfold gRow1
  rw [Int.zero_add]
  have e1 : atI (rowsF a b (i + 1)) (i : Int) = some (rowF a b i (b.length + 1)) := at_map _ _ i (by omega)
  have e2 : atI (rowF a b i (b.length + 1)) (j : Int) = some (fw a b i j : Int) := at_map _ _ j (by omega)
  have e3 : atI (rowF a b i (b.length + 1)) ((j : Int) + 1) = some (fw a b i (j + 1) : Int) := at_map' _ _ (j + 1) _ (by omega) (by omega)
  have e4 : atI (rowF a b (i + 1) (j + 1)) (j : Int) = some (fw a b (i + 1) j : Int) := at_map _ _ j (by omega)
  rw [e1]
  show Option.bind (Option.bind (atI (rowF a b i (b.length + 1)) (j : Int)) fun (t20 : Int) => Option.bind (Option.bind (Option.bind (sAt (mks a) (i : Int)) fun (t17 : Str) => Option.bind (sAt (mks b) (j : Int)) fun (t18 : Str) => some (!decide (t17 = t18))) fun (t19 : Bool) => some (bint t19)) fun (t21 : Int) => some (t20 + t21)) (fun (turn_14 : Int) => Option.bind (Option.bind (Option.bind (Option.bind (atI (rowF a b i (b.length + 1)) ((j : Int) + 1)) fun (t24 : Int) => some (t24 + 1)) fun (t29 : Int) => Option.bind (Option.bind (atI (rowF a b (i + 1) (j + 1)) (j : Int)) fun (t26 : Int) => some (t26 + 1)) fun (t30 : Int) => some (imin3 turn_14 t29 t30)) fun (t32 : Int) => lApp (rowF a b (i + 1) (j + 1)) t32) fun z => some z) = _
  rw [e2, e3, e4, sAt_mks a i hi (by omega), sAt_mks b j hj (by omega)]
  show Option.bind (lApp (rowF a b (i + 1) (j + 1)) (imin3 ((fw a b i j : Int) + bint (!decide (c1 a[i] = c1 b[j]))) ((fw a b i (j + 1) : Int) + 1) ((fw a b (i + 1) j : Int) + 1))) (fun z => some z) = _
  rw [ne_bint]
  have e5 : imin3 ((fw a b i j : Int) + (ne1 a[i] b[j] : Int)) ((fw a b i (j + 1) : Int) + 1) ((fw a b (i + 1) j : Int) + 1) = (fw a b (i + 1) (j + 1) : Int) := by
    rw [fw_step a b i j hi hj]
    exact min3_nat _ _ _
  rw [e5, app_eq _ _ (by unfold rowF; rw [List.length_map, List.length_range]; omega)]
  exact congrArg some (map_snoc _ (j + 1))
theorem row2_eq (a b : List Nat) (i : Nat) (hi : i < a.length) (ha : a.length ≤ 10000) (hb : b.length ≤ 10000) :
    gRow2 (mks a, (mks b, ())) (rowsF a b (i + 1)) (0 + (i : Nat)) = some (rowsF a b (i + 1 + 1)) := by
  unfold gRow2
  have e0 : [(i : Int) + 1] = rowF a b (i + 1) (0 + 1) := by
    show _ = [(fw a b (i + 1) 0 : Int)]
    rw [fw_1 a b (i + 1) (by omega)]
    rfl
  have e : forS (gRow1 (rowsF a b (i + 1)) (i : Int) (mks a, (mks b, ()))) (rng 0 b.length) (rowF a b (i + 1) (0 + 1)) = some (rowF a b (i + 1) (b.length + 1)) :=
    forS_rng (fun j => rowF a b (i + 1) (j + 1)) 0 b.length fun j hj => row1_eq a b i j hi hj ha hb
  have e2 := app_eq (rowsF a b (i + 1)) (rowF a b (i + 1) (b.length + 1)) (by unfold rowsF; rw [List.length_map, List.length_range]; omega)
  simp only [bs, Int.zero_add, sLen_mks b (by omega), range1_nat b.length (by omega), e0, e, e2]
  exact congrArg some (map_snoc (fun i => rowF a b i (b.length + 1)) (i + 1))
theorem rows_gen (a b : List Nat) (ha : a.length ≤ 10000) (hb : b.length ≤ 10000) : gRows (mks a, (mks b, ())) = some (rowsF a b (a.length + 1)) := by
  unfold gRows
  have e1 : lrange1 ((b.length : Int) + 1) = some (rowF a b 0 (b.length + 1)) := by
    unfold lrange1
    rw [if_pos (by omega), show ((b.length : Int) + 1).toNat = b.length + 1 by omega]
    congr 1
    unfold rng rowF
    refine List.map_congr_left fun j hj => ?_
    rw [fw_0 a b j (by have := List.mem_range.mp hj; omega)]
    omega
  have e : forS (gRow2 (mks a, (mks b, ()))) (rng 0 a.length) (rowsF a b (0 + 1)) = some (rowsF a b (a.length + 1)) := forS_rng (fun i => rowsF a b (i + 1)) 0 a.length fun i hi => row2_eq a b i hi ha hb
  have e0 : [rowF a b 0 (b.length + 1)] = rowsF a b (0 + 1) := rfl
  simp only [bs, sLen_mks b (by omega), sLen_mks a (by omega), e1, range1_nat a.length (by omega), e0, e]
theorem dist_gen (a b : List Nat) (ha : a.length ≤ 10000) (hb : b.length ≤ 10000) : gDist (mks a, (mks b, ())) = some (lev a b : Int) := by
  unfold gDist
  show Option.bind (Option.bind (gRows (mks a, (mks b, ()))) fun (t1 : List (List Int)) => Option.bind (sLen (mks a)) fun (t2 : Int) => atI t1 t2) (fun (t3 : List Int) => Option.bind (sLen (mks b)) fun (t4 : Int) => atI t3 t4) = _
  rw [rows_gen a b ha hb, sLen_mks a (by omega), sLen_mks b (by omega)]
  show Option.bind (atI (rowsF a b (a.length + 1)) (a.length : Int)) (fun (t3 : List Int) => atI t3 (b.length : Int)) = _
  rw [show atI (rowsF a b (a.length + 1)) (a.length : Int) = some (rowF a b a.length (b.length + 1)) from at_map _ _ a.length (by omega)]
  show atI (rowF a b a.length (b.length + 1)) (b.length : Int) = _
  rw [show atI (rowF a b a.length (b.length + 1)) (b.length : Int) = some (fw a b a.length b.length : Int) from at_map _ _ b.length (by omega), fw_all]
end MS

/-! that a mirror comes to a value, and what holds of it -/
namespace MS
open PySem PySem.StrLaws TL L2 FK
theorem bsr {α : Type} (m : Option α) : Option.bind m (fun z => some z) = m := by cases m <;> rfl
def Ok {α : Type} (m : Option α) (Q : α → Prop) : Prop := ∃ a, m = some a ∧ Q a
section
variable {α β γ : Type} {m : Option α} {f : α → Option β} {P : α → Prop} {Q : β → Prop} {x y : Option β}
theorem Ok.bind (h : Ok m P) (k : ∀ a, P a → Ok (f a) Q) : Ok (m.bind f) Q := by
  obtain ⟨a, rfl, p⟩ := h
  exact k a p
theorem Ok.ret {a : α} (h : P a) : Ok (some a) P := ⟨a, rfl, h⟩
theorem Ok.mono {P' : α → Prop} (h : Ok m P) (k : ∀ a, P a → P' a) : Ok m P' := by
  obtain ⟨a, e, p⟩ := h
  exact ⟨a, e, k a p⟩
theorem Ok.any (h : Ok m P) : Ok m fun _ => True := h.mono fun _ _ => trivial
theorem Ok.ifs {b : Bool} (h1 : b = true → Ok x Q) (h2 : b = false → Ok y Q) : Ok (ifM (some b) x y) Q := by
  cases b
  · exact h2 rfl
  · exact h1 rfl
theorem Ok.ifd {c : Prop} [Decidable c] (h1 : c → Ok x Q) (h2 : ¬ c → Ok y Q) : Ok (ifM (some (decide c)) x y) Q := .ifs (fun e => h1 (of_decide_eq_true e)) fun e => h2 (of_decide_eq_false e)
theorem Ok.ifm {c : Option Bool} {R : Bool → Prop} (hc : Ok c R) (h1 : R true → Ok x Q) (h2 : R false → Ok y Q) : Ok (ifM c x y) Q := by
  obtain ⟨b, rfl, r⟩ := hc
  cases b
  · exact h2 r
  · exact h1 r
theorem Ok.and {a b : Option Bool} {R S : Bool → Prop} (ha : Ok a R) (hb : R true → Ok b S) : Ok (bAnd a b) fun _ => True := by
  obtain ⟨k, rfl, r⟩ := ha
  cases k
  · exact ⟨false, rfl, trivial⟩
  · exact (hb r).any
theorem Ok.or {a b : Option Bool} {R S : Bool → Prop} (ha : Ok a R) (hb : R false → Ok b S) : Ok (bOr a b) fun _ => True := by
  obtain ⟨k, rfl, r⟩ := ha
  cases k
  · exact (hb r).any
  · exact ⟨true, rfl, trivial⟩
theorem Ok.eq {a : α} (e : m = some a) : Ok m fun z => z = a := ⟨a, e, rfl⟩
end
theorem okAt {α : Type} {l : List α} {i : Int} (h0 : 0 ≤ i) (h1 : i < l.length) : Ok (atI l i) fun x => x ∈ l := by
  obtain ⟨j, rfl⟩ := Int.eq_ofNat_of_zero_le h0
  exact ⟨_, atI_nat' l j (by omega), List.getElem_mem _⟩
theorem okMod {x y : Int} (h : 0 < y) : Ok (imod x y) fun z => z = x % y ∧ 0 ≤ z ∧ z < y := ⟨x % y, if_pos h, rfl, Int.emod_nonneg _ (by omega), Int.emod_lt_of_pos _ h⟩
theorem okApp {α : Type} {l : List α} {x : α} (h : l.length < 16000000) : Ok (lApp l x) fun z => z = l ++ [x] := ⟨_, app_eq l x h, rfl⟩
theorem okCat {α : Type} {x y : List α} (h : x.length + y.length ≤ 16000000) : Ok (lCat x y) fun z => z = x ++ y := ⟨_, if_pos h, rfl⟩
theorem okAdd {x y : Str} (h : x.length + y.length ≤ 16000000) : Ok (sAdd x y) fun z => z = x ++ y ∧ z.length = x.length + y.length := ⟨_, if_pos h, rfl, by
  rw [← mks_tl x, ← mks_tl y, app_mks, len_mks, len_mks, len_mks, List.length_append]⟩
theorem okCut {x : Str} {lo hi : Option Int} (h : x.length ≤ 16000000) : Ok (sCut x lo hi) fun z => z = cutS x lo hi ∧ z.length ≤ x.length := ⟨_, if_pos h, rfl, by
  rw [← mks_tl x, cutS_mks, len_mks, len_mks]
  exact cut_len _ _ _⟩
theorem okSAt {x : Str} {i : Int} (h0 : 0 ≤ i) (h1 : i < x.length) (hz : x.length ≤ 16000000) : Ok (sAt x i) fun z => ∃ c, c ∈ tl x ∧ z = c1 c := by
  obtain ⟨j, rfl⟩ := Int.eq_ofNat_of_zero_le h0
  exact ⟨_, sAt_nat x j (by rw [← len_tl]; omega) hz, _, List.getElem_mem _, rfl⟩
theorem okMul {x y : Int} (h : (-(2 ^ 64) < x ∧ x < 2 ^ 64) ∨ (-(2 ^ 64) < y ∧ y < 2 ^ 64)) : Ok (imul x y) fun z => z = x * y := ⟨_, if_pos h, rfl⟩
theorem okSort {α : Type} [DecidableEq α] [PySem.W.DatumOrd α] {x : List α} (h : x.length ≤ 16000000) : Ok (sSort x) fun z => z = srt x := ⟨_, if_pos h, rfl⟩
theorem mem_srt {α : Type} [DecidableEq α] [PySem.W.DatumOrd α] {x : List α} {a : α} : a ∈ srt x ↔ a ∈ x := List.mem_mergeSort
theorem len_srt {α : Type} [DecidableEq α] [PySem.W.DatumOrd α] (x : List α) : (srt x).length = x.length := List.length_mergeSort x
theorem sum_le {l : List Nat} {k : Nat} (h : ∀ x ∈ l, x ≤ k) : l.sum ≤ l.length * k := by
  induction l with
  | nil => exact Nat.zero_le _
  | cons a r ih =>
    rw [List.sum_cons, List.length_cons, Nat.succ_mul]
    have := h a List.mem_cons_self
    have := ih fun x hx => h x (List.mem_cons_of_mem _ hx)
    omega
theorem join_len_str (x : Str) (ys : List Str) : (Txt.join x ys).length ≤ (ys.map (·.length)).sum + ys.length * x.length := by
  have key : ∀ (s : List Nat) (L : List (List Nat)), (joinL s L).length ≤ (L.map (·.length)).sum + L.length * s.length := by
    intro s L
    induction L with
    | nil => exact Nat.zero_le _
    | cons p r ih =>
      cases r with
      | nil =>
        show p.length ≤ _
        simp
      | cons q r =>
        show (p ++ (s ++ joinL s (q :: r))).length ≤ _
        rw [List.length_append, List.length_append, List.map_cons, List.sum_cons, List.length_cons, Nat.succ_mul]
        omega
  have := key (tl x) (ys.map tl)
  rw [join_eq, len_tl, tl_join]
  rw [List.map_map, List.length_map] at this
  have e : (ys.map ((·.length) ∘ tl)) = ys.map (·.length) := List.map_congr_left fun y _ => (len_tl y).symm
  rw [e, ← len_tl x] at this
  exact this
theorem okJoin {x : Str} {ys : List Str} {k : Nat} (hy : ∀ y ∈ ys, y.length ≤ k) (h : ys.length * (k + x.length) ≤ 16000000) : Ok (sJoin x ys) fun z => z = Txt.join x ys ∧ z.length ≤ ys.length * (k + x.length) := by
  have h1 : (ys.map (·.length)).sum ≤ ys.length * k := by
    have := sum_le (l := ys.map (·.length)) (k := k) fun n hn => by
      obtain ⟨y, hm, rfl⟩ := List.mem_map.mp hn
      exact hy y hm
    rw [List.length_map] at this
    exact this
  have h2 := join_len_str x ys
  rw [Nat.mul_add] at h ⊢
  exact ⟨_, if_pos (by omega), rfl, by omega⟩
/-- all of them -/
theorem okMap {α β : Type} {f : α → Option β} {xs : List α} {Q : β → Prop} (hz : xs.length < 1000000) (hf : ∀ x ∈ xs, Ok (f x) Q) : Ok (lcG (fun _ => some true) f xs) fun ys => ys.length = xs.length ∧ ∀ y ∈ ys, Q y := by
  unfold lcG
  rw [if_pos hz]
  clear hz
  induction xs with
  | nil => exact ⟨[], rfl, rfl, fun y hy => (List.not_mem_nil hy).elim⟩
  | cons x r ih =>
    obtain ⟨ys, ey, hl, hq⟩ := ih fun z hz => hf z (List.mem_cons_of_mem _ hz)
    obtain ⟨y, ef, q⟩ := hf x List.mem_cons_self
    show Ok ((f x).bind fun y => (lcM (fun _ => some true) f r).bind fun ys => some (y :: ys)) _
    rw [ef, ey]
    refine ⟨y :: ys, rfl, by rw [List.length_cons, List.length_cons]; omega, fun z hz => ?_⟩
    rcases List.mem_cons.mp hz with rfl | hz
    · exact q
    · exact hq z hz
theorem lc_filterMap {α β : Type} {t : α → Bool} {g : α → β} : ∀ xs : List α, lcM (fun x => some (t x)) (fun x => some (g x)) xs = some ((xs.filter t).map g)
  | [] => rfl
  | x :: r => by
    show (if t x = true then (some (g x)).bind fun y => (lcM (fun x => some (t x)) (fun x => some (g x)) r).bind fun ys => some (y :: ys) else lcM (fun x => some (t x)) (fun x => some (g x)) r) = _
    rw [lc_filterMap r, List.filter_cons]
    cases t x <;> rfl
theorem okSel {α β : Type} {t : α → Bool} {g : α → β} {xs : List α} (hz : xs.length < 1000000) : lcG (fun x => some (t x)) (fun x => some (g x)) xs = some ((xs.filter t).map g) := by
  unfold lcG
  rw [if_pos hz, lc_filterMap]
theorem okForR {S : Type} {f : S → Int → Option S} (P : Nat → S → Prop) {n : Nat} {s : S} (h0 : P 0 s) (st : ∀ k s, k < n → P k s → Ok (f s (k : Int)) (P (k + 1))) : Ok (forS f (rng 0 n) s) (P n) :=
  forS_exr (f := f) P 0 n s (fun k s hk hp => by rw [Int.zero_add]; exact st k s hk hp) h0
end MS

namespace G
open PySem PySem.StrLaws TL L2 FK MS
def m__law_cell_at : Scr × Int × Unit → Option Int := fun (g : Scr × Int × Unit) => (ifM (some (decide (g.2.1 < (g.1.l.length : Int)))) (atI g.1.l g.2.1) (some (0 : Int)))
def b__law_stream_1  (s3 : (Int × (List Int))) (x4 : Int) : (Option (Int × (List Int))) := (Option.bind (Option.bind (Option.bind (Option.bind (imul s3.1 s3.1) fun (t6 : Int) => Option.bind (imul (69621 : Int) s3.1) fun (t7 : Int) => some (t6 + t7)) fun (t8 : Int) => Option.bind (some x4) fun (t9 : Int) => some (t8 + t9)) fun (t10 : Int) => some (t10 % 4294967311)) fun (number_5 : Int) => (Option.bind (Option.bind (some number_5) fun (t12 : Int) => (lApp s3.2 t12)) fun (found_11 : (List Int)) => (some (number_5, found_11))))
def m__law_stream : Int × Int × Unit → Option (List Int) := fun (g : Int × Int × Unit) => (Option.bind (some ([] : (List Int))) fun (found_1 : (List Int)) => (Option.bind (some ((g.1 % 4294967311) + (48271 : Int))) fun (number_2 : Int) => (Option.bind (Option.bind (range1 (g.2.1 + (1 : Int))) fun (xs13 : List Int) => forS (S := (Int × (List Int))) (b__law_stream_1) xs13 (number_2, found_1)) fun (s14 : (Int × (List Int))) => (some (cutA s14.2 (some (1 : Int)) none)))))
def b__law_cards_1 (letters_1 : Str) (draws_2 : (List Int)) (at_7 : Int) (base_10 : Str) (g : (Int × Int × Unit)) (size_3 : Int) (s16 : (List Str)) (x17 : Int) : (Option (List Str)) := (Option.bind (Option.bind (some letters_1) fun (t22 : Str) => Option.bind (Option.bind (Option.bind (atI draws_2 ((2 : Int) + at_7)) fun (t19 : Int) => Option.bind (imul (7 : Int) x17) fun (t20 : Int) => some (t19 + t20)) fun (t21 : Int) => some (t21 % 26)) fun (t23 : Int) => (sAt t22 t23)) fun (sign_18 : Str) => (Option.bind (Option.bind (Option.bind (sCut base_10 none (some at_7)) fun (t25 : Str) => Option.bind (some sign_18) fun (t26 : Str) => (sAdd t25 t26)) fun (t27 : Str) => Option.bind (sCut base_10 (some (at_7 + (1 : Int))) none) fun (t28 : Str) => (sAdd t27 t28)) fun (name_24 : Str) => (Option.bind (ifM (bAnd (Option.bind (Option.bind (Option.bind (atI draws_2 (0 : Int)) fun (t29 : Int) => some (t29 / 12)) fun (t30 : Int) => some (t30 % 2)) fun (t31 : Int) => Option.bind (some (1 : Int)) fun (t32 : Int) => some (decide (t31 = t32))) (some (decide (g.2.1 ≤ size_3)))) (Option.bind (sCut base_10 none (some (size_3 - x17))) fun (name_34 : Str) => (some name_34)) (some name_24)) fun (s33 : Str) => (Option.bind (Option.bind (some s33) fun (t36 : Str) => (lApp s16 t36)) fun (cards_here_35 : (List Str)) => (some cards_here_35)))))
def b__law_cards_2 (letters_1 : Str) (x11 : Int) : (Option Str) := (sAt letters_1 (x11 % 26))
def m__law_cards : Int × Int × Unit → Option (List Str) := fun (g : Int × Int × Unit) => (Option.bind (some ("abcdefghijklmnopqrstuvwxyz" : Str)) fun (letters_1 : Str) => (Option.bind (m__law_stream (g.1, ((14 : Int), ()))) fun (draws_2 : (List Int)) => (Option.bind (Option.bind (some (1 : Int)) fun (t5 : Int) => Option.bind (Option.bind (atI draws_2 (0 : Int)) fun (t4 : Int) => some (t4 % 12)) fun (t6 : Int) => some (t5 + t6)) fun (size_3 : Int) => (Option.bind (Option.bind (atI draws_2 (1 : Int)) fun (t8 : Int) => Option.bind (some size_3) fun (t9 : Int) => (imod t8 t9)) fun (at_7 : Int) => (Option.bind (Option.bind (some ("" : Str)) fun (t13 : Str) => Option.bind (Option.bind (some (cutA draws_2 (some (2 : Int)) (some ((2 : Int) + size_3)))) fun (xs12 : List Int) => lcG (fun (x11 : Int) => (some true)) (b__law_cards_2 letters_1) xs12) fun (t14 : (List Str)) => (sJoin t13 t14)) fun (base_10 : Str) => (Option.bind (some ([] : (List Str))) fun (cards_here_15 : (List Str)) => (Option.bind (Option.bind (range1 g.2.1) fun (xs37 : List Int) => forS (S := (List Str)) (b__law_cards_1 letters_1 draws_2 at_7 base_10 g size_3) xs37 cards_here_15) fun (s38 : (List Str)) => (some s38))))))))
def b_texts_of_1 (g : ((List (T3 Str Str Str)) × Str × Str × Unit)) (x1 : (T3 Str Str Str)) : (Option Bool) := (bAnd (some (decide (x1.a = g.2.1))) (some (decide (x1.b = g.2.2.1))))
def m_texts_of : (List (T3 Str Str Str)) × Str × Str × Unit → Option (List Str) := fun (g : (List (T3 Str Str Str)) × Str × Str × Unit) => (Option.bind (Option.bind (some g.1) fun (xs5 : List (T3 Str Str Str)) => lcG (b_texts_of_1 g) (fun (x1 : (T3 Str Str Str)) => (some x1.c)) xs5) fun (t6 : (List Str)) => (sSort t6))
def b_neighbours_1 (g : ((List (T3 Int Int Int)) × (List (Int × Int)) × Int × Unit)) (s2 : (List Int)) (x3 : (T3 Int Int Int)) : (Option (List Int)) := (ifM (bAnd (some (decide ((0 : Int) < x3.c))) (some (!lMem (x3.a, x3.b) g.2.1))) (Option.bind (ifM (some (decide (x3.a = g.2.2.1))) (Option.bind (Option.bind (some x3.b) fun (t9 : Int) => (lApp s2 t9)) fun (near_8 : (List Int)) => (some near_8)) (some s2)) fun (s7 : (List Int)) => (ifM (some (decide (x3.b = g.2.2.1))) (Option.bind (Option.bind (some x3.a) fun (t11 : Int) => (lApp s7 t11)) fun (near_10 : (List Int)) => (some near_10)) (some s7))) (some s2))
def m_neighbours : (List (T3 Int Int Int)) × (List (Int × Int)) × Int × Unit → Option (List Int) := fun (g : (List (T3 Int Int Int)) × (List (Int × Int)) × Int × Unit) => (Option.bind (some ([] : (List Int))) fun (near_1 : (List Int)) => (Option.bind (Option.bind (some g.1) fun (xs12 : List (T3 Int Int Int)) => forS (S := (List Int)) (b_neighbours_1 g) xs12 near_1) fun (s13 : (List Int)) => (some s13)))
def b_part_from_1  (s4 : (List Int)) (x11 : Int) : (Option (List Int)) := (ifM (some (!decide (x11 ∈ s4))) (Option.bind (Option.bind (some x11) fun (t13 : Int) => (lApp s4 t13)) fun (part_12 : (List Int)) => (some part_12)) (some s4))
def b_part_from_2 (g : ((List (T3 Int Int Int)) × (List (Int × Int)) × Int × Unit)) (s3 : ((List Int) × Int)) : (Option ((List Int) × Int)) := (Option.bind (Option.bind (Option.bind (Option.bind (some g.1) fun (t9 : (List (T3 Int Int Int))) => Option.bind (Option.bind (some g.2.1) fun (t7 : (List (Int × Int))) => Option.bind (Option.bind (atI s3.1 s3.2) fun (t5 : Int) => Option.bind (some ()) fun (t6 : Unit) => some (t5, t6)) fun (t8 : (Int × Unit)) => some (t7, t8)) fun (t10 : ((List (Int × Int)) × (Int × Unit))) => some (t9, t10)) m_neighbours) fun (xs14 : List Int) => forS (S := (List Int)) (b_part_from_1) xs14 s3.1) fun (s15 : (List Int)) => (Option.bind (some (s3.2 + (1 : Int))) fun (at_16 : Int) => (some (s15, at_16))))
def b_part_from_3  (s3 : ((List Int) × Int)) : (Option Bool) := (some (decide (s3.2 < (s3.1.length : Int))))
def m_part_from : (List (T3 Int Int Int)) × (List (Int × Int)) × Int × Unit → Option (List Int) := fun (g : (List (T3 Int Int Int)) × (List (Int × Int)) × Int × Unit) => (Option.bind (some [g.2.2.1]) fun (part_1 : (List Int)) => (Option.bind (some (0 : Int)) fun (at_2 : Int) => (Option.bind (whileS (S := ((List Int) × Int)) (b_part_from_3) (b_part_from_2 g) 1000000 (part_1, at_2)) fun (s17 : ((List Int) × Int)) => (sSort s17.1))))
def b_parts_of_1  (s6 : (Dct Int Bool)) (x7 : Int) : (Option (Dct Int Bool)) := (Option.bind (Option.bind (some true) fun (t9 : Bool) => Option.bind (some x7) fun (t10 : Int) => (dSet s6 t10 t9)) fun (seen_8 : (Dct Int Bool)) => (some seen_8))
def b_parts_of_2 (g : (Int × (List (T3 Int Int Int)) × (List (Int × Int)) × Unit)) (s3 : ((Dct Int Bool) × (List (List Int)))) (x4 : Int) : (Option ((Dct Int Bool) × (List (List Int)))) := (ifM (some (!dHas s3.1.l x4)) (Option.bind (m_part_from (g.2.1, (g.2.2.1, (x4, ())))) fun (part_5 : (List Int)) => (Option.bind (Option.bind (some part_5) fun (xs11 : List Int) => forS (S := (Dct Int Bool)) (b_parts_of_1) xs11 s3.1) fun (s12 : (Dct Int Bool)) => (Option.bind (Option.bind (some part_5) fun (t14 : (List Int)) => (lApp s3.2 t14)) fun (parts_13 : (List (List Int))) => (some (s12, parts_13))))) (some (s3.1, s3.2)))
def m_parts_of : Int × (List (T3 Int Int Int)) × (List (Int × Int)) × Unit → Option (List (List Int)) := fun (g : Int × (List (T3 Int Int Int)) × (List (Int × Int)) × Unit) => (Option.bind (some ([] : (List (List Int)))) fun (parts_1 : (List (List Int))) => (Option.bind (some (⟨[]⟩ : (Dct Int Bool))) fun (seen_2 : (Dct Int Bool)) => (Option.bind (Option.bind (range1 g.1) fun (xs15 : List Int) => forS (S := ((Dct Int Bool) × (List (List Int)))) (b_parts_of_2 g) xs15 (seen_2, parts_1)) fun (s16 : ((Dct Int Bool) × (List (List Int)))) => (some s16.2))))
def b_case_of_1 (s10 : (Dct Int Int)) (x21 : (Int × Int)) : (Option (Int × Int)) := (Option.bind (dGet s10.l x21.1) fun (t24 : Int) => Option.bind (dGet s10.l x21.2) fun (t25 : Int) => some (t24, t25))
def b_case_of_2 (s10 : (Dct Int Int)) (x21 : (Int × Int)) : (Option Bool) := (bAnd (some (dHas s10.l x21.1)) (some (dHas s10.l x21.2)))
def b_case_of_3 (s10 : (Dct Int Int)) (x12 : (T3 Int Int Int)) : (Option (T3 Int Int Int)) := (Option.bind (dGet s10.l x12.a) fun (t16 : Int) => Option.bind (dGet s10.l x12.b) fun (t17 : Int) => Option.bind (some x12.c) fun (t18 : Int) => some (⟨t16, t17, t18⟩ : (T3 Int Int Int)))
def b_case_of_4 (s10 : (Dct Int Int)) (x12 : (T3 Int Int Int)) : (Option Bool) := (bAnd (some (dHas s10.l x12.a)) (some (dHas s10.l x12.b)))
def b_case_of_5  (s2 : (Dct Int Int)) (x3 : (Int × Int)) : (Option (Dct Int Int)) := (Option.bind (Option.bind (some x3.1) fun (t7 : Int) => Option.bind (some x3.2) fun (t8 : Int) => (dSet s2 t8 t7)) fun (places_6 : (Dct Int Int)) => (some places_6))
def m_case_of : (List Int) × (List (T3 Int Int Int)) × (List (Int × Int)) × Unit → Option (T3 Int (List (T3 Int Int Int)) (List (Int × Int))) := fun (g : (List Int) × (List (T3 Int Int Int)) × (List (Int × Int)) × Unit) => (Option.bind (some (⟨[]⟩ : (Dct Int Int))) fun (places_1 : (Dct Int Int)) => (Option.bind (Option.bind (some (enumL g.1)) fun (xs9 : List (Int × Int)) => forS (S := (Dct Int Int)) (b_case_of_5) xs9 places_1) fun (s10 : (Dct Int Int)) => (Option.bind (Option.bind (some g.2.1) fun (xs19 : List (T3 Int Int Int)) => lcG (b_case_of_4 s10) (b_case_of_3 s10) xs19) fun (some_11 : (List (T3 Int Int Int))) => (Option.bind (Option.bind (some g.2.2.1) fun (xs26 : List (Int × Int)) => lcG (b_case_of_2 s10) (b_case_of_1 s10) xs26) fun (few_20 : (List (Int × Int))) => (some (⟨(g.1.length : Int), some_11, few_20⟩ : (T3 Int (List (T3 Int Int Int)) (List (Int × Int)))))))))
def m__law_weight : Int × Unit → Option Int := fun (g : Int × Unit) => (Option.bind (some ((1 : Int) + ((g.1 / 16) % 4))) fun (weight_here_1 : Int) => (Option.bind (ifM (some (decide (((g.1 / 8) % 2) = (1 : Int)))) (Option.bind (some ((1 : Int) + ((g.1 / 16) % (1000000000000000000000000000000 : Int)))) fun (weight_here_3 : Int) => (some weight_here_3)) (some weight_here_1)) fun (s2 : Int) => (atI [(0 : Int), s2, s2, s2, s2, (-s2), (-s2), (-s2)] (g.1 % 8))))
def b__law_case_1 (g : (Scr × Int × Int × Unit)) (x4 : Int) (s5 : (Int × (List (T3 Int Int Int)) × (List (Int × Int)))) (x6 : Int) : (Option (Int × (List (T3 Int Int Int)) × (List (Int × Int)))) := (Option.bind (m__law_cell_at (g.1, (s5.1, ()))) fun (cell_7 : Int) => (Option.bind (some (s5.1 + (1 : Int))) fun (at_8 : Int) => (Option.bind (ifM (some (decide ((0 : Int) < (cell_7 % 8)))) (Option.bind (Option.bind (Option.bind (some x4) fun (t10 : Int) => Option.bind (some x6) fun (t11 : Int) => Option.bind (m__law_weight (cell_7, ())) fun (t12 : Int) => some (⟨t10, t11, t12⟩ : (T3 Int Int Int))) fun (t14 : (T3 Int Int Int)) => (lApp s5.2.1 t14)) fun (pairs_13 : (List (T3 Int Int Int))) => (some pairs_13)) (some s5.2.1)) fun (s9 : (List (T3 Int Int Int))) => (ifM (some (decide (((cell_7 / 64) % 9) = (5 : Int)))) (Option.bind (Option.bind (some (x4, x6)) fun (t16 : (Int × Int)) => (lApp s5.2.2 t16)) fun (aparts_15 : (List (Int × Int))) => (some (at_8, s9, aparts_15))) (some (at_8, s9, s5.2.2))))))
def b__law_case_2 (g : (Scr × Int × Int × Unit)) (s3 : (Int × (List (T3 Int Int Int)) × (List (Int × Int)))) (x4 : Int) : (Option (Int × (List (T3 Int Int Int)) × (List (Int × Int)))) := (Option.bind (Option.bind (range2 (x4 + (1 : Int)) g.2.1) fun (xs17 : List Int) => forS (S := (Int × (List (T3 Int Int Int)) × (List (Int × Int)))) (b__law_case_1 g x4) xs17 (s3.1, s3.2.1, s3.2.2)) fun (s18 : (Int × (List (T3 Int Int Int)) × (List (Int × Int)))) => (some (s18.1, s18.2.1, s18.2.2)))
def m__law_case : Scr × Int × Int × Unit → Option ((List (T3 Int Int Int)) × (List (Int × Int))) := fun (g : Scr × Int × Int × Unit) => (Option.bind (some ([] : (List (T3 Int Int Int)))) fun (pairs_1 : (List (T3 Int Int Int))) => (Option.bind (some ([] : (List (Int × Int)))) fun (aparts_2 : (List (Int × Int))) => (Option.bind (Option.bind (range1 g.2.1) fun (xs19 : List Int) => forS (S := (Int × (List (T3 Int Int Int)) × (List (Int × Int)))) (b__law_case_2 g) xs19 (g.2.2.1, pairs_1, aparts_2)) fun (s20 : (Int × (List (T3 Int Int Int)) × (List (Int × Int)))) => (some (s20.2.1, s20.2.2)))))
end G

namespace G
open PySem PySem.StrLaws TL L2 FK MS
theorem cell_ok (x : Scr) (k : Int) (hk : 0 ≤ k) : Ok (m__law_cell_at (x, (k, ()))) fun z => z = 0 ∨ z ∈ x.l := by
  unfold m__law_cell_at
  refine .ifd (fun h => ?_) (fun h => .ret (.inl rfl))
  exact (okAt hk h).mono fun a h => .inr h
abbrev BIG : Int := 4294967311
theorem stream_ok (c : Int) (n : Nat) (hn : n ≤ 1000000) : Ok (m__law_stream (c, ((n : Int), ()))) fun l => l.length = n ∧ ∀ x ∈ l, 0 ≤ x ∧ x < BIG := by
  unfold m__law_stream
  simp only [bs]
  rw [show ((n : Int) + 1) = ((n + 1 : Nat) : Int) by omega, range1_nat (n + 1) (by omega)]
  simp only [bs]
  refine Ok.bind (P := fun (s : Int × List Int) => s.2.length = n + 1 ∧ ∀ x ∈ s.2, 0 ≤ x ∧ x < BIG) ?_ fun s hs => ?_
  · refine (okForR (fun k (s : Int × List Int) => (s.2.length = k ∧ ∀ x ∈ s.2, 0 ≤ x ∧ x < BIG) ∧ 0 ≤ s.1 ∧ s.1 < 2 ^ 34) ⟨⟨rfl, fun x hx => (List.not_mem_nil hx).elim⟩, ?_⟩ fun k s hk hs => ?_).mono fun s hs => hs.1
    · show 0 ≤ c % 4294967311 + 48271 ∧ c % 4294967311 + 48271 < 2 ^ 34
      omega
    · obtain ⟨⟨h1, h2⟩, h3, h4⟩ := hs
      unfold b__law_stream_1
      refine .bind (P := fun z => 0 ≤ z ∧ z < BIG) ?_ fun z hz => ?_
      · refine .bind (P := fun _ => True) ?_ fun y _ => ?_
        · refine .bind (P := fun _ => True) ?_ fun y _ => ?_
          · exact (okMul (by omega)).bind fun _ _ => (okMul (by omega)).bind fun _ _ => .ret trivial
          · exact .ret trivial
        · refine .ret ?_
          show 0 ≤ y % 4294967311 ∧ y % 4294967311 < 4294967311
          omega
      · refine (okApp (by omega)).bind fun l hl => .ret ⟨⟨?_, ?_⟩, ?_⟩
        · rw [hl, List.length_append, List.length_singleton, h1]
        · rw [hl]
          intro x hx
          rcases List.mem_append.mp hx with hx | hx
          · exact h2 x hx
          · rw [List.mem_singleton.mp hx]
            exact hz
        · show 0 ≤ z ∧ z < 2 ^ 34
          have : z < 4294967311 := hz.2
          omega
  · refine .ret ?_
    have e : cutA s.2 (some (1 : Int)) none = s.2.drop 1 := cut_from s.2 1
    rw [e]
    refine ⟨by rw [List.length_drop]; omega, fun x hx => hs.2 x (List.mem_of_mem_drop hx)⟩
theorem stream_ok' (c z : Int) (h0 : 0 ≤ z) (h1 : z ≤ 1000000) : Ok (m__law_stream (c, (z, ()))) fun l => (l.length : Int) = z ∧ ∀ x ∈ l, 0 ≤ x ∧ x < BIG := by
  obtain ⟨n, rfl⟩ := Int.eq_ofNat_of_zero_le h0
  exact (stream_ok c n (by omega)).mono fun l h => ⟨by rw [h.1], h.2⟩
abbrev ABC : Str := "abcdefghijklmnopqrstuvwxyz"
theorem abc_len : (ABC).length = 26 := by decide +kernel
theorem abc_at (k : Int) : Ok (sAt ABC (k % 26)) fun z => ∃ c, c ∈ tl ABC ∧ z = c1 c := okSAt (by omega) (by rw [abc_len]; omega) (by rw [abc_len]; decide)
theorem len_c1 (c : Nat) : (c1 c).length = 1 := rfl
/-- the cards' names: how many, how long -/
theorem cards_ok (c : Int) (n : Nat) (hn : n ≤ 1000) : Ok (m__law_cards (c, ((n : Int), ()))) fun l => l.length = n ∧ ∀ x ∈ l, x.length ≤ 30 := by
  unfold m__law_cards
  simp only [bs]
  refine (stream_ok c 14 (by decide)).bind fun ds hd => ?_
  refine .bind (P := fun z => 1 ≤ z ∧ z ≤ 12) ?_ fun size hs => ?_
  · refine .bind (P := fun z => 0 ≤ z ∧ z < 12) ?_ fun z hz => .ret (by omega)
    refine (okAt (by decide) (by rw [hd.1]; decide)).bind fun z _ => .ret ?_
    omega
  refine .bind (P := fun z => 0 ≤ z ∧ z < size) ?_ fun at_ ha => ?_
  · refine (okAt (by decide) (by rw [hd.1]; decide)).bind fun z _ => ?_
    exact (okMod (by omega)).mono fun _ h => h.2
  have hcut := cut_len ds (some (2 : Int)) (some ((2 : Int) + size))
  refine .bind (P := fun (z : Str) => z.length ≤ 14) ?_ fun base hb => ?_
  · refine (okMap (Q := fun (s : Str) => s.length ≤ 1) (by omega) fun x _ => ?_).bind fun ys hy => ?_
    · unfold b__law_cards_2
      exact (abc_at x).mono fun z ⟨c, _, e⟩ => by rw [e]; exact Nat.le_refl 1
    · have e : ("" : Str).length = 0 := rfl
      exact (okJoin (k := 1) hy.2 (by rw [e]; omega)).mono fun z hz => by rw [e] at hz; omega
  rw [range1_nat n (by omega)]
  simp only [bs]
  refine Ok.bind (P := fun l => l.length = n ∧ ∀ x ∈ l, x.length ≤ 30) ?_ fun l hl => .ret hl
  refine okForR (fun k (l : List Str) => l.length = k ∧ ∀ x ∈ l, x.length ≤ 30) ⟨rfl, fun x hx => (List.not_mem_nil hx).elim⟩ fun k l hk hl => ?_
  unfold b__law_cards_1
  simp only [bs]
  refine .bind (P := fun (z : Str) => z.length = 1) ?_ fun sg hsg => ?_
  · refine .bind (P := fun z => ∃ y : Int, z = y % 26) ?_ fun z ⟨y, e⟩ => ?_
    · refine .bind (P := fun _ => True) ?_ fun z _ => .ret ⟨z, rfl⟩
      exact (okAt (by omega) (by rw [hd.1]; omega)).bind fun z _ => (okMul (.inl (by decide))).bind fun _ _ => .ret trivial
    · rw [e]
      exact (abc_at y).mono fun z ⟨c, _, e⟩ => by rw [e]; rfl
  refine .bind (P := fun (z : Str) => z.length ≤ 30) ?_ fun nm hnm => ?_
  · refine .bind (P := fun (z : Str) => z.length ≤ 15) ?_ fun z hz => ?_
    · exact (okCut (by omega)).bind fun z hz => (okAdd (by omega)).mono fun w hw => by omega
    · exact (okCut (by omega)).bind fun y hy => (okAdd (by omega)).mono fun w hw => by omega
  refine .bind (P := fun (z : Str) => z.length ≤ 30) ?_ fun s hs => ?_
  · refine .ifm (R := fun _ => True) ?_ (fun _ => ?_) fun _ => .ret hnm
    · refine .and (R := fun _ => True) (S := fun _ => True) ?_ fun _ => .ret trivial
      refine .bind (P := fun _ => True) ?_ fun z _ => .ret trivial
      refine .bind (P := fun _ => True) ?_ fun z _ => .ret trivial
      exact (okAt (by decide) (by rw [hd.1]; decide)).bind fun z _ => .ret trivial
    · exact (okCut (by omega)).bind fun z hz => .ret (by omega)
  refine (okApp (by omega)).bind fun z hz => .ret ⟨by rw [hz, List.length_append, List.length_singleton, hl.1], fun x hx => ?_⟩
  rw [hz] at hx
  rcases List.mem_append.mp hx with hx | hx
  · exact hl.2 x hx
  · rw [List.mem_singleton.mp hx]
    exact hs
theorem cards_ok' (c z : Int) (h0 : 0 ≤ z) (h1 : z ≤ 1000) : Ok (m__law_cards (c, (z, ()))) fun l => (l.length : Int) = z ∧ ∀ x ∈ l, x.length ≤ 30 := by
  obtain ⟨n, rfl⟩ := Int.eq_ofNat_of_zero_le h0
  exact (cards_ok c n (by omega)).mono fun l h => ⟨by rw [h.1], h.2⟩
end G

namespace MS
open PySem PySem.Builtin PySem.Builtin.Str PySem.StrLaws TL L2 FK
theorem strip_ok {x : Str} (h : x.length ≤ 16000000) : Ok (sStrip x (" " : Str)) fun z => z.length ≤ x.length ∧ (∀ c ∈ tl z, c ∈ tl x) ∧ (tl z = [] ∨ ((tl z)[0]? ≠ some 32 ∧ (tl z)[(tl z).length - 1]? ≠ some 32)) := by
  refine ⟨_, if_pos h, ?_⟩
  unfold Txt.stripChars
  rw [PyProof.Rows.stripBy_eq]
  obtain ⟨a0, a1, a2⟩ := PyProof.Rows.lo_facts (" " : Str).cps.contains x
  obtain ⟨b0, b1, b2, b3⟩ := PyProof.Rows.hi_facts (" " : Str).cps.contains x _ a0
  generalize stripLo (" " : Str).cps.contains true x = lo at *
  generalize stripHi (" " : Str).cps.contains true x lo = hi at *
  have hg : ∀ c : Nat, (" " : Str).cps.contains c = false → c ≠ 32 := fun c hc e => by rw [e] at hc; exact absurd hc (by decide +kernel)
  have et : tl (strSub x lo hi) = ((tl x).drop lo).take (hi - lo) := tl_strSub x lo hi
  have hl : x.length = (tl x).length := len_tl x
  have hgd : ∀ k, x.cps.getD k 0 = (tl x).getD k 0 := fun k => by
    show _ = x.cps.toList.getD k 0
    simp [Array.getD_eq_getD_getElem?]
  refine ⟨?_, ?_, ?_⟩
  · rw [len_tl, et, hl, List.length_take, List.length_drop]
    omega
  · intro c hc
    rw [et] at hc
    exact List.mem_of_mem_drop (List.mem_of_mem_take hc)
  · rw [et]
    by_cases he : hi = lo
    · exact .inl (by rw [he, Nat.sub_self, List.take_zero])
    · refine .inr ⟨?_, ?_⟩
      · rw [List.getElem?_take, if_pos (by omega), List.getElem?_drop, Nat.add_zero]
        rcases a2 with a2 | a2
        · exact absurd (show hi = lo by omega) he
        · intro z
          refine hg _ a2 ?_
          rw [hgd, List.getD_eq_getElem?_getD, z]
          rfl
      · have hlen : (((tl x).drop lo).take (hi - lo)).length = hi - lo := by rw [List.length_take, List.length_drop]; omega
        rw [hlen, List.getElem?_take, if_pos (by omega), List.getElem?_drop, show lo + (hi - lo - 1) = hi - 1 by omega]
        rcases b3 with b3 | b3
        · exact absurd b3 he
        · intro z
          refine hg _ b3 ?_
          rw [hgd, List.getD_eq_getElem?_getD, z]
          rfl
end MS

/-! joined by edges: by labels, by walking -/
namespace MS
open PySem FK
inductive Conn (E : List (Nat × Nat)) : Nat → Nat → Prop
  | refl (a : Nat) : Conn E a a
  | step {a b c : Nat} : Conn E a b → ((b, c) ∈ E ∨ (c, b) ∈ E) → Conn E a c
section
variable {E : List (Nat × Nat)} {a b c : Nat}
theorem Conn.trans (h : Conn E a b) (k : Conn E b c) : Conn E a c := by
  induction k with
  | refl => exact h
  | step _ e ih => exact ih.step e
theorem Conn.edge (h : (a, b) ∈ E ∨ (b, a) ∈ E) : Conn E a b := (Conn.refl a).step h
theorem Conn.symm (h : Conn E a b) : Conn E b a := by
  induction h with
  | refl => exact .refl _
  | step _ e ih => exact (Conn.edge (e.elim .inr .inl)).trans ih
theorem Conn.mono {F : List (Nat × Nat)} (s : ∀ x ∈ E, x ∈ F) (h : Conn E a b) : Conn F a b := by
  induction h with
  | refl => exact .refl _
  | step _ e ih => exact ih.step (e.elim (fun z => .inl (s _ z)) fun z => .inr (s _ z))
end
/-- labels tell what is joined -/
def Labels (E : List (Nat × Nat)) (n : Nat) (L : List Int) : Prop := L.length = n ∧ ∀ a b, a < n → b < n → (L[a]? = L[b]? ↔ Conn E a b)
end MS

namespace MS
open PySem FK
/-- the blocks of 0 .. n - 1 that p holds of -/
noncomputable def sel (n : Nat) (p : Nat → Prop) : List Int := ((List.range n).filter fun x => dec (p x)).map fun (x : Nat) => (x : Int)
theorem nodup_le' {α : Type} [DecidableEq α] : ∀ {l m : List α}, l.Nodup → (∀ x ∈ l, x ∈ m) → l.length ≤ m.length
  | [], _, _, _ => Nat.zero_le _
  | a :: l, m, hn, hs => by
    have h1 := List.nodup_cons.mp hn
    have ha := hs a List.mem_cons_self
    have := nodup_le' (l := l) (m := m.erase a) h1.2 fun x hx => (List.mem_erase_of_ne fun e => h1.1 (by rw [← e]; exact hx)).mpr (hs x (List.mem_cons_of_mem _ hx))
    rw [List.length_erase_of_mem ha] at this
    have := List.length_pos_of_mem ha
    rw [List.length_cons]
    omega
def Inn (n : Nat) (l : List Int) : Prop := ∀ z ∈ l, 0 ≤ z ∧ z < n
/-! ### a case's links -/
def OkP (m : Nat) (ps : List (T3 Int Int Int)) : Prop := ∀ p ∈ ps, (0 ≤ p.a ∧ p.a < m) ∧ 0 ≤ p.b ∧ p.b < m
def lnk (qs : List (Int × Int)) (p : T3 Int Int Int) : Bool := decide (0 < p.c) && !lMem (p.a, p.b) qs
def edges (ps : List (T3 Int Int Int)) (qs : List (Int × Int)) : List (Nat × Nat) := (ps.filter (lnk qs)).map fun p => (p.a.toNat, p.b.toNat)
def nbs (qs : List (Int × Int)) (x : Int) (p : T3 Int Int Int) : List Int := if lnk qs p = true then (if p.a = x then [p.b] else []) ++ (if p.b = x then [p.a] else []) else []
end MS
namespace G
open PySem FK MS
end G

namespace G
open PySem FK MS
end G

namespace MS
open PySem FK
section
variable {κ α : Type} [Py κ] [DecidableEq κ] [Kq κ] [Py α]
theorem dget_cons (p : κ × α) (l : List (κ × α)) (k : κ) : dGet (p :: l) k = if p.1 = k then some p.2 else dGet l k := by
  unfold dGet
  rw [List.find?_cons]
  by_cases h : p.1 = k
  · rw [if_pos h, decide_eq_true h]
    rfl
  · rw [if_neg h, decide_eq_false h]
theorem any_has (l : List (κ × α)) (k : κ) : (l.any fun p => decide (p.1 = k)) = (dGet l k).isSome := by
  induction l with
  | nil => rfl
  | cons p l ih =>
    rw [List.any_cons, dget_cons, ih]
    by_cases h : p.1 = k
    · rw [if_pos h, decide_eq_true h]
      rfl
    · rw [if_neg h, decide_eq_false h]
      rfl
theorem dget_map (l : List (κ × α)) (k j : κ) (a : α) : dGet (l.map fun p => if p.1 = k then (p.1, a) else p) j = if j = k then (dGet l j).map fun _ => a else dGet l j := by
  induction l with
  | nil => split <;> rfl
  | cons p l ih =>
    rw [List.map_cons, dget_cons, dget_cons, ih]
    by_cases h : p.1 = k
    · rw [if_pos h]
      by_cases hj : p.1 = j
      · rw [if_pos hj, if_pos hj, if_pos (by rw [← hj, h])]
        rfl
      · rw [if_neg hj, if_neg hj]
    · rw [if_neg h]
      by_cases hj : p.1 = j
      · rw [if_pos hj, if_pos hj, if_neg (by rw [← hj]; exact h)]
      · rw [if_neg hj, if_neg hj]
theorem dget_app (l : List (κ × α)) (p : κ × α) (j : κ) : dGet (l ++ [p]) j = (dGet l j).or (if p.1 = j then some p.2 else none) := by
  induction l with
  | nil =>
    rw [List.nil_append, dget_cons]
    split <;> rfl
  | cons q l ih =>
    rw [List.cons_append, dget_cons, dget_cons, ih]
    split <;> rfl
theorem dget_put (l : List (κ × α)) (k j : κ) (a : α) : dGet (dPut l k a) j = if j = k then some a else dGet l j := by
  unfold dPut
  rw [any_has]
  cases h : dGet l k with
  | none =>
    rw [if_neg (by simp), dget_app]
    by_cases hj : j = k
    · rw [if_pos hj, hj, h, if_pos rfl]
      rfl
    · rw [if_neg hj, if_neg (fun e => hj e.symm)]
      cases dGet l j <;> rfl
  | some b =>
    rw [if_pos (show (some b).isSome = true from rfl), dget_map]
    by_cases hj : j = k
    · rw [if_pos hj, if_pos hj, hj, h]
      rfl
    · rw [if_neg hj, if_neg hj]
end
/-- the parts: each told by its first block -/
noncomputable def parts (E : List (Nat × Nat)) (n k : Nat) : List (List Int) := ((List.range k).filter fun b => dec (∀ a, a < b → ¬ Conn E a b)).map fun b => sel n (Conn E b)
end MS
namespace G
open PySem FK MS
end G

/-! the shortest way, by breadth: plain -/
namespace MS
section
variable {α : Type} [DecidableEq α] {E : α → α → Prop}
inductive Wk (E : α → α → Prop) (a : α) : Nat → α → Prop
  | nil : Wk E a 0 a
  | snoc {n : Nat} {b c : α} : Wk E a n b → E b c → Wk E a (n + 1) c
inductive Pth (E : α → α → Prop) (a : α) : List α → α → Prop
  | one : Pth E a [a] a
  | snoc {p : List α} {b c : α} : Pth E a p b → E b c → Pth E a (p ++ [c]) c
variable {a x y : α} {p : List α} {n : Nat}
theorem Pth.pos (h : Pth E a p x) : 0 < p.length := by
  cases h with
  | one => exact Nat.one_pos
  | snoc h e => rw [List.length_append]; exact Nat.succ_pos _
theorem Pth.wk (h : Pth E a p x) : Wk E a (p.length - 1) x := by
  induction h with
  | one => exact .nil
  | @snoc p b c h e ih =>
    have hp := h.pos
    have e1 : (p ++ [c]).length - 1 = (p.length - 1) + 1 := by rw [List.length_append, List.length_singleton]; omega
    rw [e1]
    exact ih.snoc e
theorem Pth.fst (h : Pth E a p x) : p[0]? = some a := by
  induction h with
  | one => rfl
  | snoc h e ih => rw [List.getElem?_append_left h.pos]; exact ih
theorem Pth.lst (h : Pth E a p x) : p[p.length - 1]? = some x := by
  cases h with
  | one => rfl
  | @snoc p b c h e =>
    have e1 : (p ++ [x]).length - 1 = p.length := by rw [List.length_append, List.length_singleton]; omega
    rw [e1, List.getElem?_append_right (Nat.le_refl _), Nat.sub_self]
    rfl
theorem Pth.edges (h : Pth E a p x) : ∀ k, k + 1 < p.length → ∃ u v, p[k]? = some u ∧ p[k + 1]? = some v ∧ E u v := by
  induction h with
  | one => intro k hk; exact absurd hk (by simp)
  | @snoc p b c h e ih =>
    intro k hk
    rw [List.length_append, List.length_singleton] at hk
    by_cases k1 : k + 1 < p.length
    · obtain ⟨u, v, h1, h2, h3⟩ := ih k k1
      exact ⟨u, v, by rw [List.getElem?_append_left (by omega)]; exact h1, by rw [List.getElem?_append_left k1]; exact h2, h3⟩
    · have e1 : k + 1 = p.length := by omega
      have hl := h.lst
      have e2 : p.length - 1 = k := by omega
      rw [e2] at hl
      refine ⟨b, c, by rw [List.getElem?_append_left (by omega)]; exact hl, ?_, e⟩
      rw [e1, List.getElem?_append_right (Nat.le_refl _), Nat.sub_self]
      rfl
theorem Wk.exit {T : α → Prop} (h : Wk E a n y) (ha : T a) (hy : ¬ T y) : ∃ m u z, m + 1 ≤ n ∧ Wk E a m u ∧ T u ∧ E u z ∧ ¬ T z := by
  induction h with
  | nil => exact absurd ha hy
  | @snoc n b c h e ih =>
    by_cases hb : T b
    · exact ⟨n, b, c, Nat.le_refl _, h, hb, e, hy⟩
    · obtain ⟨m, u, z, hm, r⟩ := ih hb
      exact ⟨m, u, z, by omega, r⟩
/-- breadth first: what stands after some of the first at+1 have been looked at -/
structure Bfs (E : α → α → Prop) (U : List α) (a : α) (w : α → Option (List α)) (T : List α) (k : Nat) : Prop where
  nd : T.Nodup
  fst : T[0]? = some a
  has : ∀ x, (w x).isSome = true ↔ x ∈ T
  sub : ∀ x ∈ T, x ∈ U
  way : ∀ (i : Nat) (x : α) (p : List α), T[i]? = some x → w x = some p → Pth E a p x ∧ p.length ≤ i + 1 ∧ ∀ n, Wk E a n x → p.length ≤ n + 1
  mono : ∀ (i j : Nat) (x y : α) (p q : List α), i ≤ j → T[i]? = some x → T[j]? = some y → w x = some p → w y = some q → p.length ≤ q.length
  near : ∀ x p y q, T[k]? = some x → w x = some p → y ∈ T → w y = some q → q.length ≤ p.length + 1
  clo : ∀ (i : Nat) (x y : α), i < k → T[i]? = some x → E x y → y ∈ T
variable {U T : List α} {w : α → Option (List α)} {k : Nat}
theorem Bfs.len (h : Bfs E U a w T k) : T.length ≤ U.length := nodup_le' h.nd h.sub
theorem Bfs.get (h : Bfs E U a w T k) (hx : x ∈ T) : ∃ p, w x = some p := Option.isSome_iff_exists.mp ((h.has x).mpr hx)
theorem Bfs.init (ha : a ∈ U) : Bfs E U a (fun z => if z = a then some [a] else none) [a] 0 where
  nd := List.nodup_cons.mpr ⟨List.not_mem_nil, .nil⟩
  fst := rfl
  has x := by
    by_cases e : x = a
    · rw [if_pos e]; simp [e]
    · rw [if_neg e]; simp [e]
  sub x hx := by rw [List.mem_singleton.mp hx]; exact ha
  way i x p h1 h2 := by
    have hx := List.mem_singleton.mp (List.mem_of_getElem? h1)
    subst hx
    rw [if_pos rfl] at h2
    cases h2
    exact ⟨.one, by simp, fun n _ => by simp⟩
  mono i j x y p q _ h1 h2 h3 h4 := by
    have hx := List.mem_singleton.mp (List.mem_of_getElem? h1)
    have hy := List.mem_singleton.mp (List.mem_of_getElem? h2)
    subst hx
    subst hy
    rw [h3] at h4
    cases h4
    exact Nat.le_refl _
  near x p y q h1 h2 h3 h4 := by
    have hx := List.mem_singleton.mp (List.mem_of_getElem? h1)
    have hy := List.mem_singleton.mp h3
    subst hx
    subst hy
    rw [h2] at h4
    cases h4
    omega
  clo i x y h := absurd h (Nat.not_lt_zero _)
theorem Bfs.add (h : Bfs E U a w T k) (hk : T[k]? = some x) (hw : w x = some p) (he : E x y) (hy : y ∉ T) (hu : y ∈ U) : Bfs E U a (fun z => if z = y then some (p ++ [y]) else w z) (T ++ [y]) k := by
  have hkl : k < T.length := (List.getElem?_eq_some_iff.mp hk).1
  have old : ∀ {i : Nat} {z : α}, (T ++ [y])[i]? = some z → (i < T.length ∧ T[i]? = some z ∧ z ≠ y) ∨ (i = T.length ∧ z = y) := by
    intro i z hz
    by_cases c : i < T.length
    · rw [List.getElem?_append_left c] at hz
      exact .inl ⟨c, hz, fun e => hy (e ▸ List.mem_of_getElem? hz)⟩
    · have hl := (List.getElem?_eq_some_iff.mp hz).1
      rw [List.length_append, List.length_singleton] at hl
      have e : i = T.length := by omega
      subst e
      rw [List.getElem?_append_right (Nat.le_refl _), Nat.sub_self] at hz
      exact .inr ⟨rfl, (Option.some.inj hz).symm⟩
  have key : ∀ n, Wk E a n y → p.length ≤ n := by
    intro n hn
    obtain ⟨m, u, z, hm, hu, hT, huz, hz⟩ := hn.exit (T := fun z => z ∈ T) (List.mem_of_getElem? h.fst) hy
    obtain ⟨i, hi⟩ := List.mem_iff_getElem?.mp hT
    obtain ⟨q, hq⟩ := h.get hT
    by_cases c : i < k
    · exact absurd (h.clo i u z c hi huz) hz
    · have h1 := h.mono k i x u p q (by omega) hk hi hw hq
      have h2 := (h.way i u q hi hq).2.2 m hu
      omega
  obtain ⟨pp, pl, ps⟩ := h.way k x p hk hw
  have bnd : ∀ z q, z ∈ T → w z = some q → q.length ≤ (p ++ [y]).length := fun z q hz hq => by
    have := h.near x p z q hk hw hz hq
    rw [List.length_append, List.length_singleton]
    exact this
  refine ⟨?_, ?_, ?_, ?_, ?_, ?_, ?_, ?_⟩
  · rw [List.nodup_append]
    refine ⟨h.nd, List.nodup_cons.mpr ⟨List.not_mem_nil, .nil⟩, fun u hu v hv e => ?_⟩
    rw [List.mem_singleton.mp hv] at e
    exact hy (e ▸ hu)
  · rw [List.getElem?_append_left (by omega)]; exact h.fst
  · intro z
    by_cases e : z = y
    · subst e
      simp
    · simp only [if_neg e]
      rw [h.has z, List.mem_append, List.mem_singleton]
      exact ⟨.inl, fun c => c.resolve_right e⟩
  · intro z hz
    rcases List.mem_append.mp hz with hz | hz
    · exact h.sub z hz
    · rw [List.mem_singleton.mp hz]; exact hu
  · intro i z q h1 h2
    rcases old h1 with ⟨hi, h1, hne⟩ | ⟨hi, rfl⟩
    · simp only [if_neg hne] at h2
      exact h.way i z q h1 h2
    · simp only [if_pos] at h2
      cases h2
      refine ⟨pp.snoc he, by rw [List.length_append, List.length_singleton]; omega, fun n hn => ?_⟩
      have := key n hn
      rw [List.length_append, List.length_singleton]
      omega
  · intro i j u v pu pv hij h1 h2 h3 h4
    rcases old h1 with ⟨hi, g1, hne⟩ | ⟨hi, rfl⟩
    · simp only [if_neg hne] at h3
      rcases old h2 with ⟨hj, g2, hne2⟩ | ⟨hj, rfl⟩
      · simp only [if_neg hne2] at h4
        exact h.mono i j u v pu pv hij g1 g2 h3 h4
      · simp only [if_pos] at h4
        cases h4
        exact bnd u pu (List.mem_of_getElem? g1) h3
    · rcases old h2 with ⟨hj, h2, hne2⟩ | ⟨hj, rfl⟩
      · omega
      · rw [h3] at h4
        cases h4
        exact Nat.le_refl _
  · intro u pu v pv h1 h2 h3 h4
    rw [List.getElem?_append_left hkl, hk] at h1
    cases h1
    have hne : x ≠ y := fun e => hy (e ▸ List.mem_of_getElem? hk)
    simp only [if_neg hne] at h2
    rw [hw] at h2
    cases h2
    by_cases e : v = y
    · subst e
      simp only [if_pos] at h4
      cases h4
      rw [List.length_append, List.length_singleton]
      exact Nat.le_refl _
    · simp only [if_neg e] at h4
      have hv : v ∈ T := by
        rcases List.mem_append.mp h3 with h3 | h3
        · exact h3
        · exact absurd (List.mem_singleton.mp h3) e
      exact h.near x p v pv hk hw hv h4
  · intro i u v hi h1 h2
    rw [List.getElem?_append_left (by omega)] at h1
    exact List.mem_append_left _ (h.clo i u v hi h1 h2)
/-- all looked at: nothing else is reached -/
theorem Bfs.all (h : Bfs E U a w T T.length) (hn : Wk E a n y) : y ∈ T := by
  refine Classical.byContradiction fun c => ?_
  obtain ⟨m, u, z, _, _, hT, huz, hz⟩ := hn.exit (T := fun z => z ∈ T) (List.mem_of_getElem? h.fst) c
  obtain ⟨i, hi⟩ := List.mem_iff_getElem?.mp hT
  exact hz (h.clo i u z (List.getElem?_eq_some_iff.mp hi).1 hi huz)
end
end MS

namespace G
open PySem PySem.StrLaws TL L2 FK MS
theorem weight_eq (k : Int) : ∃ z, m__law_weight (k, ()) = some z := by
  unfold m__law_weight
  simp only [bs, ifM_t]
  have at8 : ∀ w : Int, ∃ z, atI [(0 : Int), w, w, w, w, -w, -w, -w] (k % 8) = some z := fun w => by
    have h1 : 0 ≤ k % 8 := by omega
    obtain ⟨j, hj⟩ := Int.eq_ofNat_of_zero_le h1
    rw [hj]
    exact ⟨_, atI_nat' _ j (by simp only [List.length_cons, List.length_nil]; omega)⟩
  split
  · exact at8 _
  · exact at8 _
def OkA (m : Nat) (ps : List (Int × Int)) : Prop := ∀ p ∈ ps, (0 ≤ p.1 ∧ p.1 < m) ∧ 0 ≤ p.2 ∧ p.2 < m
end G

namespace G
open PySem PySem.StrLaws TL L2 FK MS
def m_tidy : (List (T3 Str Str Str)) × Unit → Option (List (T3 Str Str Str)) := fun (g : (List (T3 Str Str Str)) × Unit) => (tdy g.1)
def b_cards_of_1  (s2 : (Dct Str Bool)) (x3 : (T3 Str Str Str)) : (Option (Dct Str Bool)) := (Option.bind (Option.bind (some true) fun (t8 : Bool) => Option.bind (some x3.a) fun (t9 : Str) => (dSet s2 t9 t8)) fun (cards_7 : (Dct Str Bool)) => (ifM (some (decide (x3.b ∈ (⟨[("same" : Str), ("apart" : Str)]⟩ : Tl Str).l))) (Option.bind (Option.bind (some true) fun (t11 : Bool) => Option.bind (some x3.c) fun (t12 : Str) => (dSet cards_7 t12 t11)) fun (cards_10 : (Dct Str Bool)) => (some cards_10)) (some cards_7)))
def m_cards_of : (List (T3 Str Str Str)) × Unit → Option (List Str) := fun (g : (List (T3 Str Str Str)) × Unit) => (Option.bind (some (⟨[]⟩ : (Dct Str Bool))) fun (cards_1 : (Dct Str Bool)) => (Option.bind (Option.bind (some g.1) fun (xs13 : List (T3 Str Str Str)) => forS (S := (Dct Str Bool)) (b_cards_of_1) xs13 cards_1) fun (s14 : (Dct Str Bool)) => (if s14.l.length < 64 then some (srt (s14.l.map (·.1))) else none)))
end G

/-! loops by what was walked -/
namespace MS
open PySem PySem.StrLaws TL L2 FK
/-- a walk that goes on: P of the part walked and the state -/
theorem okForP {S α : Type} {f : S → α → Option S} (P : List α → S → Prop) : ∀ {xs : List α} {pre : List α} {s : S}, P pre s → (∀ p x q s, pre ++ xs = p ++ x :: q → pre.length ≤ p.length → P p s → Ok (f s x) (P (p ++ [x]))) → Ok (forS f xs s) (P (pre ++ xs))
  | [], pre, s, h, _ => ⟨s, rfl, by rw [List.append_nil]; exact h⟩
  | x :: r, pre, s, h, st => by
    obtain ⟨s1, e1, h1⟩ := st pre x r s rfl (Nat.le_refl _) h
    obtain ⟨s2, e2, h2⟩ := okForP P (xs := r) h1 fun p y q s e hl hp => st p y q s (by rw [← e, List.append_assoc]; rfl) (by rw [List.length_append] at hl; omega) hp
    rw [List.append_assoc] at h2
    refine ⟨s2, ?_, h2⟩
    show (f s x).bind _ = _
    rw [e1]
    exact e2
theorem okForL {S α : Type} {f : S → α → Option S} (P : List α → S → Prop) {xs : List α} {s : S} (h : P [] s) (st : ∀ p x q s, xs = p ++ x :: q → P p s → Ok (f s x) (P (p ++ [x]))) : Ok (forS f xs s) (P xs) :=
  okForP P (pre := []) h fun p x q s e _ hp => st p x q s e hp
/-- what a walk that may leave comes to -/
def Left {S ρ : Type} (A : S → Prop) (B : ρ → Prop) : Fl S ρ → Prop
  | .nx s => A s
  | .ct s => A s
  | .bk s => A s
  | .rt v => B v
/-- what a turn comes to: on, out, or back -/
def Turn {S ρ : Type} (N : S → Prop) (K : S → Prop) (B : ρ → Prop) : Fl S ρ → Prop
  | .nx s => N s
  | .ct s => N s
  | .bk s => K s
  | .rt v => B v
theorem or_t (x : Option Bool) : bOr (some true) x = some true := by unfold bOr; rw [bs]; exact if_pos rfl
theorem or_f (x : Option Bool) : bOr (some false) x = x := by unfold bOr; rw [bs]; exact if_neg Bool.false_ne_true
theorem and_t (x : Option Bool) : bAnd (some true) x = x := by unfold bAnd; rw [bs]; exact if_pos rfl
theorem and_f (x : Option Bool) : bAnd (some false) x = some false := by unfold bAnd; rw [bs]; exact if_neg Bool.false_ne_true
theorem if_t {β : Type} (x y : Option β) : ifM (some true) x y = x := by unfold ifM; rw [bs]; exact if_pos rfl
theorem if_f {β : Type} (x y : Option β) : ifM (some false) x y = y := by unfold ifM; rw [bs]; exact if_neg Bool.false_ne_true
theorem nt : (!true) = false := by decide
theorem nf : (!false) = true := by decide
theorem lc_mp {α β : Type} {xs : List α} {f : α → Option β} {g : α → β} (h : xs.length < 1000000) (e : ∀ x ∈ xs, f x = some (g x)) : lcG (fun _ => some true) f xs = some (xs.map g) := by
  unfold lcG
  rw [if_pos h, lc_map _ e]
theorem then_nx {S ρ β : Type} (s : S) (k : S → Option β) (r : ρ → Option β) (b c : S → Option β) : thenF (some (Fl.nx s)) k r b c = k s := by unfold thenF; rw [bs]
theorem then_rt {S ρ β : Type} (v : ρ) (k : S → Option β) (r : ρ → Option β) (b c : S → Option β) : thenF (some (Fl.rt v)) k r b c = r v := by unfold thenF; rw [bs]
theorem in_rng {a x : Int} {n : Nat} (h : x ∈ rng a n) : ∃ k : Nat, x = a + (k : Int) ∧ k < n := by
  obtain ⟨k, hk, e⟩ := List.mem_map.mp h
  exact ⟨k, e.symm, List.mem_range.mp hk⟩
theorem in_rng0 {x : Int} {n : Nat} (h : x ∈ rng 0 n) : ∃ k : Nat, x = (k : Int) ∧ k < n := by
  obtain ⟨k, e, hk⟩ := in_rng h
  exact ⟨k, by rw [e, Int.zero_add], hk⟩
theorem okEq {α : Type} {m : Option α} {a : α} (h : Ok m fun z => z = a) : m = some a := by
  obtain ⟨z, e, rfl⟩ := h
  exact e
end MS

namespace MS
open PySem PySem.StrLaws TL L2 FK
section
variable {κ α : Type} [DecidableEq κ]
theorem any_key (l : List (κ × α)) (k : κ) : (l.any fun p => decide (p.1 = k)) = decide (k ∈ l.map (·.1)) := by
  rw [Bool.eq_iff_iff, List.any_eq_true, decide_eq_true_eq, List.mem_map]
  exact ⟨fun ⟨p, h, e⟩ => ⟨p, h, of_decide_eq_true e⟩, fun ⟨p, h, e⟩ => ⟨p, h, decide_eq_true e⟩⟩
theorem keys_put (l : List (κ × α)) (k : κ) (a : α) : (dPut l k a).map (·.1) = if k ∈ l.map (·.1) then l.map (·.1) else l.map (·.1) ++ [k] := by
  unfold dPut
  rw [any_key]
  by_cases h : k ∈ l.map (·.1)
  · rw [if_pos (decide_eq_true h), if_pos h, List.map_map]
    refine List.map_congr_left fun p _ => ?_
    show (if p.1 = k then (p.1, a) else p).1 = p.1
    split <;> rfl
  · rw [if_neg (by rw [decide_eq_false h]; exact Bool.false_ne_true), if_neg h, List.map_append]
    rfl
theorem okSet {d : Dct κ α} {k : κ} {a : α} (h : d.l.length < 16000000) : Ok (dSet d k a) fun z => z = ⟨dPut d.l k a⟩ := ⟨_, if_pos h, rfl⟩
end
abbrev Fact := T3 Str Str Str
/-- a field of two cards -/
def Hand (f : Str) : Prop := f = "same" ∨ f = "apart"
/-- the cards that facts tell -/
def Told (fs : List Fact) (x : Str) : Prop := ∃ f ∈ fs, x = f.a ∨ (Hand f.b ∧ x = f.c)
theorem told_congr {fs gs : List Fact} (h : ∀ f, f ∈ fs ↔ f ∈ gs) (x : Str) : Told fs x ↔ Told gs x :=
  ⟨fun ⟨f, a, b⟩ => ⟨f, (h f).mp a, b⟩, fun ⟨f, a, b⟩ => ⟨f, (h f).mpr a, b⟩⟩
/-- the cards of a book: sorted, each once -/
def CardsIs (fs : List Fact) (l : List Str) : Prop := Rising l ∧ ∀ x, x ∈ l ↔ Told fs x
theorem CardsIs.uniq {fs gs : List Fact} {l m : List Str} (h1 : CardsIs fs l) (h2 : CardsIs gs m) (e : ∀ f, f ∈ fs ↔ f ∈ gs) : l = m :=
  rising_ext h1.1 h2.1 fun x => by rw [h1.2, h2.2, told_congr e]
end MS
namespace G
open PySem PySem.StrLaws TL L2 FK MS
end G

namespace GC
open PySem PySem.StrLaws TL L2 FK MS
open G (m_cards_of b_cards_of_1)
def b_friends_1 (g : ((List (T3 Str Str Str)) × Str × Unit)) (s2 : (List Str)) (x3 : (T3 Str Str Str)) : (Option (List Str)) := (Option.bind (ifM (bAnd (some (decide (x3.b = ("same" : Str)))) (some (decide (x3.a = g.2.1)))) (Option.bind (Option.bind (some x3.c) fun (t9 : Str) => (lApp s2 t9)) fun (told_8 : (List Str)) => (some told_8)) (some s2)) fun (s7 : (List Str)) => (ifM (bAnd (some (decide (x3.b = ("same" : Str)))) (some (decide (x3.c = g.2.1)))) (Option.bind (Option.bind (some x3.a) fun (t11 : Str) => (lApp s7 t11)) fun (told_10 : (List Str)) => (some told_10)) (some s7)))
def m_friends : (List (T3 Str Str Str)) × Str × Unit → Option (List Str) := fun (g : (List (T3 Str Str Str)) × Str × Unit) => (Option.bind (some ([] : (List Str))) fun (told_1 : (List Str)) => (Option.bind (Option.bind (some g.1) fun (xs12 : List (T3 Str Str Str)) => forS (S := (List Str)) (b_friends_1 g) xs12 told_1) fun (s13 : (List Str)) => (some s13)))
def b_chain_of_1 (card_7 : Str) (s11 : ((Dct Str (List Str)) × (List Str))) (x12 : Str) : (Option ((Dct Str (List Str)) × (List Str))) := (ifM (some (!dHas s11.1.l x12)) (Option.bind (Option.bind (Option.bind (dGet s11.1.l card_7) fun (t13 : (List Str)) => Option.bind (some [x12]) fun (t14 : (List Str)) => (lCat t13 t14)) fun (t16 : (List Str)) => Option.bind (some x12) fun (t17 : Str) => (dSet s11.1 t17 t16)) fun (ways_15 : (Dct Str (List Str))) => (Option.bind (Option.bind (some x12) fun (t19 : Str) => (lApp s11.2 t19)) fun (todo_18 : (List Str)) => (some (ways_15, todo_18)))) (some (s11.1, s11.2)))
def b_chain_of_2 (g : ((List (T3 Str Str Str)) × Str × Str × Unit)) (s6 : ((Dct Str (List Str)) × (List Str) × Int)) : (Option (Fl ((Dct Str (List Str)) × (List Str) × Int) (Option (List Str)))) := (Option.bind (atI s6.2.1 s6.2.2) fun (card_7 : Str) => (ifM (some (decide (card_7 = g.2.2.1))) (Option.bind (Option.bind (Option.bind (dGet s6.1.l card_7) fun (t8 : (List Str)) => some t8) fun (t9 : (List Str)) => some (some t9)) fun (t10 : (Option (List Str))) => some (Fl.rt t10)) (Option.bind (Option.bind (m_friends (g.1, (card_7, ()))) fun (xs20 : List Str) => forS (S := ((Dct Str (List Str)) × (List Str))) (b_chain_of_1 card_7) xs20 (s6.1, s6.2.1)) fun (s21 : ((Dct Str (List Str)) × (List Str))) => (Option.bind (some (s6.2.2 + (1 : Int))) fun (at_22 : Int) => (some (Fl.nx (s21.1, s21.2, at_22)))))))
def b_chain_of_3  (s6 : ((Dct Str (List Str)) × (List Str) × Int)) : (Option Bool) := (some (decide (s6.2.2 < (s6.2.1.length : Int))))
def m_chain_of : (List (T3 Str Str Str)) × Str × Str × Unit → Option (Option (List Str)) := fun (g : (List (T3 Str Str Str)) × Str × Str × Unit) => (Option.bind (Option.bind (some g.2.1) fun (t2 : Str) => Option.bind (some [g.2.1]) fun (t3 : (List Str)) => some (⟨[(t2, t3)]⟩ : (Dct Str (List Str)))) fun (ways_1 : (Dct Str (List Str))) => (Option.bind (some [g.2.1]) fun (todo_4 : (List Str)) => (Option.bind (some (0 : Int)) fun (at_5 : Int) => (thenF (S := ((Dct Str (List Str)) × (List Str) × Int)) (ρ := (Option (List Str))) (whileF (S := ((Dct Str (List Str)) × (List Str) × Int)) (ρ := (Option (List Str))) (b_chain_of_3) (b_chain_of_2 g) 1000000 (ways_1, todo_4, at_5)) (fun (s23 : ((Dct Str (List Str)) × (List Str) × Int)) => (some (none : (Option (List Str))))) (fun v => some v) (fun _ => none) (fun _ => none)))))
def m__law_card : Int × Int × Unit → Option Str := fun (g : Int × Int × Unit) => (Option.bind (some ((1 : Int) + (g.1 % 11))) fun (many_1 : Int) => (Option.bind (imod (g.1 / 11) many_1) fun (at_2 : Int) => (Option.bind (Option.bind (sMul ("q" : Str) at_2) fun (t3 : Str) => Option.bind (sAt ("abcdefghij" : Str) g.2.1) fun (t4 : Str) => (sAdd t3 t4)) fun (t9 : Str) => Option.bind (Option.bind (some ("q" : Str)) fun (t7 : Str) => Option.bind (Option.bind (some ((many_1 - (1 : Int)) - at_2)) fun (t5 : Int) => Option.bind (imul ((g.1 / 121) % 2) (g.2.1 % 2)) fun (t6 : Int) => some (t5 + t6)) fun (t8 : Int) => (sMul t7 t8)) fun (t10 : Str) => (sAdd t9 t10))))
def m__law_fact : Int × Int × Int × Bool × Unit → Option (T3 Str Str Str) := fun (g : Int × Int × Int × Bool × Unit) => (Option.bind (imod g.2.2.1 g.2.1) fun (i_1 : Int) => (Option.bind (Option.bind (Option.bind (some (i_1 + (1 : Int))) fun (t3 : Int) => Option.bind (imod (g.2.2.1 / 10) (g.2.1 - (1 : Int))) fun (t4 : Int) => some (t3 + t4)) fun (t5 : Int) => Option.bind (some g.2.1) fun (t6 : Int) => (imod t5 t6)) fun (j_2 : Int) => (Option.bind (some ((g.2.2.1 / 100) % 8)) fun (way_7 : Int) => (ifM (some (decide (((5 : Int) + (bint g.2.2.2.1)) < way_7))) (Option.bind (m__law_card (g.1, (i_1, ()))) fun (t8 : Str) => Option.bind (some ("mark" : Str)) fun (t9 : Str) => Option.bind (some ("x" : Str)) fun (t10 : Str) => some (⟨t8, t9, t10⟩ : (T3 Str Str Str))) (Option.bind (some ("same" : Str)) fun (field_11 : Str) => (Option.bind (ifM (bAnd (some g.2.2.2.1) (some (decide ((4 : Int) < way_7)))) (Option.bind (some ("apart" : Str)) fun (field_13 : Str) => (some field_13)) (some field_11)) fun (s12 : Str) => (Option.bind (m__law_card (g.1, ((imin2 i_1 j_2), ()))) fun (t14 : Str) => Option.bind (some s12) fun (t15 : Str) => Option.bind (m__law_card (g.1, ((imax2 i_1 j_2), ()))) fun (t16 : Str) => some (⟨t14, t15, t16⟩ : (T3 Str Str Str)))))))))
def b__law_book_1  (s2 : (List (T3 Str Str Str))) (x3 : (T3 Str Str Str)) : (Option (List (T3 Str Str Str))) := (ifM (bOr (some (decide ((s2.length : Int) = (0 : Int)))) (Option.bind (atI s2 (-(1 : Int))) fun (t4 : (T3 Str Str Str)) => Option.bind (some x3) fun (t5 : (T3 Str Str Str)) => some (!decide (t4 = t5)))) (Option.bind (Option.bind (some x3) fun (t7 : (T3 Str Str Str)) => (lApp s2 t7)) fun (book_here_6 : (List (T3 Str Str Str))) => (some book_here_6)) (some s2))
def m__law_book : (List (T3 Str Str Str)) × Unit → Option (List (T3 Str Str Str)) := fun (g : (List (T3 Str Str Str)) × Unit) => (Option.bind (some ([] : (List (T3 Str Str Str)))) fun (book_here_1 : (List (T3 Str Str Str))) => (Option.bind (Option.bind (sSort g.1) fun (xs8 : List (T3 Str Str Str)) => forS (S := (List (T3 Str Str Str))) (b__law_book_1) xs8 book_here_1) fun (s9 : (List (T3 Str Str Str))) => (some s9)))
def b__law_labels_1 (old_20 : Str) (x16 : (T3 Str Str Str)) (s21 : (Dct Str Str)) (x22 : Str) : (Option (Dct Str Str)) := (ifM (Option.bind (dGet s21.l x22) fun (t23 : Str) => Option.bind (some old_20) fun (t24 : Str) => some (decide (t23 = t24))) (Option.bind (Option.bind (dGet s21.l x16.c) fun (t26 : Str) => Option.bind (some x22) fun (t27 : Str) => (dSet s21 t27 t26)) fun (labels_here_25 : (Dct Str Str)) => (some labels_here_25)) (some s21))
def b__law_labels_2  (s15 : (Dct Str Str)) (x16 : (T3 Str Str Str)) : (Option (Dct Str Str)) := (ifM (some (decide (x16.b = ("same" : Str)))) (Option.bind (dGet s15.l x16.a) fun (old_20 : Str) => (Option.bind (Option.bind (some (s15.l.map (·.1))) fun (xs28 : List Str) => forS (S := (Dct Str Str)) (b__law_labels_1 old_20 x16) xs28 s15) fun (s29 : (Dct Str Str)) => (some s29))) (some s15))
def b__law_labels_3  (s2 : (Dct Str Str)) (x3 : (T3 Str Str Str)) : (Option (Dct Str Str)) := (Option.bind (Option.bind (some x3.a) fun (t8 : Str) => Option.bind (some x3.a) fun (t9 : Str) => (dSet s2 t9 t8)) fun (labels_here_7 : (Dct Str Str)) => (ifM (some (decide (x3.b ∈ (⟨[("same" : Str), ("apart" : Str)]⟩ : (Tl Str)).l))) (Option.bind (Option.bind (some x3.c) fun (t11 : Str) => Option.bind (some x3.c) fun (t12 : Str) => (dSet labels_here_7 t12 t11)) fun (labels_here_10 : (Dct Str Str)) => (some labels_here_10)) (some labels_here_7)))
def m__law_labels : (List (T3 Str Str Str)) × Unit → Option (Dct Str Str) := fun (g : (List (T3 Str Str Str)) × Unit) => (Option.bind (some (⟨[]⟩ : (Dct Str Str))) fun (labels_here_1 : (Dct Str Str)) => (Option.bind (Option.bind (some g.1) fun (xs13 : List (T3 Str Str Str)) => forS (S := (Dct Str Str)) (b__law_labels_3) xs13 labels_here_1) fun (s14 : (Dct Str Str)) => (Option.bind (Option.bind (some g.1) fun (xs30 : List (T3 Str Str Str)) => forS (S := (Dct Str Str)) (b__law_labels_2) xs30 s14) fun (s31 : (Dct Str Str)) => (some s31))))
def m__law_is_told : (List (T3 Str Str Str)) × Str × Str × Unit → Option Bool := fun (g : (List (T3 Str Str Str)) × Str × Str × Unit) => (bOr (some (decide ((⟨g.2.1, ("same" : Str), g.2.2.1⟩ : (T3 Str Str Str)) ∈ g.1))) (some (decide ((⟨g.2.2.1, ("same" : Str), g.2.1⟩ : (T3 Str Str Str)) ∈ g.1))))
def b__law_rounds_1 (s3 : ((List Str) × Int)) (g : ((List (T3 Str Str Str)) × (List Str) × Str × Str × Unit)) (s5 : (List Str)) (x6 : Str) : (Option (List Str)) := (ifM (bAnd (some (!decide (x6 ∈ s3.1))) (Option.bind (Option.bind (some s3.1) fun (xs8 : List Str) => lcG (fun (x7 : Str) => (some true)) (fun (x7 : Str) => (m__law_is_told (g.1, (x6, (x7, ()))))) xs8) fun (t9 : (List Bool)) => some (t9.any id))) (Option.bind (Option.bind (some x6) fun (t11 : Str) => (lApp s5 t11)) fun (new_10 : (List Str)) => (some new_10)) (some s5))
def b__law_rounds_2 (g : ((List (T3 Str Str Str)) × (List Str) × Str × Str × Unit)) (s3 : ((List Str) × Int)) : (Option ((List Str) × Int)) := (Option.bind (some ([] : (List Str))) fun (new_4 : (List Str)) => (Option.bind (Option.bind (some g.2.1) fun (xs12 : List Str) => forS (S := (List Str)) (b__law_rounds_1 s3 g) xs12 new_4) fun (s13 : (List Str)) => (Option.bind (lCat s3.1 s13) fun (seen_14 : (List Str)) => (Option.bind (some (s3.2 + (1 : Int))) fun (rounds_here_15 : Int) => (some (seen_14, rounds_here_15))))))
def b__law_rounds_3 (g : ((List (T3 Str Str Str)) × (List Str) × Str × Str × Unit)) (s3 : ((List Str) × Int)) : (Option Bool) := (some (!decide (g.2.2.2.1 ∈ s3.1)))
def m__law_rounds : (List (T3 Str Str Str)) × (List Str) × Str × Str × Unit → Option Int := fun (g : (List (T3 Str Str Str)) × (List Str) × Str × Str × Unit) => (Option.bind (some [g.2.2.1]) fun (seen_1 : (List Str)) => (Option.bind (some (1 : Int)) fun (rounds_here_2 : Int) => (Option.bind (whileS (S := ((List Str) × Int)) (b__law_rounds_3 g) (b__law_rounds_2 g) 1000000 (seen_1, rounds_here_2)) fun (s16 : ((List Str) × Int)) => (some s16.2))))
def b_root_of_1 (g : ((Dct Str Str) × Str × Unit)) (s1 : Str) : (Option Str) := (Option.bind (dGet g.1.l s1) fun (card_4 : Str) => (some card_4))
def b_root_of_2 (g : ((Dct Str Str) × Str × Unit)) (s1 : Str) : (Option Bool) := (Option.bind (dGet g.1.l s1) fun (t2 : Str) => Option.bind (some s1) fun (t3 : Str) => some (!decide (t2 = t3)))
def m_root_of : (Dct Str Str) × Str × Unit → Option Str := fun (g : (Dct Str Str) × Str × Unit) => (Option.bind (whileS (S := Str) (b_root_of_2 g) (b_root_of_1 g) 1000000 g.2.1) fun (s5 : Str) => (some s5))
def b_parents_of_1  (s9 : (Dct Str Str)) (x10 : (T3 Str Str Str)) : (Option (Dct Str Str)) := (ifM (some (decide (x10.b = ("same" : Str)))) (Option.bind (Option.bind (m_root_of (s9, (x10.c, ()))) fun (t15 : Str) => Option.bind (m_root_of (s9, (x10.a, ()))) fun (t16 : Str) => (dSet s9 t16 t15)) fun (parents_14 : (Dct Str Str)) => (some parents_14)) (some s9))
def b_parents_of_2  (s2 : (Dct Str Str)) (x3 : Str) : (Option (Dct Str Str)) := (Option.bind (Option.bind (some x3) fun (t5 : Str) => Option.bind (some x3) fun (t6 : Str) => (dSet s2 t6 t5)) fun (parents_4 : (Dct Str Str)) => (some parents_4))
def m_parents_of : (List (T3 Str Str Str)) × Unit → Option (Dct Str Str) := fun (g : (List (T3 Str Str Str)) × Unit) => (Option.bind (some (⟨[]⟩ : (Dct Str Str))) fun (parents_1 : (Dct Str Str)) => (Option.bind (Option.bind (m_cards_of (g.1, ())) fun (xs7 : List Str) => forS (S := (Dct Str Str)) (b_parents_of_2) xs7 parents_1) fun (s8 : (Dct Str Str)) => (Option.bind (Option.bind (some g.1) fun (xs17 : List (T3 Str Str Str)) => forS (S := (Dct Str Str)) (b_parents_of_1) xs17 s8) fun (s18 : (Dct Str Str)) => (some s18))))
def b_blocks_of_1 (parents_1 : (Dct Str Str)) (s12 : (Dct Str (List Str))) (x13 : Str) : (Option (Dct Str (List Str))) := (Option.bind (Option.bind (m_root_of (parents_1, (x13, ()))) fun (t15 : Str) => Option.bind (some x13) fun (t16 : Str) => (ddApp s12 t15 t16)) fun (found_14 : (Dct Str (List Str))) => (some found_14))
def b_blocks_of_2 (parents_1 : (Dct Str Str)) (s2 : Unit) (x3 : (T3 Str Str Str)) : (Option Unit) := (ifM (bAnd (some (decide (x3.b = ("apart" : Str)))) (Option.bind (m_root_of (parents_1, (x3.a, ()))) fun (t7 : Str) => Option.bind (m_root_of (parents_1, (x3.c, ()))) fun (t8 : Str) => some (decide (t7 = t8)))) (none : Option Unit) (some ()))
def m_blocks_of : (List (T3 Str Str Str)) × Unit → Option (List (List Str)) := fun (g : (List (T3 Str Str Str)) × Unit) => (Option.bind (m_parents_of (g.1, ())) fun (parents_1 : (Dct Str Str)) => (Option.bind (Option.bind (some g.1) fun (xs9 : List (T3 Str Str Str)) => forS (S := Unit) (b_blocks_of_2 parents_1) xs9 ()) fun (s10 : Unit) => (Option.bind (some (⟨[]⟩ : (Dct Str (List Str)))) fun (found_11 : (Dct Str (List Str))) => (Option.bind (Option.bind (m_cards_of (g.1, ())) fun (xs17 : List Str) => forS (S := (Dct Str (List Str))) (b_blocks_of_1 parents_1) xs17 found_11) fun (s18 : (Dct Str (List Str))) => (Option.bind (some ((⟨s18.l⟩ : Kd Str (List Str)).l.map (·.2))) fun (xs20 : List (List Str)) => lcG (fun (x19 : (List Str)) => (some true)) (fun (x19 : (List Str)) => (some x19)) xs20)))))
def b__law_due_1 (g : ((Dct Str Str) × Unit)) (x4 : Str) (x6 : Str) : (Option Bool) := (Option.bind (dGet g.1.l x6) fun (t7 : Str) => Option.bind (dGet g.1.l x4) fun (t8 : Str) => some (decide (t7 = t8)))
def b__law_due_2 (g : ((Dct Str Str) × Unit)) (s3 : ((List Str) × (List (List Str)))) (x4 : Str) : (Option ((List Str) × (List (List Str)))) := (ifM (some (!decide (x4 ∈ s3.1))) (Option.bind (Option.bind (dSrt g.1) fun (xs9 : List Str) => lcG (b__law_due_1 g x4) (fun (x6 : Str) => (some x6)) xs9) fun (block_5 : (List Str)) => (Option.bind (lCat s3.1 block_5) fun (seen_10 : (List Str)) => (Option.bind (Option.bind (some block_5) fun (t12 : (List Str)) => (lApp s3.2 t12)) fun (due_here_11 : (List (List Str))) => (some (seen_10, due_here_11))))) (some (s3.1, s3.2)))
def m__law_due : (Dct Str Str) × Unit → Option (List (List Str)) := fun (g : (Dct Str Str) × Unit) => (Option.bind (some ([] : (List (List Str)))) fun (due_here_1 : (List (List Str))) => (Option.bind (some ([] : (List Str))) fun (seen_2 : (List Str)) => (Option.bind (Option.bind (dSrt g.1) fun (xs13 : List Str) => forS (S := ((List Str) × (List (List Str)))) (b__law_due_2 g) xs13 (seen_2, due_here_1)) fun (s14 : ((List Str) × (List (List Str)))) => (some s14.2))))
def b__law_is_blocks_1  (s3 : Unit) (x4 : Str) : (Option (Fl Unit Bool)) := (ifM (some (!true)) (some (Fl.rt false)) (some (Fl.nx ())))
def b__law_is_blocks_2  (s1 : Unit) (x2 : (List Str)) : (Option (Fl Unit Bool)) := (ifM (bOr (some (!true)) (some (decide ((x2.length : Int) = (0 : Int))))) (some (Fl.rt false)) (thenF (S := Unit) (ρ := Bool) (Option.bind (some x2) fun (xs5 : List Str) => forF (S := Unit) (ρ := Bool) (b__law_is_blocks_1) xs5 ()) (fun (s6 : Unit) => (some (Fl.nx ()))) (fun v => some (Fl.rt v)) (fun _ => none) (fun _ => none)))
def m__law_is_blocks : (List (List Str)) × Unit → Option Bool := fun (g : (List (List Str)) × Unit) => (ifM (some (!true)) (some false) (thenF (S := Unit) (ρ := Bool) (Option.bind (some g.1) fun (xs7 : List (List Str)) => forF (S := Unit) (ρ := Bool) (b__law_is_blocks_2) xs7 ()) (fun (s8 : Unit) => (some true)) (fun v => some v) (fun _ => none) (fun _ => none)))
end GC

namespace GC
open PySem PySem.StrLaws TL L2 FK MS
abbrev F3 := T3 Str Str Str
def fp (x : Str) (p : F3) (y : Str) : Prop := p.b = ("same" : Str) ∧ ((p.a = x ∧ p.c = y) ∨ (p.c = x ∧ p.a = y))
def Ed (bk : List F3) (x y : Str) : Prop := ∃ p ∈ bk, fp x p y
/-! ### the way -/
variable {bk : List F3} {U : List Str} {one : Str} {k : Nat}
/-- what chain_of must tell -/
def Good (bk : List F3) (U : List Str) (one other : Str) (r : Option (List Str)) : Prop := match r with
  | none => ∀ n, ¬ Wk (Ed bk) one n other
  | some p => Pth (Ed bk) one p other ∧ p.length ≤ U.length ∧ ∀ n, Wk (Ed bk) one n other → p.length ≤ n + 1
/-! ### rounds -/
def tb (bk : List F3) (x y : Str) : Bool := decide ((⟨x, ("same" : Str), y⟩ : F3) ∈ bk) || decide ((⟨y, ("same" : Str), x⟩ : F3) ∈ bk)
theorem Ed.symm {x y : Str} (h : Ed bk x y) : Ed bk y x := by
  obtain ⟨p, hp, hb, h | h⟩ := h
  · exact ⟨p, hp, hb, .inr ⟨h.2, h.1⟩⟩
  · exact ⟨p, hp, hb, .inl ⟨h.2, h.1⟩⟩
def nw (bk : List F3) (seen : List Str) (x : Str) : Bool := !decide (x ∈ seen) && (seen.map fun u => tb bk x u).any id
/-! ### labels -/
theorem keys_put {κ α : Type} [Py κ] [DecidableEq κ] [Kq κ] [Py α] (l : List (κ × α)) (k : κ) (a : α) : (dPut l k a).map (·.1) = if (dGet l k).isSome = true then l.map (·.1) else l.map (·.1) ++ [k] := by
  unfold dPut
  rw [any_has]
  split
  · rw [List.map_map]
    refine List.map_congr_left fun p _ => ?_
    show (if p.1 = k then (p.1, a) else p).1 = p.1
    split <;> rfl
  · rw [List.map_append]
    rfl
theorem has_iff {κ α : Type} [Py κ] [DecidableEq κ] [Kq κ] [Py α] : ∀ (l : List (κ × α)) (k : κ), (dGet l k).isSome = true ↔ k ∈ l.map (·.1)
  | [], k => by simp [dGet]
  | p :: l, k => by
    rw [dget_cons, List.map_cons, List.mem_cons]
    by_cases h : p.1 = k
    · rw [if_pos h]
      exact ⟨fun _ => .inl h.symm, fun _ => rfl⟩
    · rw [if_neg h, has_iff l k]
      exact ⟨.inr, fun c => c.resolve_left fun e => h e.symm⟩
def re (old new v : Str) : Str := if v = old then new else v
def Cn (bk : List F3) (x y : Str) : Prop := ∃ n, Wk (Ed bk) x n y
theorem Cn.refl (bk : List F3) (x : Str) : Cn bk x x := ⟨0, .nil⟩
theorem Cn.step {x y z : Str} (h : Cn bk x y) (e : Ed bk y z) : Cn bk x z := by
  obtain ⟨n, h⟩ := h
  exact ⟨n + 1, h.snoc e⟩
theorem Cn.rec' {x : Str} {P : Str → Prop} (h0 : P x) (st : ∀ y z, P y → Ed bk y z → P z) {y : Str} (h : Cn bk x y) : P y := by
  obtain ⟨n, h⟩ := h
  induction h with
  | nil => exact h0
  | snoc _ e ih => exact st _ _ ih e
theorem Cn.trans {x y z : Str} (h : Cn bk x y) (k : Cn bk y z) : Cn bk x z := k.rec' (P := fun z => Cn bk x z) h fun _ _ h e => h.step e
theorem Cn.symm {x y : Str} (h : Cn bk x y) : Cn bk y x := h.rec' (P := fun y => Cn bk y x) (.refl _ _) fun _ _ h e => ((Cn.refl _ _).step e.symm).trans h
theorem Cn.mono {bk2 : List F3} (s : ∀ p ∈ bk, p ∈ bk2) {x y : Str} (h : Cn bk x y) : Cn bk2 x y := h.rec' (P := fun y => Cn bk2 x y) (.refl _ _) fun _ _ h ⟨p, hp, e⟩ => h.step ⟨p, s p hp, e⟩
theorem cn_snoc {p : F3} {x y : Str} : Cn (bk ++ [p]) x y ↔ Cn bk x y ∨ (p.b = ("same" : Str) ∧ ((Cn bk x p.a ∧ Cn bk p.c y) ∨ (Cn bk x p.c ∧ Cn bk p.a y))) := by
  constructor
  · intro h
    refine h.rec' (P := fun y => Cn bk x y ∨ (p.b = ("same" : Str) ∧ ((Cn bk x p.a ∧ Cn bk p.c y) ∨ (Cn bk x p.c ∧ Cn bk p.a y)))) (.inl (.refl _ _)) fun y z ih ⟨q, hq, e⟩ => ?_
    rcases List.mem_append.mp hq with hq | hq
    · have e : Ed bk y z := ⟨q, hq, e⟩
      rcases ih with ih | ⟨hb, ⟨h1, h2⟩ | ⟨h1, h2⟩⟩
      · exact .inl (ih.step e)
      · exact .inr ⟨hb, .inl ⟨h1, h2.step e⟩⟩
      · exact .inr ⟨hb, .inr ⟨h1, h2.step e⟩⟩
    · have hq := List.mem_singleton.mp hq
      subst hq
      obtain ⟨hb, ⟨rfl, rfl⟩ | ⟨rfl, rfl⟩⟩ := e
      · rcases ih with ih | ⟨_, ⟨h1, h2⟩ | ⟨h1, h2⟩⟩
        · exact .inr ⟨hb, .inl ⟨ih, .refl _ _⟩⟩
        · exact .inr ⟨hb, .inl ⟨h1, .refl _ _⟩⟩
        · exact .inl h1
      · rcases ih with ih | ⟨_, ⟨h1, h2⟩ | ⟨h1, h2⟩⟩
        · exact .inr ⟨hb, .inr ⟨ih, .refl _ _⟩⟩
        · exact .inl h1
        · exact .inr ⟨hb, .inr ⟨h1, .refl _ _⟩⟩
  · have sub : ∀ q ∈ bk, q ∈ bk ++ [p] := fun q hq => List.mem_append_left _ hq
    rintro (h | ⟨hb, ⟨h1, h2⟩ | ⟨h1, h2⟩⟩)
    · exact h.mono sub
    · exact ((h1.mono sub).step ⟨p, List.mem_append_right _ (List.mem_singleton.mpr rfl), hb, .inl ⟨rfl, rfl⟩⟩).trans (h2.mono sub)
    · exact ((h1.mono sub).step ⟨p, List.mem_append_right _ (List.mem_singleton.mpr rfl), hb, .inr ⟨rfl, rfl⟩⟩).trans (h2.mono sub)
def keys (d : Dct Str Str) : List Str := d.l.map (·.1)
def LB (bk : List F3) (d : Dct Str Str) : Prop := ∀ x y, x ∈ keys d → y ∈ keys d → (dGet d.l x = dGet d.l y ↔ Cn bk x y)
theorem key_get {d : Dct Str Str} {x : Str} (h : x ∈ keys d) : ∃ v, dGet d.l x = some v := Option.isSome_iff_exists.mp ((has_iff d.l x).mpr h)
def LS (U : List Str) (d : Dct Str Str) : Prop := (∀ z v, dGet d.l z = some v → v = z) ∧ (keys d).Nodup ∧ ∀ z ∈ keys d, z ∈ U
theorem LS.len {U : List Str} {d : Dct Str Str} (h : LS U d) : d.l.length ≤ U.length := by
  have := nodup_le' h.2.1 h.2.2
  unfold keys at this
  rwa [List.length_map] at this
theorem LS.put {U : List Str} {d : Dct Str Str} {z : Str} (h : LS U d) (hz : z ∈ U) : LS U ⟨dPut d.l z z⟩ ∧ z ∈ keys ⟨dPut d.l z z⟩ ∧ ∀ x ∈ keys d, x ∈ keys ⟨dPut d.l z z⟩ := by
  have e : keys ⟨dPut d.l z z⟩ = if (dGet d.l z).isSome = true then keys d else keys d ++ [z] := keys_put d.l z z
  refine ⟨⟨fun x v hv => ?_, ?_, ?_⟩, ?_, ?_⟩
  · have hv : dGet (dPut d.l z z) x = some v := hv
    rw [dget_put] at hv
    by_cases c : x = z
    · rw [if_pos c] at hv
      cases hv
      exact c.symm
    · rw [if_neg c] at hv
      exact h.1 x v hv
  · rw [e]
    split
    · exact h.2.1
    · rename_i c
      rw [List.nodup_append]
      refine ⟨h.2.1, List.nodup_cons.mpr ⟨List.not_mem_nil, .nil⟩, fun u hu v hv ee => ?_⟩
      rw [List.mem_singleton.mp hv] at ee
      exact c ((has_iff d.l z).mpr (ee ▸ hu))
  · rw [e]
    split
    · exact h.2.2
    · intro x hx
      rcases List.mem_append.mp hx with hx | hx
      · exact h.2.2 x hx
      · rw [List.mem_singleton.mp hx]; exact hz
  · rw [e]
    split
    · rename_i c
      exact (has_iff d.l z).mp c
    · exact List.mem_append_right _ (List.mem_singleton.mpr rfl)
  · intro x hx
    rw [e]
    split
    · exact hx
    · exact List.mem_append_left _ hx
/-! ### facts -/
theorem mul_len (n : Int) (h : n ≤ 100) : (Txt.mul ("q" : Str) n).length ≤ 100 := by
  have := PyProof.Rows.len_mul_leN (x := ("q" : Str)) (n := n) (L := 1) (N := 100) (by decide) h
  omega
theorem card_ok (c k : Int) (h0 : 0 ≤ k) (h1 : k < 10) : Ok (m__law_card (c, (k, ()))) fun _ => True := by
  have hm : 0 < (1 : Int) + c % 11 := by omega
  unfold m__law_card
  simp only [bs, bsr, Option.bind_assoc]
  refine (okMod hm).bind fun a ha => ?_
  obtain ⟨_, a0, a1⟩ := ha
  have q1 : ("q" : Str).length ≤ 4000 := by decide
  have e1 : sMul ("q" : Str) a = some (Txt.mul ("q" : Str) a) := if_pos ⟨q1, by omega, by omega⟩
  rw [e1]
  simp only [bs]
  refine (okSAt h0 (by show k < (("abcdefghij" : Str).length : Int); rw [show ("abcdefghij" : Str).length = 10 from by decide]; omega) (by decide)).bind fun z hz => ?_
  obtain ⟨cz, _, hz⟩ := hz
  have hl := mul_len a (by omega)
  have hz1 : z.length = 1 := by rw [hz]; rfl
  refine (okAdd (by omega)).bind fun y hy => ?_
  refine (okMul (.inr (by omega))).bind fun m hm2 => ?_
  have hm3 : m ≤ 1 ∧ 0 ≤ m := by
    rw [hm2]
    have h2 : c / 121 % 2 = 0 ∨ c / 121 % 2 = 1 := by omega
    have h3 : k % 2 = 0 ∨ k % 2 = 1 := by omega
    rcases h2 with h2 | h2 <;> rcases h3 with h3 | h3 <;> rw [h2, h3] <;> decide
  have e2 : sMul ("q" : Str) ((1 : Int) + c % 11 - 1 - a + m) = some (Txt.mul ("q" : Str) ((1 : Int) + c % 11 - 1 - a + m)) := if_pos ⟨q1, by omega, by omega⟩
  rw [e2]
  simp only [bs]
  have hl2 := mul_len ((1 : Int) + c % 11 - 1 - a + m) (by omega)
  exact (okAdd (by rw [hy.2]; omega)).any
def Us (c : Int) : List Str := (List.range 10).map fun (k : Nat) => (m__law_card (c, ((k : Int), ()))).getD ("" : Str)
theorem card_in (c k : Int) (h0 : 0 ≤ k) (h1 : k < 10) : Ok (m__law_card (c, (k, ()))) fun z => z ∈ Us c := by
  obtain ⟨z, e, _⟩ := card_ok c k h0 h1
  refine ⟨z, e, ?_⟩
  show z ∈ Us c
  unfold Us
  rw [List.mem_map]
  refine ⟨k.toNat, List.mem_range.mpr (by omega), ?_⟩
  rw [Int.toNat_of_nonneg h0, e]
  rfl
def PU (c : Int) (p : F3) : Prop := p.a ∈ Us c ∧ (p.b ∈ [("same" : Str), ("apart" : Str)] → p.c ∈ Us c)
theorem mark_out : ¬ ("mark" : Str) ∈ [("same" : Str), ("apart" : Str)] := by decide
theorem fact_ok (c many w : Int) (b : Bool) (h2 : 2 ≤ many) (h10 : many ≤ 10) : Ok (m__law_fact (c, (many, (w, (b, ()))))) (PU c) := by
  unfold m__law_fact
  simp only [bs, bsr, Option.bind_assoc]
  refine (okMod (by omega)).bind fun i hi => ?_
  refine (okMod (by omega)).bind fun j0 hj0 => ?_
  refine (okMod (by omega)).bind fun j hj => ?_
  refine .ifd (fun _ => ?_) fun _ => ?_
  · refine (card_in c i (by omega) (by omega)).bind fun z hz => ?_
    exact .ret ⟨hz, fun h => absurd h mark_out⟩
  · have hmin : 0 ≤ imin2 i j ∧ imin2 i j < 10 := by unfold imin2; split <;> omega
    have hmax : 0 ≤ imax2 i j ∧ imax2 i j < 10 := by unfold imax2; split <;> omega
    have fin : ∀ f : Str, Ok (Option.bind (m__law_card (c, ((imin2 i j), ()))) fun t14 => Option.bind (m__law_card (c, ((imax2 i j), ()))) fun t16 => some (⟨t14, f, t16⟩ : F3)) (PU c) := fun f => by
      refine (card_in c _ hmin.1 hmin.2).bind fun z hz => ?_
      refine (card_in c _ hmax.1 hmax.2).bind fun y hy => ?_
      exact .ret ⟨hz, fun _ => hy⟩
    refine Ok.bind (P := fun _ => True) ?_ fun f _ => fin f
    unfold bAnd ifM
    simp only [bs]
    cases b <;> simp only [Bool.false_eq_true, if_false, if_true, bs]
    · exact .ret trivial
    · split
      · exact .ret trivial
      · exact .ret trivial
end GC

/-! blocks: cards joined by parents; groups of a list by a relation -/
namespace GC
open PySem PySem.StrLaws TL L2 FK MS
inductive Up (P : List (Str × Str)) : Str → Nat → Str → Prop
  | root {x : Str} : dGet P x = some x → Up P x 0 x
  | step {x y r : Str} {n : Nat} : dGet P x = some y → y ≠ x → Up P y n r → Up P x (n + 1) r
theorem Up.fn {P : List (Str × Str)} {x r s : Str} {n m : Nat} (h : Up P x n r) : Up P x m s → r = s := by
  induction h generalizing m s with
  | root e =>
    intro k
    cases k with
    | root e2 => rfl
    | step e2 ne _ =>
      rw [e] at e2
      cases e2
      exact absurd rfl ne
  | step e ne _ ih =>
    intro k
    cases k with
    | root e2 =>
      rw [e] at e2
      cases e2
      exact absurd rfl ne
    | step e2 _ k2 =>
      rw [e] at e2
      cases e2
      exact ih k2
theorem Up.isRoot {P : List (Str × Str)} {x r : Str} {n : Nat} (h : Up P x n r) : dGet P r = some r := by
  induction h with
  | root e => exact e
  | step _ _ _ ih => exact ih
theorem root_while (g : Dct Str Str × Str × Unit) {x r : Str} {n : Nat} (h : Up g.1.l x n r) : ∀ N, n < N → whileS (b_root_of_2 g) (b_root_of_1 g) N x = some r := by
  induction h with
  | @root x e =>
    intro N hN
    cases N with
    | zero => omega
    | succ N =>
      show (b_root_of_2 g x).bind _ = _
      unfold b_root_of_2
      rw [e]
      simp only [bs, decide_true, nt]
      rfl
  | @step x y r n e ne _ ih =>
    intro N hN
    cases N with
    | zero => omega
    | succ N =>
      show (b_root_of_2 g x).bind _ = _
      have e1 : b_root_of_2 g x = some true := by
        unfold b_root_of_2
        rw [e]
        simp only [bs, decide_eq_false ne, nf]
      have e2 : b_root_of_1 g x = some y := by
        unfold b_root_of_1
        rw [e]
        rfl
      rw [e1]
      show ((b_root_of_1 g x).bind _ : Option Str) = _
      rw [e2]
      exact ih N (by omega)
theorem root_ok {P : Dct Str Str} {x r : Str} {n : Nat} (h : Up P.l x n r) (hn : n < 1000000) : m_root_of (P, (x, ())) = some r := by
  unfold m_root_of
  rw [root_while (P, (x, ())) h 1000000 hn]
  rfl
/-- a root put below another one -/
theorem Up.put {P : List (Str × Str)} {a c : Str} (ha : dGet P a = some a) (hc : dGet P c = some c) (ne : a ≠ c) {x r : Str} {n : Nat} (h : Up P x n r) : (r ≠ a → Up (dPut P a c) x n r) ∧ (r = a → Up (dPut P a c) x (n + 1) c) := by
  have hc' : dGet (dPut P a c) c = some c := by
    rw [dget_put, if_neg (Ne.symm ne)]
    exact hc
  induction h with
  | @root x e =>
    refine ⟨fun z => .root ?_, fun z => ?_⟩
    · rw [dget_put, if_neg z]
      exact e
    · rw [z]
      refine .step (y := c) ?_ (Ne.symm ne) (.root hc')
      rw [dget_put, if_pos rfl]
  | @step x y r n e ney _ ih =>
    have xa : x ≠ a := fun z => by
      rw [z, ha] at e
      cases e
      exact ney z.symm
    have e' : dGet (dPut P a c) x = some y := by
      rw [dget_put, if_neg xa]
      exact e
    exact ⟨fun z => .step e' ney (ih.1 z), fun z => .step e' ney (ih.2 z)⟩
/-- each card is led to a root; two to the same one just where they are joined -/
def Led (C : List Str) (pre : List F3) (k : Nat) (P : List (Str × Str)) : Prop :=
  (∀ x ∈ C, ∃ n r, n ≤ k ∧ r ∈ C ∧ Up P x n r) ∧ ∀ x ∈ C, ∀ y ∈ C, ∀ n r m s, Up P x n r → Up P y m s → (r = s ↔ Cn pre x y)
theorem Led.no {C : List Str} {pre : List F3} {k : Nat} {P : List (Str × Str)} (h : Led C pre k P) {f : F3} (hf : f.b ≠ "same") : Led C (pre ++ [f]) (k + 1) P :=
  ⟨fun x hx => let ⟨n, r, a, b, c⟩ := h.1 x hx; ⟨n, r, by omega, b, c⟩, fun x hx y hy n r m s u v => (h.2 x hx y hy n r m s u v).trans (cn_snoc.trans ⟨fun z => z.elim id fun z => absurd z.1 hf, .inl⟩).symm⟩
theorem Led.join {C : List Str} {pre : List F3} {k : Nat} {P : List (Str × Str)} (h : Led C pre k P) {f : F3} (hf : f.b = "same") {n m : Nat} {a c : Str} (hfa : f.a ∈ C) (hfc : f.c ∈ C) (ua : Up P f.a n a) (uc : Up P f.c m c) (hc : c ∈ C) : Led C (pre ++ [f]) (k + 1) (dPut P a c) := by
  have ra := ua.isRoot
  have rc := uc.isRoot
  by_cases e : a = c
  · subst e
    have same : ∀ z, dGet (dPut P a a) z = dGet P z := fun z => by
      rw [dget_put]
      split
      · rename_i e
        rw [e, ra]
      · rfl
    have up : ∀ {x r : Str} {n : Nat}, Up P x n r → Up (dPut P a a) x n r := fun {x r n} u => by
      induction u with
      | root e => exact .root (by rw [same]; exact e)
      | step e ne _ ih => exact .step (by rw [same]; exact e) ne ih
    have up' : ∀ {x r : Str} {n : Nat}, Up (dPut P a a) x n r → Up P x n r := fun {x r n} u => by
      induction u with
      | root e => exact .root (by rw [← same]; exact e)
      | step e ne _ ih => exact .step (by rw [← same]; exact e) ne ih
    have j : Cn pre f.a f.c := (h.2 _ hfa _ hfc _ _ _ _ ua uc).mp rfl
    refine ⟨fun x hx => let ⟨n, r, q1, q2, q3⟩ := h.1 x hx; ⟨n, r, by omega, q2, up q3⟩, fun x hx y hy n r m s u v => (h.2 x hx y hy n r m s (up' u) (up' v)).trans (cn_snoc.trans ⟨fun z => z.elim id fun z => ?_, .inl⟩).symm⟩
    rcases z.2 with ⟨z1, z2⟩ | ⟨z1, z2⟩
    · exact (z1.trans j).trans z2
    · exact (z1.trans j.symm).trans z2
  · have lead : ∀ x ∈ C, ∃ n r, n ≤ k ∧ r ∈ C ∧ Up P x n r ∧ ∃ n', n' ≤ k + 1 ∧ Up (dPut P a c) x n' (if r = a then c else r) := fun x hx => by
      obtain ⟨n, r, q1, q2, q3⟩ := h.1 x hx
      obtain ⟨p1, p2⟩ := q3.put ra rc e
      refine ⟨n, r, q1, q2, q3, ?_⟩
      by_cases z : r = a
      · rw [if_pos z]
        exact ⟨n + 1, by omega, p2 z⟩
      · rw [if_neg z]
        exact ⟨n, by omega, p1 z⟩
    refine ⟨fun x hx => ?_, fun x hx y hy n r m s u v => ?_⟩
    · obtain ⟨n, r, _, q2, _, n', q4, q5⟩ := lead x hx
      refine ⟨n', _, q4, ?_, q5⟩
      split
      · exact hc
      · exact q2
    · obtain ⟨n1, r1, _, _, x3, n1', _, x5⟩ := lead x hx
      obtain ⟨n2, r2, _, _, y3, n2', _, y5⟩ := lead y hy
      have er := u.fn x5
      have es := v.fn y5
      rw [er, es, cn_snoc]
      have k0 := h.2 x hx y hy _ _ _ _ x3 y3
      have kxa := h.2 x hx _ hfa _ _ _ _ x3 ua
      have kxc := h.2 x hx _ hfc _ _ _ _ x3 uc
      have kay := h.2 _ hfa y hy _ _ _ _ ua y3
      have kcy := h.2 _ hfc y hy _ _ _ _ uc y3
      rw [← k0, ← kxa, ← kxc, ← kay, ← kcy]
      simp only [hf, true_and]
      by_cases z1 : r1 = a <;> by_cases z2 : r2 = a <;> simp only [z1, z2, if_true, if_false] <;> constructor
      all_goals first
        | (intro w; simp_all; done)
        | (intro w; rcases w with w | ⟨w1, w2⟩ | ⟨w1, w2⟩ <;> simp_all; done)
        | (intro w; subst w; simp_all; done)
        | (intro w; right; simp_all [eq_comm]; done)
        | (intro w; rcases w with w | ⟨w1, w2⟩ | ⟨w1, w2⟩ <;> (subst_vars; simp_all [eq_comm]); done)
/-! ### groups of a list -/
def frs (r : Str → Str → Bool) : List Str → List Str → List Str
  | acc, [] => acc
  | acc, x :: l => frs r (if acc.any (fun c => r c x) = true then acc else acc ++ [x]) l
theorem frs_snoc (r : Str → Str → Bool) (x : Str) : ∀ (l acc : List Str), frs r acc (l ++ [x]) = if (frs r acc l).any (fun c => r c x) = true then frs r acc l else frs r acc l ++ [x]
  | [], _ => rfl
  | _ :: l, _ => frs_snoc r x l _
theorem frs_mem (r : Str → Str → Bool) : ∀ (l acc : List Str) {x : Str}, x ∈ frs r acc l → x ∈ acc ∨ x ∈ l
  | [], _, _, h => .inl h
  | y :: l, acc, x, h => by
    rcases frs_mem r l _ h with z | z
    · split at z
      · exact .inl z
      · rcases List.mem_append.mp z with z | z
        · exact .inl z
        · rw [List.mem_singleton.mp z]
          exact .inr List.mem_cons_self
    · exact .inr (List.mem_cons_of_mem _ z)
/-- the groups of C by r -/
def Bl (r : Str → Str → Bool) (C : List Str) : List (List Str) := (frs r [] C).map fun c => C.filter (r c)
theorem Bl_ne {r : Str → Str → Bool} {C : List Str} (h : ∀ c ∈ C, r c c = true) : ∀ b ∈ Bl r C, 0 < b.length := fun b hb => by
  obtain ⟨c, hc, rfl⟩ := List.mem_map.mp hb
  rcases frs_mem r C [] hc with z | z
  · cases z
  · exact List.length_pos_of_mem (List.mem_filter.mpr ⟨z, h c z⟩)
theorem Bl_len (r : Str → Str → Bool) (C : List Str) : (∀ b ∈ Bl r C, b.length ≤ C.length) ∧ (Bl r C).length ≤ C.length := by
  refine ⟨fun b hb => ?_, ?_⟩
  · obtain ⟨c, _, rfl⟩ := List.mem_map.mp hb
    exact List.length_filter_le _ _
  · unfold Bl
    rw [List.length_map]
    have : ∀ (l acc : List Str), (frs r acc l).length ≤ acc.length + l.length := fun l => by
      induction l with
      | nil => exact fun acc => Nat.le_refl _
      | cons x l ih =>
        intro acc
        refine Nat.le_trans (ih _) ?_
        split
        · rw [List.length_cons]; omega
        · rw [List.length_append, List.length_singleton, List.length_cons]; omega
    have := this C []
    simpa using this
theorem frs_cover {r : Str → Str → Bool} : ∀ (l acc : List Str) {x : Str}, x ∈ l → ∃ c ∈ frs r acc l, r c x = true ∨ c = x
  | y :: l, acc, x, h => by
    have keep : ∀ (l acc : List Str) {c : Str}, c ∈ acc → c ∈ frs r acc l := fun l => by
      induction l with
      | nil => exact fun acc c h => h
      | cons z l ih =>
        intro acc c h
        refine ih _ ?_
        split
        · exact h
        · exact List.mem_append_left _ h
    rcases List.mem_cons.mp h with e | e
    · subst e
      show ∃ c ∈ frs r (if acc.any (fun c => r c x) = true then acc else acc ++ [x]) l, _
      by_cases z : acc.any (fun c => r c x) = true
      · rw [if_pos z]
        obtain ⟨c, hc, q⟩ := List.any_eq_true.mp z
        exact ⟨c, keep l _ hc, .inl q⟩
      · rw [if_neg z]
        exact ⟨x, keep l _ (List.mem_append_right _ (List.mem_singleton.mpr rfl)), .inr rfl⟩
    · exact frs_cover l _ e
end GC

/-! blocks_of and the law's own groups: the same -/
namespace MS
open FK
theorem lcM_fil {α β : Type} {f : α → Option Bool} {t : α → Bool} {h : α → Option β} {g : α → β} : ∀ {xs : List α}, (∀ x ∈ xs, f x = some (t x)) → (∀ x ∈ xs, t x = true → h x = some (g x)) → lcM f h xs = some ((xs.filter t).map g)
  | [], _, _ => rfl
  | x :: r, e1, e2 => by
    show (f x).bind _ = _
    rw [e1 x List.mem_cons_self]
    show (if t x = true then _ else _) = _
    by_cases c : t x = true
    · rw [if_pos c, e2 x List.mem_cons_self c, List.filter_cons, if_pos c]
      show (lcM f h r).bind _ = _
      rw [lcM_fil (fun x hx => e1 x (List.mem_cons_of_mem _ hx)) fun x hx => e2 x (List.mem_cons_of_mem _ hx)]
      rfl
    · rw [if_neg c, List.filter_cons, if_neg c]
      exact lcM_fil (fun x hx => e1 x (List.mem_cons_of_mem _ hx)) fun x hx => e2 x (List.mem_cons_of_mem _ hx)
theorem lc_fil {α : Type} {xs : List α} {f : α → Option Bool} {t : α → Bool} (h : xs.length < 1000000) (e : ∀ x ∈ xs, f x = some (t x)) : lcG f (fun x => some x) xs = some (xs.filter t) := by
  unfold lcG
  rw [if_pos h, lcM_fil (g := fun x => x) e fun _ _ _ => rfl, List.map_id']
end MS
namespace GC
open PySem PySem.StrLaws TL L2 FK MS
/-- the blocks of a book with the cards C -/
noncomputable def Blocks (bk : List F3) (C : List Str) : List (List Str) := Bl (fun x y => dec (Cn bk x y)) C
theorem due_ok {bk : List F3} {d : Dct Str Str} (hl : d.l.length < 64) (nd : (keys d).Nodup) (lb : LB bk d) : m__law_due (d, ()) = some (Blocks bk (srt (keys d))) := by
  refine okEq ?_
  have hlk : (srt (keys d)).length < 64 := by rw [len_srt]; unfold keys; rw [List.length_map]; exact hl
  have hs : dSrt d = some (srt (keys d)) := if_pos hl
  unfold m__law_due
  simp only [bs, hs]
  generalize hC : srt (keys d) = C at hlk hs ⊢
  have mk : ∀ x, x ∈ C ↔ x ∈ keys d := fun x => by rw [← hC, mem_srt']
  have lab : ∀ x ∈ C, ∃ v, dGet d.l x = some v := fun x hx => key_get ((mk x).mp hx)
  have hr : ∀ c ∈ C, ∀ x ∈ C, dec (Cn bk c x) = decide ((dGet d.l x).getD "" = (dGet d.l c).getD "") := fun c hc x hx => by
    obtain ⟨v, hv⟩ := lab c hc
    obtain ⟨w, hw⟩ := lab x hx
    rw [← dec_eq]
    refine dec_iff ?_
    rw [← lb c x ((mk c).mp hc) ((mk x).mp hx), hv, hw]
    exact ⟨fun e => (Option.some.inj e).symm, fun e => congrArg some e.symm⟩
  generalize hR : (fun x y => dec (Cn bk x y)) = r
  have hr' : ∀ c ∈ C, ∀ x ∈ C, r c x = decide ((dGet d.l x).getD "" = (dGet d.l c).getD "") := fun c hc x hx => by rw [← hR]; exact hr c hc x hx
  refine (okForL (fun (p : List Str) (s : (List Str) × (List (List Str))) => s.2 = (frs r [] p).map (fun c => C.filter (r c)) ∧ s.1.length ≤ 64 * p.length ∧ ∀ x ∈ C, x ∈ s.1 ↔ ∃ c ∈ frs r [] p, r c x = true) ⟨rfl, Nat.zero_le _, fun x _ => ⟨fun z => (by cases z), fun ⟨_, z, _⟩ => (by cases z)⟩⟩ fun p x q s e h => ?_).bind fun s h => .ret ?_
  · have hx : x ∈ C := by rw [e]; exact List.mem_append_right _ List.mem_cons_self
    have hp : p.length + 1 ≤ C.length := by rw [e, List.length_append, List.length_cons]; omega
    have fin : ∀ c ∈ frs r [] p, c ∈ C := fun c hc => by
      rcases frs_mem r p [] hc with z | z
      · cases z
      · rw [e]; exact List.mem_append_left _ z
    have hF : (frs r [] p).length ≤ p.length := by
      have := (Bl_len r p).2
      unfold Bl at this
      rwa [List.length_map] at this
    obtain ⟨h1, h2, h3⟩ := h
    obtain ⟨sn, du⟩ := s
    simp only at h1 h2 h3
    unfold b__law_due_2
    by_cases hm : x ∈ sn
    · simp only [bs, decide_eq_true hm, nt, if_f]
      obtain ⟨c, hc, qc⟩ := (h3 x hx).mp hm
      have es : frs r [] (p ++ [x]) = frs r [] p := by rw [frs_snoc, if_pos (List.any_eq_true.mpr ⟨c, hc, qc⟩)]
      refine .ret ⟨by rw [es]; exact h1, by rw [List.length_append]; show sn.length ≤ _; omega, fun y hy => by rw [es]; exact h3 y hy⟩
    · simp only [bs, hs, decide_eq_false hm, nf, if_t]
      rw [lc_fil (t := r x) (by omega) fun y hy => by
        obtain ⟨v, hv⟩ := lab x hx
        obtain ⟨w, hw⟩ := lab y hy
        unfold b__law_due_1
        rw [hr' x hx y hy, hv, hw]
        rfl]
      simp only [bs]
      have lf : (C.filter (r x)).length ≤ C.length := List.length_filter_le _ _
      have es : frs r [] (p ++ [x]) = frs r [] p ++ [x] := by
        rw [frs_snoc, if_neg]
        intro z
        obtain ⟨c, hc, qc⟩ := List.any_eq_true.mp z
        exact hm ((h3 x hx).mpr ⟨c, hc, qc⟩)
      refine (okCat (by omega)).bind fun w hw => (okApp (by rw [h1, List.length_map]; omega)).bind fun v hv => .ret ⟨?_, ?_, fun y hy => ?_⟩
      · show v = _
        rw [hv, h1, es, List.map_append]
        rfl
      · show w.length ≤ _
        rw [hw, List.length_append, List.length_append, List.length_singleton]
        omega
      · show y ∈ w ↔ _
        rw [hw, List.mem_append, h3 y hy, List.mem_filter, es]
        constructor
        · rintro (⟨c, hc, z⟩ | ⟨_, z⟩)
          · exact ⟨c, List.mem_append_left _ hc, z⟩
          · exact ⟨x, List.mem_append_right _ (List.mem_singleton.mpr rfl), z⟩
        · rintro ⟨c, hc, z⟩
          rcases List.mem_append.mp hc with hc | hc
          · exact .inl ⟨c, hc, z⟩
          · rw [List.mem_singleton.mp hc] at z
            exact .inr ⟨hy, z⟩
  · rw [h.1, ← hR]
    rfl
end GC

namespace GE
open PySem PySem.StrLaws TL L2 FK MS GC
open G (m_cards_of)
def b_blocks_of_1 (parents_1 : (Dct Str Str)) (s16 : (Dct Str (List Str))) (x17 : Str) : (Option (Dct Str (List Str))) := (Option.bind (Option.bind (m_root_of (parents_1, (x17, ()))) fun (t19 : Str) => Option.bind (some x17) fun (t20 : Str) => (ddApp s16 t19 t20)) fun (found_18 : (Dct Str (List Str))) => (some found_18))
def b_blocks_of_2 (parents_1 : (Dct Str Str)) (g : ((List (T3 Str Str Str)) × Unit)) (s2 : Unit) (x3 : (T3 Str Str Str)) : (Option (Fl Unit (Rs (List (List Str))))) := (ifM (bAnd (some (decide (x3.b = ("apart" : Str)))) (Option.bind (m_root_of (parents_1, (x3.a, ()))) fun (t7 : Str) => Option.bind (m_root_of (parents_1, (x3.c, ()))) fun (t8 : Str) => some (decide (t7 = t8)))) (Option.bind (Option.bind (Option.bind (Option.bind (m_chain_of (g.1, (x3.a, (x3.c, ())))) fun (t9 : (Option (List Str))) => t9) fun (t10 : (List Str)) => some (⟨("Odds" : Str), Pd.pl ("chain" : Str) t10⟩ : Xv)) fun (t11 : Xv) => some (Rs.ex t11 : (Rs (List (List Str))))) fun (t12 : (Rs (List (List Str)))) => some (Fl.rt t12)) (some (Fl.nx ())))
def m_blocks_of : (List (T3 Str Str Str)) × Unit → Option (Rs (List (List Str))) := fun (g : (List (T3 Str Str Str)) × Unit) => (Option.bind (m_parents_of (g.1, ())) fun (parents_1 : (Dct Str Str)) => (thenF (S := Unit) (ρ := (Rs (List (List Str)))) (Option.bind (some g.1) fun (xs13 : List (T3 Str Str Str)) => forF (S := Unit) (ρ := (Rs (List (List Str)))) (b_blocks_of_2 parents_1 g) xs13 ()) (fun (s14 : Unit) => (Option.bind (some (⟨[]⟩ : (Dct Str (List Str)))) fun (found_15 : (Dct Str (List Str))) => (Option.bind (Option.bind (m_cards_of (g.1, ())) fun (xs21 : List Str) => forS (S := (Dct Str (List Str))) (b_blocks_of_1 parents_1) xs21 found_15) fun (s22 : (Dct Str (List Str))) => (Option.bind (Option.bind (some ((⟨s22.l⟩ : Kd Str (List Str)).l.map (·.2))) fun (xs24 : List (List Str)) => lcG (fun (x23 : (List Str)) => (some true)) (fun (x23 : (List Str)) => (some x23)) xs24) fun (t25 : (List (List Str))) => some (Rs.ok t25))))) (fun v => some v) (fun _ => none) (fun _ => none)))
end GE

/-! blocks, or the refusal Odds -/
namespace GE
open PySem PySem.StrLaws TL L2 FK MS GC
/-- a fact by which the book is at odds -/
noncomputable def bad (bk : List F3) (f : F3) : Bool := decide (f.b = "apart") && dec (Cn bk f.a f.c)
theorem bad_iff {bk : List F3} {f : F3} : bad bk f = true ↔ f.b = "apart" ∧ Cn bk f.a f.c := by
  unfold bad
  rw [Bool.and_eq_true, decide_eq_true_iff]
  exact and_congr Iff.rfl ⟨fun h => Classical.byContradiction fun z => (by rw [dec_f z] at h; cases h), dec_t⟩
section
variable {bk : List F3} {C : List Str} {P : Dct Str Str}
theorem step_eq (hC : CardsIs bk C) (hb : bk.length ≤ 1000) (hP : Led C bk bk.length P.l) {f : F3} (fin : f ∈ bk) : b_blocks_of_2 P (bk, ()) () f = if bad bk f = true then (Option.bind (GC.m_chain_of (bk, (f.a, (f.c, ())))) fun t => t.bind fun p => some (Fl.rt (Rs.ex ⟨"Odds", Pd.pl "chain" p⟩))) else some (.nx ()) := by
  unfold b_blocks_of_2
  by_cases ha : f.b = "apart"
  · have ma : f.a ∈ C := (hC.2 _).mpr ⟨f, fin, .inl rfl⟩
    have mc : f.c ∈ C := (hC.2 _).mpr ⟨f, fin, .inr ⟨.inr ha, rfl⟩⟩
    obtain ⟨n, a, a1, a2, a3⟩ := hP.1 _ ma
    obtain ⟨m, c, c1, c2, c3⟩ := hP.1 _ mc
    rw [root_ok a3 (by omega), root_ok c3 (by omega)]
    simp only [bs]
    rw [decide_eq_true ha, and_t]
    have e : (a = c) ↔ Cn bk f.a f.c := hP.2 _ ma _ mc _ _ _ _ a3 c3
    by_cases h : Cn bk f.a f.c
    · rw [decide_eq_true (e.mpr h), if_t, if_pos (bad_iff.mpr ⟨ha, h⟩)]
      simp only [Option.bind_assoc, bs]
    · rw [decide_eq_false fun z => h (e.mp z), if_f, if_neg fun z => h (bad_iff.mp z).2]
  · rw [decide_eq_false ha, and_f, if_f, if_neg fun z => ha (bad_iff.mp z).1]
end
/-- what is known of a book of these cards -/
structure Kn (bk : List F3) (C : List Str) (d : Dct Str Str) : Prop where
  cards : G.m_cards_of (bk, ()) = some C
  is : CardsIs bk C
  len : C.length ≤ 10
  lab : GC.m__law_labels (bk, ()) = some d
  dl : d.l.length ≤ 10
  keys : srt (keys d) = C
  lb : LB bk d
  has : ∀ p ∈ bk, p.a ∈ GC.keys d ∧ (p.b = "apart" → p.c ∈ GC.keys d)
  ed : ∀ x y, Ed bk x y → y ∈ C
  due : GC.m__law_due (d, ()) = some (Blocks bk C)
/-! ### the cards' order -/
def Pre (c : Int) : List Nat := tl (Txt.mul ("q" : Str) (c / 11 % (1 + c % 11)))
end GE

/-! texts of plain signs: cut, put together, turned great or small -/
namespace GT
open PySem PySem.StrLaws TL L2 FK MS
def TX (n : Nat) (x : Str) : Prop := ∃ l : List Nat, x = mks l ∧ l.length ≤ n ∧ ∀ c ∈ l, c < 128
theorem TX.mono {n m : Nat} {x : Str} (h : TX n x) (k : n ≤ m) : TX m x := by
  obtain ⟨l, e, h1, h2⟩ := h
  exact ⟨l, e, by omega, h2⟩
theorem TX.len {n : Nat} {x : Str} (h : TX n x) : x.length ≤ n := by
  obtain ⟨l, rfl, h1, _⟩ := h
  rw [len_mks]
  exact h1
theorem TX.add {n m : Nat} {x y : Str} (h : TX n x) (k : TX m y) (hz : n + m ≤ 100000) : Ok (sAdd x y) (TX (n + m)) := by
  obtain ⟨a, rfl, h1, h2⟩ := h
  obtain ⟨b, rfl, k1, k2⟩ := k
  rw [add_mks a b (by omega)]
  refine .ret ⟨a ++ b, rfl, by rw [List.length_append]; omega, fun c hc => ?_⟩
  rcases List.mem_append.mp hc with z | z
  · exact h2 c z
  · exact k2 c z
theorem TX.cut {n : Nat} {x : Str} (h : TX n x) (hz : n ≤ 100000) (lo hi : Option Int) : Ok (sCut x lo hi) (TX n) := by
  obtain ⟨a, rfl, h1, h2⟩ := h
  rw [cut_mks a lo hi (by omega)]
  have := cut_len a lo hi
  exact .ret ⟨_, rfl, by omega, fun c hc => h2 c (List.mem_of_mem_drop (List.mem_of_mem_take hc))⟩
theorem up_mks : ∀ l : List Nat, (∀ c ∈ l, c < 128) → Txt.upper (mks l) = mks (l.map fun c => if 97 ≤ c ∧ c ≤ 122 then c - 32 else c)
  | [], _ => by decide +kernel
  | c :: l, h => by
    have e : mks (c :: l) = mks [c] ++ mks l := (app_mks [c] l).symm
    rw [e, PySem.W.KOpn.upper_app, PySem.W.KOpn.upper_one (h c List.mem_cons_self), up_mks l fun d hd => h d (List.mem_cons_of_mem _ hd), List.map_cons]
    exact app_mks [_] _
theorem TX.up {n : Nat} {x : Str} (h : TX n x) (hz : n ≤ 100000) : Ok (sUp x) (TX n) := by
  obtain ⟨a, rfl, h1, h2⟩ := h
  refine ⟨_, if_pos (by rw [len_mks]; omega), ?_⟩
  rw [up_mks a h2]
  refine ⟨_, rfl, by rw [List.length_map]; exact h1, fun c hc => ?_⟩
  obtain ⟨d, hd, rfl⟩ := List.mem_map.mp hc
  have := h2 d hd
  split <;> omega
theorem lo_low (c : Nat) : PyProof.Rows.lo1 c = low c := by
  unfold PyProof.Rows.lo1 low
  split <;> split <;> omega
theorem low_mks (l : List Nat) (h : ∀ c ∈ l, c < 128) : Txt.lower (mks l) = mks (l.map low) := by
  have e := PyProof.Rows.lower_ascii (x := mks l) (fun c hc => h c hc)
  have e2 : l.map PyProof.Rows.lo1 = l.map low := List.map_congr_left fun c _ => lo_low c
  rw [e, ← e2]
  refine ext_tl ?_
  show ((mks l).cps.map PyProof.Rows.lo1).toList = _
  rw [Array.toList_map]
theorem low_lt {c : Nat} (h : c < 128) : low c < 128 := by
  unfold low
  split <;> omega
theorem sLow_eq (l : List Nat) (h : ∀ c ∈ l, c < 128) (hz : l.length ≤ 100000) : sLow (mks l) = some (mks (l.map low)) := by
  unfold sLow
  rw [if_pos (by rw [len_mks]; omega), low_mks l h]
theorem TX.low {n : Nat} {x : Str} (h : TX n x) (hz : n ≤ 100000) : Ok (sLow x) (TX n) := by
  obtain ⟨a, rfl, h1, h2⟩ := h
  rw [sLow_eq a h2 (by omega)]
  refine .ret ⟨_, rfl, by rw [List.length_map]; exact h1, fun c hc => ?_⟩
  obtain ⟨d, hd, rfl⟩ := List.mem_map.mp hc
  exact low_lt (h2 d hd)
theorem repl_mem {y z : List Nat} (hy : y ≠ []) : ∀ (n : Nat) (l : List Nat), l.length ≤ n → ∀ c ∈ replL y z l, c ∈ l ∨ c ∈ z
  | _, [], _, c, hc => by
    rw [replL_nil] at hc
    cases hc
  | 0, a :: l, hl, _, _ => absurd hl (by simp)
  | n + 1, a :: l, hl, c, hc => by
    have hyl : 0 < y.length := List.length_pos_iff.mpr hy
    by_cases h : (a :: l).take y.length = y
    · rw [replL_hit hy h] at hc
      rcases List.mem_append.mp hc with w | w
      · exact .inr w
      · rcases repl_mem hy n ((a :: l).drop y.length) (by rw [List.length_drop]; omega) c w with w | w
        · exact .inl (List.mem_of_mem_drop w)
        · exact .inr w
    · rw [replL_miss h] at hc
      rcases List.mem_cons.mp hc with w | w
      · exact .inl (w ▸ List.mem_cons_self)
      · rcases repl_mem hy n l (by rw [List.length_cons] at hl; omega) c w with w | w
        · exact .inl (List.mem_cons_of_mem _ w)
        · exact .inr w
theorem TX.repl {n : Nat} {x : Str} (h : TX n x) (hz : n ≤ 10000) : Ok (sRepl x (" " : Str) ("  " : Str)) (TX (n + (n + 1) * 2)) := by
  have hl := h.len
  obtain ⟨a, rfl, h1, h2⟩ := h
  have h2l : ("  " : Str).length = 2 := by decide +kernel
  refine ⟨_, if_pos (by rw [h2l]; omega), tl (Txt.replace (mks a) (" " : Str) ("  " : Str)), (mks_tl _).symm, ?_, fun c hc => ?_⟩
  · have := TK.replace_len (mks a) (" " : Str) ("  " : Str)
    rw [h2l] at this
    rw [← len_tl]
    omega
  · have e : tl (Txt.replace (mks a) (" " : Str) ("  " : Str)) = replL [32] [32, 32] a := by
      have := replace_list (x := mks a) (y := (" " : Str)) (z := ("  " : Str)) (by decide +kernel)
      have e1 : (" " : Str).cps.toList = [32] := by decide +kernel
      have e2 : ("  " : Str).cps.toList = [32, 32] := by decide +kernel
      rw [e1, e2] at this
      exact this
    rw [e] at hc
    rcases repl_mem (by simp) _ a (Nat.le_refl _) c hc with w | w
    · exact h2 c w
    · revert w
      simp only [List.mem_cons, List.not_mem_nil, or_false]
      omega
theorem TX.strip {n : Nat} {x : Str} (h : TX n x) (hz : n ≤ 100000) : Ok (sStrip x (" " : Str)) (TX n) := by
  have hl := h.len
  obtain ⟨a, rfl, h1, h2⟩ := h
  refine (strip_ok (by omega)).mono fun z hz => ⟨tl z, (mks_tl z).symm, by rw [← len_tl]; omega, fun c hc => h2 c (hz.2.1 c hc)⟩
theorem TX.sgn {c : Nat} (h : c < 128) : TX 1 (c1 c) := ⟨[c], rfl, Nat.le_refl _, fun d hd => by rw [List.mem_singleton.mp hd]; exact h⟩
end GT

namespace GU
open PySem PySem.StrLaws TL L2 FK MS

def m_is_passed_by : Str × Unit → Option Bool := fun (g : Str × Unit) => (bOr (Option.bind (sStrip g.1 (" " : Str)) fun (t1 : Str) => Option.bind (some ("" : Str)) fun (t2 : Str) => some (decide (t1 = t2))) (some (Txt.startswith g.1 ("#" : Str))))
def b_number_by_1  (s9 : Unit) (x10 : Str) : (Option (Fl Unit (Rs Int))) := (ifM (Option.bind (Option.bind (some ("0" : Str)) fun (t11 : Str) => Option.bind (some x10) fun (t12 : Str) => if (!sLt t12 t11) = true then Option.bind (some ("9" : Str)) fun (t13 : Str) => some (!sLt t13 t12) else some false) fun (t14 : Bool) => some (!t14)) (Option.bind (Option.bind (Option.bind (some (1 : Int)) fun (t15 : Int) => some (⟨("NoRow" : Str), Pd.pl ("row" : Str) t15⟩ : Xv)) fun (t16 : Xv) => some (Rs.ex t16 : (Rs Int))) fun (t17 : (Rs Int)) => some (Fl.rt t17)) (some (Fl.nx ())))
def m_number_by : Str × Unit → Option (Rs Int) := fun (g : Str × Unit) => (ifM (bOr (Option.bind (Option.bind (some (1 : Int)) fun (t1 : Int) => Option.bind (sLen g.1) fun (t2 : Int) => if (decide (t1 ≤ t2)) = true then Option.bind (some (10 : Int)) fun (t3 : Int) => some (decide (t2 ≤ t3)) else some false) fun (t4 : Bool) => some (!t4)) (Option.bind (sAt g.1 (0 : Int)) fun (t5 : Str) => Option.bind (some ("0" : Str)) fun (t6 : Str) => some (decide (t5 = t6)))) (Option.bind (Option.bind (some (1 : Int)) fun (t7 : Int) => some (⟨("NoRow" : Str), Pd.pl ("row" : Str) t7⟩ : Xv)) fun (t8 : Xv) => some (Rs.ex t8 : (Rs Int))) (thenF (S := Unit) (ρ := (Rs Int)) (Option.bind (some (sgn g.1)) fun (xs18 : List Str) => forF (S := Unit) (ρ := (Rs Int)) (b_number_by_1) xs18 ()) (fun (s19 : Unit) => (ifM (Option.bind (sInt g.1) fun (t20 : Int) => Option.bind (some (1000000000 : Int)) fun (t21 : Int) => some (decide (t21 < t20))) (Option.bind (Option.bind (some (1 : Int)) fun (t22 : Int) => some (⟨("NoRow" : Str), Pd.pl ("row" : Str) t22⟩ : Xv)) fun (t23 : Xv) => some (Rs.ex t23 : (Rs Int))) (Option.bind (sInt g.1) fun (t24 : Int) => some (Rs.ok t24)))) (fun v => some v) (fun _ => none) (fun _ => none)))
def m_rule_by : Int × Str × Str × Unit → Option (Rs Ru) := fun (g : Int × Str × Str × Unit) => (ifM (some (!decide (g.2.1 ∈ (⟨[("name" : Str), ("former" : Str), ("way" : Str), ("day" : Str), ("mark" : Str)]⟩ : Tl Str).l))) (Option.bind (Option.bind (some (1 : Int)) fun (t1 : Int) => some (⟨("NoRow" : Str), Pd.pl ("row" : Str) t1⟩ : Xv)) fun (t2 : Xv) => some (Rs.ex t2 : (Rs Ru))) (ifM (some (decide (g.2.2.1 = ("same" : Str)))) (Option.bind (Option.bind (some g.1) fun (t3 : Int) => Option.bind (some g.2.1) fun (t4 : Str) => some (⟨("Same" : Str), t3, t4⟩ : Ru)) fun (t5 : Ru) => some (Rs.ok t5)) (ifM (some (decide (g.2.2.1 = ("like" : Str)))) (Option.bind (Option.bind (some g.1) fun (t6 : Int) => Option.bind (some g.2.1) fun (t7 : Str) => some (⟨("Like" : Str), t6, t7⟩ : Ru)) fun (t8 : Ru) => some (Rs.ok t8)) (ifM (some (decide (g.2.2.1 = ("near" : Str)))) (Option.bind (Option.bind (some g.1) fun (t9 : Int) => Option.bind (some g.2.1) fun (t10 : Str) => some (⟨("Near" : Str), t9, t10⟩ : Ru)) fun (t11 : Ru) => some (Rs.ok t11)) (ifM (some (decide (g.2.2.1 = ("other" : Str)))) (Option.bind (Option.bind (some g.1) fun (t12 : Int) => Option.bind (some g.2.1) fun (t13 : Str) => some (⟨("Other" : Str), t12, t13⟩ : Ru)) fun (t14 : Ru) => some (Rs.ok t14)) (ifM (bAnd (some (decide (g.2.2.1 = ("former" : Str)))) (some (decide (g.2.1 = ("name" : Str))))) (Option.bind (Option.bind (some g.1) fun (t15 : Int) => some (⟨("Former" : Str), t15, "name"⟩ : Ru)) fun (t16 : Ru) => some (Rs.ok t16)) (Option.bind (Option.bind (some (1 : Int)) fun (t17 : Int) => some (⟨("NoRow" : Str), Pd.pl ("row" : Str) t17⟩ : Xv)) fun (t18 : Xv) => some (Rs.ex t18 : (Rs Ru)))))))))
def m_read_rule : Str × Unit → Option (Rs Ru) := fun (g : Str × Unit) => (Option.bind (sSplit g.1 (" " : Str)) fun (words_1 : (List Str)) => (ifM (bOr (some (!decide ((words_1.length : Int) = (4 : Int)))) (Option.bind (atI words_1 (0 : Int)) fun (t2 : Str) => Option.bind (some (⟨[("for" : Str), ("against" : Str)]⟩ : (Tl Str))) fun (t3 : (Tl Str)) => some (!decide (t2 ∈ t3.l)))) (Option.bind (Option.bind (some (1 : Int)) fun (t4 : Int) => some (⟨("NoRow" : Str), Pd.pl ("row" : Str) t4⟩ : Xv)) fun (t5 : Xv) => some (Rs.ex t5 : (Rs Ru))) (thenF (S := Int) (ρ := (Rs Ru)) (Option.bind (Option.bind (Option.bind (atI words_1 (1 : Int)) fun (t6 : Str) => Option.bind (some ()) fun (t7 : Unit) => some (t6, t7)) m_number_by) fun (t9 : Rs Int) => some t9.fl) (fun (weight_8 : Int) => (Option.bind (ifM (Option.bind (atI words_1 (0 : Int)) fun (t10 : Str) => Option.bind (some ("against" : Str)) fun (t11 : Str) => some (decide (t10 = t11))) (Option.bind (some ((0 : Int) - weight_8)) fun (weight_13 : Int) => (some weight_13)) (some weight_8)) fun (s12 : Int) => (Option.bind (Option.bind (some s12) fun (t18 : Int) => Option.bind (Option.bind (atI words_1 (2 : Int)) fun (t16 : Str) => Option.bind (Option.bind (atI words_1 (3 : Int)) fun (t14 : Str) => Option.bind (some ()) fun (t15 : Unit) => some (t14, t15)) fun (t17 : (Str × Unit)) => some (t16, t17)) fun (t19 : (Str × (Str × Unit))) => some (t18, t19)) m_rule_by))) (fun v => some v) (fun _ => none) (fun _ => none))))
def m_rule_at : Str × Int × Unit → Option Ru := fun (g : Str × Int × Unit) => (Option.bind (m_read_rule (g.1, ())) rsO)
def b_read_rules_1  (s2 : (List Ru)) (x4 : (Int × Str)) : (Option (List Ru)) := (ifM (Option.bind (m_is_passed_by (x4.2, ())) fun (t7 : Bool) => some (!t7)) (Option.bind (Option.bind (m_rule_at (x4.2, ((x4.1 + (1 : Int)), ()))) fun (t9 : Ru) => (lApp s2 t9)) fun (rules_8 : (List Ru)) => (some rules_8)) (some s2))
def m_read_rules : Str × Unit → Option (List Ru) := fun (g : Str × Unit) => (Option.bind (some ([] : (List Ru))) fun (rules_1 : (List Ru)) => (Option.bind (Option.bind (Option.bind (sSplit g.1 ("\n" : Str)) fun (t3 : (List Str)) => some (enumL t3)) fun (xs10 : List (Int × Str)) => forS (S := (List Ru)) (b_read_rules_1) xs10 rules_1) fun (s11 : (List Ru)) => (some s11)))
end GU

namespace GR
open PySem PySem.StrLaws TL L2 FK MS
def m_is_card : Str × Unit → Option Bool := fun (g : Str × Unit) => (bAnd (Option.bind (some (1 : Int)) fun (t1 : Int) => Option.bind (sLen g.1) fun (t2 : Int) => if (decide (t1 ≤ t2)) = true then Option.bind (some (12 : Int)) fun (t3 : Int) => some (decide (t2 ≤ t3)) else some false) (Option.bind (Option.bind (some (sgn g.1)) fun (xs5 : List Str) => lcG (fun (x4 : Str) => (some true)) (fun (x4 : Str) => (some (sIn x4 ("abcdefghijklmnopqrstuvwxyz" : Str)))) xs5) fun (t6 : (List Bool)) => some (t6.all id)))
def m_is_text : Str × Unit → Option Bool := fun (g : Str × Unit) => (bAnd (Option.bind (some (1 : Int)) fun (t1 : Int) => Option.bind (sLen g.1) fun (t2 : Int) => if (decide (t1 ≤ t2)) = true then Option.bind (some (40 : Int)) fun (t3 : Int) => some (decide (t2 ≤ t3)) else some false) (bAnd (Option.bind (sAt g.1 (0 : Int)) fun (t4 : Str) => Option.bind (some (" " : Str)) fun (t5 : Str) => some (!decide (t4 = t5))) (Option.bind (sAt g.1 (-(1 : Int))) fun (t6 : Str) => Option.bind (some (" " : Str)) fun (t7 : Str) => some (!decide (t6 = t7)))))
def m_fact_of : Str × Unit → Option (Rs (T3 Str Str Str)) := fun (g : Str × Unit) => (Option.bind (sPart g.1 (" " : Str)) fun (p1 : (T3 Str Str Str)) => (Option.bind (sPart p1.c (" " : Str)) fun (p5 : (T3 Str Str Str)) => (ifM (Option.bind (m_is_card (p1.a, ())) fun (t9 : Bool) => some (!t9)) (Option.bind (Option.bind (some (1 : Int)) fun (t10 : Int) => some (⟨("NoRow" : Str), Pd.pl ("row" : Str) t10⟩ : Xv)) fun (t11 : Xv) => some (Rs.ex t11 : (Rs (T3 Str Str Str)))) (ifM (bAnd (some (decide (p5.a ∈ (⟨[("name" : Str), ("former" : Str), ("way" : Str), ("day" : Str), ("mark" : Str)]⟩ : Tl Str).l))) (m_is_text (p5.c, ()))) (some (Rs.ok (⟨p1.a, p5.a, p5.c⟩ : (T3 Str Str Str)))) (ifM (bAnd (some (decide (p5.a ∈ (⟨[("same" : Str), ("apart" : Str)]⟩ : Tl Str).l))) (bAnd (m_is_card (p5.c, ())) (some (!decide (p5.c = p1.a))))) (some (Rs.ok (⟨(smin p1.a p5.c), p5.a, (smax p1.a p5.c)⟩ : (T3 Str Str Str)))) (Option.bind (Option.bind (some (1 : Int)) fun (t14 : Int) => some (⟨("NoRow" : Str), Pd.pl ("row" : Str) t14⟩ : Xv)) fun (t15 : Xv) => some (Rs.ex t15 : (Rs (T3 Str Str Str)))))))))
end GR

namespace GD
open PySem PySem.StrLaws TL L2 FK MS
open GU (m_is_passed_by)
open GR (m_fact_of)
def m_tidy : (List (T3 Str Str Str)) × Unit → Option (List (T3 Str Str Str)) := fun (g : (List (T3 Str Str Str)) × Unit) => (tdy g.1)
def m_fact_at : Str × Int × Unit → Option (T3 Str Str Str) := fun (g : Str × Int × Unit) => (Option.bind (m_fact_of (g.1, ())) rsO)
def b_read_book_1  (s2 : (List (T3 Str Str Str))) (x4 : (Int × Str)) : (Option (List (T3 Str Str Str))) := (ifM (Option.bind (m_is_passed_by (x4.2, ())) fun (t7 : Bool) => some (!t7)) (Option.bind (Option.bind (m_fact_at (x4.2, ((x4.1 + (1 : Int)), ()))) fun (t9 : (T3 Str Str Str)) => (lApp s2 t9)) fun (facts_8 : (List (T3 Str Str Str))) => (some facts_8)) (some s2))
def m_read_book : Str × Unit → Option (List (T3 Str Str Str)) := fun (g : Str × Unit) => (Option.bind (some ([] : (List (T3 Str Str Str)))) fun (facts_1 : (List (T3 Str Str Str))) => (Option.bind (Option.bind (Option.bind (sSplit g.1 ("\n" : Str)) fun (t3 : (List Str)) => some (enumL t3)) fun (xs10 : List (Int × Str)) => forS (S := (List (T3 Str Str Str))) (b_read_book_1) xs10 facts_1) fun (s11 : (List (T3 Str Str Str))) => (m_tidy (s11, ()))))
end GD

namespace G
open PySem PySem.StrLaws TL L2 FK MS
def b__law_fact_1 (signs_2 : Str) (g : (Int × (List Int) × Unit)) (x39 : Int) : (Option Str) := (Option.bind (some signs_2) fun (t43 : Str) => Option.bind (Option.bind (Option.bind (atI g.2.1 (2 : Int)) fun (t40 : Int) => Option.bind (some x39) fun (t41 : Int) => (ifdiv t40 t41)) fun (t42 : Int) => some (t42 % 14)) fun (t44 : Int) => (sAt t43 t44))
def m__law_fact : Int × (List Int) × Unit → Option (T3 Str Str Str) := fun (g : Int × (List Int) × Unit) => (Option.bind (some ("abcdefghijklmnopqrstuvwxyz" : Str)) fun (letters_1 : Str) => (Option.bind (some ("abcXYZ019.-#~@" : Str)) fun (signs_2 : Str) => (Option.bind (some ((1 : Int) + (g.1 % 5))) fun (many_3 : Int) => (Option.bind (Option.bind (some letters_1) fun (t10 : Str) => Option.bind (Option.bind (Option.bind (some (g.1 / 5)) fun (t7 : Int) => Option.bind (Option.bind (atI g.2.1 (0 : Int)) fun (t5 : Int) => Option.bind (some many_3) fun (t6 : Int) => (imod t5 t6)) fun (t8 : Int) => some (t7 + t8)) fun (t9 : Int) => some (t9 % 26)) fun (t11 : Int) => (sAt t10 t11)) fun (card_4 : Str) => (Option.bind (Option.bind (some letters_1) fun (t19 : Str) => Option.bind (Option.bind (Option.bind (some (g.1 / 5)) fun (t16 : Int) => Option.bind (Option.bind (Option.bind (atI g.2.1 (0 : Int)) fun (t13 : Int) => some (t13 / 5)) fun (t14 : Int) => Option.bind (some many_3) fun (t15 : Int) => (imod t14 t15)) fun (t17 : Int) => some (t16 + t17)) fun (t18 : Int) => some (t18 % 26)) fun (t20 : Int) => (sAt t19 t20)) fun (other_12 : Str) => (ifM (bAnd (Option.bind (Option.bind (atI g.2.1 (1 : Int)) fun (t21 : Int) => some (t21 % 5)) fun (t22 : Int) => Option.bind (some (0 : Int)) fun (t23 : Int) => some (decide (t22 = t23))) (some (!decide (card_4 = other_12)))) (Option.bind (some (smin card_4 other_12)) fun (t28 : Str) => Option.bind (Option.bind (some [("same" : Str), ("apart" : Str)]) fun (t26 : (List Str)) => Option.bind (Option.bind (Option.bind (atI g.2.1 (1 : Int)) fun (t24 : Int) => some (t24 / 5)) fun (t25 : Int) => some (t25 % 2)) fun (t27 : Int) => (atI t26 t27)) fun (t29 : Str) => Option.bind (some (smax card_4 other_12)) fun (t30 : Str) => some (⟨t28, t29, t30⟩ : (T3 Str Str Str))) (Option.bind (Option.bind (some ("" : Str)) fun (t46 : Str) => Option.bind (Option.bind (Option.bind (some [(1 : Int), (14 : Int), (196 : Int)]) fun (t36 : (List Int)) => Option.bind (some none) fun (t37 : Option Int) => Option.bind (Option.bind (Option.bind (some (1 : Int)) fun (t34 : Int) => Option.bind (Option.bind (Option.bind (atI g.2.1 (1 : Int)) fun (t32 : Int) => some (t32 / 10)) fun (t33 : Int) => some (t33 % 3)) fun (t35 : Int) => some (t34 + t35)) fun (z : Int) => some (some z)) fun (t38 : Option Int) => some (cutA t36 t37 t38)) fun (xs45 : List Int) => lcG (fun (x39 : Int) => (some true)) (b__law_fact_1 signs_2 g) xs45) fun (t47 : (List Str)) => (sJoin t46 t47)) fun (text_31 : Str) => (Option.bind (ifM (Option.bind (Option.bind (Option.bind (atI g.2.1 (1 : Int)) fun (t48 : Int) => some (t48 / 30)) fun (t49 : Int) => some (t49 % 4)) fun (t50 : Int) => Option.bind (some (0 : Int)) fun (t51 : Int) => some (decide (t50 = t51))) (Option.bind (sUp card_4) fun (text_53 : Str) => (some text_53)) (some text_31)) fun (s52 : Str) => (Option.bind (some card_4) fun (t58 : Str) => Option.bind (Option.bind (some [("name" : Str), ("former" : Str), ("way" : Str), ("day" : Str), ("mark" : Str)]) fun (t56 : (List Str)) => Option.bind (Option.bind (Option.bind (atI g.2.1 (1 : Int)) fun (t54 : Int) => some (t54 / 120)) fun (t55 : Int) => some (t55 % 5)) fun (t57 : Int) => (atI t56 t57)) fun (t59 : Str) => Option.bind (some s52) fun (t60 : Str) => some (⟨t58, t59, t60⟩ : (T3 Str Str Str)))))))))))
def b_changes_of_1 (s15 : (Dct (T3 Str Str Str) Str)) (x16 : (T3 Str Str Str)) : (Option (Str × (T3 Str Str Str))) := (Option.bind (dGet s15.l x16) fun (t17 : Str) => Option.bind (some x16) fun (t18 : (T3 Str Str Str)) => some (t17, t18))
def b_changes_of_2 (g : ((List (T3 Str Str Str)) × (List (T3 Str Str Str)) × Unit)) (s9 : (Dct (T3 Str Str Str) Str)) (x10 : (T3 Str Str Str)) : (Option (Dct (T3 Str Str Str) Str)) := (ifM (some (!decide (x10 ∈ g.1))) (Option.bind (Option.bind (some ("+" : Str)) fun (t12 : Str) => Option.bind (some x10) fun (t13 : (T3 Str Str Str)) => (dSet s9 t13 t12)) fun (changes_11 : (Dct (T3 Str Str Str) Str)) => (some changes_11)) (some s9))
def b_changes_of_3 (g : ((List (T3 Str Str Str)) × (List (T3 Str Str Str)) × Unit)) (s2 : (Dct (T3 Str Str Str) Str)) (x3 : (T3 Str Str Str)) : (Option (Dct (T3 Str Str Str) Str)) := (ifM (some (!decide (x3 ∈ g.2.1))) (Option.bind (Option.bind (some ("-" : Str)) fun (t5 : Str) => Option.bind (some x3) fun (t6 : (T3 Str Str Str)) => (dSet s2 t6 t5)) fun (changes_4 : (Dct (T3 Str Str Str) Str)) => (some changes_4)) (some s2))
def m_changes_of : (List (T3 Str Str Str)) × (List (T3 Str Str Str)) × Unit → Option (List (Str × (T3 Str Str Str))) := fun (g : (List (T3 Str Str Str)) × (List (T3 Str Str Str)) × Unit) => (Option.bind (some (⟨[]⟩ : (Dct (T3 Str Str Str) Str))) fun (changes_1 : (Dct (T3 Str Str Str) Str)) => (Option.bind (Option.bind (some g.1) fun (xs7 : List (T3 Str Str Str)) => forS (S := (Dct (T3 Str Str Str) Str)) (b_changes_of_3 g) xs7 changes_1) fun (s8 : (Dct (T3 Str Str Str) Str)) => (Option.bind (Option.bind (some g.2.1) fun (xs14 : List (T3 Str Str Str)) => forS (S := (Dct (T3 Str Str Str) Str)) (b_changes_of_2 g) xs14 s8) fun (s15 : (Dct (T3 Str Str Str) Str)) => (Option.bind (sSort (s15.l.map (·.1))) fun (xs19 : List (T3 Str Str Str)) => lcG (fun (x16 : (T3 Str Str Str)) => (some true)) (b_changes_of_1 s15) xs19))))
def b_poured_all_1 (g : ((List (T3 Str Str Str)) × (List (List (T3 Str Str Str))) × Unit)) (s7 : (List (T3 Str Str Str))) (x8 : (List (T3 Str Str Str))) : (Option (List (T3 Str Str Str))) := (Option.bind (Option.bind (Option.bind (some x8) fun (xs10 : List (T3 Str Str Str)) => lcG (fun (x9 : (T3 Str Str Str)) => (some (!decide (x9 ∈ g.1)))) (fun (x9 : (T3 Str Str Str)) => (some x9)) xs10) fun (t12 : (List (T3 Str Str Str))) => (lCat s7 t12)) fun (facts_11 : (List (T3 Str Str Str))) => (some facts_11))
def b_poured_all_2 (g : ((List (T3 Str Str Str)) × (List (List (T3 Str Str Str))) × Unit)) (x2 : (T3 Str Str Str)) : (Option Bool) := (Option.bind (Option.bind (some g.2.1) fun (xs4 : List (List (T3 Str Str Str))) => lcG (fun (x3 : (List (T3 Str Str Str))) => (some true)) (fun (x3 : (List (T3 Str Str Str))) => (some (decide (x2 ∈ x3)))) xs4) fun (t5 : (List Bool)) => some (t5.all id))
def m_poured_all : (List (T3 Str Str Str)) × (List (List (T3 Str Str Str))) × Unit → Option (List (T3 Str Str Str)) := fun (g : (List (T3 Str Str Str)) × (List (List (T3 Str Str Str))) × Unit) => (Option.bind (Option.bind (some g.1) fun (xs6 : List (T3 Str Str Str)) => lcG (b_poured_all_2 g) (fun (x2 : (T3 Str Str Str)) => (some x2)) xs6) fun (facts_1 : (List (T3 Str Str Str))) => (Option.bind (Option.bind (some g.2.1) fun (xs13 : List (List (T3 Str Str Str))) => forS (S := (List (T3 Str Str Str))) (b_poured_all_1 g) xs13 facts_1) fun (s14 : (List (T3 Str Str Str))) => (m_tidy (s14, ()))))
def m_poured : (List (T3 Str Str Str)) × (Fz (List (T3 Str Str Str))) × (Fz (List (T3 Str Str Str))) × Unit → Option (List (T3 Str Str Str)) := fun (g : (List (T3 Str Str Str)) × (Fz (List (T3 Str Str Str))) × (Fz (List (T3 Str Str Str))) × Unit) => (m_poured_all (g.1, ([g.2.1.val, g.2.2.1.val], ())))
def m__law_good : (List (T3 Str Str Str)) × (List (T3 Str Str Str)) × Unit → Option Bool := fun (g : (List (T3 Str Str Str)) × (List (T3 Str Str Str)) × Unit) => (bAnd (some true) (bAnd (some (decide (g.1 = g.2.1))) (Option.bind (Option.bind (some g.1) fun (xs2 : List (T3 Str Str Str)) => lcG (fun (x1 : (T3 Str Str Str)) => (some true)) (fun (x1 : (T3 Str Str Str)) => (some true)) xs2) fun (t3 : (List Bool)) => some (t3.all id))))
def m_changed_by : (List (T3 Str Str Str)) × (List (Str × (T3 Str Str Str))) × Unit → Option (List (T3 Str Str Str)) := fun (g : (List (T3 Str Str Str)) × (List (Str × (T3 Str Str Str))) × Unit) => (Option.bind (Option.bind (some g.2.1) fun (xs5 : List (Str × (T3 Str Str Str))) => lcG (fun (x2 : (Str × (T3 Str Str Str))) => (some (decide (x2.1 = ("-" : Str))))) (fun (x2 : (Str × (T3 Str Str Str))) => (some x2.2)) xs5) fun (gone_1 : (List (T3 Str Str Str))) => (Option.bind (Option.bind (some g.2.1) fun (xs10 : List (Str × (T3 Str Str Str))) => lcG (fun (x7 : (Str × (T3 Str Str Str))) => (some (decide (x7.1 = ("+" : Str))))) (fun (x7 : (Str × (T3 Str Str Str))) => (some x7.2)) xs10) fun (come_6 : (List (T3 Str Str Str))) => (Option.bind (Option.bind (Option.bind (Option.bind (some g.1) fun (xs12 : List (T3 Str Str Str)) => lcG (fun (x11 : (T3 Str Str Str)) => (some (!decide (x11 ∈ gone_1)))) (fun (x11 : (T3 Str Str Str)) => (some x11)) xs12) fun (t13 : (List (T3 Str Str Str))) => Option.bind (some come_6) fun (t14 : (List (T3 Str Str Str))) => (lCat t13 t14)) fun (t15 : (List (T3 Str Str Str))) => Option.bind (some ()) fun (t16 : Unit) => some (t15, t16)) m_tidy)))
def m__law_by_facts : (List (Str × (T3 Str Str Str))) × Unit → Option (List (Str × (T3 Str Str Str))) := fun (g : (List (Str × (T3 Str Str Str))) × Unit) => (Option.bind (Option.bind (Option.bind (some g.1) fun (xs4 : List (Str × (T3 Str Str Str))) => lcG (fun (x1 : (Str × (T3 Str Str Str))) => (some true)) (fun (x1 : (Str × (T3 Str Str Str))) => (some (x1.2, x1.1))) xs4) fun (t5 : (List ((T3 Str Str Str) × Str))) => (sSort t5)) fun (xs9 : List ((T3 Str Str Str) × Str)) => lcG (fun (x6 : ((T3 Str Str Str) × Str)) => (some true)) (fun (x6 : ((T3 Str Str Str) × Str)) => (some (x6.2, x6.1))) xs9)
def b__law_one_by_one_1 (g : ((List (T3 Str Str Str)) × (List (List (T3 Str Str Str))) × Unit)) (s3 : (List (T3 Str Str Str))) (x4 : (List (T3 Str Str Str))) : (Option (List (T3 Str Str Str))) := (Option.bind (m_poured (g.1, ((⟨s3⟩ : (Fz (List (T3 Str Str Str)))), ((⟨x4⟩ : (Fz (List (T3 Str Str Str)))), ())))) fun (book_5 : (List (T3 Str Str Str))) => (some book_5))
def m__law_one_by_one : (List (T3 Str Str Str)) × (List (List (T3 Str Str Str))) × Unit → Option (List (T3 Str Str Str)) := fun (g : (List (T3 Str Str Str)) × (List (List (T3 Str Str Str))) × Unit) => (Option.bind (Option.bind (atI g.2.1 (0 : Int)) fun (t2 : (List (T3 Str Str Str))) => some t2) fun (book_1 : (List (T3 Str Str Str))) => (Option.bind (Option.bind (some (cutA g.2.1 (some (1 : Int)) none)) fun (xs6 : List (List (T3 Str Str Str))) => forS (S := (List (T3 Str Str Str))) (b__law_one_by_one_1 g) xs6 book_1) fun (s7 : (List (T3 Str Str Str))) => (some s7)))
end G

namespace GD
open PySem PySem.StrLaws TL L2 FK MS
open G (m__law_stream m_cards_of m_tidy)
def b__law_cards_1 (letters_1 : Str) (draws_2 : (List Int)) (at_7 : Int) (base_10 : Str) (s16 : (List Str)) (x17 : Int) : (Option (List Str)) := (Option.bind (Option.bind (some letters_1) fun (t22 : Str) => Option.bind (Option.bind (Option.bind (atI draws_2 ((2 : Int) + at_7)) fun (t19 : Int) => Option.bind (imul (7 : Int) x17) fun (t20 : Int) => some (t19 + t20)) fun (t21 : Int) => some (t21 % 26)) fun (t23 : Int) => (sAt t22 t23)) fun (sign_18 : Str) => (Option.bind (Option.bind (Option.bind (Option.bind (sCut base_10 none (some at_7)) fun (t24 : Str) => Option.bind (some sign_18) fun (t25 : Str) => (sAdd t24 t25)) fun (t26 : Str) => Option.bind (sCut base_10 (some (at_7 + (1 : Int))) none) fun (t27 : Str) => (sAdd t26 t27)) fun (t29 : Str) => (lApp s16 t29)) fun (cards_here_28 : (List Str)) => (some cards_here_28)))
def b__law_cards_2 (letters_1 : Str) (x11 : Int) : (Option Str) := (sAt letters_1 (x11 % 26))
def m__law_cards : Int × Int × Unit → Option (List Str) := fun (g : Int × Int × Unit) => (Option.bind (some ("abcdefghijklmnopqrstuvwxyz" : Str)) fun (letters_1 : Str) => (Option.bind (m__law_stream (g.1, ((14 : Int), ()))) fun (draws_2 : (List Int)) => (Option.bind (Option.bind (some (1 : Int)) fun (t5 : Int) => Option.bind (Option.bind (atI draws_2 (0 : Int)) fun (t4 : Int) => some (t4 % 12)) fun (t6 : Int) => some (t5 + t6)) fun (size_3 : Int) => (Option.bind (Option.bind (atI draws_2 (1 : Int)) fun (t8 : Int) => Option.bind (some size_3) fun (t9 : Int) => (imod t8 t9)) fun (at_7 : Int) => (Option.bind (Option.bind (some ("" : Str)) fun (t13 : Str) => Option.bind (Option.bind (some (cutA draws_2 (some (2 : Int)) (some ((2 : Int) + size_3)))) fun (xs12 : List Int) => lcG (fun (x11 : Int) => (some true)) (b__law_cards_2 letters_1) xs12) fun (t14 : (List Str)) => (sJoin t13 t14)) fun (base_10 : Str) => (Option.bind (some ([] : (List Str))) fun (cards_here_15 : (List Str)) => (Option.bind (Option.bind (range1 g.2.1) fun (xs30 : List Int) => forS (S := (List Str)) (b__law_cards_1 letters_1 draws_2 at_7 base_10) xs30 cards_here_15) fun (s31 : (List Str)) => (some s31))))))))
def b_without_pair_1 (g : ((List (T3 Str Str Str)) × Str × Str × Unit)) (s4 : (List (T3 Str Str Str))) (x5 : (T3 Str Str Str)) : (Option (List (T3 Str Str Str))) := (ifM (bOr (some (!decide (x5.b ∈ (⟨[("same" : Str), ("apart" : Str)]⟩ : Tl Str).l))) (some (!decide ((x5.a, x5.c) = ((smin g.2.1 g.2.2.1), (smax g.2.1 g.2.2.1)))))) (Option.bind (Option.bind (some x5) fun (t7 : (T3 Str Str Str)) => (lApp s4 t7)) fun (kept_6 : (List (T3 Str Str Str))) => (some kept_6)) (some s4))
def m_without_pair : (List (T3 Str Str Str)) × Str × Str × Unit → Option (Rs (List (T3 Str Str Str))) := fun (g : (List (T3 Str Str Str)) × Str × Str × Unit) => (Option.bind (m_cards_of (g.1, ())) fun (cards_1 : (List Str)) => (ifM (bOr (some (decide (g.2.1 = g.2.2.1))) (bOr (some (!decide (g.2.1 ∈ cards_1))) (some (!decide (g.2.2.1 ∈ cards_1))))) (Option.bind (some (⟨("NoPair" : Str), .no⟩ : Xv)) fun (t2 : Xv) => some (Rs.ex t2 : (Rs (List (T3 Str Str Str))))) (Option.bind (some ([] : (List (T3 Str Str Str)))) fun (kept_3 : (List (T3 Str Str Str))) => (Option.bind (Option.bind (some g.1) fun (xs8 : List (T3 Str Str Str)) => forS (S := (List (T3 Str Str Str))) (b_without_pair_1 g) xs8 kept_3) fun (s9 : (List (T3 Str Str Str))) => (some (Rs.ok s9))))))
def m_set_free : (List (T3 Str Str Str)) × Str × Str × Unit → Option (Rs (List (T3 Str Str Str))) := fun (g : (List (T3 Str Str Str)) × Str × Str × Unit) => (m_without_pair (g.1, (g.2.1, (g.2.2.1, ()))))
def m_set_same : (List (T3 Str Str Str)) × Str × Str × Unit → Option (Rs (List (T3 Str Str Str))) := fun (g : (List (T3 Str Str Str)) × Str × Str × Unit) => (rsB (rsB (m_without_pair (g.1, (g.2.1, (g.2.2.1, ())))) fun (t1 : (List (T3 Str Str Str))) => Option.bind (some [(⟨(smin g.2.1 g.2.2.1), ("same" : Str), (smax g.2.1 g.2.2.1)⟩ : (T3 Str Str Str))]) fun (t2 : (List (T3 Str Str Str))) => lCat t1 t2) fun (t3 : (List (T3 Str Str Str))) => m_tidy (t3, ()))
def m_set_apart : (List (T3 Str Str Str)) × Str × Str × Unit → Option (Rs (List (T3 Str Str Str))) := fun (g : (List (T3 Str Str Str)) × Str × Str × Unit) => (rsB (rsB (m_without_pair (g.1, (g.2.1, (g.2.2.1, ())))) fun (t1 : (List (T3 Str Str Str))) => Option.bind (some [(⟨(smin g.2.1 g.2.2.1), ("apart" : Str), (smax g.2.1 g.2.2.1)⟩ : (T3 Str Str Str))]) fun (t2 : (List (T3 Str Str Str))) => lCat t1 t2) fun (t3 : (List (T3 Str Str Str))) => m_tidy (t3, ()))
end GD

/-! books poured: what the pouring functions tell -/
namespace G
open PySem PySem.StrLaws TL L2 FK MS
theorem sig14_at (k : Int) : Ok (sAt "abcXYZ019.-#~@" (k % 14)) fun z => z.length ≤ 1 := (okSAt (x := "abcXYZ019.-#~@") (by omega) (by rw [show ("abcXYZ019.-#~@" : Str).length = 14 by decide +kernel]; omega) (by decide +kernel)).mono fun z ⟨c, _, e⟩ => by rw [e]; exact Nat.le_refl 1
theorem mem_cut {α : Type} {l : List α} {lo hi : Option Int} {x : α} (h : x ∈ cutA l lo hi) : x ∈ l := by
  unfold cutA at h
  exact List.mem_of_mem_drop (List.mem_of_mem_take h)
theorem fact_ok (a : Int) (ds : List Int) (h : 3 ≤ ds.length) : Ok (m__law_fact (a, (ds, ()))) fun _ => True := by
  unfold m__law_fact
  simp only [bs, Option.bind_assoc]
  have d : ∀ k : Int, 0 ≤ k → k < 3 → Ok (atI ds k) fun _ => True := fun k h0 h1 => (okAt h0 (by omega)).any
  have q0 := d 0 (by decide) (by decide)
  have q1 := d 1 (by decide) (by decide)
  have q2 := d 2 (by decide) (by decide)
  refine q0.bind fun z0 _ => (okMod (by omega)).bind fun y0 _ => (abc_at _).bind fun card hcard => ?_
  refine q0.bind fun z0 _ => (okMod (by omega)).bind fun y0 _ => (abc_at _).bind fun other _ => ?_
  refine .ifm (R := fun _ => True) ?_ (fun _ => ?_) fun _ => ?_
  · obtain ⟨z, ez, _⟩ := q1
    rw [ez]
    simp only [bs]
    exact Ok.and (R := fun _ => True) (S := fun _ => True) (.ret trivial) fun _ => .ret trivial
  · refine q1.bind fun z _ => (okAt (by omega) (by simp only [List.length_cons, List.length_nil]; omega)).bind fun _ _ => .ret trivial
  · refine q1.bind fun z _ => ?_
    refine (okMap (Q := fun (s : Str) => s.length ≤ 1) (Nat.lt_of_le_of_lt (cut_len _ _ _) (by decide)) fun x hx => ?_).bind fun ys hy => ?_
    · unfold b__law_fact_1
      simp only [bs, Option.bind_assoc]
      refine q2.bind fun w _ => .bind (P := fun _ => True) ⟨_, if_pos ?_, trivial⟩ fun w _ => sig14_at w
      have := mem_cut hx
      simp only [List.mem_cons, List.not_mem_nil, or_false] at this
      omega
    have hl := hy.1 ▸ cut_len [(1 : Int), 14, 196] none (some (1 + z / 10 % 3))
    have e : ("" : Str).length = 0 := rfl
    have e3 : ([(1 : Int), 14, 196]).length = 3 := rfl
    refine (okJoin (k := 1) hy.2 (by rw [e]; omega)).bind fun w hw => ?_
    refine .bind (P := fun _ => True) (.ifm (R := fun _ => True) (q1.bind fun _ _ => .ret trivial) (fun _ => ?_) fun _ => .ret trivial) fun u _ => ?_
    · obtain ⟨c, _, rfl⟩ := hcard
      exact .bind (P := fun _ => True) ⟨_, if_pos (by rw [len_c1]; decide), trivial⟩ fun _ _ => .ret trivial
    · exact q1.bind fun z _ => (okAt (by omega) (by simp only [List.length_cons, List.length_nil]; omega)).bind fun _ _ => .ret trivial
/-! ### drawn books -/
def BooksInv (n : Nat) (L : List Fact) (s : List (List Fact)) : Prop := s.length = n ∧ ∀ l ∈ s, l.Nodup ∧ ∀ x ∈ l, x ∈ L
theorem BooksInv.mono {n : Nat} {L M : List Fact} {s : List (List Fact)} (h : BooksInv n L s) (e : ∀ x ∈ L, x ∈ M) : BooksInv n M s := ⟨h.1, fun l hl => ⟨(h.2 l hl).1, fun x hx => e x ((h.2 l hl).2 x hx)⟩⟩
/-- books, each sorted -/
def Books (n : Nat) (L : List Fact) (s : List (List Fact)) : Prop := s.length = n ∧ ∀ l ∈ s, Rising l ∧ ∀ x ∈ l, x ∈ L
theorem Books.len {n : Nat} {L : List Fact} {s : List (List Fact)} (h : Books n L s) {l : List Fact} (hl : l ∈ s) : l.length ≤ L.length := nodup_sub _ _ (h.2 l hl).1.nodup (h.2 l hl).2
/-! ### tidy -/
def Is (P : Fact → Prop) (z : List Fact) : Prop := Rising z ∧ ∀ f, f ∈ z ↔ P f
theorem Is.uniq {P Q : Fact → Prop} {z w : List Fact} (h : Is P z) (k : Is Q w) (e : ∀ f, P f ↔ Q f) : z = w := rising_ext h.1 k.1 fun f => (h.2 f).trans ((e f).trans (k.2 f).symm)
/-! ### poured_all -/
def Poured (base : List Fact) (sides : List (List Fact)) (f : Fact) : Prop := (f ∈ base ∧ ∀ s ∈ sides, f ∈ s) ∨ (f ∉ base ∧ ∃ s ∈ sides, f ∈ s)
theorem and_eq (a b : Bool) : bAnd (some a) (some b) = some (a && b) := by
  cases a
  · rw [and_f]
    simp
  · rw [and_t]
    simp
end G

/-! cards that differ at a place; what is told by hand -/
namespace GD
open PySem PySem.StrLaws TL L2 FK MS
open G (m__law_stream m_cards_of m_tidy)
theorem abc_mod (z : Int) : sAt ("abcdefghijklmnopqrstuvwxyz" : Str) (z % 26) = some (c1 (97 + (z % 26).toNat)) := by
  have hz : 0 ≤ z % 26 ∧ z % 26 < 26 := by omega
  obtain ⟨k, hk⟩ := Int.eq_ofNat_of_zero_le hz.1
  rw [hk]
  have hk26 : k < 26 := by omega
  have hl : k < (tl ("abcdefghijklmnopqrstuvwxyz" : Str)).length := by rw [tl_small, List.length_range']; exact hk26
  rw [show ((k : Nat) : Int) = (k : Int) from rfl, sAt_nat _ k hl (by decide +kernel)]
  have : (tl ("abcdefghijklmnopqrstuvwxyz" : Str))[k] = 97 + k := by
    have e := tl_small
    have : ∀ (l : List Nat) (h : k < l.length), l = List.range' 97 26 → l[k] = 97 + k := fun l h e => by
      subst e
      rw [List.getElem_range']
      omega
    exact this _ hl e
  rw [this]
  rfl
/-- the k-th card's name -/
def nm (bl : List Nat) (p : Nat) (D : Int) (k : Nat) : Str := mks (bl.take p ++ ([97 + ((D + 7 * (k : Int)) % 26).toNat] ++ bl.drop (p + 1)))
theorem nm_inj {bl : List Nat} {p : Nat} {D : Int} (hp : p < bl.length) {i j : Nat} (hi : i < 10) (hj : j < 10) (h : nm bl p D i = nm bl p D j) : i = j := by
  have h := mks_inj.mp h
  have h := List.append_cancel_left h
  injection h with h _
  omega
theorem cards_ok (c : Int) (n : Nat) (hn : n ≤ 8) : Ok (m__law_cards (c, ((n : Int), ()))) fun l => l.length = n ∧ l.Nodup ∧ ∀ x ∈ l, x.length ≤ 30 := by
  unfold m__law_cards
  simp only [bs]
  refine (G.stream_ok c 14 (by decide)).bind fun ds hd => ?_
  have l14 := hd.1
  refine .bind (P := fun z => 1 ≤ z ∧ z ≤ 12) ?_ fun size hs => ?_
  · refine .bind (P := fun z => 0 ≤ z ∧ z < 12) ?_ fun z hz => .ret (by omega)
    refine (okAt (by decide) (by omega)).bind fun z _ => .ret ?_
    omega
  refine .bind (P := fun z => 0 ≤ z ∧ z < size) ?_ fun at_ ha => ?_
  · refine (okAt (by decide) (by omega)).bind fun z _ => ?_
    exact (okMod (by omega)).mono fun _ h => h.2
  have hcut : (cutA ds (some (2 : Int)) (some ((2 : Int) + size))).length = size.toNat := by
    unfold cutA
    rw [six _ _ 2 (by decide), six _ _ (2 + size) (by omega), List.length_take, List.length_drop, l14]
    omega
  refine .bind (P := fun (z : Str) => ∃ bl : List Nat, z = mks bl ∧ bl.length = size.toNat) ?_ fun base ⟨bl, eb, hb⟩ => ?_
  · refine (okMap (Q := fun (s : Str) => ∃ c, s = c1 c) (by omega) fun x _ => ?_).bind fun ys hy => ?_
    · unfold b__law_cards_2
      exact ⟨_, abc_mod x, _, rfl⟩
    · obtain ⟨l, el, hl⟩ := sgs_join hy.2 (by omega)
      exact ⟨_, el, l, rfl, by omega⟩
  subst eb
  obtain ⟨p, rfl⟩ : ∃ p : Nat, at_ = (p : Int) := ⟨at_.toNat, by omega⟩
  rw [range1_nat n (by omega)]
  simp only [bs]
  refine Ok.bind (P := fun l => l.length = n ∧ l.Nodup ∧ ∀ x ∈ l, x.length ≤ 30) ?_ fun l hl => .ret hl
  obtain ⟨D, eD, _⟩ := okAt (l := ds) (i := (2 : Int) + (p : Int)) (by omega) (by omega)
  have step : ∀ k : Nat, k < n → ∀ l : List Str, l.length ≤ 1000 → b__law_cards_1 ("abcdefghijklmnopqrstuvwxyz" : Str) ds (p : Int) (mks bl) l (k : Int) = some (l ++ [nm bl p D k]) := fun k hk l hl => by
    unfold b__law_cards_1
    obtain ⟨m, em, hm⟩ := okMul (x := (7 : Int)) (y := (k : Int)) (.inl (by decide))
    simp only [bs, eD, em]
    rw [abc_mod]
    simp only [bs]
    rw [cut_mks bl _ _ (by omega), cut_upto, hm]
    simp only [bs]
    rw [add_mks _ _ (by rw [List.length_take, List.length_singleton]; omega)]
    simp only [bs]
    rw [show (p : Int) + (1 : Int) = ((p + 1 : Nat) : Int) by omega, cut_mks bl _ _ (by omega), cut_from]
    simp only [bs]
    rw [add_mks _ _ (by rw [List.length_append, List.length_take, List.length_singleton, List.length_drop]; omega)]
    simp only [bs]
    rw [app_eq _ _ (by omega), List.append_assoc]
    rfl
  have key : ∀ k : Nat, k ≤ n → forS (b__law_cards_1 ("abcdefghijklmnopqrstuvwxyz" : Str) ds (p : Int) (mks bl)) (rng 0 k) [] = some ((List.range k).map (nm bl p D)) := fun k => by
    induction k with
    | zero => exact fun _ => rfl
    | succ k ih =>
      intro hk
      have er : rng 0 (k + 1) = rng 0 k ++ [(k : Int)] := by
        unfold rng
        rw [List.range_succ, List.map_append]
        simp
      have fapp : ∀ {S α : Type} (f : S → α → Option S) (xs ys : List α) (s : S), forS f (xs ++ ys) s = (forS f xs s).bind fun t => forS f ys t := fun f xs => by
        induction xs with
        | nil => intro ys s; rfl
        | cons x xs ih2 =>
          intro ys s
          show (f s x).bind _ = ((f s x).bind _).bind _
          cases f s x with
          | none => rfl
          | some t => exact ih2 ys t
      rw [er, fapp, ih (by omega)]
      show ((b__law_cards_1 _ ds (p : Int) (mks bl) _ (k : Int)).bind _ : Option (List Str)) = _
      rw [step k (by omega) _ (by rw [List.length_map, List.length_range]; omega), List.range_succ, List.map_append]
      rfl
  refine ⟨_, key n (Nat.le_refl _), by rw [List.length_map, List.length_range], ?_, fun x hx => ?_⟩
  · refine List.pairwise_iff_getElem.mpr fun i j hi hj hij e => ?_
    rw [List.length_map, List.length_range] at hi hj
    rw [List.getElem_map, List.getElem_map, List.getElem_range, List.getElem_range] at e
    have := nm_inj (by omega) (by omega) (by omega) e
    omega
  · obtain ⟨k, _, rfl⟩ := List.mem_map.mp hx
    show (mks _).length ≤ 30
    rw [len_mks, List.length_append, List.length_append, List.length_take, List.length_singleton, List.length_drop]
    omega
theorem cards_ok' (c z : Int) (h0 : 0 ≤ z) (h1 : z ≤ 8) : Ok (m__law_cards (c, (z, ()))) fun l => (l.length : Int) = z ∧ l.Nodup ∧ ∀ x ∈ l, x.length ≤ 30 := by
  obtain ⟨n, rfl⟩ := Int.eq_ofNat_of_zero_le h0
  exact (cards_ok c n (by omega)).mono fun l h => ⟨by rw [h.1], h.2⟩
end GD

namespace GW
open PySem PySem.StrLaws TL L2 FK MS
open G (m__law_stream)
def b__law_bent_1 (signs_1 : Str) (x10 : Int) : (Option Str) := (sAt signs_1 (x10 % 71))
def m__law_bent : Int × Int × Unit → Option Str := fun (g : Int × Int × Unit) => (Option.bind (some ("abcdefghijklmnopqrstuvwxyzABCDEFGHIJKLMNOPQRSTUVWXYZ0123456789.-'#~\x40[`{" : Str)) fun (signs_1 : Str) => (Option.bind (m__law_stream (g.1, ((10 : Int), ()))) fun (draws_2 : (List Int)) => (Option.bind (Option.bind (some ("" : Str)) fun (t12 : Str) => Option.bind (Option.bind (Option.bind (some draws_2) fun (t7 : (List Int)) => Option.bind (some (some (1 : Int))) fun (t8 : Option Int) => Option.bind (Option.bind (Option.bind (some (2 : Int)) fun (t5 : Int) => Option.bind (Option.bind (atI draws_2 (0 : Int)) fun (t4 : Int) => some (t4 % 4)) fun (t6 : Int) => some (t5 + t6)) fun (z : Int) => some (some z)) fun (t9 : Option Int) => some (cutA t7 t8 t9)) fun (xs11 : List Int) => lcG (fun (x10 : Int) => (some true)) (b__law_bent_1 signs_1) xs11) fun (t13 : (List Str)) => (sJoin t12 t13)) fun (text_3 : Str) => (Option.bind (ifM (Option.bind (Option.bind (Option.bind (atI draws_2 (0 : Int)) fun (t14 : Int) => some (t14 / 9)) fun (t15 : Int) => some (t15 % 3)) fun (t16 : Int) => Option.bind (some (1 : Int)) fun (t17 : Int) => some (decide (t16 = t17))) (Option.bind (Option.bind (Option.bind (Option.bind (sCut text_3 none (some (3 : Int))) fun (t20 : Str) => Option.bind (some (" " : Str)) fun (t21 : Str) => (sAdd t20 t21)) fun (t22 : Str) => Option.bind (sCut text_3 (some (3 : Int)) none) fun (t23 : Str) => (sAdd t22 t23)) fun (t24 : Str) => Option.bind (some ("b" : Str)) fun (t25 : Str) => (sAdd t24 t25)) fun (text_19 : Str) => (some text_19)) (some text_3)) fun (s18 : Str) => (Option.bind (Option.bind (some (g.2.1 / 10)) fun (t27 : Int) => Option.bind (sLen s18) fun (t28 : Int) => (imod t27 t28)) fun (at_26 : Int) => (Option.bind (sAt signs_1 ((g.2.1 / 400) % 71)) fun (sign_29 : Str) => (Option.bind (Option.bind (some s18) fun (t49 : Str) => Option.bind (Option.bind (some s18) fun (t47 : Str) => Option.bind (Option.bind (sUp s18) fun (t45 : Str) => Option.bind (Option.bind (sLow s18) fun (t43 : Str) => Option.bind (Option.bind (Option.bind (Option.bind (sCut s18 none (some at_26)) fun (t31 : Str) => Option.bind (some sign_29) fun (t32 : Str) => (sAdd t31 t32)) fun (t33 : Str) => Option.bind (sCut s18 (some (at_26 + (1 : Int))) none) fun (t34 : Str) => (sAdd t33 t34)) fun (t41 : Str) => Option.bind (Option.bind (Option.bind (Option.bind (sCut s18 none (some at_26)) fun (t35 : Str) => Option.bind (some sign_29) fun (t36 : Str) => (sAdd t35 t36)) fun (t37 : Str) => Option.bind (sCut s18 (some at_26) none) fun (t38 : Str) => (sAdd t37 t38)) fun (t39 : Str) => Option.bind (some ([] : List Str)) fun (t40 : List Str) => some (t39 :: t40)) fun (t42 : List Str) => some (t41 :: t42)) fun (t44 : List Str) => some (t43 :: t44)) fun (t46 : List Str) => some (t45 :: t46)) fun (t48 : List Str) => some (t47 :: t48)) fun (t50 : List Str) => some (t49 :: t50)) fun (some_30 : (List Str)) => (Option.bind (Option.bind (some some_30) fun (t65 : (List Str)) => Option.bind (Option.bind (Option.bind (sCut s18 none (some at_26)) fun (t61 : Str) => Option.bind (sCut s18 (some (at_26 + (1 : Int))) none) fun (t62 : Str) => (sAdd t61 t62)) fun (t63 : Str) => Option.bind (Option.bind (Option.bind (some s18) fun (t58 : Str) => sRepl t58 (" " : Str) ("  " : Str)) fun (t59 : Str) => Option.bind (Option.bind (some s18) fun (t56 : Str) => Option.bind (Option.bind (Option.bind (Option.bind (sCut s18 none (some at_26)) fun (t51 : Str) => (sUp t51)) fun (t52 : Str) => Option.bind (sCut s18 (some at_26) none) fun (t53 : Str) => (sAdd t52 t53)) fun (t54 : Str) => Option.bind (some ([] : List Str)) fun (t55 : List Str) => some (t54 :: t55)) fun (t57 : List Str) => some (t56 :: t57)) fun (t60 : List Str) => some (t59 :: t60)) fun (t64 : List Str) => some (t63 :: t64)) fun (t66 : (List Str)) => lCat t65 t66) fun (some_67 : (List Str)) => (Option.bind (Option.bind (atI some_67 (g.2.1 % 10)) fun (t69 : Str) => Option.bind (some (" " : Str)) fun (t70 : Str) => (sStrip t69 t70)) fun (text_68 : Str) => (ifM (some (decide (text_68 = ("" : Str)))) (some ("~" : Str)) (some text_68)))))))))))
def m__law_field : Int × Int × Unit → Option Str := fun (g : Int × Int × Unit) => (Option.bind (some [("name" : Str), ("former" : Str), ("way" : Str), ("day" : Str), ("mark" : Str)]) fun (t4 : (List Str)) => Option.bind (Option.bind (Option.bind (some g.1) fun (t1 : Int) => Option.bind (imul (g.2.1 % 2) (g.2.1 / 2)) fun (t2 : Int) => some (t1 + t2)) fun (t3 : Int) => some (t3 % 5)) fun (t5 : Int) => (atI t4 t5))
def b__law_texts_1 (g : ((List (T3 Str Str Str)) × Str × Str × Unit)) (x1 : (T3 Str Str Str)) : (Option Bool) := (bAnd (some (decide (x1.a = g.2.1))) (some (decide (x1.b = g.2.2.1))))
def m__law_texts : (List (T3 Str Str Str)) × Str × Str × Unit → Option (List Str) := fun (g : (List (T3 Str Str Str)) × Str × Str × Unit) => (Option.bind (some g.1) fun (xs2 : List (T3 Str Str Str)) => lcG (b__law_texts_1 g) (fun (x1 : (T3 Str Str Str)) => (some x1.c)) xs2)
def b__law_plains_1  (x1 : Str) : (Option Str) := (Option.bind (Option.bind (some (" " : Str)) fun (t4 : Str) => Option.bind (Option.bind (sSplit x1 (" " : Str)) fun (xs3 : List Str) => lcG (fun (x2 : Str) => (some (!decide (x2 = ("" : Str))))) (fun (x2 : Str) => (some x2)) xs3) fun (t5 : (List Str)) => (sJoin t4 t5)) fun (t6 : Str) => (sLow t6))
def m__law_plains : (List Str) × Unit → Option (List Str) := fun (g : (List Str) × Unit) => (Option.bind (some g.1) fun (xs7 : List Str) => lcG (fun (x1 : Str) => (some true)) (b__law_plains_1) xs7)
def m__law_meet : (List Str) × (List Str) × Unit → Option Bool := fun (g : (List Str) × (List Str) × Unit) => (Option.bind (Option.bind (some g.1) fun (xs2 : List Str) => lcG (fun (x1 : Str) => (some true)) (fun (x1 : Str) => (some (decide (x1 ∈ g.2.1)))) xs2) fun (t3 : (List Bool)) => some (t3.any id))
def b__law_near_1  (s6 : Int) : (Option Int) := (Option.bind (some (s6 + (1 : Int))) fun (at_11 : Int) => (some at_11))
def b__law_near_2 (s3 : (Str × Str)) (s6 : Int) : (Option Bool) := (bAnd (Option.bind (some s6) fun (t7 : Int) => Option.bind (sLen s3.1) fun (t8 : Int) => some (decide (t7 < t8))) (Option.bind (sAt s3.1 s6) fun (t9 : Str) => Option.bind (sAt s3.2 s6) fun (t10 : Str) => some (decide (t9 = t10))))
def m__law_near : Str × Str × Unit → Option Bool := fun (g : Str × Str × Unit) => (Option.bind (ifM (Option.bind (sLen g.1) fun (t1 : Int) => Option.bind (sLen g.2.1) fun (t2 : Int) => some (decide (t2 < t1))) (Option.bind (some (g.2.1, g.1)) fun (p4 : (Str × Str)) => (some (p4.1, p4.2))) (some (g.1, g.2.1))) fun (s3 : (Str × Str)) => (Option.bind (some (0 : Int)) fun (at_5 : Int) => (Option.bind (whileS (S := Int) (b__law_near_2 s3) (b__law_near_1) 1000000 at_5) fun (s12 : Int) => (ifM (Option.bind (sLen s3.1) fun (t13 : Int) => Option.bind (sLen s3.2) fun (t14 : Int) => some (decide (t13 = t14))) (Option.bind (sCut s3.1 (some (s12 + (1 : Int))) none) fun (t15 : Str) => Option.bind (sCut s3.2 (some (s12 + (1 : Int))) none) fun (t16 : Str) => some (decide (t15 = t16))) (Option.bind (sCut s3.1 (some s12) none) fun (t17 : Str) => Option.bind (sCut s3.2 (some (s12 + (1 : Int))) none) fun (t18 : Str) => some (decide (t17 = t18)))))))
def m_Same__fits : Ru × (List Str) × (List Str) × Unit → Option Bool := fun (g : Ru × (List Str) × (List Str) × Unit) => (Option.bind (Option.bind (some g.2.1) fun (xs2 : List Str) => lcG (fun (x1 : Str) => (some true)) (fun (x1 : Str) => (some (decide (x1 ∈ g.2.2.1)))) xs2) fun (t3 : (List Bool)) => some (t3.any id))
def m_small : Str × Unit → Option Str := fun (g : Str × Unit) => (Option.bind (some (Txt.find ("ABCDEFGHIJKLMNOPQRSTUVWXYZ" : Str) g.1)) fun (at_1 : Int) => (ifM (some (decide (at_1 < (0 : Int)))) (some g.1) (sAt ("abcdefghijklmnopqrstuvwxyz" : Str) at_1)))
def m_plain_of : Str × Unit → Option Str := fun (g : Str × Unit) => (Option.bind (Option.bind (sSplit g.1 (" " : Str)) fun (xs3 : List Str) => lcG (fun (x2 : Str) => (some (!decide (x2 = ("" : Str))))) (fun (x2 : Str) => (some x2)) xs3) fun (words_1 : (List Str)) => (Option.bind (some ("" : Str)) fun (t7 : Str) => Option.bind (Option.bind (Option.bind (sJoin (" " : Str) words_1) fun (t4 : Str) => some (sgn t4)) fun (xs6 : List Str) => lcG (fun (x5 : Str) => (some true)) (fun (x5 : Str) => (m_small (x5, ()))) xs6) fun (t8 : (List Str)) => (sJoin t7 t8)))
def m_is_like : Str × Str × Unit → Option Bool := fun (g : Str × Str × Unit) => (Option.bind (m_plain_of (g.1, ())) fun (t1 : Str) => Option.bind (m_plain_of (g.2.1, ())) fun (t2 : Str) => some (decide (t1 = t2)))
def b_some_like_1 (g : ((List Str) × (List Str) × Unit)) (s1 : Unit) (x2 : Str) : (Option (Fl Unit Bool)) := (ifM (Option.bind (Option.bind (some g.2.1) fun (xs4 : List Str) => lcG (fun (x3 : Str) => (some true)) (fun (x3 : Str) => (m_is_like (x2, (x3, ())))) xs4) fun (t5 : (List Bool)) => some (t5.any id)) (some (Fl.rt true)) (some (Fl.nx ())))
def m_some_like : (List Str) × (List Str) × Unit → Option Bool := fun (g : (List Str) × (List Str) × Unit) => (thenF (S := Unit) (ρ := Bool) (Option.bind (some g.1) fun (xs6 : List Str) => forF (S := Unit) (ρ := Bool) (b_some_like_1 g) xs6 ()) (fun (s7 : Unit) => (some false)) (fun v => some v) (fun _ => none) (fun _ => none))
def m_Like__fits : Ru × (List Str) × (List Str) × Unit → Option Bool := fun (g : Ru × (List Str) × (List Str) × Unit) => (m_some_like (g.2.1, (g.2.2.1, ())))
def b_rows_of_1 (s7 : (List (List Int))) (x9 : Int) (g : (Str × Str × Unit)) (s11 : (List Int)) (x13 : Int) : (Option (List Int)) := (Option.bind (Option.bind (Option.bind (atI s7 x9) fun (t15 : (List Int)) => Option.bind (some x13) fun (t16 : Int) => (atI t15 t16)) fun (t20 : Int) => Option.bind (Option.bind (Option.bind (sAt g.1 x9) fun (t17 : Str) => Option.bind (sAt g.2.1 x13) fun (t18 : Str) => some (!decide (t17 = t18))) fun (t19 : Bool) => some (bint t19)) fun (t21 : Int) => some (t20 + t21)) fun (turn_14 : Int) => (Option.bind (Option.bind (Option.bind (some turn_14) fun (t28 : Int) => Option.bind (Option.bind (Option.bind (atI s7 x9) fun (t22 : (List Int)) => Option.bind (some (x13 + (1 : Int))) fun (t23 : Int) => (atI t22 t23)) fun (t24 : Int) => Option.bind (some (1 : Int)) fun (t25 : Int) => some (t24 + t25)) fun (t29 : Int) => Option.bind (Option.bind (atI s11 x13) fun (t26 : Int) => Option.bind (some (1 : Int)) fun (t27 : Int) => some (t26 + t27)) fun (t30 : Int) => some (imin3 t28 t29 t30)) fun (t32 : Int) => (lApp s11 t32)) fun (row_31 : (List Int)) => (some row_31)))
def b_rows_of_2 (g : (Str × Str × Unit)) (s7 : (List (List Int))) (x9 : Int) : (Option (List (List Int))) := (Option.bind (some [(x9 + (1 : Int))]) fun (row_10 : (List Int)) => (Option.bind (Option.bind (Option.bind (sLen g.2.1) fun (t12 : Int) => (range1 t12)) fun (xs33 : List Int) => forS (S := (List Int)) (b_rows_of_1 s7 x9 g) xs33 row_10) fun (s34 : (List Int)) => (Option.bind (Option.bind (some s34) fun (t36 : (List Int)) => (lApp s7 t36)) fun (rows_35 : (List (List Int))) => (some rows_35))))
def m_rows_of : Str × Str × Unit → Option (List (List Int)) := fun (g : Str × Str × Unit) => (Option.bind (Option.bind (Option.bind (Option.bind (sLen g.2.1) fun (t2 : Int) => Option.bind (some (1 : Int)) fun (t3 : Int) => some (t2 + t3)) fun (t4 : Int) => (lrange1 t4)) fun (t5 : (List Int)) => Option.bind (some ([] : List (List Int))) fun (t6 : List (List Int)) => some (t5 :: t6)) fun (rows_1 : (List (List Int))) => (Option.bind (Option.bind (Option.bind (sLen g.1) fun (t8 : Int) => (range1 t8)) fun (xs37 : List Int) => forS (S := (List (List Int))) (b_rows_of_2 g) xs37 rows_1) fun (s38 : (List (List Int))) => (some s38)))
def m_distance : Str × Str × Unit → Option Int := fun (g : Str × Str × Unit) => (Option.bind (Option.bind (m_rows_of (g.1, (g.2.1, ()))) fun (t1 : (List (List Int))) => Option.bind (sLen g.1) fun (t2 : Int) => (atI t1 t2)) fun (t3 : (List Int)) => Option.bind (sLen g.2.1) fun (t4 : Int) => (atI t3 t4))
def m_is_near : Str × Str × Unit → Option Bool := fun (g : Str × Str × Unit) => (Option.bind (m_plain_of (g.1, ())) fun (first_1 : Str) => (Option.bind (m_plain_of (g.2.1, ())) fun (last_2 : Str) => (ifM (Option.bind (Option.bind (Option.bind (sLen first_1) fun (t3 : Int) => Option.bind (sLen last_2) fun (t4 : Int) => some (t3 - t4)) fun (t5 : Int) => some (iabs t5)) fun (t6 : Int) => Option.bind (some (1 : Int)) fun (t7 : Int) => some (decide (t7 < t6))) (some false) (Option.bind (m_distance (first_1, (last_2, ()))) fun (t8 : Int) => Option.bind (some (1 : Int)) fun (t9 : Int) => some (decide (t8 ≤ t9))))))
def b_Near__fits_1 (g : (Ru × (List Str) × (List Str) × Unit)) (s1 : Unit) (x2 : Str) : (Option (Fl Unit Bool)) := (ifM (Option.bind (Option.bind (some g.2.2.1) fun (xs4 : List Str) => lcG (fun (x3 : Str) => (some true)) (fun (x3 : Str) => (m_is_near (x2, (x3, ())))) xs4) fun (t5 : (List Bool)) => some (t5.any id)) (some (Fl.rt true)) (some (Fl.nx ())))
def m_Near__fits : Ru × (List Str) × (List Str) × Unit → Option Bool := fun (g : Ru × (List Str) × (List Str) × Unit) => (thenF (S := Unit) (ρ := Bool) (Option.bind (some g.2.1) fun (xs6 : List Str) => forF (S := Unit) (ρ := Bool) (b_Near__fits_1 g) xs6 ()) (fun (s7 : Unit) => (some false)) (fun v => some v) (fun _ => none) (fun _ => none))
def m_Other__fits : Ru × (List Str) × (List Str) × Unit → Option Bool := fun (g : Ru × (List Str) × (List Str) × Unit) => (bAnd (some (!decide (g.2.1 = ([] : (List Str))))) (bAnd (some (!decide (g.2.2.1 = ([] : (List Str))))) (Option.bind (m_some_like (g.2.1, (g.2.2.1, ()))) fun (t1 : Bool) => some (!t1))))
def m_Rule__fits : Ru × (List Str) × (List Str) × Unit → Option Bool := fun (g : Ru × (List Str) × (List Str) × Unit) => (some false)
def b_texts_of_1 (g : ((List (T3 Str Str Str)) × Str × Str × Unit)) (x1 : (T3 Str Str Str)) : (Option Bool) := (bAnd (some (decide (x1.a = g.2.1))) (some (decide (x1.b = g.2.2.1))))
def m_texts_of : (List (T3 Str Str Str)) × Str × Str × Unit → Option (List Str) := fun (g : (List (T3 Str Str Str)) × Str × Str × Unit) => (Option.bind (Option.bind (some g.1) fun (xs5 : List (T3 Str Str Str)) => lcG (b_texts_of_1 g) (fun (x1 : (T3 Str Str Str)) => (some x1.c)) xs5) fun (t6 : (List Str)) => (sSort t6))
def m_Rule__speaks : Ru × (List (T3 Str Str Str)) × Str × Str × Unit → Option Bool := fun (g : Ru × (List (T3 Str Str Str)) × Str × Str × Unit) => (Option.bind (some g.1) fun (t17 : Ru) => Option.bind (Option.bind (Option.bind (Option.bind (some g.2.1) fun (t5 : (List (T3 Str Str Str))) => Option.bind (Option.bind (some g.2.2.1) fun (t3 : Str) => Option.bind (Option.bind (Option.bind (some g.1) (ruG [("Same" : Str), ("Like" : Str), ("Near" : Str), ("Other" : Str), ("Former" : Str)] Ru.f)) fun (t1 : Str) => Option.bind (some ()) fun (t2 : Unit) => some (t1, t2)) fun (t4 : (Str × Unit)) => some (t3, t4)) fun (t6 : (Str × (Str × Unit))) => some (t5, t6)) m_texts_of) fun (t15 : (List Str)) => Option.bind (Option.bind (Option.bind (Option.bind (some g.2.1) fun (t11 : (List (T3 Str Str Str))) => Option.bind (Option.bind (some g.2.2.2.1) fun (t9 : Str) => Option.bind (Option.bind (Option.bind (some g.1) (ruG [("Same" : Str), ("Like" : Str), ("Near" : Str), ("Other" : Str), ("Former" : Str)] Ru.f)) fun (t7 : Str) => Option.bind (some ()) fun (t8 : Unit) => some (t7, t8)) fun (t10 : (Str × Unit)) => some (t9, t10)) fun (t12 : (Str × (Str × Unit))) => some (t11, t12)) m_texts_of) fun (t13 : (List Str)) => Option.bind (some ()) fun (t14 : Unit) => some (t13, t14)) fun (t16 : ((List Str) × Unit)) => some (t15, t16)) fun (t18 : ((List Str) × (List Str) × Unit)) => mDis ([(("Same" : Str), m_Same__fits), (("Like" : Str), m_Like__fits), (("Near" : Str), m_Near__fits), (("Other" : Str), m_Other__fits), (("Former" : Str), m_Rule__fits)] : List (Str × (Ru × ((List Str) × (List Str) × Unit) → Option Bool))) t17.c (t17, t18))
def m_Former__speaks : Ru × (List (T3 Str Str Str)) × Str × Str × Unit → Option Bool := fun (g : Ru × (List (T3 Str Str Str)) × Str × Str × Unit) => (ifM (Option.bind (Option.bind (m_texts_of (g.2.1, (g.2.2.1, (("name" : Str), ())))) fun (t3 : (List Str)) => Option.bind (Option.bind (m_texts_of (g.2.1, (g.2.2.2.1, (("former" : Str), ())))) fun (t1 : (List Str)) => Option.bind (some ()) fun (t2 : Unit) => some (t1, t2)) fun (t4 : ((List Str) × Unit)) => some (t3, t4)) m_some_like) (some true) (Option.bind (Option.bind (m_texts_of (g.2.1, (g.2.2.2.1, (("name" : Str), ())))) fun (t7 : (List Str)) => Option.bind (Option.bind (m_texts_of (g.2.1, (g.2.2.1, (("former" : Str), ())))) fun (t5 : (List Str)) => Option.bind (some ()) fun (t6 : Unit) => some (t5, t6)) fun (t8 : ((List Str) × Unit)) => some (t7, t8)) m_some_like))
def b_weight_of_1  (x1 : Ru) : (Option Int) := (Option.bind (some x1) (ruG [("Same" : Str), ("Like" : Str), ("Near" : Str), ("Other" : Str), ("Former" : Str)] Ru.w))
def b_weight_of_2 (g : ((List Ru) × (List (T3 Str Str Str)) × Str × Str × Unit)) (x1 : Ru) : (Option Bool) := (Option.bind (some x1) fun (t2 : Ru) => Option.bind (some (g.2.1, (g.2.2.1, (g.2.2.2.1, ())))) fun (t3 : ((List (T3 Str Str Str)) × Str × Str × Unit)) => mDis ([(("Same" : Str), m_Rule__speaks), (("Like" : Str), m_Rule__speaks), (("Near" : Str), m_Rule__speaks), (("Other" : Str), m_Rule__speaks), (("Former" : Str), m_Former__speaks)] : List (Str × (Ru × ((List (T3 Str Str Str)) × Str × Str × Unit) → Option Bool))) t2.c (t2, t3))
def m_weight_of : (List Ru) × (List (T3 Str Str Str)) × Str × Str × Unit → Option Int := fun (g : (List Ru) × (List (T3 Str Str Str)) × Str × Str × Unit) => (Option.bind (Option.bind (some g.1) fun (xs4 : List Ru) => lcG (b_weight_of_2 g) (b_weight_of_1) xs4) fun (t5 : (List Int)) => some (List.sum t5))
end GW

/-! the five rules: what they say of two cards, and what weighs -/
namespace GW
open PySem PySem.StrLaws TL L2 FK MS GT
open G (m__law_stream)
abbrev Fc := T3 Str Str Str
theorem small_eq (c : Nat) : m_small (c1 c, ()) = some (c1 (low c)) := low_eq c
theorem plain_eq (l : List Nat) (hl : l.length ≤ 500000) : m_plain_of (mks l, ()) = some (mks (put l)) := plain_gen small_eq l hl
/-! ### what is drawn -/
abbrev SIGNS : Str := "abcdefghijklmnopqrstuvwxyzABCDEFGHIJKLMNOPQRSTUVWXYZ0123456789.-'#~\x40[`{"
theorem sign_at (k : Int) : Ok (sAt SIGNS (k % 71)) fun z => ∃ c, c < 128 ∧ z = c1 c := (okSAt (x := SIGNS) (by omega) (by rw [show SIGNS.length = 71 by decide +kernel]; omega) (by decide +kernel)).mono fun z ⟨c, hc, e⟩ => ⟨c, (by
  have all : ∀ c ∈ tl SIGNS, c < 128 := by decide +kernel
  exact all c hc), e⟩
/-! ### texts of a card -/
def T (bk : List Fc) (a f : Str) : List Str := (bk.filter fun x => decide (x.a = a ∧ x.b = f)).map (·.c)
theorem T_len (bk : List Fc) (a f : Str) : (T bk a f).length ≤ bk.length := by
  unfold T
  rw [List.length_map]
  exact List.length_filter_le _ _
theorem T_tx {bk : List Fc} {a f x : Str} (h : ∀ g ∈ bk, TX 200 g.c) (hx : x ∈ T bk a f) : TX 200 x := by
  obtain ⟨g, hg, rfl⟩ := List.mem_map.mp hx
  exact h g (List.mem_filter.mp hg).1
theorem sel {bk : List Fc} {a f : Str} {t : Fc → Option Bool} (ht : ∀ x, t x = some (decide (x.a = a ∧ x.b = f))) (hz : bk.length ≤ 100) : lcG t (fun (x : Fc) => some x.c) bk = some (T bk a f) := by
  have e : t = fun x => some (decide (x.a = a ∧ x.b = f)) := funext ht
  rw [e]
  exact okSel (by omega)
theorem texts_eq {bk : List Fc} {a f : Str} (hz : bk.length ≤ 100) : m_texts_of (bk, (a, (f, ()))) = some (srt (T bk a f)) := by
  unfold m_texts_of
  simp only [bs]
  rw [sel (a := a) (f := f) (fun x => by unfold b_texts_of_1; exact and2 _ _) hz]
  simp only [bs]
  have := T_len bk a f
  exact if_pos (by omega)
/-- a text put plain -/
def pl (x : Str) : Str := mks (put (tl x))
/-! ### what meets -/
def meet (A B : List Str) : Bool := A.any fun x => decide (x ∈ B)
theorem any_id {α : Type} (l : List α) (f : α → Bool) : (l.map f).any id = l.any f := by
  rw [List.any_map]
  rfl
theorem bool_ext {a b : Bool} (h : a = true ↔ b = true) : a = b := by
  cases a <;> cases b <;> simp_all
theorem meet_iff {A B : List Str} : meet A B = true ↔ ∃ x, x ∈ A ∧ x ∈ B := by
  unfold meet
  rw [List.any_eq_true]
  exact exists_congr fun x => and_congr Iff.rfl decide_eq_true_iff
theorem lc_in {A B : List Str} (h : A.length ≤ 100) : lcG (fun (x1 : Str) => (some true)) (fun (x1 : Str) => (some (decide (x1 ∈ B)))) A = some (A.map fun x => decide (x ∈ B)) := lc_mp (by omega) fun _ _ => rfl
theorem plain_eq2 {x : Str} (h : TX 200 x) : m_plain_of (x, ()) = some (pl x) := by
  obtain ⟨l, rfl, h1, h2⟩ := h
  exact plain_eq l (by omega)
theorem like_eq {x y : Str} (h : TX 200 x) (k : TX 200 y) : m_is_like (x, (y, ())) = some (decide (pl x = pl y)) := by
  unfold m_is_like
  simp only [plain_eq2 h, plain_eq2 k, bs]
/-- for each of the one any of the other -/
theorem any_loop {P : Str → Str → Bool} {A B : List Str} {f : Unit → Str → Option (Fl Unit Bool)} (h : ∀ x ∈ A, f () x = ifM (some (B.any (P x))) (some (Fl.rt true)) (some (Fl.nx ()))) : forF f A () = some (if (A.any fun x => B.any (P x)) = true then Fl.rt true else Fl.nx ()) := by
  induction A with
  | nil => rfl
  | cons x l ih =>
    unfold forF
    rw [h x List.mem_cons_self, List.any_cons]
    cases hq : B.any (P x) with
    | true =>
      rw [if_t, Bool.true_or, if_pos rfl]
      rfl
    | false =>
      rw [if_f, Bool.false_or]
      exact ih fun y hy => h y (List.mem_cons_of_mem _ hy)
theorem any_then (b : Bool) : thenF (S := Unit) (ρ := Bool) (some (if b = true then Fl.rt true else Fl.nx ())) (fun _ => some false) (fun v => some v) (fun _ => none) (fun _ => none) = some b := by
  cases b <;> rfl
theorem any_srt (A : List Str) (f : Str → Bool) : (srt A).any f = A.any f := bool_ext (by
  rw [List.any_eq_true, List.any_eq_true]
  exact exists_congr fun x => and_congr mem_srt Iff.rfl)
theorem some_eq {A B : List Str} (hA : ∀ x ∈ A, TX 200 x) (hB : ∀ x ∈ B, TX 200 x) (h : B.length ≤ 100) : m_some_like (A, (B, ())) = some (A.any fun x => B.any fun y => decide (pl x = pl y)) := by
  unfold m_some_like
  simp only [bs]
  rw [any_loop (P := fun x y => decide (pl x = pl y)) (B := B) fun x hx => ?_, any_then]
  have e : lcG (fun (x3 : Str) => (some true)) (fun (x3 : Str) => (m_is_like (x, (x3, ())))) B = some (B.map fun y => decide (pl x = pl y)) := lc_mp (by omega) fun y hy => like_eq (hA x hx) (hB y hy)
  unfold b_some_like_1
  simp only [bs, e, any_id]
theorem like_meet (A B : List Str) : (A.any fun x => B.any fun y => decide (pl x = pl y)) = meet (A.map pl) (B.map pl) := bool_ext (by
  rw [meet_iff, List.any_eq_true]
  constructor
  · rintro ⟨x, hx, h⟩
    obtain ⟨y, hy, h⟩ := List.any_eq_true.mp h
    exact ⟨pl x, List.mem_map.mpr ⟨x, hx, rfl⟩, List.mem_map.mpr ⟨y, hy, (of_decide_eq_true h).symm⟩⟩
  · rintro ⟨z, h1, h2⟩
    obtain ⟨x, hx, e1⟩ := List.mem_map.mp h1
    obtain ⟨y, hy, e2⟩ := List.mem_map.mp h2
    exact ⟨x, hx, List.any_eq_true.mpr ⟨y, hy, decide_eq_true (e1.trans e2.symm)⟩⟩)
/-! ### near -/
theorem dist_eq (a b : List Nat) (ha : a.length ≤ 10000) (hb : b.length ≤ 10000) : m_distance (mks a, (mks b, ())) = some (lev a b : Int) := dist_gen a b ha hb
def nr (x y : Str) : Bool := decide (lev (put (tl x)) (put (tl y)) ≤ 1)
theorem near_eq {x y : Str} (h : TX 200 x) (k : TX 200 y) : m_is_near (x, (y, ())) = some (nr x y) := by
  obtain ⟨a, rfl, ha, _⟩ := h
  obtain ⟨b, rfl, hb, _⟩ := k
  unfold m_is_near nr
  rw [tl_mks, tl_mks]
  have pa := put_len a
  have pb := put_len b
  have l1 := sLen_mks (put a) (by omega)
  have l2 := sLen_mks (put b) (by omega)
  have d := dist_eq (put a) (put b) (by omega) (by omega)
  simp only [bs, plain_eq a (by omega), plain_eq b (by omega), l1, l2, d, ifM_t]
  have hl := (lev_ed (put a) (put b)).le_len
  split
  · rename_i h
    have h := of_decide_eq_true h
    rw [decide_eq_false]
    unfold iabs at h
    split at h <;> omega
  · congr 1
    exact decide_eq_decide.mpr (by omega)
theorem step_ord (a b : List Nat) (ha : a.length ≤ 10000) (hb : b.length ≤ 10000) (hab : a.length ≤ b.length) : (Option.bind (whileS (S := Int) (b__law_near_2 (mks a, mks b)) (b__law_near_1) 1000000 (0 : Int)) fun (s12 : Int) => (ifM (Option.bind (sLen (mks a)) fun (t13 : Int) => Option.bind (sLen (mks b)) fun (t14 : Int) => some (decide (t13 = t14))) (Option.bind (sCut (mks a) (some (s12 + (1 : Int))) none) fun (t15 : Str) => Option.bind (sCut (mks b) (some (s12 + (1 : Int))) none) fun (t16 : Str) => some (decide (t15 = t16))) (Option.bind (sCut (mks a) (some s12) none) fun (t17 : Str) => Option.bind (sCut (mks b) (some (s12 + (1 : Int))) none) fun (t18 : Str) => some (decide (t17 = t18))))) = some (decide (lev a b ≤ 1)) := by
  have l1 := sLen_mks a (by omega)
  have l2 := sLen_mks b (by omega)
  have hc := cpl_le a b
  have ct : ∀ k : Nat, k < a.length → k < b.length → b__law_near_2 (mks a, mks b) (k : Int) = some (decide (a[k]? = b[k]?)) := fun k h1 h2 => by
    unfold b__law_near_2
    have s1 := sAt_mks a k h1 (by omega)
    have s2 := sAt_mks b k h2 (by omega)
    simp only [bs, l1, s1, s2]
    rw [decide_eq_true (by omega), and_t]
    congr 1
    rw [List.getElem?_eq_getElem h1, List.getElem?_eq_getElem h2]
    refine decide_eq_decide.mpr ?_
    rw [c1_eq]
    exact ⟨fun e => by rw [e], fun e => Option.some.inj e⟩
  have wh := whileS_run (c := b__law_near_2 (mks a, mks b)) (f := b__law_near_1) (fun k => (k : Int)) (cpl a b) 0 1000000 (by omega) (fun k _ hk => by
    rw [ct k (by omega) (by omega), cpl_same a b k (by omega)]
    exact ⟨by rw [decide_eq_true rfl], rfl⟩) (by
    rw [Nat.zero_add]
    by_cases h1 : cpl a b < a.length
    · rw [ct _ h1 (by omega), decide_eq_false (cpl_end a b h1 (by omega))]
    · unfold b__law_near_2
      simp only [bs, l1]
      rw [decide_eq_false (by omega)]
      rfl)
  rw [Nat.zero_add] at wh
  have wh : whileS (b__law_near_2 (mks a, mks b)) b__law_near_1 1000000 0 = some (cpl a b : Int) := wh
  have e1 := cut_mks a (some (cpl a b : Int)) none (by omega)
  have e3 := cut_mks a (some ((cpl a b + 1 : Nat) : Int)) none (by omega)
  have e4 := cut_mks b (some ((cpl a b + 1 : Nat) : Int)) none (by omega)
  rw [cut_from] at e1 e3 e4
  have ec : ((cpl a b : Int) + 1) = ((cpl a b + 1 : Nat) : Int) := by omega
  simp only [bs, wh, l1, l2, ec, e1, e3, e4]
  have ni := near_iff a b
  unfold oneOff at ni
  have d1 : a.drop (cpl a b + 1) = (a.drop (cpl a b)).drop 1 := by rw [List.drop_drop]
  have d2 : b.drop (cpl a b + 1) = (b.drop (cpl a b)).drop 1 := by rw [List.drop_drop]
  rw [d1, d2]
  have hx : (a.drop (cpl a b)).length = a.length - cpl a b := List.length_drop
  have hy : (b.drop (cpl a b)).length = b.length - cpl a b := List.length_drop
  generalize a.drop (cpl a b) = x at *
  generalize b.drop (cpl a b) = y at *
  have dd : ∀ u v : List Nat, decide (mks u = mks v) = decide (u = v) := fun u v => decide_eq_decide.mpr mks_inj
  simp only [dd]
  by_cases hl : a.length = b.length
  · rw [decide_eq_true (by omega), if_t]
    refine congrArg some (decide_eq_decide.mpr ?_)
    rw [← ni]
    have len1 : (x.drop 1).length = x.length - 1 := List.length_drop
    have len2 : (y.drop 1).length = y.length - 1 := List.length_drop
    constructor
    · exact fun h => .inr (.inr (.inr h))
    · rintro (h | h | h | h)
      · rw [h]
      · have : x.length = 0 := by rw [← h] at hy; omega
        have hx0 := List.length_eq_zero_iff.mp this
        rw [← h, hx0]
        rfl
      · have : y.length = 0 := by rw [h] at hx; omega
        have hy0 := List.length_eq_zero_iff.mp this
        rw [h, hy0]
        rfl
      · exact h
  · rw [decide_eq_false (by omega), if_f]
    refine congrArg some (decide_eq_decide.mpr ?_)
    rw [← ni]
    have len1 : (x.drop 1).length = x.length - 1 := List.length_drop
    have len2 : (y.drop 1).length = y.length - 1 := List.length_drop
    have hlt : x.length < y.length := by omega
    constructor
    · exact fun h => .inr (.inr (.inl h))
    · rintro (h | h | h | h)
      · rw [h] at hlt
        omega
      · rw [h] at len1
        omega
      · exact h
      · have e := congrArg List.length h
        rw [len1, len2] at e
        have hx0 := List.length_eq_zero_iff.mp (show x.length = 0 by omega)
        have hy0 : (y.drop 1).length = 0 := by omega
        rw [hx0, List.length_eq_zero_iff.mp hy0]
theorem step_eq (a b : List Nat) (ha : a.length ≤ 10000) (hb : b.length ≤ 10000) : m__law_near (mks a, (mks b, ())) = some (decide (lev a b ≤ 1)) := by
  unfold m__law_near
  have l1 := sLen_mks a (by omega)
  have l2 := sLen_mks b (by omega)
  simp only [bs, l1, l2]
  by_cases h : a.length ≤ b.length
  · rw [decide_eq_false (by omega), if_f]
    simp only [bs]
    exact step_ord a b ha hb h
  · rw [decide_eq_true (by omega), if_t]
    simp only [bs]
    rw [step_ord b a hb ha (by omega), lev_symm]
theorem fits_near (r : Ru) {A B : List Str} (hA : ∀ x ∈ A, TX 200 x) (hB : ∀ x ∈ B, TX 200 x) (h : B.length ≤ 100) : m_Near__fits (r, (A, (B, ()))) = some (A.any fun x => B.any (nr x)) := by
  unfold m_Near__fits
  simp only [bs]
  rw [any_loop (P := nr) (B := B) fun x hx => ?_, any_then]
  have e : lcG (fun (x3 : Str) => (some true)) (fun (x3 : Str) => (m_is_near (x, (x3, ())))) B = some (B.map (nr x)) := lc_mp (by omega) fun y hy => near_eq (hA x hx) (hB y hy)
  unfold b_Near__fits_1
  simp only [bs, e, any_id]
def oth (A B : List Str) : Bool := !decide (A = []) && (!decide (B = []) && !meet (A.map pl) (B.map pl))
theorem srt_nil (A : List Str) : decide (srt A = []) = decide (A = []) := decide_eq_decide.mpr (by
  rw [← List.length_eq_zero_iff, ← List.length_eq_zero_iff, len_srt])
theorem and3 (a b c : Bool) : bAnd (some a) (bAnd (some b) (some c)) = some (a && (b && c)) := by
  cases a <;> cases b <;> cases c <;> rfl
/-- some name of the one is a former name of the other -/
def nf (bk : List Fc) (a b : Str) : Bool := meet ((T bk a "name").map pl) ((T bk b "former").map pl)
theorem some_T {bk : List Fc} {a b f g : Str} (hz : bk.length ≤ 100) (ht : ∀ g ∈ bk, TX 200 g.c) : m_some_like (srt (T bk a f), (srt (T bk b g), ())) = some (meet ((T bk a f).map pl) ((T bk b g).map pl)) := by
  have hl : (srt (T bk b g)).length ≤ 100 := by
    rw [len_srt]
    have := T_len bk b g
    omega
  rw [some_eq (fun x hx => T_tx ht (mem_srt.mp hx)) (fun x hx => T_tx ht (mem_srt.mp hx)) hl, ← like_meet, any_srt]
  have e2 : (fun x => (srt (T bk b g)).any fun y => decide (pl x = pl y)) = fun x => (T bk b g).any fun y => decide (pl x = pl y) := funext fun x => any_srt _ _
  rw [e2]
theorem speaks_eq (r : Ru) {bk : List Fc} {a b : Str} (hz : bk.length ≤ 100) (ht : ∀ g ∈ bk, TX 200 g.c) : m_Former__speaks (r, (bk, (a, (b, ())))) = some (nf bk a b || nf bk b a) := by
  unfold m_Former__speaks
  simp only [bs, texts_eq hz, some_T hz ht]
  rw [ifM_t]
  unfold nf
  split
  · rename_i h
    rw [h]
    rfl
  · rename_i h
    rw [Bool.not_eq_true _ |>.mp h]
    rfl
/-! ### what the rules say -/
abbrev L5 : List Str := [("Same" : Str), ("Like" : Str), ("Near" : Str), ("Other" : Str), ("Former" : Str)]
section
variable {γ β : Type} {a b c d e : Ru × γ → Option β} (g : Ru × γ)
theorem dis0 : mDis [(("Same" : Str), a), (("Like" : Str), b), (("Near" : Str), c), (("Other" : Str), d), (("Former" : Str), e)] "Same" g = a g := if_pos rfl
theorem dis1 : mDis [(("Same" : Str), a), (("Like" : Str), b), (("Near" : Str), c), (("Other" : Str), d), (("Former" : Str), e)] "Like" g = b g := (if_neg (by decide)).trans (if_pos rfl)
theorem dis2 : mDis [(("Same" : Str), a), (("Like" : Str), b), (("Near" : Str), c), (("Other" : Str), d), (("Former" : Str), e)] "Near" g = c g := (if_neg (by decide)).trans ((if_neg (by decide)).trans (if_pos rfl))
theorem dis3 : mDis [(("Same" : Str), a), (("Like" : Str), b), (("Near" : Str), c), (("Other" : Str), d), (("Former" : Str), e)] "Other" g = d g := (if_neg (by decide)).trans ((if_neg (by decide)).trans ((if_neg (by decide)).trans (if_pos rfl)))
theorem dis4 : mDis [(("Same" : Str), a), (("Like" : Str), b), (("Near" : Str), c), (("Other" : Str), d), (("Former" : Str), e)] "Former" g = e g := (if_neg (by decide)).trans ((if_neg (by decide)).trans ((if_neg (by decide)).trans ((if_neg (by decide)).trans (if_pos rfl))))
end
theorem s_len {bk : List Fc} {a f : Str} (hz : bk.length ≤ 100) : (srt (T bk a f)).length ≤ 100 := by
  rw [len_srt]
  have := T_len bk a f
  omega
theorem s_tx {bk : List Fc} {a f : Str} (ht : ∀ g ∈ bk, TX 200 g.c) : ∀ x ∈ srt (T bk a f), TX 200 x := fun x hx => T_tx ht (mem_srt.mp hx)
theorem any2_srt (A B : List Str) (P : Str → Str → Bool) : ((srt A).any fun x => (srt B).any (P x)) = A.any fun x => B.any (P x) := by
  rw [any_srt]
  exact congrArg (fun f => A.any f) (funext fun x => any_srt _ _)
theorem meet_srt (A B : List Str) : meet (srt A) (srt B) = meet A B := bool_ext (by
  rw [meet_iff, meet_iff]
  exact exists_congr fun x => and_congr mem_srt mem_srt)
theorem fits_same (r : Ru) {A B : List Str} (h : A.length ≤ 100) : m_Same__fits (r, (A, (B, ()))) = some (meet A B) := by
  unfold m_Same__fits
  simp only [bs, lc_in h, any_id]
  rfl
/-- what a rule of a class says -/
def sy (c f : Str) (bk : List Fc) (a b : Str) : Bool :=
  if c = "Same" then meet (T bk a f) (T bk b f) else if c = "Like" then meet ((T bk a f).map pl) ((T bk b f).map pl) else if c = "Near" then (T bk a f).any fun x => (T bk b f).any (nr x)
  else if c = "Other" then oth (T bk a f) (T bk b f) else nf bk a b || nf bk b a
theorem sy0 {f : Str} {bk : List Fc} {a b : Str} : sy "Same" f bk a b = meet (T bk a f) (T bk b f) := if_pos rfl
theorem sy1 {f : Str} {bk : List Fc} {a b : Str} : sy "Like" f bk a b = meet ((T bk a f).map pl) ((T bk b f).map pl) := (if_neg (by decide)).trans (if_pos rfl)
theorem sy2 {f : Str} {bk : List Fc} {a b : Str} : sy "Near" f bk a b = (T bk a f).any fun x => (T bk b f).any (nr x) := (if_neg (by decide)).trans ((if_neg (by decide)).trans (if_pos rfl))
theorem sy3 {f : Str} {bk : List Fc} {a b : Str} : sy "Other" f bk a b = oth (T bk a f) (T bk b f) := (if_neg (by decide)).trans ((if_neg (by decide)).trans ((if_neg (by decide)).trans (if_pos rfl)))
theorem sy4 {f : Str} {bk : List Fc} {a b : Str} : sy "Former" f bk a b = (nf bk a b || nf bk b a) := (if_neg (by decide)).trans ((if_neg (by decide)).trans ((if_neg (by decide)).trans (if_neg (by decide))))
theorem in5 {c : Str} (h : c = "Same" ∨ c = "Like" ∨ c = "Near" ∨ c = "Other" ∨ c = "Former") : c ∈ L5 := by
  rcases h with rfl | rfl | rfl | rfl | rfl <;> decide
theorem rule_says {c f : Str} {w : Int} {bk : List Fc} {a b : Str} (h : c = "Same" ∨ c = "Like" ∨ c = "Near" ∨ c = "Other") (hz : bk.length ≤ 100) (ht : ∀ g ∈ bk, TX 200 g.c) : m_Rule__speaks (⟨c, w, f⟩, (bk, (a, (b, ())))) = some (sy c f bk a b) := by
  have e : ruG L5 Ru.f ⟨c, w, f⟩ = some f := if_pos (in5 (by rcases h with h | h | h | h <;> simp [h]))
  unfold m_Rule__speaks
  simp only [bs, e, texts_eq hz]
  rcases h with rfl | rfl | rfl | rfl
  · rw [dis0, fits_same _ (s_len hz), meet_srt, sy0]
  · rw [dis1, sy1]
    unfold m_Like__fits
    show m_some_like (srt (T bk a f), (srt (T bk b f), ())) = _
    rw [some_T hz ht]
  · rw [dis2, fits_near _ (s_tx ht) (s_tx ht) (s_len hz), any2_srt, sy2]
  · rw [dis3, sy3]
    unfold m_Other__fits
    simp only []
    rw [some_T hz ht]
    simp only [bs]
    rw [and3, srt_nil, srt_nil]
    rfl
def KIND (c : Str) : Prop := c = "Same" ∨ c = "Like" ∨ c = "Near" ∨ c = "Other" ∨ c = "Former"
theorem speaks5 {r : Ru} {bk : List Fc} {a b : Str} (h : KIND r.c) (hz : bk.length ≤ 100) (ht : ∀ g ∈ bk, TX 200 g.c) : mDis ([(("Same" : Str), m_Rule__speaks), (("Like" : Str), m_Rule__speaks), (("Near" : Str), m_Rule__speaks), (("Other" : Str), m_Rule__speaks), (("Former" : Str), m_Former__speaks)] : List (Str × (Ru × ((List (T3 Str Str Str)) × Str × Str × Unit) → Option Bool))) r.c (r, (bk, (a, (b, ())))) = some (sy r.c r.f bk a b) := by
  obtain ⟨c, w, f⟩ := r
  have h : c = "Same" ∨ c = "Like" ∨ c = "Near" ∨ c = "Other" ∨ c = "Former" := h
  show mDis _ c (⟨c, w, f⟩, _) = some (sy c f bk a b)
  rcases h with rfl | rfl | rfl | rfl | rfl
  · rw [dis0]
    exact rule_says (.inl rfl) hz ht
  · rw [dis1]
    exact rule_says (.inr (.inl rfl)) hz ht
  · rw [dis2]
    exact rule_says (.inr (.inr (.inl rfl))) hz ht
  · rw [dis3]
    exact rule_says (.inr (.inr (.inr rfl))) hz ht
  · rw [dis4, sy4]
    exact speaks_eq _ hz ht
theorem lc_fm {α β : Type} {xs : List α} {t : α → Option Bool} {p : α → Bool} {f : α → Option β} {g : α → β} (hl : xs.length < 1000000) (e : ∀ x ∈ xs, t x = some (p x)) (e2 : ∀ x ∈ xs, f x = some (g x)) : lcG t f xs = some ((xs.filter p).map g) := by
  unfold lcG
  rw [if_pos hl]
  induction xs with
  | nil => rfl
  | cons x l ih =>
    unfold lcM
    rw [e x List.mem_cons_self]
    have := ih (by rw [List.length_cons] at hl; omega) (fun y hy => e y (List.mem_cons_of_mem _ hy)) fun y hy => e2 y (List.mem_cons_of_mem _ hy)
    simp only [bs]
    cases hp : p x with
    | true =>
      rw [List.filter_cons_of_pos hp, List.map_cons, e2 x List.mem_cons_self, this]
      rfl
    | false =>
      rw [List.filter_cons_of_neg (by rw [hp]; exact Bool.false_ne_true), this]
      rfl
/-- the weight of two cards -/
def wt (rs : List Ru) (bk : List Fc) (a b : Str) : Int := ((rs.filter fun r => sy r.c r.f bk a b).map Ru.w).sum
theorem weight_eq {rs : List Ru} {bk : List Fc} {a b : Str} (h : ∀ r ∈ rs, KIND r.c) (hl : rs.length ≤ 1000) (hz : bk.length ≤ 100) (ht : ∀ g ∈ bk, TX 200 g.c) : m_weight_of (rs, (bk, (a, (b, ())))) = some (wt rs bk a b) := by
  unfold m_weight_of
  simp only [bs]
  rw [lc_fm (p := fun r : Ru => sy r.c r.f bk a b) (g := Ru.w) (by omega) (fun r hr => ?_) fun r hr => ?_]
  · rfl
  · unfold b_weight_of_2
    exact speaks5 (h r hr) hz ht
  · unfold b_weight_of_1
    exact if_pos (in5 (h r hr))
end GW

namespace GC
open PySem PySem.StrLaws TL L2 FK MS
open G (m__law_stream m_cards_of)
open GW (m_weight_of)
def b__law_cards_1 (letters_1 : Str) (draws_2 : (List Int)) (at_7 : Int) (base_10 : Str) (s16 : (List Str)) (x17 : Int) : (Option (List Str)) := (Option.bind (Option.bind (some letters_1) fun (t22 : Str) => Option.bind (Option.bind (Option.bind (atI draws_2 ((2 : Int) + at_7)) fun (t19 : Int) => Option.bind (imul (7 : Int) x17) fun (t20 : Int) => some (t19 + t20)) fun (t21 : Int) => some (t21 % 26)) fun (t23 : Int) => (sAt t22 t23)) fun (sign_18 : Str) => (Option.bind (Option.bind (Option.bind (Option.bind (sCut base_10 none (some at_7)) fun (t24 : Str) => Option.bind (some sign_18) fun (t25 : Str) => (sAdd t24 t25)) fun (t26 : Str) => Option.bind (sCut base_10 (some (at_7 + (1 : Int))) none) fun (t27 : Str) => (sAdd t26 t27)) fun (t29 : Str) => (lApp s16 t29)) fun (cards_here_28 : (List Str)) => (some cards_here_28)))
def b__law_cards_2 (letters_1 : Str) (x11 : Int) : (Option Str) := (sAt letters_1 (x11 % 26))
def m__law_cards : Int × Int × Unit → Option (List Str) := fun (g : Int × Int × Unit) => (Option.bind (some ("abcdefghijklmnopqrstuvwxyz" : Str)) fun (letters_1 : Str) => (Option.bind (m__law_stream (g.1, ((14 : Int), ()))) fun (draws_2 : (List Int)) => (Option.bind (Option.bind (some (1 : Int)) fun (t5 : Int) => Option.bind (Option.bind (atI draws_2 (0 : Int)) fun (t4 : Int) => some (t4 % 12)) fun (t6 : Int) => some (t5 + t6)) fun (size_3 : Int) => (Option.bind (Option.bind (atI draws_2 (1 : Int)) fun (t8 : Int) => Option.bind (some size_3) fun (t9 : Int) => (imod t8 t9)) fun (at_7 : Int) => (Option.bind (Option.bind (some ("" : Str)) fun (t13 : Str) => Option.bind (Option.bind (some (cutA draws_2 (some (2 : Int)) (some ((2 : Int) + size_3)))) fun (xs12 : List Int) => lcG (fun (x11 : Int) => (some true)) (b__law_cards_2 letters_1) xs12) fun (t14 : (List Str)) => (sJoin t13 t14)) fun (base_10 : Str) => (Option.bind (some ([] : (List Str))) fun (cards_here_15 : (List Str)) => (Option.bind (Option.bind (range1 g.2.1) fun (xs30 : List Int) => forS (S := (List Str)) (b__law_cards_1 letters_1 draws_2 at_7 base_10) xs30 cards_here_15) fun (s31 : (List Str)) => (some s31))))))))
def b_weights_of_1 (g : ((List Ru) × (List (T3 Str Str Str)) × Unit)) (x4 : (Int × Str)) (s7 : (List (T3 Str Str Int))) (x8 : Str) : (Option (List (T3 Str Str Int))) := (Option.bind (m_weight_of (g.1, (g.2.1, (x4.2, (x8, ()))))) fun (weight_9 : Int) => (ifM (some (!decide (weight_9 = (0 : Int)))) (Option.bind (Option.bind (some (⟨x4.2, x8, weight_9⟩ : (T3 Str Str Int))) fun (t11 : (T3 Str Str Int)) => (lApp s7 t11)) fun (found_10 : (List (T3 Str Str Int))) => (some found_10)) (some s7)))
def b_weights_of_2 (cards_2 : (List Str)) (g : ((List Ru) × (List (T3 Str Str Str)) × Unit)) (s3 : (List (T3 Str Str Int))) (x4 : (Int × Str)) : (Option (List (T3 Str Str Int))) := (Option.bind (Option.bind (some (cutA cards_2 (some (x4.1 + (1 : Int))) none)) fun (xs12 : List Str) => forS (S := (List (T3 Str Str Int))) (b_weights_of_1 g x4) xs12 s3) fun (s13 : (List (T3 Str Str Int))) => (some s13))
def m_weights_of : (List Ru) × (List (T3 Str Str Str)) × Unit → Option (List (T3 Str Str Int)) := fun (g : (List Ru) × (List (T3 Str Str Str)) × Unit) => (Option.bind (some ([] : (List (T3 Str Str Int)))) fun (found_1 : (List (T3 Str Str Int))) => (Option.bind (m_cards_of (g.2.1, ())) fun (cards_2 : (List Str)) => (Option.bind (Option.bind (some (enumL cards_2)) fun (xs14 : List (Int × Str)) => forS (S := (List (T3 Str Str Int))) (b_weights_of_2 cards_2 g) xs14 found_1) fun (s15 : (List (T3 Str Str Int))) => (some s15))))
end GC

/-! rows of facts: what fact_of answers on any row -/
namespace GR
open PySem PySem.Builtin PySem.Builtin.Str PySem.StrLaws TL L2 FK MS
abbrev ABC : Str := "abcdefghijklmnopqrstuvwxyz"
abbrev FIELDS : List Str := [("name" : Str), ("former" : Str), ("way" : Str), ("day" : Str), ("mark" : Str)]
abbrev HAND : List Str := [("same" : Str), ("apart" : Str)]
/-- a card's name -/
def Nm (l : List Nat) : Prop := 1 ≤ l.length ∧ l.length ≤ 12 ∧ ∀ x ∈ l, x ∈ tl ABC
/-- a text -/
def Tx (l : List Nat) : Prop := 1 ≤ l.length ∧ l.length ≤ 40 ∧ l[0]? ≠ some 32 ∧ l[l.length - 1]? ≠ some 32
instance (l : List Nat) : Decidable (Nm l) := by unfold Nm; infer_instance
instance (l : List Nat) : Decidable (Tx l) := by unfold Tx; infer_instance
def hd (r : List Nat) : List Nat := r.takeWhile fun c => decide (c ≠ 32)
def rs (r : List Nat) : List Nat := (r.dropWhile fun c => decide (c ≠ 32)).tail
theorem two (r : List Nat) : 32 ∉ r ∨ ∃ a b, 32 ∉ a ∧ r = a ++ 32 :: b := by
  by_cases h : 32 ∈ r
  · obtain ⟨a, b, e, ha⟩ := List.eq_append_cons_of_mem h
    exact .inr ⟨a, b, ha, e⟩
  · exact .inl h
theorem all_id : ∀ {α : Type} (l : List α) (f : α → Bool), (l.map f).all id = l.all f
  | _, [], _ => rfl
  | _, x :: r, f => by rw [List.map_cons, List.all_cons, List.all_cons, all_id r f]; rfl
abbrev Fc := T3 Str Str Str
def no1 : Xv := ⟨"NoRow", .int "row" 1⟩
/-- what fact_of answers on three parts -/
def fo (c f t : List Nat) : Rs Fc := if Nm c then (if mks f ∈ FIELDS ∧ Tx t then .ok ⟨mks c, mks f, mks t⟩ else if mks f ∈ HAND ∧ Nm t ∧ t ≠ c then .ok ⟨smin (mks c) (mks t), mks f, smax (mks c) (mks t)⟩ else .ex no1) else .ex no1
def fo1 (r : List Nat) : Rs Fc := fo (hd r) (hd (rs r)) (rs (rs r))
/-! great letters -/
theorem up_mks : ∀ l : List Nat, (∀ c ∈ l, c < 128) → Txt.upper (mks l) = mks (l.map fun c => if 97 ≤ c ∧ c ≤ 122 then c - 32 else c)
  | [], _ => by decide +kernel
  | c :: l, h => by
    have e : mks (c :: l) = mks [c] ++ mks l := (app_mks [c] l).symm
    rw [e, PySem.W.KOpn.upper_app, PySem.W.KOpn.upper_one (h c List.mem_cons_self), up_mks l fun d hd => h d (List.mem_cons_of_mem _ hd), List.map_cons]
    exact app_mks [_] _
end GR

/-! rules read from rows -/
namespace GU
open PySem PySem.Builtin PySem.Builtin.Str PySem.StrLaws PySem.NumText TL L2 FK MS
/-! ### passed by or not -/
theorem strip_head (l : List Nat) (c : Nat) (hc : l[0]? = some c) (h32 : c ≠ 32) (hz : l.length ≤ 1000) : ∃ z, sStrip (mks l) (" " : Str) = some z ∧ z ≠ ("" : Str) := by
  refine ⟨_, if_pos (by rw [len_mks]; omega), ?_⟩
  unfold Txt.stripChars
  rw [PyProof.Rows.stripBy_eq]
  obtain ⟨a0, a1, a2⟩ := PyProof.Rows.lo_facts (" " : Str).cps.contains (mks l)
  obtain ⟨b0, b1, b2, b3⟩ := PyProof.Rows.hi_facts (" " : Str).cps.contains (mks l) _ a0
  generalize stripLo (" " : Str).cps.contains true (mks l) = lo at *
  generalize stripHi (" " : Str).cps.contains true (mks l) lo = hi at *
  have hlen : 0 < l.length := by
    cases l with
    | nil => cases hc
    | cons _ _ => exact Nat.succ_pos _
  have hgd : (mks l).cps.getD 0 0 = c := by
    have e : (mks l).cps.getD 0 0 = l.getD 0 0 := by
      show l.toArray.getD 0 0 = _
      simp [Array.getD_eq_getD_getElem?]
    rw [e, List.getD_eq_getElem?_getD, hc]
    rfl
  have hf : (" " : Str).cps.contains c = false := by
    have e : (" " : Str).cps = #[32] := by decide +kernel
    rw [e]
    simp
    exact h32
  have hlo : lo = 0 := by
    rcases Nat.eq_zero_or_pos lo with z | z
    · exact z
    · have := a1 0 z
      rw [hgd, hf] at this
      cases this
  have hhi : 0 < hi := by
    rcases Nat.eq_zero_or_pos hi with z | z
    · have := b2 0 (by omega) (by rw [len_mks]; exact hlen)
      rw [hgd, hf] at this
      cases this
    · exact z
  intro z
  have e := congrArg tl z
  rw [tl_strSub] at e
  have e2 : (((tl (mks l)).drop lo).take (hi - lo)).length = 0 := by
    rw [e]
    rfl
  rw [List.length_take, List.length_drop, tl_mks] at e2
  omega
theorem sw_hash (l : List Nat) : Txt.startswith (mks l) ("#" : Str) = decide (l[0]? = some 35) := by
  unfold Txt.startswith
  have e1 : ("#" : Str) = mks [35] := by decide +kernel
  rw [e1, subAt_eq]
  cases l with
  | nil => rfl
  | cons c r =>
    have e : (mks (c :: r)).length = r.length + 1 := by rw [len_mks]; rfl
    rw [e, show (mks [35]).length = 1 from by rw [len_mks]; rfl, decide_eq_true (show 0 + 1 ≤ r.length + 1 by omega), Bool.true_and]
    show (([c] : List Nat) == [35]) = decide (some c = some 35)
    by_cases h : c = 35
    · subst h
      rfl
    · rw [decide_eq_false fun z => h (Option.some.inj z)]
      simp [h]
theorem pass_no (l : List Nat) (c : Nat) (hc : l[0]? = some c) (h1 : c ≠ 32) (h2 : c ≠ 35) (hz : l.length ≤ 1000) : m_is_passed_by (mks l, ()) = some false := by
  unfold m_is_passed_by
  obtain ⟨z, ez, hzn⟩ := strip_head l c hc h1 hz
  show bOr ((sStrip (mks l) (" " : Str)).bind fun t1 => some (decide (t1 = ("" : Str)))) (some (Txt.startswith (mks l) ("#" : Str))) = some false
  rw [ez]
  simp only [bs]
  rw [decide_eq_false hzn, or_f, sw_hash, hc, decide_eq_false fun e => h2 (Option.some.inj e)]
/-! ### numbers -/
structure Num (n : Int) (D : List Nat) : Prop where
  num : (PySem.Str.ofString (toString n)) = mks D
  len : D.length ≤ 10
  one : 1 ≤ D.length
  dig : ∀ c ∈ D, 48 ≤ c ∧ c ≤ 57
  hd : D[0]? ≠ some 48
  val : PySem.intText? (mks D) = some n
end GU

/-! a book read from a text -/
namespace GD
open PySem PySem.Builtin PySem.Builtin.Str PySem.StrLaws TL L2 FK MS GR
open GU (m_is_passed_by strip_head sw_hash)
/-! ### a text of rows read -/
structure Rw (p : Str × Option Fc) : Prop where
  nl : 10 ∉ tl p.1
  len : p.1.length ≤ 101
  ps : m_is_passed_by (p.1, ()) = some p.2.isNone
  ok : ∀ f, p.2 = some f → m_fact_of (p.1, ()) = some (.ok f)
theorem step_eq (p : Str × Option Fc) (hp : Rw p) (k : Int) (acc : List Fc) (hl : acc.length ≤ 1000) : b_read_book_1 acc (k, p.1) = some (acc ++ p.2.toList) := by
  unfold b_read_book_1
  simp only [bs]
  rw [hp.ps]
  simp only [bs]
  cases e : p.2 with
  | none =>
    have e1 : (!(none : Option Fc).isNone) = false := rfl
    rw [e1, if_f]
    show _ = some (acc ++ [])
    rw [List.append_nil]
  | some f =>
    have e1 : (!(some f : Option Fc).isNone) = true := rfl
    rw [e1, if_t]
    unfold m_fact_at
    simp only [bs]
    rw [hp.ok f e]
    simp only [bs, rsO]
    rw [app_eq _ _ (by omega)]
    rfl
theorem pass_no (l : List Nat) (c : Nat) (hc : l[0]? = some c) (h : c ∈ tl GR.ABC) (hz : l.length ≤ 1000) : m_is_passed_by (mks l, ()) = some false := by
  have hn : c ≠ 32 ∧ c ≠ 35 := by
    have all : ∀ c ∈ tl GR.ABC, c ≠ 32 ∧ c ≠ 35 := by decide +kernel
    exact all c h
  unfold m_is_passed_by
  obtain ⟨z, e, hz2⟩ := strip_head l c hc hn.1 hz
  rw [e, sw_hash, hc, decide_eq_false fun z => hn.2 (Option.some.inj z)]
  simp only [bs]
  rw [decide_eq_false hz2, or_f]
/-- a fact of the book -/
def GF (f : Fc) : Prop := ∃ c fl t : List Nat, f = ⟨mks c, mks fl, mks t⟩ ∧ Nm c ∧ 10 ∉ t ∧ t.length ≤ 40 ∧ 32 ∉ fl ∧ 10 ∉ fl ∧ fl.length ≤ 10 ∧ ((mks fl ∈ FIELDS ∧ Tx t) ∨ (mks fl ∉ FIELDS ∧ mks fl ∈ HAND ∧ Nm t ∧ sLt (mks c) (mks t) = true))
abbrev jn (a b c : Str) : Str := Txt.join " " [a, b, c]
end GD

/-! texts that a fact may have; names -/
namespace GD
open PySem PySem.StrLaws TL L2 FK MS GR
open GW (m__law_bent b__law_bent_1 SIGNS)
open GC (m__law_cards b__law_cards_1 b__law_cards_2)
theorem low_ge {c : Nat} (h : 32 ≤ c) : 32 ≤ low c := by
  unfold low
  split <;> omega
def TY (n : Nat) (x : Str) : Prop := ∃ l : List Nat, x = mks l ∧ l.length ≤ n ∧ ∀ c ∈ l, 32 ≤ c ∧ c < 128
theorem TY.mono {n m : Nat} {x : Str} (h : TY n x) (k : n ≤ m) : TY m x := by
  obtain ⟨l, e, h1, h2⟩ := h
  exact ⟨l, e, by omega, h2⟩
theorem TY.len {n : Nat} {x : Str} (h : TY n x) : x.length ≤ n := by
  obtain ⟨l, rfl, h1, _⟩ := h
  rw [len_mks]
  exact h1
theorem TY.add {n m : Nat} {x y : Str} (h : TY n x) (k : TY m y) (hz : n + m ≤ 100000) : Ok (sAdd x y) (TY (n + m)) := by
  obtain ⟨a, rfl, h1, h2⟩ := h
  obtain ⟨b, rfl, k1, k2⟩ := k
  rw [add_mks a b (by omega)]
  refine .ret ⟨a ++ b, rfl, by rw [List.length_append]; omega, fun c hc => ?_⟩
  rcases List.mem_append.mp hc with z | z
  · exact h2 c z
  · exact k2 c z
theorem TY.cut {n : Nat} {x : Str} (h : TY n x) (hz : n ≤ 100000) (lo hi : Option Int) : Ok (sCut x lo hi) (TY n) := by
  obtain ⟨a, rfl, h1, h2⟩ := h
  rw [cut_mks a lo hi (by omega)]
  have := cut_len a lo hi
  exact .ret ⟨_, rfl, by omega, fun c hc => h2 c (List.mem_of_mem_drop (List.mem_of_mem_take hc))⟩
theorem TY.up {n : Nat} {x : Str} (h : TY n x) (hz : n ≤ 100000) : Ok (sUp x) (TY n) := by
  obtain ⟨a, rfl, h1, h2⟩ := h
  refine ⟨_, if_pos (by rw [len_mks]; omega), ?_⟩
  rw [GT.up_mks a fun c hc => (h2 c hc).2]
  refine ⟨_, rfl, by rw [List.length_map]; exact h1, fun c hc => ?_⟩
  obtain ⟨d, hd, rfl⟩ := List.mem_map.mp hc
  have := h2 d hd
  split <;> omega
theorem TY.low {n : Nat} {x : Str} (h : TY n x) (hz : n ≤ 100000) : Ok (sLow x) (TY n) := by
  obtain ⟨a, rfl, h1, h2⟩ := h
  rw [GT.sLow_eq a (fun c hc => (h2 c hc).2) (by omega)]
  refine .ret ⟨_, rfl, by rw [List.length_map]; exact h1, fun c hc => ?_⟩
  obtain ⟨d, hd, rfl⟩ := List.mem_map.mp hc
  exact ⟨low_ge (h2 d hd).1, GT.low_lt (h2 d hd).2⟩
theorem TY.repl {n : Nat} {x : Str} (h : TY n x) (hz : n ≤ 10000) : Ok (sRepl x (" " : Str) ("  " : Str)) (TY (n + (n + 1) * 2)) := by
  have hl := h.len
  obtain ⟨a, rfl, h1, h2⟩ := h
  have h2l : ("  " : Str).length = 2 := by decide +kernel
  refine ⟨_, if_pos (by rw [h2l]; omega), tl (Txt.replace (mks a) (" " : Str) ("  " : Str)), (mks_tl _).symm, ?_, fun c hc => ?_⟩
  · have := TK.replace_len (mks a) (" " : Str) ("  " : Str)
    rw [h2l] at this
    rw [← len_tl]
    omega
  · have e : tl (Txt.replace (mks a) (" " : Str) ("  " : Str)) = replL [32] [32, 32] a := by
      have := replace_list (x := mks a) (y := (" " : Str)) (z := ("  " : Str)) (by decide +kernel)
      have e1 : (" " : Str).cps.toList = [32] := by decide +kernel
      have e2 : ("  " : Str).cps.toList = [32, 32] := by decide +kernel
      rw [e1, e2] at this
      exact this
    rw [e] at hc
    rcases GT.repl_mem (by simp) _ a (Nat.le_refl _) c hc with w | w
    · exact h2 c w
    · revert w
      simp only [List.mem_cons, List.not_mem_nil, or_false]
      omega
theorem TY.strip {n : Nat} {x : Str} (h : TY n x) (hz : n ≤ 100000) : Ok (sStrip x (" " : Str)) (TY n) := by
  have hl := h.len
  obtain ⟨a, rfl, h1, h2⟩ := h
  refine (strip_ok (by omega)).mono fun z hz => ⟨tl z, (mks_tl z).symm, by rw [← len_tl]; omega, fun c hc => h2 c (hz.2.1 c hc)⟩
theorem TY.sgn {c : Nat} (h : 32 ≤ c ∧ c < 128) : TY 1 (c1 c) := ⟨[c], rfl, Nat.le_refl _, fun d hd => by rw [List.mem_singleton.mp hd]; exact h⟩
theorem sign_at (k : Int) : Ok (sAt SIGNS (k % 71)) fun z => ∃ c, (32 ≤ c ∧ c < 128) ∧ z = c1 c := (okSAt (x := SIGNS) (by omega) (by rw [show SIGNS.length = 71 by decide +kernel]; omega) (by decide +kernel)).mono fun z ⟨c, hc, e⟩ => ⟨c, (by
  have all : ∀ c ∈ tl SIGNS, 32 ≤ c ∧ c < 128 := by decide +kernel
  exact all c hc), e⟩
def NmS (x : Str) : Prop := ∃ k, x = mks k ∧ Nm k
end GD

/-! the weights of a book -/
namespace GC
open PySem PySem.StrLaws TL L2 FK MS GT
open GW (Fc T wt sy KIND meet oth nr pl meet_iff bool_ext weight_eq)
def wl (rs : List Ru) (bk : List Fc) : List Str → List (T3 Str Str Int)
  | [] => []
  | a :: r => (r.filterMap fun b => if wt rs bk a b = 0 then none else some ⟨a, b, wt rs bk a b⟩) ++ wl rs bk r
section
variable {rs : List Ru} {bk : List Fc} (hk : ∀ r ∈ rs, KIND r.c) (hl : rs.length ≤ 1000) (hz : bk.length ≤ 100) (ht : ∀ g ∈ bk, TX 200 g.c)
include hk hl hz ht
end
/-! ### alike books -/
section
variable {bk bk2 : List Fc} (h : ∀ x, x ∈ bk ↔ x ∈ bk2)
include h
omit h in
theorem meet_congr {A B A2 B2 : List Str} (h1 : ∀ x, x ∈ A ↔ x ∈ A2) (h2 : ∀ x, x ∈ B ↔ x ∈ B2) : meet A B = meet A2 B2 := bool_ext (by
  rw [meet_iff, meet_iff]
  exact exists_congr fun x => and_congr (h1 x) (h2 x))
omit h in
theorem nil_congr {A A2 : List Str} (h1 : ∀ x, x ∈ A ↔ x ∈ A2) : (A = []) ↔ (A2 = []) := by
  rw [List.eq_nil_iff_forall_not_mem, List.eq_nil_iff_forall_not_mem]
  exact forall_congr' fun x => not_congr (h1 x)
omit h in
theorem anyany_congr {A B A2 B2 : List Str} (P : Str → Str → Bool) (h1 : ∀ x, x ∈ A ↔ x ∈ A2) (h2 : ∀ x, x ∈ B ↔ x ∈ B2) : (A.any fun x => B.any (P x)) = A2.any fun x => B2.any (P x) := bool_ext (by
  simp only [List.any_eq_true]
  exact exists_congr fun x => and_congr (h1 x) (exists_congr fun y => and_congr (h2 y) Iff.rfl))
end
end GC

namespace GK
open PySem PySem.StrLaws TL L2 FK MS
open G (m__law_stream m_cards_of)
open GE (m_blocks_of)
open GC (m_weights_of)
open GW (m_weight_of)
def b_places_of_1 (x3 : (Int × (List Str))) (s6 : (Dct Str Int)) (x7 : Str) : (Option (Dct Str Int)) := (Option.bind (Option.bind (some x3.1) fun (t9 : Int) => Option.bind (some x7) fun (t10 : Str) => (dSet s6 t10 t9)) fun (places_8 : (Dct Str Int)) => (some places_8))
def b_places_of_2  (s2 : (Dct Str Int)) (x3 : (Int × (List Str))) : (Option (Dct Str Int)) := (Option.bind (Option.bind (some x3.2) fun (xs11 : List Str) => forS (S := (Dct Str Int)) (b_places_of_1 x3) xs11 s2) fun (s12 : (Dct Str Int)) => (some s12))
def m_places_of : (List (List Str)) × Unit → Option (Dct Str Int) := fun (g : (List (List Str)) × Unit) => (Option.bind (some (⟨[]⟩ : (Dct Str Int))) fun (places_1 : (Dct Str Int)) => (Option.bind (Option.bind (some (enumL g.1)) fun (xs13 : List (Int × (List Str))) => forS (S := (Dct Str Int)) (b_places_of_2) xs13 places_1) fun (s14 : (Dct Str Int)) => (some s14)))
def m_ordered : Int × Int × Unit → Option (Int × Int) := fun (g : Int × Int × Unit) => (some ((imin2 g.1 g.2.1), (imax2 g.1 g.2.1)))
def b_book_case_1 (places_3 : (Dct Str Int)) (x33 : (T3 Str Str Str)) : (Option (Int × Int)) := (Option.bind (Option.bind (dGet places_3.l x33.a) fun (t36 : Int) => Option.bind (Option.bind (dGet places_3.l x33.c) fun (t34 : Int) => Option.bind (some ()) fun (t35 : Unit) => some (t34, t35)) fun (t37 : (Int × Unit)) => some (t36, t37)) m_ordered)
def b_book_case_2 (s19 : (Dct (Int × Int) Int)) (s21 : (List (T3 Int Int Int))) (x22 : (Int × Int)) : (Option (List (T3 Int Int Int))) := (ifM (bAnd (some (!decide (x22.1 = x22.2))) (Option.bind (dGet s19.l x22) fun (t23 : Int) => Option.bind (some (0 : Int)) fun (t24 : Int) => some (!decide (t23 = t24)))) (Option.bind (Option.bind (Option.bind (some x22.1) fun (t25 : Int) => Option.bind (some x22.2) fun (t26 : Int) => Option.bind (dGet s19.l x22) fun (t27 : Int) => some (⟨t25, t26, t27⟩ : (T3 Int Int Int))) fun (t29 : (T3 Int Int Int)) => (lApp s21 t29)) fun (pairs_28 : (List (T3 Int Int Int))) => (some pairs_28)) (some s21))
def b_book_case_3 (places_3 : (Dct Str Int)) (s5 : (Dct (Int × Int) Int)) (x6 : (T3 Str Str Int)) : (Option (Dct (Int × Int) Int)) := (Option.bind (Option.bind (Option.bind (dGet places_3.l x6.a) fun (t13 : Int) => Option.bind (Option.bind (dGet places_3.l x6.b) fun (t11 : Int) => Option.bind (some ()) fun (t12 : Unit) => some (t11, t12)) fun (t14 : (Int × Unit)) => some (t13, t14)) m_ordered) fun (pair_10 : (Int × Int)) => (Option.bind (Option.bind (some (((dGet s5.l pair_10).getD (0 : Int)) + x6.c)) fun (t16 : Int) => Option.bind (some pair_10) fun (t17 : (Int × Int)) => (dSet s5 t17 t16)) fun (sums_15 : (Dct (Int × Int) Int)) => (some sums_15)))
def m_book_case : (List Ru) × (List (T3 Str Str Str)) × Unit → Option (Rs (T3 Int (List (T3 Int Int Int)) (List (Int × Int)))) := fun (g : (List Ru) × (List (T3 Str Str Str)) × Unit) => (thenF (S := (List (List Str))) (ρ := (Rs (T3 Int (List (T3 Int Int Int)) (List (Int × Int))))) (Option.bind (m_blocks_of (g.2.1, ())) fun (t2 : Rs (List (List Str))) => some t2.fl) (fun (blocks_1 : (List (List Str))) => (Option.bind (m_places_of (blocks_1, ())) fun (places_3 : (Dct Str Int)) => (Option.bind (some (⟨[]⟩ : (Dct (Int × Int) Int))) fun (sums_4 : (Dct (Int × Int) Int)) => (Option.bind (Option.bind (m_weights_of (g.1, (g.2.1, ()))) fun (xs18 : List (T3 Str Str Int)) => forS (S := (Dct (Int × Int) Int)) (b_book_case_3 places_3) xs18 sums_4) fun (s19 : (Dct (Int × Int) Int)) => (Option.bind (some ([] : (List (T3 Int Int Int)))) fun (pairs_20 : (List (T3 Int Int Int))) => (Option.bind (Option.bind (sSort (s19.l.map (·.1))) fun (xs30 : List (Int × Int)) => forS (S := (List (T3 Int Int Int))) (b_book_case_2 s19) xs30 pairs_20) fun (s31 : (List (T3 Int Int Int))) => (Option.bind (Option.bind (some g.2.1) fun (xs38 : List (T3 Str Str Str)) => lcG (fun (x33 : (T3 Str Str Str)) => (some (decide (x33.b = ("apart" : Str))))) (b_book_case_1 places_3) xs38) fun (aparts_32 : (List (Int × Int))) => (Option.bind (Option.bind (some (blocks_1.length : Int)) fun (t39 : Int) => Option.bind (some s31) fun (t40 : (List (T3 Int Int Int))) => Option.bind (tdy aparts_32) fun (t41 : (List (Int × Int))) => some (⟨t39, t40, t41⟩ : (T3 Int (List (T3 Int Int Int)) (List (Int × Int))))) fun (t42 : (T3 Int (List (T3 Int Int Int)) (List (Int × Int)))) => some (Rs.ok t42))))))))) (fun v => some v) (fun _ => none) (fun _ => none))
def b__law_book_1 (g : ((List Int) × (List Str) × Int × Unit)) (fields_1 : (List Str)) (s3 : (List (T3 Str Str Str))) (x4 : Int) : (Option (List (T3 Str Str Str))) := (Option.bind (m__law_stream (x4, ((3 : Int), ()))) fun (draws_5 : (List Int)) => (Option.bind (Option.bind (some g.2.1) fun (t9 : (List Str)) => Option.bind (Option.bind (atI draws_5 (0 : Int)) fun (t7 : Int) => Option.bind (some (g.2.1.length : Int)) fun (t8 : Int) => (imod t7 t8)) fun (t10 : Int) => (atI t9 t10)) fun (card_6 : Str) => (Option.bind (Option.bind (some g.2.1) fun (t14 : (List Str)) => Option.bind (Option.bind (atI draws_5 (1 : Int)) fun (t12 : Int) => Option.bind (some (g.2.1.length : Int)) fun (t13 : Int) => (imod t12 t13)) fun (t15 : Int) => (atI t14 t15)) fun (other_11 : Str) => (Option.bind (Option.bind (some card_6) fun (t28 : Str) => Option.bind (Option.bind (some fields_1) fun (t22 : (List Str)) => Option.bind (Option.bind (Option.bind (some g.2.2.1) fun (t19 : Int) => Option.bind (Option.bind (Option.bind (atI draws_5 (2 : Int)) fun (t17 : Int) => some (t17 / 6)) fun (t18 : Int) => some (t18 % 2)) fun (t20 : Int) => some (t19 + t20)) fun (t21 : Int) => some (t21 % 5)) fun (t23 : Int) => (atI t22 t23)) fun (t29 : Str) => Option.bind (Option.bind (some [("Bo" : Str), ("bo 1" : Str), ("~" : Str)]) fun (t26 : (List Str)) => Option.bind (Option.bind (Option.bind (atI draws_5 (2 : Int)) fun (t24 : Int) => some (t24 / 12)) fun (t25 : Int) => some (t25 % 3)) fun (t27 : Int) => (atI t26 t27)) fun (t30 : Str) => some (⟨t28, t29, t30⟩ : (T3 Str Str Str))) fun (fact_16 : (T3 Str Str Str)) => (Option.bind (ifM (bAnd (Option.bind (Option.bind (atI draws_5 (2 : Int)) fun (t31 : Int) => some (t31 % 6)) fun (t32 : Int) => Option.bind (some (2 : Int)) fun (t33 : Int) => some (decide (t32 < t33))) (some (!decide (card_6 = other_11)))) (Option.bind (Option.bind (some (smin card_6 other_11)) fun (t39 : Str) => Option.bind (Option.bind (some [("same" : Str), ("apart" : Str)]) fun (t37 : (List Str)) => Option.bind (Option.bind (atI draws_5 (2 : Int)) fun (t36 : Int) => some (t36 % 6)) fun (t38 : Int) => (atI t37 t38)) fun (t40 : Str) => Option.bind (some (smax card_6 other_11)) fun (t41 : Str) => some (⟨t39, t40, t41⟩ : (T3 Str Str Str))) fun (fact_35 : (T3 Str Str Str)) => (some fact_35)) (some fact_16)) fun (s34 : (T3 Str Str Str)) => (ifM (some (!decide (s34 ∈ s3))) (Option.bind (Option.bind (some s34) fun (t43 : (T3 Str Str Str)) => (lApp s3 t43)) fun (facts_42 : (List (T3 Str Str Str))) => (some facts_42)) (some s3)))))))
def m__law_book : (List Int) × (List Str) × Int × Unit → Option (List (T3 Str Str Str)) := fun (g : (List Int) × (List Str) × Int × Unit) => (Option.bind (some [("name" : Str), ("former" : Str), ("way" : Str), ("day" : Str), ("mark" : Str)]) fun (fields_1 : (List Str)) => (Option.bind (some ([] : (List (T3 Str Str Str)))) fun (facts_2 : (List (T3 Str Str Str))) => (Option.bind (Option.bind (some g.1) fun (xs44 : List Int) => forS (S := (List (T3 Str Str Str))) (b__law_book_1 g fields_1) xs44 facts_2) fun (s45 : (List (T3 Str Str Str))) => (sSort s45))))
def b__law_rows_1 (g : (Int × Int × Unit)) (s2 : (List (Int × Str))) (x3 : Int) : (Option (List (Int × Str))) := (Option.bind (some (((x3 * 48271) % (1000000000 : Int)) + (1 : Int))) fun (weight_here_4 : Int) => (Option.bind (ifM (some (decide (((x3 / 20) % 2) = (1 : Int)))) (Option.bind (some ((0 : Int) - weight_here_4)) fun (weight_here_6 : Int) => (some weight_here_6)) (some weight_here_4)) fun (s5 : Int) => (Option.bind (ifM (some (decide (((x3 / 40) % 4) = (0 : Int)))) (Option.bind (atI [(1 : Int), (-(1 : Int))] ((x3 / 160) % 2)) fun (weight_here_8 : Int) => (some weight_here_8)) (some s5)) fun (s7 : Int) => (Option.bind (Option.bind (Option.bind (some s7) fun (t9 : Int) => Option.bind (atI [("name" : Str), ("former" : Str), ("way" : Str), ("day" : Str), ("mark" : Str)] ((g.2.1 + (x3 % 2)) % 5)) fun (t10 : Str) => some (t9, t10)) fun (t12 : (Int × Str)) => (lApp s2 t12)) fun (rows_here_11 : (List (Int × Str))) => (some rows_here_11)))))
def m__law_rows : Int × Int × Unit → Option (List (Int × Str)) := fun (g : Int × Int × Unit) => (Option.bind (some ([] : (List (Int × Str)))) fun (rows_here_1 : (List (Int × Str))) => (Option.bind (Option.bind (m__law_stream (g.1, ((g.1 % 7), ()))) fun (xs13 : List Int) => forS (S := (List (Int × Str))) (b__law_rows_1 g) xs13 rows_here_1) fun (s14 : (List (Int × Str))) => (some s14)))
def b__law_at_1 (g : ((List (List Str)) × Str × Unit)) (s1 : Unit) (x2 : Int) : (Option (Fl Unit Int)) := (ifM (Option.bind (some g.2.1) fun (t3 : Str) => Option.bind (atI g.1 x2) fun (t4 : (List Str)) => some (decide (t3 ∈ t4))) (some (Fl.rt x2)) (some (Fl.nx ())))
def m__law_at : (List (List Str)) × Str × Unit → Option Int := fun (g : (List (List Str)) × Str × Unit) => (thenF (S := Unit) (ρ := Int) (Option.bind (range1 (g.1.length : Int)) fun (xs5 : List Int) => forF (S := Unit) (ρ := Int) (b__law_at_1 g) xs5 ()) (fun (s6 : Unit) => (some (-(1 : Int)))) (fun v => some v) (fun _ => none) (fun _ => none))
def b__law_weight_1 (g : ((List (Int × Str)) × (List (T3 Str Str Str)) × Str × Str × Unit)) (x3 : (Int × Str)) (mine_6 : (List Str)) (x9 : (T3 Str Str Str)) : (Option Bool) := (bAnd (some (decide (x9.a = g.2.2.2.1))) (bAnd (some (decide (x9.b = x3.2))) (some (decide (x9.c ∈ mine_6)))))
def b__law_weight_2 (g : ((List (Int × Str)) × (List (T3 Str Str Str)) × Str × Str × Unit)) (x3 : (Int × Str)) (x7 : (T3 Str Str Str)) : (Option Bool) := (bAnd (some (decide (x7.a = g.2.2.1))) (some (decide (x7.b = x3.2))))
def b__law_weight_3 (g : ((List (Int × Str)) × (List (T3 Str Str Str)) × Str × Str × Unit)) (s2 : Int) (x3 : (Int × Str)) : (Option Int) := (Option.bind (Option.bind (some g.2.1) fun (xs8 : List (T3 Str Str Str)) => lcG (b__law_weight_2 g x3) (fun (x7 : (T3 Str Str Str)) => (some x7.c)) xs8) fun (mine_6 : (List Str)) => (ifM (Option.bind (Option.bind (some g.2.1) fun (xs10 : List (T3 Str Str Str)) => lcG (fun (x9 : (T3 Str Str Str)) => (some true)) (b__law_weight_1 g x3 mine_6) xs10) fun (t11 : (List Bool)) => some (t11.any id)) (Option.bind (some (s2 + x3.1)) fun (weight_here_12 : Int) => (some weight_here_12)) (some s2)))
def m__law_weight : (List (Int × Str)) × (List (T3 Str Str Str)) × Str × Str × Unit → Option Int := fun (g : (List (Int × Str)) × (List (T3 Str Str Str)) × Str × Str × Unit) => (Option.bind (some (0 : Int)) fun (weight_here_1 : Int) => (Option.bind (Option.bind (some g.1) fun (xs13 : List (Int × Str)) => forS (S := Int) (b__law_weight_3 g) xs13 weight_here_1) fun (s14 : Int) => (some s14)))
def b__law_due_1 (g : ((List (Int × Str)) × (List (T3 Str Str Str)) × (List (List Str)) × Unit)) (s24 : (List (Int × Int))) (x25 : (T3 Str Str Str)) : (Option (List (Int × Int))) := (ifM (some (decide (x25.b = ("apart" : Str)))) (Option.bind (m__law_at (g.2.2.1, (x25.a, ()))) fun (i_26 : Int) => (Option.bind (m__law_at (g.2.2.1, (x25.c, ()))) fun (j_27 : Int) => (Option.bind (Option.bind (some ((imin2 i_26 j_27), (imax2 i_26 j_27))) fun (t29 : (Int × Int)) => (lApp s24 t29)) fun (aparts_28 : (List (Int × Int))) => (some aparts_28)))) (some s24))
def b__law_due_2 (g : ((List (Int × Str)) × (List (T3 Str Str Str)) × (List (List Str)) × Unit)) (x3 : Int) (s7 : Int) (x8 : Str) : (Option Int) := (Option.bind (Option.bind (some s7) fun (t13 : Int) => Option.bind (Option.bind (Option.bind (atI g.2.2.1 x3) fun (xs11 : List Str) => lcG (fun (x10 : Str) => (some true)) (fun (x10 : Str) => (m__law_weight (g.1, (g.2.1, (x8, (x10, ())))))) xs11) fun (t12 : (List Int)) => some (List.sum t12)) fun (t14 : Int) => some (t13 + t14)) fun (weight_here_9 : Int) => (some weight_here_9))
def b__law_due_3 (g : ((List (Int × Str)) × (List (T3 Str Str Str)) × (List (List Str)) × Unit)) (x3 : Int) (s4 : (List (T3 Int Int Int))) (x5 : Int) : (Option (List (T3 Int Int Int))) := (Option.bind (some (0 : Int)) fun (weight_here_6 : Int) => (Option.bind (Option.bind (atI g.2.2.1 x5) fun (xs15 : List Str) => forS (S := Int) (b__law_due_2 g x3) xs15 weight_here_6) fun (s16 : Int) => (ifM (some (!decide (s16 = (0 : Int)))) (Option.bind (Option.bind (some (⟨x5, x3, s16⟩ : (T3 Int Int Int))) fun (t18 : (T3 Int Int Int)) => (lApp s4 t18)) fun (pairs_17 : (List (T3 Int Int Int))) => (some pairs_17)) (some s4))))
def b__law_due_4 (g : ((List (Int × Str)) × (List (T3 Str Str Str)) × (List (List Str)) × Unit)) (s2 : (List (T3 Int Int Int))) (x3 : Int) : (Option (List (T3 Int Int Int))) := (Option.bind (Option.bind (range1 x3) fun (xs19 : List Int) => forS (S := (List (T3 Int Int Int))) (b__law_due_3 g x3) xs19 s2) fun (s20 : (List (T3 Int Int Int))) => (some s20))
def m__law_due : (List (Int × Str)) × (List (T3 Str Str Str)) × (List (List Str)) × Unit → Option (T3 Int (List (T3 Int Int Int)) (List (Int × Int))) := fun (g : (List (Int × Str)) × (List (T3 Str Str Str)) × (List (List Str)) × Unit) => (Option.bind (some ([] : (List (T3 Int Int Int)))) fun (pairs_1 : (List (T3 Int Int Int))) => (Option.bind (Option.bind (range1 (g.2.2.1.length : Int)) fun (xs21 : List Int) => forS (S := (List (T3 Int Int Int))) (b__law_due_4 g) xs21 pairs_1) fun (s22 : (List (T3 Int Int Int))) => (Option.bind (some ([] : (List (Int × Int)))) fun (aparts_23 : (List (Int × Int))) => (Option.bind (Option.bind (some g.2.1) fun (xs30 : List (T3 Str Str Str)) => forS (S := (List (Int × Int))) (b__law_due_1 g) xs30 aparts_23) fun (s31 : (List (Int × Int))) => (Option.bind (some (g.2.2.1.length : Int)) fun (t32 : Int) => Option.bind (sSort s22) fun (t33 : (List (T3 Int Int Int))) => Option.bind (tdy s31) fun (t34 : (List (Int × Int))) => some (⟨t32, t33, t34⟩ : (T3 Int (List (T3 Int Int Int)) (List (Int × Int)))))))))
end GK

namespace GK
open PySem PySem.StrLaws TL L2 FK MS
open G (m__law_stream m_cards_of)
open GE (m_blocks_of)
def b__law_blocks_1 (s19 : (List Str)) (x21 : (List Str)) : (Option Bool) := (Option.bind (atI x21 (0 : Int)) fun (t22 : Str) => Option.bind (some s19) fun (t23 : (List Str)) => some (!decide (t22 ∈ t23)))
def b__law_blocks_2 (x12 : (T3 Str Str Str)) (s14 : (List Str)) (x15 : (List Str)) : (Option (List Str)) := (ifM (bOr (some (decide (x12.a ∈ x15))) (some (decide (x12.c ∈ x15)))) (Option.bind (Option.bind (some x15) fun (t17 : (List Str)) => (lCat s14 t17)) fun (joined_16 : (List Str)) => (some joined_16)) (some s14))
def b__law_blocks_3  (s11 : (List (List Str))) (x12 : (T3 Str Str Str)) : (Option (List (List Str))) := (ifM (some (decide (x12.b = ("same" : Str)))) (Option.bind (some ([] : (List Str))) fun (joined_13 : (List Str)) => (Option.bind (Option.bind (some s11) fun (xs18 : List (List Str)) => forS (S := (List Str)) (b__law_blocks_2 x12) xs18 joined_13) fun (s19 : (List Str)) => (Option.bind (Option.bind (Option.bind (some s11) fun (xs24 : List (List Str)) => lcG (b__law_blocks_1 s19) (fun (x21 : (List Str)) => (some x21)) xs24) fun (t27 : (List (List Str))) => Option.bind (Option.bind (sSort s19) fun (t25 : (List Str)) => Option.bind (some ([] : List (List Str))) fun (t26 : List (List Str)) => some (t25 :: t26)) fun (t28 : (List (List Str))) => (lCat t27 t28)) fun (blocks_here_20 : (List (List Str))) => (some blocks_here_20)))) (some s11))
def m__law_blocks : (List (T3 Str Str Str)) × Unit → Option (List (List Str)) := fun (g : (List (T3 Str Str Str)) × Unit) => (Option.bind (Option.bind (Option.bind (some g.1) fun (xs3 : List (T3 Str Str Str)) => lcG (fun (x2 : (T3 Str Str Str)) => (some true)) (fun (x2 : (T3 Str Str Str)) => (some x2.a)) xs3) fun (t6 : (List Str)) => Option.bind (Option.bind (some g.1) fun (xs5 : List (T3 Str Str Str)) => lcG (fun (x4 : (T3 Str Str Str)) => (some (decide (x4.b ∈ (⟨[("same" : Str), ("apart" : Str)]⟩ : (Tl Str)).l)))) (fun (x4 : (T3 Str Str Str)) => (some x4.c)) xs5) fun (t7 : (List Str)) => (lCat t6 t7)) fun (cards_here_1 : (List Str)) => (Option.bind (Option.bind (tdyS cards_here_1) fun (xs10 : List Str) => lcG (fun (x9 : Str) => (some true)) (fun (x9 : Str) => (some [x9])) xs10) fun (blocks_here_8 : (List (List Str))) => (Option.bind (Option.bind (some g.1) fun (xs29 : List (T3 Str Str Str)) => forS (S := (List (List Str))) (b__law_blocks_3) xs29 blocks_here_8) fun (s30 : (List (List Str))) => (sSort s30))))
def b__law_odd_1 (g : ((List (T3 Str Str Str)) × (List (List Str)) × Unit)) (s1 : Unit) (x2 : (T3 Str Str Str)) : (Option (Fl Unit (Option (T3 Str Str Str)))) := (ifM (bAnd (some (decide (x2.b = ("apart" : Str)))) (Option.bind (m__law_at (g.2.1, (x2.a, ()))) fun (t3 : Int) => Option.bind (m__law_at (g.2.1, (x2.c, ()))) fun (t4 : Int) => some (decide (t3 = t4)))) (some (Fl.rt (some x2))) (some (Fl.nx ())))
def m__law_odd : (List (T3 Str Str Str)) × (List (List Str)) × Unit → Option (Option (T3 Str Str Str)) := fun (g : (List (T3 Str Str Str)) × (List (List Str)) × Unit) => (thenF (S := Unit) (ρ := (Option (T3 Str Str Str))) (Option.bind (some g.1) fun (xs5 : List (T3 Str Str Str)) => forF (S := Unit) (ρ := (Option (T3 Str Str Str))) (b__law_odd_1 g) xs5 ()) (fun (s6 : Unit) => (some (none : (Option (T3 Str Str Str))))) (fun v => some v) (fun _ => none) (fun _ => none))
def b__law_is_chain_1 (g : ((List Str) × (T3 Str Str Str) × (List (T3 Str Str Str)) × Unit)) (s5 : Unit) (x6 : (Str × Str)) : (Option (Fl Unit Bool)) := (ifM (some (!decide ((⟨(smin x6.1 x6.2), ("same" : Str), (smax x6.1 x6.2)⟩ : (T3 Str Str Str)) ∈ g.2.2.1))) (some (Fl.rt false)) (some (Fl.nx ())))
def m__law_is_chain : (List Str) × (T3 Str Str Str) × (List (T3 Str Str Str)) × Unit → Option Bool := fun (g : (List Str) × (T3 Str Str Str) × (List (T3 Str Str Str)) × Unit) => (ifM (bOr (some (!true)) (bOr (some (decide ((g.1.length : Int) < (2 : Int)))) (bOr (Option.bind (atI g.1 (0 : Int)) fun (t1 : Str) => Option.bind (some g.2.1.a) fun (t2 : Str) => some (!decide (t1 = t2))) (Option.bind (atI g.1 (-(1 : Int))) fun (t3 : Str) => Option.bind (some g.2.1.c) fun (t4 : Str) => some (!decide (t3 = t4)))))) (some false) (thenF (S := Unit) (ρ := Bool) (Option.bind (some (List.zip (cutA g.1 none (some (-(1 : Int)))) (cutA g.1 (some (1 : Int)) none))) fun (xs9 : List (Str × Str)) => forF (S := Unit) (ρ := Bool) (b__law_is_chain_1 g) xs9 ()) (fun (s10 : Unit) => (some true)) (fun v => some v) (fun _ => none) (fun _ => none)))
end GK

/-! where a card stands: places_of, law_at -/
namespace GK
open PySem PySem.StrLaws TL L2 FK MS
/-- the last block that holds a card -/
def plx : Int → List (List Str) → Str → Option Int
  | _, [], _ => none
  | k, b :: r, z => (plx (k + 1) r z).or (if z ∈ b then some k else none)
/-- the first -/
def fsx : Int → List (List Str) → Str → Option Int
  | _, [], _ => none
  | k, b :: r, z => if z ∈ b then some k else fsx (k + 1) r z
end GK

/-! k44: the rows of the rules -/
namespace GK
open PySem PySem.StrLaws TL L2 FK MS
def FLs : List Str := ["name", "former", "way", "day", "mark"]
def RowK (r : Int × Str) : Prop := -(1000000000) ≤ r.1 ∧ r.1 ≤ 1000000000 ∧ r.1 ≠ 0 ∧ r.2 ∈ FLs
theorem ix_in {α : Type} (l : List α) (i : Int) (h0 : 0 ≤ i) (h1 : i < l.length) : ∃ x, atI l i = some x ∧ x ∈ l := okAt h0 h1
theorem row_one (g : Int × Int × Unit) (s : List (Int × Str)) (x : Int) (hl : s.length ≤ 1000) : ∃ r, RowK r ∧ b__law_rows_1 g s x = some (s ++ [r]) := by
  obtain ⟨f, ef, hf⟩ := ix_in FLs ((g.2.1 + (x % 2)) % 5) (by omega) (by show _ < ((5 : Nat) : Int); omega)
  obtain ⟨w, ew, hw⟩ := ix_in [(1 : Int), (-(1 : Int))] ((x / 160) % 2) (by omega) (by show _ < ((2 : Nat) : Int); omega)
  have hw' : w = 1 ∨ w = -1 := by
    rcases List.mem_cons.mp hw with h | h
    · exact .inl h
    · exact .inr (List.mem_singleton.mp h)
  have ha : ∀ v : Int, RowK (v, f) → ∃ r, RowK r ∧ ((some v).bind fun s7 => (((some s7).bind fun t9 => (atI [("name" : Str), ("former" : Str), ("way" : Str), ("day" : Str), ("mark" : Str)] ((g.2.1 + (x % 2)) % 5)).bind fun t10 => some (t9, t10)).bind fun t12 => lApp s t12).bind fun r => some r) = some (s ++ [r]) := fun v h => by
    refine ⟨(v, f), h, ?_⟩
    simp only [bs]
    rw [show atI [("name" : Str), ("former" : Str), ("way" : Str), ("day" : Str), ("mark" : Str)] ((g.2.1 + (x % 2)) % 5) = some f from ef]
    simp only [bs]
    unfold lApp
    rw [if_pos (by omega)]
    rfl
  unfold b__law_rows_1
  simp only [bs]
  have hs : ∀ c : Bool, ∃ v, ifM (some c) (some (0 - (x * 48271 % 1000000000 + 1))) (some (x * 48271 % 1000000000 + 1)) = some v ∧ -(1000000000) ≤ v ∧ v ≤ 1000000000 ∧ v ≠ 0 := fun c => by
    cases c with
    | true => exact ⟨_, if_t _ _, by omega, by omega, by omega⟩
    | false => exact ⟨_, if_f _ _, by omega, by omega, by omega⟩
  obtain ⟨v, ev, v1, v2, v3⟩ := hs (decide (x / 20 % 2 = 1))
  rw [ev]
  simp only [bs]
  rw [ew]
  simp only [bs]
  cases hc : decide (x / 40 % 4 = 0) with
  | true =>
    rw [if_t]
    refine ha w ⟨?_, ?_, ?_, hf⟩
    · show _ ≤ w; rcases hw' with h | h <;> omega
    · show w ≤ _; rcases hw' with h | h <;> omega
    · show w ≠ 0; rcases hw' with h | h <;> omega
  | false =>
    rw [if_f]
    exact ha v ⟨v1, v2, v3, hf⟩
theorem rows_ok (c f : Int) : Ok (m__law_rows (c, (f, ()))) fun rs => rs.length ≤ 6 ∧ ∀ r ∈ rs, RowK r := by
  obtain ⟨ds, ed, hd, _⟩ := G.stream_ok' c (c % 7) (by omega) (by omega)
  unfold m__law_rows
  simp only [bs]
  rw [ed]
  simp only [bs]
  have hl : ds.length ≤ 6 := by omega
  obtain ⟨rs, er, h1, h2⟩ := okForL (f := b__law_rows_1 (c, (f, ()))) (P := fun p s => s.length = p.length ∧ ∀ r ∈ s, RowK r) (xs := ds) (s := []) ⟨rfl, fun r h => by cases h⟩ fun p x q s e ⟨a, b⟩ => by
    have hp : p.length ≤ 6 := by
      have := congrArg List.length e
      rw [List.length_append] at this
      omega
    obtain ⟨r, hr, e1⟩ := row_one (c, (f, ())) s x (by omega)
    refine ⟨_, e1, by rw [List.length_append, List.length_append, a]; rfl, fun r' h => ?_⟩
    rcases List.mem_append.mp h with h | h
    · exact b r' h
    · rw [List.mem_singleton.mp h]; exact hr
  rw [er]
  simp only [bs]
  exact ⟨rs, rfl, by omega, h2⟩
end GK

/-! k44: the weight of two cards, by the law -/
namespace GK
open PySem PySem.StrLaws TL L2 FK MS
def mine (bk : List (T3 Str Str Str)) (a f : Str) : List Str := (bk.filter fun y => decide (y.a = a) && decide (y.b = f)).map (·.c)
def hit (bk : List (T3 Str Str Str)) (a b : Str) (f : Str) : Bool := bk.any fun x => decide (x.a = b) && (decide (x.b = f) && decide (x.c ∈ mine bk a f))
def lw (rows : List (Int × Str)) (bk : List (T3 Str Str Str)) (a b : Str) : Int := (rows.map fun r => if hit bk a b r.2 = true then r.1 else 0).sum
theorem any_id {α : Type} (u : α → Bool) (xs : List α) : (xs.map u).any id = xs.any u := by
  induction xs with
  | nil => rfl
  | cons x r ih => rw [List.map_cons, List.any_cons, List.any_cons, ih]; rfl
abbrev ruOf (r : Int × Str) : Ru := ⟨"Same", r.1, r.2⟩
end GK

/-! the blocks of a book, joined one by one; Blocks is risen, and parts the cards -/
namespace GK
open PySem PySem.StrLaws TL L2 FK MS GC GE
open PySem.W (DatumOrd listLt)
theorem flat_sub (p : List Str → Bool) : ∀ L : List (List Str), ((L.filter p).flatten).Sublist L.flatten
  | [] => List.Sublist.refl _
  | b :: L => by
    rw [List.filter_cons]
    split
    · rw [List.flatten_cons, List.flatten_cons]
      exact List.Sublist.append (List.Sublist.refl _) (flat_sub p L)
    · rw [List.flatten_cons]
      exact (flat_sub p L).trans (List.sublist_append_right _ _)
theorem sub_rising {α : Type} [DecidableEq α] [DatumOrd α] [Lo α] {l r : List α} (s : l.Sublist r) (h : Rising r) : Rising l := List.Pairwise.sublist s h
theorem frs_sub (r : Str → Str → Bool) : ∀ (l acc : List Str), (frs r acc l).Sublist (acc ++ l)
  | [], acc => by
    rw [List.append_nil]
    exact List.Sublist.refl _
  | x :: l, acc => by
    refine (frs_sub r l _).trans ?_
    split
    · exact List.Sublist.append (List.Sublist.refl _) (List.sublist_cons_self x l)
    · rw [List.append_assoc]
      exact List.Sublist.refl _
/-- the first of a group is its sign -/
theorem frs_least {r : Str → Str → Bool} (sy : ∀ x y, r x y = true → r y x = true) (tr : ∀ x y z, r x y = true → r y z = true → r x z = true) (l : List Str) : Rising l → ∀ c ∈ frs r [] l, ∀ y ∈ l, r c y = true → y = c ∨ DatumOrd.lt c y = true := by
  suffices H : ∀ n (l : List Str), l.length = n → Rising l → ∀ c ∈ frs r [] l, ∀ y ∈ l, r c y = true → y = c ∨ DatumOrd.lt c y = true from H _ l rfl
  intro n
  induction n with
  | zero =>
    intro l hl _ c _ y hy
    rw [List.length_eq_zero_iff.mp hl] at hy
    cases hy
  | succ n ih =>
    intro l hl hr
    rcases List.eq_nil_or_concat l with e | ⟨l', x, e⟩
    · rw [e] at hl; cases hl
    · rw [List.concat_eq_append] at e
      subst e
      have hl' : l'.length = n := by
        rw [List.length_append, List.length_singleton] at hl
        omega
      obtain ⟨r1, _, r3⟩ := List.pairwise_append.mp hr
      have ih := ih l' hl' r1
      intro c hc y hy hcy
      rw [frs_snoc] at hc
      have old : c ∈ frs r [] l' → y = c ∨ DatumOrd.lt c y = true := fun hc => by
        rcases List.mem_append.mp hy with h | h
        · exact ih c hc y h hcy
        · refine .inr (r3 c ?_ y h)
          have := (frs_sub r l' []).subset hc
          rwa [List.nil_append] at this
      split at hc
      · exact old hc
      · rename_i hn
        rcases List.mem_append.mp hc with h | h
        · exact old h
        · rw [List.mem_singleton.mp h] at hcy ⊢
          rcases List.mem_append.mp hy with h | h
          · exfalso
            obtain ⟨c', hc', e⟩ := frs_cover (r := r) l' [] h
            refine hn (List.any_eq_true.mpr ⟨c', hc', ?_⟩)
            rcases e with e | e
            · exact tr _ _ _ e (sy _ _ hcy)
            · rw [e]; exact sy _ _ hcy
          · exact .inl (List.mem_singleton.mp h)
section
variable {r : Str → Str → Bool} {C : List Str} (rf : ∀ x, r x x = true) (sy : ∀ x y, r x y = true → r y x = true) (tr : ∀ x y z, r x y = true → r y z = true → r x z = true) (hC : Rising C)
include rf sy tr hC
theorem bl_of : ∀ b ∈ Bl r C, ∀ x ∈ b, b = C.filter (r x) ∧ x ∈ C := fun b hb x hx => by
  obtain ⟨c, hc, rfl⟩ := List.mem_map.mp hb
  obtain ⟨h1, h2⟩ := List.mem_filter.mp hx
  refine ⟨List.filter_congr fun y _ => ?_, h1⟩
  refine Bool.eq_iff_iff.mpr ⟨fun h => tr _ _ _ (sy _ _ h2) h, fun h => tr _ _ _ h2 h⟩
theorem bl_cover : ∀ x ∈ C, ∃ b ∈ Bl r C, x ∈ b := fun x hx => by
  obtain ⟨c, hc, e⟩ := frs_cover (r := r) C [] hx
  refine ⟨C.filter (r c), List.mem_map_of_mem hc, List.mem_filter.mpr ⟨hx, ?_⟩⟩
  rcases e with e | e
  · exact e
  · rw [e]; exact rf x
theorem bl_has : ∀ x ∈ C, C.filter (r x) ∈ Bl r C := fun x hx => by
  obtain ⟨b, hb, hxb⟩ := bl_cover rf sy tr hC x hx
  rw [← (bl_of rf sy tr hC b hb x hxb).1]
  exact hb
theorem bl_head (c : Str) (hc : c ∈ frs r [] C) : ∃ t, C.filter (r c) = c :: t := by
  have hcC : c ∈ C := by
    have := (frs_sub r C []).subset hc
    rwa [List.nil_append] at this
  have hm : c ∈ C.filter (r c) := List.mem_filter.mpr ⟨hcC, rf c⟩
  have hR : Rising (C.filter (r c)) := sub_rising List.filter_sublist hC
  cases e : C.filter (r c) with
  | nil => rw [e] at hm; cases hm
  | cons h t =>
    have hh : h ∈ C.filter (r c) := by rw [e]; exact List.mem_cons_self
    obtain ⟨h1, h2⟩ := List.mem_filter.mp hh
    rcases frs_least sy tr C hC c hc h h1 h2 with z | z
    · exact ⟨t, by rw [z]⟩
    · rw [e] at hm hR
      rcases List.mem_cons.mp hm with q | q
      · exact ⟨t, by rw [q]⟩
      · have := (List.pairwise_cons.mp hR).1 c q
        rw [Lo.asym this] at z
        cases z
theorem bl_rising : Rising (Bl r C) := by
  have hF : Rising (frs r [] C) := by
    have := frs_sub r C []
    rw [List.nil_append] at this
    exact sub_rising this hC
  unfold Bl
  refine List.pairwise_map.mpr (List.Pairwise.imp_of_mem ?_ hF)
  intro c c' hc hc' h
  obtain ⟨t, e⟩ := bl_head rf sy tr hC c hc
  obtain ⟨t', e'⟩ := bl_head rf sy tr hC c' hc'
  rw [e, e']
  show listLt (c :: t) (c' :: t') = true
  rw [listLt, if_neg (fun z => by rw [z, Lo.irr] at h; cases h)]
  exact h
end
section
variable (bk : List F3) {C : List Str} (hC : Rising C)
theorem cn_rf (x : Str) : dec (Cn bk x x) = true := dec_t (Cn.refl bk x)
theorem dec_e {p : Prop} (h : dec p = true) : p := Classical.byContradiction fun z => by rw [dec_f z] at h; cases h
theorem cn_sy (x y : Str) (h : dec (Cn bk x y) = true) : dec (Cn bk y x) = true := dec_t (dec_e h).symm
theorem cn_tr (x y z : Str) (h : dec (Cn bk x y) = true) (k : dec (Cn bk y z) = true) : dec (Cn bk x z) = true := dec_t ((dec_e h).trans (dec_e k))
end
/-! ### by joins -/
structure LI (pre : List F3) (C : List Str) (L : List (List Str)) : Prop where
  nd : L.flatten.Nodup
  ne : ∀ b ∈ L, b ≠ []
  ri : ∀ b ∈ L, Rising b
  cv : ∀ x ∈ C, ∃ b ∈ L, x ∈ b
  cl : ∀ b ∈ L, ∀ x ∈ b, ∀ y, y ∈ b ↔ y ∈ C ∧ Cn pre x y
theorem LI.inC {pre : List F3} {C : List Str} {L : List (List Str)} (h : LI pre C L) {b : List Str} (hb : b ∈ L) {x : Str} (hx : x ∈ b) : x ∈ C := ((h.cl b hb x hx x).mp hx).1
theorem LI.flat {pre : List F3} {C : List Str} {L : List (List Str)} (h : LI pre C L) : L.flatten.length ≤ C.length := nodup_sub _ _ h.nd fun x hx => by
  obtain ⟨b, hb, hxb⟩ := List.mem_flatten.mp hx
  exact h.inC hb hxb
theorem ne_len : ∀ (L : List (List Str)), (∀ b ∈ L, b ≠ []) → L.length ≤ L.flatten.length
  | [], _ => Nat.le_refl _
  | b :: L, h => by
    have ih := ne_len L fun b hb => h b (List.mem_cons_of_mem _ hb)
    have : 0 < b.length := List.length_pos_iff.mpr (h b List.mem_cons_self)
    rw [List.flatten_cons, List.length_append, List.length_cons]
    omega
theorem LI.len {pre : List F3} {C : List Str} {L : List (List Str)} (h : LI pre C L) : L.length ≤ C.length := Nat.le_trans (ne_len L h.ne) h.flat
theorem LI.nodup {pre : List F3} {C : List Str} {L : List (List Str)} (h : LI pre C L) : L.Nodup := by
  refine List.Pairwise.imp_of_mem ?_ (List.pairwise_flatten.mp h.nd).2
  intro b b' hb hb' d e
  obtain ⟨x, hx⟩ := List.exists_mem_of_ne_nil b (h.ne b hb)
  exact d x hx x (e ▸ hx) rfl
theorem LI.of {pre : List F3} {C : List Str} (hC : Rising C) {L : List (List Str)} (h : LI pre C L) {b : List Str} (hb : b ∈ L) {x : Str} (hx : x ∈ b) : b = C.filter fun y => dec (Cn pre x y) := rising_ext (h.ri b hb) (sub_rising List.filter_sublist hC) fun y => by
  rw [h.cl b hb x hx y, List.mem_filter]
  exact and_congr Iff.rfl ⟨dec_t, dec_e⟩
theorem LI.done {bk : List F3} {C : List Str} (hC : Rising C) {L : List (List Str)} (h : LI bk C L) : srt L = Blocks bk C := by
  refine rising_ext (srt_rising h.nodup) (bl_rising (cn_rf bk) (cn_sy bk) (cn_tr bk) hC) fun b => ?_
  rw [mem_srt']
  constructor
  · intro hb
    obtain ⟨x, hx⟩ := List.exists_mem_of_ne_nil b (h.ne b hb)
    rw [h.of hC hb hx]
    exact bl_has (cn_rf bk) (cn_sy bk) (cn_tr bk) hC x (h.inC hb hx)
  · intro hb
    obtain ⟨x, hx⟩ := List.exists_mem_of_ne_nil b (fun e => by
      have := Bl_ne (r := fun x y => dec (Cn bk x y)) (C := C) (fun c _ => cn_rf bk c) b hb
      rw [e] at this
      exact absurd this (Nat.lt_irrefl 0))
    obtain ⟨e, hxC⟩ := bl_of (cn_rf bk) (cn_sy bk) (cn_tr bk) hC b hb x hx
    obtain ⟨b', hb', hx'⟩ := h.cv x hxC
    rw [e, ← h.of hC hb' hx']
    exact hb'
def jn (f : F3) (L : List (List Str)) : List Str := (L.filter fun b => decide (f.a ∈ b) || decide (f.c ∈ b)).flatten
def nx (f : F3) (L : List (List Str)) : List (List Str) := (L.filter fun b => !decide (b.headD "" ∈ jn f L)) ++ [srt (jn f L)]
section
variable {pre : List F3} {C : List Str} {L : List (List Str)} {f : F3} (h : LI pre C L) (hf : f.b = "same") (ha : f.a ∈ C) (hc : f.c ∈ C)
include h ha hc
omit ha hc in
theorem jn_nd : (jn f L).Nodup := List.Pairwise.sublist (flat_sub _ _) h.nd
include hf
end
end GK

/-! the case of a book: sums by pair of blocks -/
namespace GK
open PySem PySem.StrLaws TL L2 FK MS GC GE
open PySem.W (DatumOrd listLt)
open GW (Fc wt KIND)
/-! ### dicts by any key -/
section
variable {κ α : Type} [DecidableEq κ]
theorem dget_cons_ (p : κ × α) (l : List (κ × α)) (k : κ) : dGet (p :: l) k = if p.1 = k then some p.2 else dGet l k := by
  unfold dGet
  rw [List.find?_cons]
  by_cases h : p.1 = k
  · rw [if_pos h, decide_eq_true h]
    rfl
  · rw [if_neg h, decide_eq_false h]
theorem any_has_ (l : List (κ × α)) (k : κ) : (l.any fun p => decide (p.1 = k)) = (dGet l k).isSome := by
  induction l with
  | nil => rfl
  | cons p l ih =>
    rw [List.any_cons, dget_cons_, ih]
    by_cases h : p.1 = k
    · rw [if_pos h, decide_eq_true h]
      rfl
    · rw [if_neg h, decide_eq_false h]
      rfl
theorem dget_map_ (l : List (κ × α)) (k j : κ) (a : α) : dGet (l.map fun p => if p.1 = k then (p.1, a) else p) j = if j = k then (dGet l j).map fun _ => a else dGet l j := by
  induction l with
  | nil => split <;> rfl
  | cons p l ih =>
    rw [List.map_cons, dget_cons_, dget_cons_, ih]
    by_cases h : p.1 = k
    · rw [if_pos h]
      by_cases hj : p.1 = j
      · rw [if_pos hj, if_pos hj, if_pos (by rw [← hj, h])]
        rfl
      · rw [if_neg hj, if_neg hj]
    · rw [if_neg h]
      by_cases hj : p.1 = j
      · rw [if_pos hj, if_pos hj, if_neg (by rw [← hj]; exact h)]
      · rw [if_neg hj, if_neg hj]
theorem dget_app_ (l : List (κ × α)) (p : κ × α) (j : κ) : dGet (l ++ [p]) j = (dGet l j).or (if p.1 = j then some p.2 else none) := by
  induction l with
  | nil =>
    rw [List.nil_append, dget_cons_]
    split <;> rfl
  | cons q l ih =>
    rw [List.cons_append, dget_cons_, dget_cons_, ih]
    split <;> rfl
theorem dget_put_ (l : List (κ × α)) (k j : κ) (a : α) : dGet (dPut l k a) j = if j = k then some a else dGet l j := by
  unfold dPut
  rw [any_has_]
  cases h : dGet l k with
  | none =>
    rw [if_neg (by simp), dget_app_]
    by_cases hj : j = k
    · rw [if_pos hj, hj, h, if_pos rfl]
      rfl
    · rw [if_neg hj, if_neg (fun e => hj e.symm)]
      cases dGet l j <;> rfl
  | some b =>
    rw [if_pos (show (some b).isSome = true from rfl), dget_map_]
    by_cases hj : j = k
    · rw [if_pos hj, if_pos hj, hj, h]
      rfl
    · rw [if_neg hj, if_neg hj]
theorem len_put_ (l : List (κ × α)) (k : κ) (a : α) : (dPut l k a).length ≤ l.length + 1 := by
  unfold dPut
  split
  · rw [List.length_map]
    omega
  · rw [List.length_append, List.length_singleton]
    exact Nat.le_refl _
end
/-! ### where a card stands -/
def ixOf (B : List (List Str)) (x : Str) : Int := (fsx 0 B x).getD (-1)
structure Part (C : List Str) (B : List (List Str)) : Prop where
  nd : B.flatten.Nodup
  ri : ∀ b ∈ B, Rising b
  mem : ∀ x, x ∈ B.flatten ↔ x ∈ C
theorem fsx_at : ∀ (B : List (List Str)) (k : Int) (i : Nat) (hi : i < B.length) (z : Str), B.flatten.Nodup → z ∈ B[i] → fsx k B z = some (k + i)
  | b :: B, k, 0, _, z, _, hz => by
    unfold fsx
    rw [if_pos (show z ∈ b from hz)]
    exact congrArg some (by omega)
  | b :: B, k, i + 1, hi, z, nd, hz => by
    rw [List.flatten_cons] at nd
    obtain ⟨_, h2, h3⟩ := List.nodup_append.mp nd
    have hi' : i < B.length := by rw [List.length_cons] at hi; omega
    have hz' : z ∈ B[i] := hz
    unfold fsx
    rw [if_neg (fun h => h3 z h z (List.mem_flatten.mpr ⟨_, List.getElem_mem hi', hz'⟩) rfl), fsx_at B (k + 1) i hi' z h2 hz']
    exact congrArg some (by omega)
theorem Part.ix {C : List Str} {B : List (List Str)} (h : Part C B) {x : Str} (hx : x ∈ C) : ∃ i : Nat, ∃ hi : i < B.length, x ∈ B[i] ∧ fsx 0 B x = some (i : Int) ∧ ixOf B x = (i : Int) := by
  obtain ⟨b, hb, hxb⟩ := List.mem_flatten.mp ((h.mem x).mpr hx)
  obtain ⟨i, hi, e⟩ := List.mem_iff_getElem.mp hb
  have hz : x ∈ B[i] := by rw [e]; exact hxb
  have e2 := fsx_at B 0 i hi x h.nd hz
  rw [Int.zero_add] at e2
  exact ⟨i, hi, hz, e2, by unfold ixOf; rw [e2]; rfl⟩
theorem Part.at {C : List Str} {B : List (List Str)} (h : Part C B) {x : Str} {i : Nat} (hi : i < B.length) (hx : x ∈ B[i]) : ixOf B x = (i : Int) ∧ x ∈ C := by
  have e2 := fsx_at B 0 i hi x h.nd hx
  rw [Int.zero_add] at e2
  exact ⟨by unfold ixOf; rw [e2]; rfl, (h.mem x).mp (List.mem_flatten.mpr ⟨_, List.getElem_mem hi, hx⟩)⟩
theorem Part.blk {C : List Str} {B : List (List Str)} (h : Part C B) (hC : Rising C) {i : Nat} (hi : i < B.length) : B[i] = C.filter fun x => decide (ixOf B x = (i : Int)) := rising_ext (h.ri _ (List.getElem_mem hi)) (sub_rising List.filter_sublist hC) fun x => by
  rw [List.mem_filter, decide_eq_true_iff]
  constructor
  · intro hx
    exact ⟨(h.at hi hx).2, (h.at hi hx).1⟩
  · rintro ⟨hx, e⟩
    obtain ⟨j, hj, hz, _, e2⟩ := h.ix hx
    have : i = j := by omega
    subst this
    exact hz
/-! ### sums -/
/-- over all pairs, one ahead of the other -/
def sg (G : Str → Str → Int) : List Str → Int
  | [] => 0
  | a :: r => (r.map (G a)).sum + sg G r
def pr2 (B : List (List Str)) (a b : Str) : Int × Int := (imin2 (ixOf B a) (ixOf B b), imax2 (ixOf B a) (ixOf B b))
def sumF (B : List (List Str)) (p : List (T3 Str Str Int)) (q : Int × Int) : Int := ((p.filter fun x => decide (pr2 B x.a x.b = q)).map (·.c)).sum
/-- the weight of two blocks -/
def bw (rs : List Ru) (bk : List Fc) (x y : List Str) : Int := (x.map fun a => (y.map fun b => wt rs bk a b).sum).sum
/-! ### book_case -/
def gCase (W : Option (List (T3 Str Str Int))) (bk : List (T3 Str Str Str)) : Option (Rs (T3 Int (List (T3 Int Int Int)) (List (Int × Int)))) := (thenF (S := (List (List Str))) (ρ := (Rs (T3 Int (List (T3 Int Int Int)) (List (Int × Int))))) (Option.bind (GE.m_blocks_of (bk, ())) fun (t2 : Rs (List (List Str))) => some t2.fl) (fun (blocks_1 : (List (List Str))) => (Option.bind (m_places_of (blocks_1, ())) fun (places_3 : (Dct Str Int)) => (Option.bind (some (⟨[]⟩ : (Dct (Int × Int) Int))) fun (sums_4 : (Dct (Int × Int) Int)) => (Option.bind (Option.bind W fun (xs18 : List (T3 Str Str Int)) => forS (S := (Dct (Int × Int) Int)) (b_book_case_3 places_3) xs18 sums_4) fun (s19 : (Dct (Int × Int) Int)) => (Option.bind (some ([] : (List (T3 Int Int Int)))) fun (pairs_20 : (List (T3 Int Int Int))) => (Option.bind (Option.bind (sSort (s19.l.map (·.1))) fun (xs30 : List (Int × Int)) => forS (S := (List (T3 Int Int Int))) (b_book_case_2 s19) xs30 pairs_20) fun (s31 : (List (T3 Int Int Int))) => (Option.bind (Option.bind (some bk) fun (xs38 : List (T3 Str Str Str)) => lcG (fun (x33 : (T3 Str Str Str)) => (some (decide (x33.b = ("apart" : Str))))) (b_book_case_1 places_3) xs38) fun (aparts_32 : (List (Int × Int))) => (Option.bind (Option.bind (some (blocks_1.length : Int)) fun (t39 : Int) => Option.bind (some s31) fun (t40 : (List (T3 Int Int Int))) => Option.bind (tdy aparts_32) fun (t41 : (List (Int × Int))) => some (⟨t39, t40, t41⟩ : (T3 Int (List (T3 Int Int Int)) (List (Int × Int))))) fun (t42 : (T3 Int (List (T3 Int Int Int)) (List (Int × Int)))) => some (Rs.ok t42))))))))) (fun v => some v) (fun _ => none) (fun _ => none))
/-- what a list of pairs must be -/
def Prs (B : List (List Str)) (w : Nat → Nat → Int) (R : List (T3 Int Int Int)) : Prop := Rising R ∧ ∀ t, t ∈ R ↔ ∃ i j : Nat, i < j ∧ j < B.length ∧ t = ⟨(i : Int), (j : Int), w i j⟩ ∧ w i j ≠ 0
theorem Prs.uniq {B : List (List Str)} {w : Nat → Nat → Int} {R S : List (T3 Int Int Int)} (h : Prs B w R) (k : Prs B w S) : R = S := rising_ext h.1 k.1 fun t => by rw [h.2, k.2]
def apl (B : List (List Str)) (bk : List Fc) : List (Int × Int) := (bk.filter fun f => decide (f.b = ("apart" : Str))).map fun f => pr2 B f.a f.c
structure SI (B : List (List Str)) (p : List (T3 Str Str Int)) (d : Dct (Int × Int) Int) : Prop where
  get : ∀ q, (dGet d.l q).getD 0 = sumF B p q
  nd : (d.l.map (·.1)).Nodup
  key : ∀ q, q ∈ d.l.map (·.1) ↔ ∃ x ∈ p, pr2 B x.a x.b = q
  len : d.l.length ≤ p.length
end GK

/-! changes told, books changed -/
namespace G
open PySem PySem.StrLaws TL L2 FK MS
section
variable {κ α : Type} [DecidableEq κ]
theorem put_new {l : List (κ × α)} {k : κ} {a : α} (h : k ∉ l.map (·.1)) : dPut l k a = l ++ [(k, a)] := by
  unfold dPut
  rw [any_key, decide_eq_false h]
  exact if_neg Bool.false_ne_true
end
def Chg (one other : List Fact) (f : Fact) : Prop := (f ∈ one ∧ f ∉ other) ∨ (f ∉ one ∧ f ∈ other)
def sg (one : List Fact) (f : Fact) : Str × Fact := (if f ∈ one then "-" else "+", f)
def IsChg (one other : List Fact) (z : List (Str × Fact)) : Prop := ∃ l, Is (Chg one other) l ∧ z = l.map (sg one)
theorem IsChg.uniq {one other : List Fact} {z w : List (Str × Fact)} (h : IsChg one other z) (k : IsChg one other w) : z = w := by
  obtain ⟨l, hl, rfl⟩ := h
  obtain ⟨m, hm, rfl⟩ := k
  rw [hl.uniq hm fun _ => Iff.rfl]
theorem IsChg.mem {one other : List Fact} {z : List (Str × Fact)} (h : IsChg one other z) (s : Str) (f : Fact) : (s, f) ∈ z ↔ (s = "-" ∧ f ∈ one ∧ f ∉ other) ∨ (s = "+" ∧ f ∉ one ∧ f ∈ other) := by
  obtain ⟨l, hl, rfl⟩ := h
  rw [List.mem_map]
  constructor
  · rintro ⟨g, hg, e⟩
    unfold sg at e
    cases e
    rcases (hl.2 _).mp hg with ⟨a, b⟩ | ⟨a, b⟩
    · exact .inl ⟨if_pos a, a, b⟩
    · exact .inr ⟨if_neg a, a, b⟩
  · rintro (⟨rfl, a, b⟩ | ⟨rfl, a, b⟩)
    · exact ⟨f, (hl.2 f).mpr (.inl ⟨a, b⟩), by unfold sg; rw [if_pos a]⟩
    · exact ⟨f, (hl.2 f).mpr (.inr ⟨a, b⟩), by unfold sg; rw [if_neg a]⟩
end G

namespace K42
open PySem PySem.StrLaws TL L2 FK MS
theorem cell_g : m__law_cell_at = G.m__law_cell_at := rfl
abbrev Pi := Int × Int
abbrev Wt := Dct Pi Int
abbrev Dz := Kz Pi Bool
abbrev Rw := List Int × Int
/-! ### rings -/
def pairI (a b : Int) : Pi := (imin2 a b, imax2 a b)
def lk (r : List Int) : List Pi := (List.range (r.length - 1)).map fun k => pairI (r.getD k 0) (r.getD (k + 1) 0)
def gp (r : List Int) : Pi := pairI (r.getD 0 0) (r.getD (r.length - 1) 0)
theorem lk_len (r : List Int) : (lk r).length = r.length - 1 := by
  unfold lk
  rw [List.length_map, List.length_range]
theorem links_run {r : List Int} {b : Int → Option Pi} (h1 : 1 ≤ r.length) (hz : r.length ≤ 1000) (hb : ∀ k : Nat, k + 1 < r.length → b (k : Int) = some (pairI (r.getD k 0) (r.getD (k + 1) 0))) : ((range1 ((r.length : Int) - 1)).bind fun xs => lcG (fun _ => some true) b xs) = some (lk r) := by
  rw [show (r.length : Int) - 1 = ((r.length - 1 : Nat) : Int) by omega, range1_nat _ (by omega)]
  simp only [bs]
  rw [lc_mp (g := fun x : Int => pairI (r.getD x.toNat 0) (r.getD (x.toNat + 1) 0)) (by rw [rng_len]; omega) fun x hx => by
    obtain ⟨k, rfl, hk⟩ := in_rng0 hx
    exact hb k (by omega)]
  refine congrArg some ?_
  unfold lk rng
  rw [List.map_map]
  refine List.map_congr_left fun k _ => ?_
  show pairI (r.getD ((0 : Int) + (k : Int)).toNat 0) _ = _
  rw [show ((0 : Int) + (k : Int)).toNat = k by omega]
theorem at_k {r : List Int} {k : Nat} (h : k < r.length) : atI r (k : Int) = some (r.getD k 0) := by
  rw [atI_nat' r k h, List.getD_eq_getElem?_getD, List.getElem?_eq_getElem h]
  rfl
theorem at_0 {r : List Int} (h : 1 ≤ r.length) : atI r 0 = some (r.getD 0 0) := at_k (k := 0) h
theorem at_k1 {r : List Int} {k : Nat} (h : k + 1 < r.length) : atI r ((k : Int) + 1) = some (r.getD (k + 1) 0) := by
  rw [show (k : Int) + 1 = ((k + 1 : Nat) : Int) by omega]
  exact at_k h
theorem at_last {r : List Int} (h : 1 ≤ r.length) : atI r (-1) = some (r.getD (r.length - 1) 0) := by
  unfold atI ixN
  rw [if_neg (by decide), if_pos (by omega)]
  simp only [bs]
  rw [show (-1 + (r.length : Int)).toNat = r.length - 1 by omega, List.getElem?_eq_getElem (by omega), List.getD_eq_getElem?_getD, List.getElem?_eq_getElem (by omega)]
  rfl
theorem links_ok {r : List Int} (h1 : 1 ≤ r.length) (hz : r.length ≤ 1000) : m_links_of (r, ()) = some (lk r) := by
  unfold m_links_of
  refine links_run (r := r) h1 hz fun k hk => ?_
  have hk : k + 1 < r.length := hk
  unfold b_links_of_1
  simp only [bs]
  rw [at_k (by omega), at_k1 hk]
  rfl
theorem law_links_ok {r : List Int} (h1 : 1 ≤ r.length) (hz : r.length ≤ 1000) : m__law_links (r, ()) = some (lk r) := by
  unfold m__law_links
  refine links_run (r := r) h1 hz fun k hk => ?_
  have hk : k + 1 < r.length := hk
  unfold b__law_links_1
  simp only [bs]
  rw [at_k (by omega), at_k1 hk]
  rfl
theorem pairI_eq {a b c d : Int} (h : pairI a b = pairI c d) : (a = c ∧ b = d) ∨ (a = d ∧ b = c) := by
  unfold pairI at h
  obtain ⟨h1, h2⟩ := Prod.mk.inj h
  unfold imin2 at h1
  unfold imax2 at h2
  split at h1 <;> split at h1 <;> split at h2 <;> split at h2 <;> omega
theorem getD_inj {r : List Int} (nd : r.Nodup) {i j : Nat} (hi : i < r.length) (hj : j < r.length) (e : r.getD i 0 = r.getD j 0) : i = j := by
  rw [List.getD_eq_getElem?_getD, List.getD_eq_getElem?_getD, List.getElem?_eq_getElem hi, List.getElem?_eq_getElem hj] at e
  have p := List.pairwise_iff_getElem.mp nd
  rcases Nat.lt_trichotomy i j with z | z | z
  · exact absurd (Option.some.inj (congrArg some e)) (p i j hi hj z)
  · exact z
  · exact absurd (Option.some.inj (congrArg some e)).symm (p j i hj hi z)
theorem gap_ne {r : List Int} (nd : r.Nodup) (h3 : 3 ≤ r.length) : ∀ x ∈ lk r, x ≠ gp r := fun x hx e => by
  obtain ⟨k, hk, rfl⟩ := List.mem_map.mp hx
  have hk := List.mem_range.mp hk
  rcases pairI_eq e with ⟨a, b⟩ | ⟨a, b⟩
  · have := getD_inj nd (by omega) (by omega) a
    have := getD_inj nd (by omega) (by omega) b
    omega
  · have := getD_inj nd (by omega) (by omega) a
    omega
theorem nd_of : ∀ {l : List Int}, (dd l).length = l.length → l.Nodup
  | [], _ => List.nodup_nil
  | x :: l, h => by
    unfold dd at h
    have := len_dd l
    by_cases hx : x ∈ l
    · rw [if_pos hx, List.length_cons] at h
      omega
    · rw [if_neg hx, List.length_cons, List.length_cons] at h
      exact List.nodup_cons.mpr ⟨hx, nd_of (by omega)⟩
/-! ### a ring is sound -/
section
variable (W : Wt) (D : Dz)
def wt (p : Pi) : Int := (dGet W.l p).getD 0
def okl (p : Pi) : Bool := match dGet D.l p with
  | some h => h
  | none => decide (0 < wt W p)
def okg (p : Pi) : Bool := match dGet D.l p with
  | some h => !h
  | none => decide (wt W p < 0)
def cnt (p : Pi) : Int := bint (!dHas D.l p)
end
theorem forF_cnt {f : Int → Pi → Option (Fl Int Bool)} {ok : Pi → Bool} {c : Pi → Int} : ∀ (xs : List Pi) (s : Int), (∀ x ∈ xs, ∀ s, f s x = some (if ok x = true then .nx (s + c x) else .rt false)) → forF f xs s = some (if xs.all ok = true then .nx (s + (xs.map c).sum) else .rt false)
  | [], s, _ => by
    show some (Fl.nx s) = some (Fl.nx (s + 0))
    rw [Int.add_zero]
  | x :: xs, s, h => by
    unfold forF
    rw [h x List.mem_cons_self s, List.all_cons, List.map_cons, List.sum_cons]
    cases ok x with
    | false => rfl
    | true =>
      rw [if_pos rfl, Bool.true_and, ← Int.add_assoc]
      exact forF_cnt xs (s + c x) fun y hy => h y (List.mem_cons_of_mem _ hy)
def ringOk (r : List Int) : Bool := decide (3 ≤ r.length) && decide ((dd r).length = r.length)
def sound (W : Wt) (D : Dz) (r : List Int) : Bool := ringOk r && (okg W D (gp r) && ((lk r).all (okl W D) && decide (0 < cnt D (gp r) + ((lk r).map (cnt D)).sum)))
theorem is_ring_ok {r : List Int} (hz : r.length ≤ 1000) : m_is_ring (r, ()) = some (ringOk r) := by
  unfold m_is_ring lenS ringOk
  simp only [bs]
  rw [if_pos (by omega)]
  simp only [bs]
  have e : bAnd (some (decide ((3 : Int) ≤ (r.length : Int)))) (some (decide (((dd r).length : Int) = (r.length : Int)))) = some (decide ((3 : Int) ≤ (r.length : Int)) && decide (((dd r).length : Int) = (r.length : Int))) := by
    cases decide ((3 : Int) ≤ (r.length : Int)) <;> rfl
  rw [e]
  rw [show decide ((3 : Int) ≤ (r.length : Int)) = decide (3 ≤ r.length) from decide_eq_decide.mpr (by omega), show decide (((dd r).length : Int) = (r.length : Int)) = decide ((dd r).length = r.length) from decide_eq_decide.mpr (by omega)]
/-! ### the two judge alike -/
theorem forS_cnt {α : Type} {f : Int → α → Option Int} {c : α → Int} : ∀ (xs : List α) (s : Int), (∀ x ∈ xs, ∀ s, f s x = some (s + c x)) → forS f xs s = some (s + (xs.map c).sum)
  | [], s, _ => by
    show some s = some (s + 0)
    rw [Int.add_zero]
  | x :: xs, s, h => by
    show (f s x).bind _ = _
    rw [h x List.mem_cons_self s, List.map_cons, List.sum_cons, ← Int.add_assoc]
    exact forS_cnt xs (s + c x) fun y hy => h y (List.mem_cons_of_mem _ hy)
def lost1 (W : Wt) (x : Pi × Bool) : Int := if x.2 = true then imax2 0 (-(wt W x.1)) else imax2 0 (wt W x.1)
section
variable (W : Wt) (D : Dz) (rows : List Rw) (least : Int)
def lostL : Int := 0 + (D.l.map (lost1 W)).sum
theorem lost_by_ok : m_lost_by (W, (D, ())) = some (lostL W D) := by
  unfold m_lost_by
  simp only [bs]
  rw [forS_cnt (c := lost1 W) _ _ fun x _ s => ?_]
  · rfl
  · unfold b_lost_by_1 lost1 wt
    simp only [bs]
    cases x.2 <;> rfl
theorem leaf3_ok : forS (b__law_leaf_3 (rows, (W, (D, (least, ()))))) D.l 0 = some (lostL W D) := by
  rw [forS_cnt (c := lost1 W) _ _ fun x _ s => ?_]
  · rfl
  · unfold b__law_leaf_3 lost1 wt imax2 iabs
    simp only [bs]
    cases x.2 with
    | true =>
      by_cases hw : (dGet W.l x.1).getD 0 < 0
      · rw [decide_eq_true hw, decide_eq_true rfl, if_t, if_pos rfl, if_pos hw, if_pos (by omega)]
      · rw [decide_eq_false hw, if_pos rfl]
        show some s = some (s + if -(dGet W.l x.1).getD 0 > 0 then -(dGet W.l x.1).getD 0 else 0)
        rw [if_neg (by omega), Int.add_zero]
    | false =>
      by_cases hw : (dGet W.l x.1).getD 0 < 0
      · rw [decide_eq_true hw, if_neg Bool.false_ne_true]
        show some s = some (s + if (dGet W.l x.1).getD 0 > 0 then (dGet W.l x.1).getD 0 else 0)
        rw [if_neg (by omega), Int.add_zero]
      · rw [decide_eq_false hw, decide_eq_true rfl, if_t, if_neg Bool.false_ne_true, if_neg hw]
        by_cases h0 : (dGet W.l x.1).getD 0 > 0
        · rw [if_pos h0]
        · rw [if_neg h0, show (dGet W.l x.1).getD 0 = 0 by omega]
end
theorem has_put (l : List (Pi × Bool)) (k p : Pi) (a : Bool) : dHas (dPut l k a) p = (decide (p = k) || dHas l p) := by
  unfold dHas
  rw [GK.dget_put_]
  by_cases e : p = k
  · rw [if_pos e, decide_eq_true e]
    rfl
  · rw [if_neg e, decide_eq_false e]
    rfl
/-! ### a right never -/
def never (D : Dz) (r : List Int) : Bool := ringOk r && (decide (dGet D.l (gp r) = some false) && (lk r).all fun x => decide (dGet D.l x = some true))
theorem law_never_ok (W : Wt) (D : Dz) {r : List Int} (hz : r.length ≤ 1000) : m__law_ring (r, (W, (D, (true, ())))) = some (never D r) := by
  unfold m__law_ring lenS never
  simp only [bs]
  rw [if_pos (by omega)]
  simp only [bs]
  have e0 : bOr (some (decide ((r.length : Int) < 3))) (some (!decide (((dd r).length : Int) = (r.length : Int)))) = some (!ringOk r) := by
    unfold ringOk
    by_cases h3 : 3 ≤ r.length
    · rw [decide_eq_true h3, decide_eq_false (show ¬ ((r.length : Int) < 3) by omega), or_f, Bool.true_and]
      refine congrArg some (congrArg (!·) (decide_eq_decide.mpr (by omega)))
    · rw [decide_eq_false h3, decide_eq_true (show ((r.length : Int) < 3) by omega), or_t]
      rfl
  rw [e0]
  cases hr : ringOk r with
  | false => rfl
  | true =>
    obtain ⟨h3, hd⟩ := (Bool.and_eq_true _ _).mp hr
    have h3 : 3 ≤ r.length := of_decide_eq_true h3
    have nd : r.Nodup := nd_of (of_decide_eq_true hd)
    rw [nt, if_f, at_0 (by omega), at_last (by omega)]
    simp only [bs]
    show (Option.bind (some (gp r)) _) = _
    simp only [bs]
    rw [law_links_ok (by omega) hz]
    simp only [bs]
    rw [show lCat (lk r) [gp r] = some (lk r ++ [gp r]) from if_pos (by rw [lk_len, List.length_singleton]; omega)]
    simp only [bs]
    rw [forF_cnt (ok := fun x => if x = gp r then decide (dGet D.l x = some false) else decide (dGet D.l x = some true)) (c := fun _ => 0) _ _ fun x _ s => ?_]
    · have ea : ((lk r ++ [gp r]).all fun x => if x = gp r then decide (dGet D.l x = some false) else decide (dGet D.l x = some true)) = (decide (dGet D.l (gp r) = some false) && (lk r).all fun x => decide (dGet D.l x = some true)) := by
        rw [List.all_append, Bool.and_comm]
        have q1 : ([gp r].all fun x => if x = gp r then decide (dGet D.l x = some false) else decide (dGet D.l x = some true)) = decide (dGet D.l (gp r) = some false) := by rw [List.all_cons, List.all_nil, Bool.and_true, if_pos rfl]
        have q2 : ((lk r).all fun x => if x = gp r then decide (dGet D.l x = some false) else decide (dGet D.l x = some true)) = (lk r).all fun x => decide (dGet D.l x = some true) := by
          rw [Bool.eq_iff_iff, List.all_eq_true, List.all_eq_true]
          exact ⟨fun h x hx => by have := h x hx; rwa [if_neg (gap_ne nd h3 x hx)] at this, fun h x hx => by rw [if_neg (gap_ne nd h3 x hx)]; exact h x hx⟩
        rw [q1, q2]
      rw [ea, Bool.true_and]
      cases (decide (dGet D.l (gp r) = some false) && (lk r).all fun x => decide (dGet D.l x = some true)) with
      | false => exact then_rt _ _ _ _ _
      | true =>
        rw [if_pos rfl, then_nx]
        exact or_t _
    · unfold b__law_ring_1 dHas
      simp only [bs]
      by_cases hx : x = gp r
      · rw [if_pos hx, decide_eq_true hx]
        cases hd : dGet D.l x with
        | some h => cases h <;> (show some _ = some _; rw [Int.add_zero]; rfl)
        | none => rfl
      · rw [if_neg hx, decide_eq_false hx]
        cases hd : dGet D.l x with
        | some h => cases h <;> (show some _ = some _; rw [Int.add_zero]; rfl)
        | none => rfl
theorem all_id {α : Type} (f : α → Bool) (l : List α) : (l.map f).all id = l.all f := by
  rw [List.all_map]
  rfl
theorem is_never_ok (D : Dz) {r : List Int} (hz : r.length ≤ 1000) : m_is_never (r, (D, ())) = some (never D r) := by
  unfold m_is_never never
  simp only [bs]
  rw [is_ring_ok hz]
  simp only [bs]
  cases hr : ringOk r with
  | false =>
    rw [show (!false) = true from rfl, or_t, if_t]
    rfl
  | true =>
    obtain ⟨h3, hd⟩ := (Bool.and_eq_true _ _).mp hr
    have h3 : 3 ≤ r.length := of_decide_eq_true h3
    rw [nt, or_f, at_0 (by omega), at_last (by omega)]
    simp only [bs]
    show ifM ((Option.bind (some (gp r)) _).bind _) _ _ = _
    simp only [bs]
    rw [links_ok (by omega) hz]
    simp only [bs]
    cases decide (dGet D.l (gp r) = some false) with
    | false => rfl
    | true =>
      rw [nt, if_f, lc_mp (g := fun x => decide (dGet D.l x = some true)) (by rw [lk_len]; omega) fun _ _ => rfl]
      simp only [bs]
      rw [all_id]
      rfl
/-! ### papers -/
def PO : Pap → Prop
  | .never r => r.length ≤ 20
  | .rings rows => rows = []
  | .case i j h q => 0 ≤ i ∧ j ≤ 5 ∧ PO h ∧ PO q
def dep : Pap → Nat
  | .case _ _ h q => max (dep h) (dep q) + 1
  | _ => 1
def jd (W : Wt) (least : Int) : Pap → Dz → Bool
  | .never r, D => never D r
  | .rings _, D => decide (least ≤ lostL W D)
  | .case i j h q, D => if j ≤ i ∨ dHas D.l (i, j) = true then false else jd W least h ⟨dPut D.l (i, j) true⟩ && jd W least q ⟨dPut D.l (i, j) false⟩
theorem hPi_small : ∀ a b c d : Fin 6, hPi ((a.val : Int), (b.val : Int)) = hPi ((c.val : Int), (d.val : Int)) → a = c ∧ b = d := by decide +kernel
structure SD (D : Dz) : Prop where
  nd : (D.l.map (·.1)).Nodup
  inr : ∀ k ∈ D.l.map (·.1), 0 ≤ k.1 ∧ k.1 < k.2 ∧ k.2 ≤ 5
theorem hPi_inj {p q : Pi} (hp : 0 ≤ p.1 ∧ p.1 < p.2 ∧ p.2 ≤ 5) (hq : 0 ≤ q.1 ∧ q.1 < q.2 ∧ q.2 ≤ 5) (e : hPi p = hPi q) : p = q := by
  obtain ⟨a, b⟩ := p
  obtain ⟨c, d⟩ := q
  dsimp only at hp hq
  obtain ⟨a', rfl, ha⟩ : ∃ n : Nat, a = (n : Int) ∧ n < 6 := ⟨a.toNat, by omega, by omega⟩
  obtain ⟨b', rfl, hb⟩ : ∃ n : Nat, b = (n : Int) ∧ n < 6 := ⟨b.toNat, by omega, by omega⟩
  obtain ⟨c', rfl, hc⟩ : ∃ n : Nat, c = (n : Int) ∧ n < 6 := ⟨c.toNat, by omega, by omega⟩
  obtain ⟨d', rfl, hd⟩ : ∃ n : Nat, d = (n : Int) ∧ n < 6 := ⟨d.toNat, by omega, by omega⟩
  obtain ⟨e1, e2⟩ := hPi_small ⟨a', ha⟩ ⟨b', hb⟩ ⟨c', hc⟩ ⟨d', hd⟩ e
  have e1 : a' = c' := congrArg Fin.val e1
  have e2 : b' = d' := congrArg Fin.val e2
  rw [e1, e2]
theorem SD.hash {D : Dz} (h : SD D) : (D.l.map fun x => hPi x.1).Nodup := by
  rw [show (D.l.map fun x => hPi x.1) = (D.l.map (·.1)).map hPi by rw [List.map_map]; rfl]
  refine List.pairwise_map.mpr (h.nd.imp_of_mem fun {a b} ha hb ne e => ne (hPi_inj (h.inr a ha) (h.inr b hb) e))
theorem SD.copy {D : Dz} (h : SD D) : dCopy D.d = some D.d := if_pos h.hash
theorem not_has {l : List (Pi × Bool)} {k : Pi} (h : dHas l k = false) : k ∉ l.map (·.1) := fun hm => by
  have : dHas l k = true := by
    unfold dHas dGet
    rw [Option.isSome_map, List.find?_isSome]
    obtain ⟨q, hq, rfl⟩ := List.mem_map.mp hm
    exact ⟨q, hq, decide_eq_true rfl⟩
  rw [this] at h
  cases h
theorem SD.put {D : Dz} (h : SD D) {i j : Int} (h0 : 0 ≤ i) (hij : i < j) (h5 : j ≤ 5) (hn : dHas D.l (i, j) = false) (b : Bool) : SD (⟨dPut D.l (i, j) b⟩ : Dz) ∧ (dPut D.l (i, j) b).length = D.l.length + 1 := by
  have e : dPut D.l (i, j) b = D.l ++ [((i, j), b)] := G.put_new (not_has hn)
  refine ⟨⟨?_, fun k hk => ?_⟩, by rw [e, List.length_append, List.length_singleton]⟩
  · show ((dPut D.l (i, j) b).map (·.1)).Nodup
    rw [e, List.map_append]
    refine List.nodup_append.mpr ⟨h.nd, List.nodup_cons.mpr ⟨List.not_mem_nil, List.nodup_nil⟩, fun a ha c hc ne => ?_⟩
    rw [List.mem_singleton.mp hc] at ne
    have ne : a = (i, j) := ne
    rw [ne] at ha
    exact not_has hn ha
  · have hk : k ∈ (dPut D.l (i, j) b).map (·.1) := hk
    rw [e, List.map_append] at hk
    rcases List.mem_append.mp hk with w | w
    · exact h.inr k w
    · rw [List.mem_singleton.mp w]
      exact ⟨h0, hij, h5⟩
theorem lost_same {W W' : Wt} (hW : ∀ p, dGet W'.l p = dGet W.l p) (D : Dz) : lostL W' D = lostL W D := by
  have e : lost1 W' = lost1 W := by
    funext x
    unfold lost1 wt
    rw [hW]
  unfold lostL
  rw [e]
theorem dset_ok {l : List (Pi × Bool)} (k : Pi) (b : Bool) (h : l.length < 16000000) : dSet (⟨l⟩ : Dct Pi Bool) k b = some ⟨dPut l k b⟩ := if_pos h
theorem case_guard (i j : Int) (D : Dz) : bOr (some (decide (j ≤ i))) (some (dHas D.l (i, j))) = some (decide (j ≤ i ∨ dHas D.l (i, j) = true)) := by
  by_cases h : j ≤ i
  · rw [decide_eq_true h, or_t, decide_eq_true (.inl h)]
  · rw [decide_eq_false h, or_f]
    refine congrArg some ?_
    cases e : dHas D.l (i, j) with
    | true => rw [decide_eq_true (.inr rfl)]
    | false => rw [decide_eq_false fun z => z.elim h Bool.false_ne_true]
theorem walked_ok {W W' : Wt} (least : Int) (hW : ∀ p, dGet W'.l p = dGet W.l p) : ∀ (n : Nat) (p : Pap) (D : Dz), dep p ≤ n → PO p → SD D → D.l.length + n ≤ 1000 → m_walked n (p, (W', (D, (least, ())))) = some (jd W least p D)
  | 0, p, _, h, _, _, _ => by cases p <;> (unfold dep at h; omega)
  | n + 1, p, D, h, hp, hd, hl => by
    show st_walked (m_walked n) _ = _
    unfold st_walked
    cases p with
    | never r =>
      refine (if_t _ _).trans ?_
      simp only [bs, Pap.nev]
      rw [is_never_ok D (by have : r.length ≤ 20 := hp; omega)]
      rfl
    | rings rows =>
      obtain rfl : rows = [] := hp
      refine (if_f _ _).trans ((if_t _ _).trans ?_)
      simp only [bs, Pap.rgs]
      unfold m_rings_show
      simp only [bs]
      rw [lost_by_ok]
      simp only [bs]
      show thenF (some (Fl.nx _)) _ _ _ _ = _
      rw [then_nx, lost_same hW]
      rfl
    | case i j u q =>
      obtain ⟨h0, h5, hu, hq⟩ := (show 0 ≤ i ∧ j ≤ 5 ∧ PO u ∧ PO q from hp)
      have hdep : max (dep u) (dep q) + 1 ≤ n + 1 := h
      refine (if_f _ _).trans ((if_f _ _).trans ?_)
      simp only [bs, Pap.i1, Pap.i2, Pap.s3, Pap.s4]
      rw [case_guard]
      show _ = some (if j ≤ i ∨ dHas D.l (i, j) = true then false else _)
      by_cases hg : j ≤ i ∨ dHas D.l (i, j) = true
      · rw [decide_eq_true hg, if_t, if_pos hg]
      · rw [decide_eq_false hg, if_f, if_neg hg]
        have hij : i < j := Int.not_le.mp fun z => hg (.inl z)
        have hn : dHas D.l (i, j) = false := by
          cases e : dHas D.l (i, j) with
          | false => rfl
          | true => exact absurd (.inr e) hg
        have w : ∀ b : Bool, m_with_pair (D, ((i, j), (b, ()))) = some ⟨dPut D.l (i, j) b⟩ := fun b => by
          unfold m_with_pair
          simp only [bs]
          rw [hd.copy]
          simp only [bs]
          rw [bsr]
          exact dset_ok _ _ (show D.l.length < _ by omega)
        obtain ⟨s1, l1⟩ := hd.put h0 hij h5 hn true
        obtain ⟨s2, l2⟩ := hd.put h0 hij h5 hn false
        rw [w true, w false]
        simp only [bs]
        rw [walked_ok least hW n u ⟨dPut D.l (i, j) true⟩ (by omega) hu s1 (by show (dPut D.l (i, j) true).length + n ≤ 1000; omega)]
        rw [walked_ok least hW n q ⟨dPut D.l (i, j) false⟩ (by omega) hq s2 (by show (dPut D.l (i, j) false).length + n ≤ 1000; omega)]
        simp only [bs]
        cases jd W least u ⟨dPut D.l (i, j) true⟩ <;> rfl
theorem judge_ok (W : Wt) (least : Int) : ∀ (n : Nat) (p : Pap) (D : Dz), dep p ≤ n → PO p → SD D → D.l.length + n ≤ 1000 → m__law_judge n (p, (W, (D, (least, ())))) = some (jd W least p D)
  | 0, p, _, h, _, _, _ => by cases p <;> (unfold dep at h; omega)
  | n + 1, p, D, h, hp, hd, hl => by
    show st__law_judge (m__law_judge n) _ = _
    unfold st__law_judge
    cases p with
    | never r =>
      refine (if_t _ _).trans ?_
      simp only [bs, Pap.nev]
      rw [law_never_ok W D (by have : r.length ≤ 20 := hp; omega)]
      rfl
    | rings rows =>
      obtain rfl : rows = [] := hp
      refine (if_f _ _).trans ((if_t _ _).trans ?_)
      simp only [bs, Pap.rgs]
      unfold m__law_leaf
      simp only [bs]
      rw [leaf3_ok]
      simp only [bs]
      show thenF (some (Fl.nx _)) _ _ _ _ = _
      rw [then_nx]
      rfl
    | case i j u q =>
      obtain ⟨h0, h5, hu, hq⟩ := (show 0 ≤ i ∧ j ≤ 5 ∧ PO u ∧ PO q from hp)
      have hdep : max (dep u) (dep q) + 1 ≤ n + 1 := h
      refine (if_f _ _).trans ((if_f _ _).trans ?_)
      simp only [bs, Pap.i1, Pap.i2, Pap.s3, Pap.s4]
      rw [case_guard]
      show _ = some (if j ≤ i ∨ dHas D.l (i, j) = true then false else _)
      by_cases hg : j ≤ i ∨ dHas D.l (i, j) = true
      · rw [decide_eq_true hg, if_t, if_pos hg]
      · rw [decide_eq_false hg, if_f, if_neg hg]
        have hij : i < j := Int.not_le.mp fun z => hg (.inl z)
        have hn : dHas D.l (i, j) = false := by
          cases e : dHas D.l (i, j) with
          | false => rfl
          | true => exact absurd (.inr e) hg
        obtain ⟨s1, l1⟩ := hd.put h0 hij h5 hn true
        obtain ⟨s2, l2⟩ := hd.put h0 hij h5 hn false
        rw [hd.copy]
        simp only [bs]
        rw [dset_ok (i, j) true (by omega), dset_ok (i, j) false (by omega)]
        simp only [bs]
        rw [judge_ok W least n u ⟨dPut D.l (i, j) true⟩ (by omega) hu s1 (by show (dPut D.l (i, j) true).length + n ≤ 1000; omega)]
        rw [judge_ok W least n q ⟨dPut D.l (i, j) false⟩ (by omega) hq s2 (by show (dPut D.l (i, j) false).length + n ≤ 1000; omega)]
        exact G.and_eq _ _
/-! ### the paper told -/
abbrev P3 := T3 Int Int Bool
def kOf (x : P3) : Pi := (x.a, x.b)
def pp1 (x : P3) (p : Pap) : Pap := if x.c = true then .case x.a x.b p (.rings []) else .case x.a x.b (.rings []) p
def pp (r : List Int) (ps : List P3) : Pap := ps.foldr pp1 (.never r)
theorem paper_ok (r t : List Int) (ps : List P3) : m__law_paper (r, ((⟨t⟩ : Fz (List Int)), (ps, ()))) = some (pp t ps) := by
  unfold m__law_paper
  simp only [bs]
  rw [forS_map (g := fun s x => pp1 x s) _ _ fun s x _ => ?_, List.foldl_reverse]
  · rfl
  · unfold b__law_paper_1 pp1
    simp only [bs]
    cases x.c <;> rfl
theorem pp_PO {t : List Int} (ht : t.length ≤ 20) : ∀ {ps : List P3}, (∀ x ∈ ps, 0 ≤ x.a ∧ x.b ≤ 5) → PO (pp t ps)
  | [], _ => ht
  | x :: ps, h => by
    show PO (pp1 x (pp t ps))
    have ih := pp_PO ht fun y hy => h y (List.mem_cons_of_mem x hy)
    have hx := h x List.mem_cons_self
    unfold pp1
    split
    · exact ⟨hx.1, hx.2, ih, rfl⟩
    · exact ⟨hx.1, hx.2, rfl, ih⟩
theorem pp_dep (t : List Int) : ∀ ps : List P3, dep (pp t ps) ≤ ps.length + 1
  | [] => Nat.le_refl 1
  | x :: ps => by
    show dep (pp1 x (pp t ps)) ≤ _
    have ih := pp_dep t ps
    rw [List.length_cons]
    unfold pp1
    split
    · show max (dep (pp t ps)) 1 + 1 ≤ _
      omega
    · show max 1 (dep (pp t ps)) + 1 ≤ _
      omega
theorem lost_nonneg (W : Wt) (D : Dz) : 0 ≤ lostL W D := by
  have h : ∀ l : List (Pi × Bool), 0 ≤ (l.map (lost1 W)).sum := fun l => by
    induction l with
    | nil => exact Int.le_refl 0
    | cons x l ih =>
      rw [List.map_cons, List.sum_cons]
      have : 0 ≤ lost1 W x := by
        unfold lost1 imax2
        repeat' split
        all_goals omega
      omega
  have := h D.l
  unfold lostL
  omega
theorem due_ok (W : Wt) {least : Int} (hl : least ≤ 0) {r : List Int} (hr : ringOk r = true) : ∀ (ps : List P3) (D : Dz), (ps.map kOf).Nodup → (∀ x ∈ ps, x.a < x.b ∧ dHas D.l (kOf x) = false) →
    (∀ k ∈ lk r, dGet D.l k = some true ∨ ∃ x ∈ ps, kOf x = k ∧ x.c = true) → (dGet D.l (gp r) = some false ∨ ∃ x ∈ ps, kOf x = gp r ∧ x.c = false) → jd W least (pp r ps) D = true
  | [], D, _, _, h1, h2 => by
    show never D r = true
    unfold never
    rw [hr, Bool.true_and, Bool.and_eq_true]
    refine ⟨decide_eq_true (h2.elim id fun ⟨x, hx, _⟩ => absurd hx List.not_mem_nil), List.all_eq_true.mpr fun k hk => decide_eq_true ((h1 k hk).elim id fun ⟨x, hx, _⟩ => absurd hx List.not_mem_nil)⟩
  | x :: ps, D, nd, hx, h1, h2 => by
    rw [List.map_cons] at nd
    obtain ⟨n1, n2⟩ := List.nodup_cons.mp nd
    obtain ⟨hab, hn⟩ := hx x List.mem_cons_self
    have hn : dHas D.l (x.a, x.b) = false := hn
    have ng : ¬(x.b ≤ x.a ∨ dHas D.l (x.a, x.b) = true) := fun z => z.elim (fun z => absurd hab (Int.not_lt.mpr z)) fun z => by rw [hn] at z; cases z
    have ih : jd W least (pp r ps) ⟨dPut D.l (x.a, x.b) x.c⟩ = true := by
      refine due_ok W hl hr ps _ n2 (fun y hy => ⟨(hx y (List.mem_cons_of_mem x hy)).1, ?_⟩) (fun k hk => ?_) ?_
      · show dHas (dPut D.l (x.a, x.b) x.c) (kOf y) = false
        rw [has_put, (hx y (List.mem_cons_of_mem x hy)).2, Bool.or_false]
        exact decide_eq_false fun e => n1 (List.mem_map.mpr ⟨y, hy, e⟩)
      · show dGet (dPut D.l (x.a, x.b) x.c) k = some true ∨ _
        rw [GK.dget_put_]
        by_cases e : k = (x.a, x.b)
        · rw [if_pos e]
          rcases h1 k hk with z | ⟨y, hy, ey, yc⟩
          · unfold dHas at hn
            rw [← e, z] at hn
            cases hn
          · rcases List.mem_cons.mp hy with w | w
            · rw [← w, yc]
              exact .inl rfl
            · exact .inr ⟨y, w, ey, yc⟩
        · rw [if_neg e]
          rcases h1 k hk with z | ⟨y, hy, ey, yc⟩
          · exact .inl z
          · rcases List.mem_cons.mp hy with w | w
            · rw [w] at ey
              exact absurd ey.symm e
            · exact .inr ⟨y, w, ey, yc⟩
      · show dGet (dPut D.l (x.a, x.b) x.c) (gp r) = some false ∨ _
        rw [GK.dget_put_]
        by_cases e : gp r = (x.a, x.b)
        · rw [if_pos e]
          rcases h2 with z | ⟨y, hy, ey, yc⟩
          · unfold dHas at hn
            rw [← e, z] at hn
            cases hn
          · rcases List.mem_cons.mp hy with w | w
            · rw [← w, yc]
              exact .inl rfl
            · exact .inr ⟨y, w, ey, yc⟩
        · rw [if_neg e]
          rcases h2 with z | ⟨y, hy, ey, yc⟩
          · exact .inl z
          · rcases List.mem_cons.mp hy with w | w
            · rw [w] at ey
              exact absurd ey.symm e
            · exact .inr ⟨y, w, ey, yc⟩
    have hz : ∀ D : Dz, jd W least (.rings []) D = true := fun D => decide_eq_true (Int.le_trans hl (lost_nonneg W D))
    show jd W least (pp1 x (pp r ps)) D = true
    unfold pp1
    cases hc : x.c with
    | true =>
      rw [if_pos rfl]
      show (if x.b ≤ x.a ∨ dHas D.l (x.a, x.b) = true then false else jd W least (pp r ps) ⟨dPut D.l (x.a, x.b) true⟩ && jd W least (.rings []) ⟨dPut D.l (x.a, x.b) false⟩) = true
      rw [if_neg ng, hz, Bool.and_true]
      rw [hc] at ih
      exact ih
    | false =>
      rw [if_neg Bool.false_ne_true]
      show (if x.b ≤ x.a ∨ dHas D.l (x.a, x.b) = true then false else jd W least (.rings []) ⟨dPut D.l (x.a, x.b) true⟩ && jd W least (pp r ps) ⟨dPut D.l (x.a, x.b) false⟩) = true
      rw [if_neg ng, hz, Bool.true_and]
      rw [hc] at ih
      exact ih
/-! ### the ring drawn -/
structure Rg (m : Nat) (r : List Int) : Prop where
  nd : r.Nodup
  inr : ∀ x ∈ r, 0 ≤ x ∧ x < m
  h3 : 3 ≤ r.length
  hm : r.length ≤ m
theorem erase_pm : ∀ (ys : List Int) (j : Nat) (h : j < ys.length), (ys[j] :: ys.eraseIdx j).Perm ys
  | y :: ys, 0, _ => List.Perm.refl _
  | y :: ys, j + 1, h => (List.Perm.swap y _ _).trans (List.Perm.cons y (erase_pm ys j (Nat.lt_of_succ_lt_succ h)))
theorem okPop {ys xs : List Int} {k : Int} (h0 : 0 ≤ k) (h1 : k < ys.length) (hy : ys.length ≤ 1000) (hx : xs.length ≤ 1000) : Ok (popApp ys xs k) fun q => (q.2 ++ q.1).Perm (xs ++ ys) ∧ q.1.length + 1 = ys.length ∧ q.2.length = xs.length + 1 := by
  obtain ⟨j, rfl⟩ := Int.eq_ofNat_of_zero_le h0
  unfold popApp ixN
  rw [if_pos ⟨by omega, by omega⟩, if_pos h0, if_pos h1]
  simp only [bs]
  rw [show ((j : Nat) : Int).toNat = j from rfl, List.getElem?_eq_getElem (by omega)]
  simp only [bs]
  refine .ret ⟨?_, ?_, by rw [List.length_append, List.length_singleton]⟩
  · show ((xs ++ [ys[j]]) ++ ys.eraseIdx j).Perm (xs ++ ys)
    rw [List.append_assoc]
    exact List.Perm.append_left xs (erase_pm ys j (by omega))
  · rw [List.length_eraseIdx_of_lt (by omega)]
    omega
theorem drawn_ok (m : Nat) (c : Int) (h3 : 3 ≤ m) (h6 : m ≤ 6) : Ok (m__law_ring_drawn ((m : Int), (c, ()))) (Rg m) := by
  unfold m__law_ring_drawn
  simp only [bs]
  rw [show lrange1 (m : Int) = some (rng 0 m) from if_pos (by omega)]
  simp only [bs]
  obtain ⟨t, et, ht⟩ := okMod (x := c) (y := (m : Int) - 2) (by omega)
  rw [et]
  simp only [bs]
  obtain ⟨n, hn, h3n, hnm⟩ : ∃ n : Nat, (3 : Int) + t = (n : Int) ∧ 3 ≤ n ∧ n ≤ m := ⟨(3 + t).toNat, by omega, by omega, by omega⟩
  rw [hn, range1_nat n (by omega)]
  simp only [bs]
  refine (okForR (fun k (s : Int × List Int × List Int) => s.2.1.length = k ∧ s.2.2.length + k = m ∧ (s.2.1 ++ s.2.2).Perm (rng 0 m)) ⟨rfl, by rw [rng_len]; omega, List.Perm.refl _⟩ fun k s hk hs => ?_).bind fun s ⟨e1, e2, e3⟩ => .ret ⟨?_, fun x hx => ?_, by omega, by omega⟩
  · unfold b__law_ring_drawn_1
    simp only [bs, Option.bind_assoc]
    obtain ⟨s1, s2, s3⟩ := hs
    refine (okMod (by omega)).bind fun y hy => (okPop hy.2.1 hy.2.2 (by omega) (by omega)).bind fun q hq => .ret ⟨?_, ?_, ?_⟩
    · show q.2.length = k + 1
      omega
    · show q.1.length + (k + 1) = m
      omega
    · exact hq.1.trans s3
  · have nr : (rng 0 m).Nodup := List.pairwise_map.mpr (List.nodup_range.imp fun {a b} ne e => ne (by omega))
    exact (List.nodup_append.mp (e3.nodup_iff.mpr nr)).1
  · obtain ⟨k, rfl, hk⟩ := in_rng0 (e3.subset (List.mem_append_left _ hx))
    exact ⟨by omega, by omega⟩
theorem Rg.ok {m : Nat} {r : List Int} (h : Rg m r) : ringOk r = true := by
  unfold ringOk
  rw [Bool.and_eq_true]
  refine ⟨decide_eq_true h.h3, decide_eq_true ?_⟩
  rw [dd_of_nodup h.nd]
theorem Rg.pair {m : Nat} {r : List Int} (h : Rg m r) (h6 : m ≤ 6) {i j : Nat} (hi : i < r.length) (hj : j < r.length) (ne : i ≠ j) : 0 ≤ (pairI (r.getD i 0) (r.getD j 0)).1 ∧ (pairI (r.getD i 0) (r.getD j 0)).1 < (pairI (r.getD i 0) (r.getD j 0)).2 ∧ (pairI (r.getD i 0) (r.getD j 0)).2 ≤ 5 := by
  have e : ∀ k, k < r.length → r.getD k 0 ∈ r := fun k hk => by
    rw [List.getD_eq_getElem?_getD, List.getElem?_eq_getElem hk]
    exact List.getElem_mem hk
  have a := h.inr _ (e i hi)
  have b := h.inr _ (e j hj)
  have n : r.getD i 0 ≠ r.getD j 0 := fun z => ne (getD_inj h.nd hi hj z)
  unfold pairI imin2 imax2
  dsimp only
  repeat' split
  all_goals omega
theorem Rg.lk_in {m : Nat} {r : List Int} (h : Rg m r) (h6 : m ≤ 6) : ∀ k ∈ lk r, 0 ≤ k.1 ∧ k.1 < k.2 ∧ k.2 ≤ 5 := fun k hk => by
  obtain ⟨i, hi, rfl⟩ := List.mem_map.mp hk
  have hi := List.mem_range.mp hi
  exact h.pair h6 (by omega) (by omega) (by omega)
theorem Rg.gp_in {m : Nat} {r : List Int} (h : Rg m r) (h6 : m ≤ 6) : 0 ≤ (gp r).1 ∧ (gp r).1 < (gp r).2 ∧ (gp r).2 ≤ 5 := by
  have := h.h3
  exact h.pair h6 (i := 0) (j := r.length - 1) (by omega) (by omega) (by omega)
theorem Rg.lk_nd {m : Nat} {r : List Int} (h : Rg m r) : (lk r).Nodup := by
  refine List.pairwise_map.mpr (List.nodup_range.imp_of_mem fun {a b} ha hb ne e => ?_)
  have ha := List.mem_range.mp ha
  have hb := List.mem_range.mp hb
  rcases pairI_eq e with ⟨x, y⟩ | ⟨x, y⟩
  · exact ne (getD_inj h.nd (by omega) (by omega) x)
  · have := getD_inj h.nd (by omega) (by omega) x
    have := getD_inj h.nd (by omega) (by omega) y
    omega
/-! ### what is told in the never's place -/
theorem len_cut {α : Type} (l : List α) (lo hi : Option Int) : (cutA l lo hi).length ≤ l.length := cut_len l lo hi
theorem told_ok {r : List Int} {m : Nat} (h : Rg m r) (h6 : m ≤ 6) (c : Int) : Ok (m__law_told (r, (c, ()))) fun t => t.length ≤ 20 := by
  have h3 := h.h3
  have hm := h.hm
  unfold m__law_told
  simp only [bs]
  obtain ⟨t, et, ht⟩ := okMod (x := c / 8) (y := (r.length : Int) - 1) (by omega)
  rw [et]
  simp only [bs]
  refine .ifd (fun _ => .ret (by rw [List.length_reverse]; omega)) fun _ => .ifd (fun _ => ?_) fun _ => .ifd (fun _ => ?_) fun _ => .ifd (fun _ => ?_) fun _ => .ifd (fun _ => ?_) fun _ => .ifd (fun _ => .ret (by decide)) fun _ => .ret (by omega)
  · have a := len_cut r (some (1 + t)) none
    have b := len_cut r none (some (1 + t))
    exact (okCat (by omega)).mono fun y hy => by rw [hy, List.length_append]; omega
  · have a := len_cut r none (some (1 + t))
    have b := len_cut r (some (1 + t + 1)) none
    exact (okCat (by omega)).mono fun y hy => by rw [hy, List.length_append]; omega
  · have b := len_cut r none (some 1)
    exact (okCat (by omega)).mono fun y hy => by rw [hy, List.length_append]; omega
  · have b := len_cut r none (some 2)
    exact .ret (by omega)
/-! ### the weights, told as rows -/
theorem decided_g : b__law_decided_1 = b_is_shown_1 := rfl
def rowOf (W : Wt) (k : Pi) : T3 Int Int Int := ⟨k.1, k.2, (dGet W.l k).getD 0⟩
theorem rows_ok (W : Wt) {ks : List Pi} (hl : ks.length < 1000000) (h : ∀ k ∈ ks, ∃ w, dGet W.l k = some w) : lcG (fun _ => some true) (b_law_1 W) ks = some (ks.map (rowOf W)) := by
  rw [lc_mp (g := rowOf W) hl fun k hk => ?_]
  obtain ⟨w, hw⟩ := h k hk
  unfold b_law_1 rowOf
  simp only [bs]
  rw [hw]
  rfl
theorem refold_ok (W : Wt) : ∀ (ks : List Pi) (d : Wt), (∀ k ∈ ks, ∃ w, dGet W.l k = some w) → d.l.length + ks.length ≤ 1000 → Ok (forS b_is_shown_2 (ks.map (rowOf W)) d) fun e => ∀ p, dGet e.l p = if p ∈ ks then dGet W.l p else dGet d.l p
  | [], d, _, _ => .ret fun p => by rw [if_neg List.not_mem_nil]
  | k :: ks, d, h, hl => by
    rw [List.length_cons] at hl
    obtain ⟨w, hw⟩ := h k List.mem_cons_self
    have e : b_is_shown_2 d (rowOf W k) = some ⟨dPut d.l k w⟩ := by
      unfold b_is_shown_2 rowOf
      simp only [bs]
      rw [hw, bsr]
      exact if_pos (by omega)
    show Ok ((b_is_shown_2 d (rowOf W k)).bind fun s => forS b_is_shown_2 (ks.map (rowOf W)) s) _
    rw [e]
    simp only [bs]
    refine (refold_ok W ks ⟨dPut d.l k w⟩ (fun j hj => h j (List.mem_cons_of_mem k hj)) (by have := GK.len_put_ d.l k w; show (dPut d.l k w).length + _ ≤ _; omega)).mono fun e he p => ?_
    rw [he p]
    show (if p ∈ ks then dGet W.l p else dGet (dPut d.l k w) p) = _
    rw [GK.dget_put_]
    by_cases a : p ∈ ks
    · rw [if_pos a, if_pos (List.mem_cons_of_mem k a)]
    · rw [if_neg a]
      by_cases b : p = k
      · rw [if_pos b, if_pos (List.mem_cons.mpr (.inl b)), b, hw]
      · rw [if_neg b, if_neg fun z => (List.mem_cons.mp z).elim b a]
theorem key_get {l : List (Pi × Int)} {k : Pi} (h : k ∈ l.map (·.1)) : ∃ w, dGet l k = some w := by
  have : dHas l k = true := by
    unfold dHas dGet
    rw [Option.isSome_map, List.find?_isSome]
    obtain ⟨q, hq, rfl⟩ := List.mem_map.mp h
    exact ⟨q, hq, decide_eq_true rfl⟩
  exact Option.isSome_iff_exists.mp this
theorem get_key {l : List (Pi × Int)} {k : Pi} (h : k ∉ l.map (·.1)) : dGet l k = none := by
  cases e : dGet l k with
  | none => rfl
  | some w =>
    exfalso
    unfold dGet at e
    obtain ⟨q, hq, _⟩ := Option.map_eq_some_iff.mp e
    have h1 := List.mem_of_find?_eq_some hq
    have h2 : q.1 = k := of_decide_eq_true (List.find?_some (p := fun p : Pi × Int => decide (p.1 = k)) hq)
    exact h (List.mem_map.mpr ⟨q, h1, h2⟩)
/-! ### the law -/
theorem shown_ok (W : Wt) (p : Pap) (many least : Int) (A : List Pi) (D : Dz) (hW : W.l.length ≤ 100) (hd : dep p ≤ 9) (hp : PO p) (sd : SD D) (hl : D.l.length ≤ 100) (hD : forS b_is_shown_1 A ⟨[]⟩ = some D.d) :
    Ok (((sSort (W.l.map (·.1))).bind fun xs => lcG (fun _ => some true) (b_law_1 W) xs).bind fun rows => m_is_shown (p, (many, (rows, (A, (least, ())))))) fun b => b = jd W least p D := by
  rw [Option.bind_assoc]
  refine (okSort (by rw [List.length_map]; omega)).bind fun ks hks => ?_
  have hm : ∀ k, k ∈ ks ↔ k ∈ W.l.map (·.1) := fun k => by rw [hks]; exact mem_srt
  have hkl : ks.length ≤ 100 := by rw [hks, len_srt, List.length_map]; exact hW
  have hg : ∀ k ∈ ks, ∃ w, dGet W.l k = some w := fun k hk => key_get ((hm k).mp hk)
  rw [rows_ok W (by omega) hg]
  simp only [bs]
  unfold m_is_shown
  simp only [bs]
  refine (refold_ok W ks ⟨[]⟩ hg (by show 0 + ks.length ≤ 1000; omega)).bind fun W' hW' => ?_
  rw [hD]
  simp only [bs]
  rw [show (⟨D.d.l⟩ : Dz) = D from rfl]
  have he : ∀ q, dGet W'.l q = dGet W.l q := fun q => by
    rw [hW' q]
    by_cases a : q ∈ ks
    · rw [if_pos a]
    · rw [if_neg a, get_key fun z => a ((hm q).mpr z)]
      rfl
  rw [walked_ok least he 9 p D hd hp sd (by omega)]
  exact .ret rfl

def mkP (h : Bool) (k : Pi) : P3 := ⟨k.1, k.2, h⟩
structure Ps (r : List Int) (A : List Pi) (ps : List P3) : Prop where
  h1 : 2 ≤ ps.length
  h8 : ps.length ≤ 6
  inr : ∀ x ∈ ps, 0 ≤ x.a ∧ x.a < x.b ∧ x.b ≤ 5
  ap : A = [] ∨ A = [gp r]
  nd : (ps.map kOf).Nodup
  fr : ∀ x ∈ ps, kOf x ∉ A
  lks : ∀ k ∈ lk r, ∃ x ∈ ps, kOf x = k ∧ x.c = true
  gap : gp r ∈ A ∨ ∃ x ∈ ps, kOf x = gp r ∧ x.c = false
theorem ps_held {m : Nat} {r : List Int} (h : Rg m r) (h6 : m ≤ 6) {ps : List P3} (hp : ps.Perm ((lk r).map (mkP true))) : Ps r [gp r] ps := by
  have h3 := h.h3
  have hm := h.hm
  have hl : ps.length = r.length - 1 := by rw [hp.length_eq, List.length_map, lk_len]
  have hk : (ps.map kOf).Perm (lk r) := by
    have := hp.map kOf
    rwa [List.map_map, show (kOf ∘ mkP true) = id from rfl, List.map_id] at this
  have el : ∀ x ∈ ps, ∃ k ∈ lk r, mkP true k = x := fun x hx => List.mem_map.mp (hp.subset hx)
  refine ⟨by omega, by omega, fun x hx => ?_, .inr rfl, hk.nodup_iff.mpr h.lk_nd, fun x hx => ?_, fun k hk' => ⟨mkP true k, hp.symm.subset (List.mem_map.mpr ⟨k, hk', rfl⟩), rfl, rfl⟩, .inl (List.mem_singleton.mpr rfl)⟩
  · obtain ⟨k, hk', rfl⟩ := el x hx
    exact h.lk_in h6 k hk'
  · obtain ⟨k, hk', rfl⟩ := el x hx
    exact fun z => gap_ne h.nd h3 k hk' (List.mem_singleton.mp z)
theorem ps_open {m : Nat} {r : List Int} (h : Rg m r) (h6 : m ≤ 6) {ps : List P3} (hp : ps.Perm ((lk r).map (mkP true))) : Ps r [] (ps ++ [mkP false (gp r)]) := by
  have h3 := h.h3
  have hm := h.hm
  have q := ps_held h h6 hp
  have hl : ps.length = r.length - 1 := by rw [hp.length_eq, List.length_map, lk_len]
  refine ⟨by rw [List.length_append]; have := q.h1; omega, by rw [List.length_append, List.length_singleton]; omega, fun x hx => ?_, .inl rfl, ?_, fun x hx => List.not_mem_nil, fun k hk' => ?_, .inr ⟨mkP false (gp r), List.mem_append_right _ (List.mem_singleton.mpr rfl), rfl, rfl⟩⟩
  · rcases List.mem_append.mp hx with w | w
    · exact q.inr x w
    · rw [List.mem_singleton.mp w]
      exact h.gp_in h6
  · rw [List.map_append]
    refine List.nodup_append.mpr ⟨q.nd, List.nodup_cons.mpr ⟨List.not_mem_nil, List.nodup_nil⟩, fun a ha c hc ne => ?_⟩
    obtain ⟨x, hx, rfl⟩ := List.mem_map.mp ha
    have hc : c = gp r := List.mem_singleton.mp hc
    exact q.fr x hx (List.mem_singleton.mpr (ne.trans hc))
  · obtain ⟨x, hx, e⟩ := q.lks k hk'
    exact ⟨x, List.mem_append_left _ hx, e⟩
theorem decided_ok {r : List Int} {A : List Pi} (h : A = [] ∨ A = [gp r]) (hg : 0 ≤ (gp r).1 ∧ (gp r).1 < (gp r).2 ∧ (gp r).2 ≤ 5) : ∃ D : Dz, forS b_is_shown_1 A ⟨[]⟩ = some D.d ∧ SD D ∧ D.l.length ≤ 1 ∧ (∀ k, dHas D.l k = decide (k ∈ A)) ∧ ∀ k ∈ A, dGet D.l k = some false := by
  rcases h with rfl | rfl
  · exact ⟨⟨[]⟩, rfl, ⟨List.nodup_nil, fun k hk => absurd hk List.not_mem_nil⟩, Nat.zero_le _, fun k => (decide_eq_false List.not_mem_nil).symm, fun k hk => absurd hk List.not_mem_nil⟩
  · refine ⟨⟨[(gp r, false)]⟩, rfl, ⟨List.nodup_cons.mpr ⟨List.not_mem_nil, List.nodup_nil⟩, fun k hk => ?_⟩, Nat.le_refl _, fun k => ?_, fun k hk => ?_⟩
    · have hk : k ∈ [gp r] := hk
      rw [List.mem_singleton.mp hk]
      exact hg
    · have e := has_put [] (gp r) k false
      have e2 : dHas ([] : List (Pi × Bool)) k = false := rfl
      rw [e2, Bool.or_false] at e
      refine (show dHas [(gp r, false)] k = decide (k = gp r) from e).trans (decide_eq_decide.mpr List.mem_singleton.symm)
    · rw [List.mem_singleton.mp hk]
      have e := GK.dget_put_ ([] : List (Pi × Bool)) (gp r) (gp r) false
      rw [if_pos rfl] at e
      exact e
theorem weights_ok (x : Scr) (m : Nat) (hm : 3 ≤ m) : Ok (forS (b_law_2 (x, ()) (m : Int)) (rng 0 10) (⟨[]⟩ : Wt)) fun W => W.l.length ≤ 10 := by
  refine (okForR (fun k (W : Wt) => W.l.length ≤ k) (Nat.le_refl _) fun k W hk hW => ?_)
  unfold b_law_2
  rw [cell_g]
  simp only [bs]
  obtain ⟨c, ec, _⟩ := G.cell_ok x (4 + (k : Int)) (by omega)
  rw [ec]
  simp only [bs]
  obtain ⟨t1, e1, _⟩ := okMod (x := c) (y := (m : Int)) (by omega)
  obtain ⟨t2, e2, _⟩ := okMod (x := c / 8) (y := (m : Int)) (by omega)
  rw [e1, e2]
  simp only [bs]
  show Ok ((Option.bind (some (pairI t1 t2)) _)) _
  simp only [bs]
  refine .ifd (fun _ => ?_) fun _ => .ret (by omega)
  obtain ⟨s, es, hs⟩ : ∃ s, atI [(1 : Int), (-(1 : Int))] ((c / 64) % 2) = some s ∧ (s = 1 ∨ s = -1) := by
    have : (c / 64) % 2 = 0 ∨ (c / 64) % 2 = 1 := by omega
    rcases this with h | h <;> rw [h]
    · exact ⟨1, rfl, .inl rfl⟩
    · exact ⟨-1, rfl, .inr rfl⟩
  rw [es]
  simp only [bs]
  refine .bind (P := fun z : Wt => z.l.length ≤ k + 1) ?_ fun z hz => .ret hz
  refine (okMul (.inl (by rcases hs with h | h <;> rw [h] <;> decide))).bind fun w _ => (okSet (d := W) (by omega)).mono fun z hz => ?_
  rw [hz]
  exact Nat.le_trans (GK.len_put_ _ _ _) (by omega)
theorem law_true (ns : List Int) (_h : ns.length ≤ 63) : m_law (⟨ns⟩, ()) = some true := by
  refine okEq ?_
  unfold m_law
  rw [cell_g]
  simp only [bs]
  obtain ⟨c0, e0, _⟩ := G.cell_ok ⟨ns⟩ 0 (by decide)
  obtain ⟨c1, e1, _⟩ := G.cell_ok ⟨ns⟩ 1 (by decide)
  obtain ⟨c2, e2, _⟩ := G.cell_ok ⟨ns⟩ 2 (by decide)
  obtain ⟨c3, e3, _⟩ := G.cell_ok ⟨ns⟩ 3 (by decide)
  obtain ⟨c14, e14, _⟩ := G.cell_ok ⟨ns⟩ 14 (by decide)
  simp only [e0, e1, e2, e3, e14, bs]
  obtain ⟨m, hm, hm3, hm6⟩ : ∃ m : Nat, (3 : Int) + c0 % 4 = (m : Int) ∧ 3 ≤ m ∧ m ≤ 6 := ⟨(3 + c0 % 4).toNat, by omega, by omega, by omega⟩
  rw [hm]
  refine (drawn_ok m c1 hm3 hm6).bind fun r hr => ?_
  have h3 := hr.h3
  have hrm := hr.hm
  rw [show (10 : Int) = ((10 : Nat) : Int) from rfl, range1_nat 10 (by decide)]
  simp only [bs]
  refine (weights_ok ⟨ns⟩ m hm3).bind fun W hW => ?_
  rw [law_links_ok (by omega) (by omega)]
  simp only [bs]
  have elc : lcG (fun _ => some true) (fun x27 : Pi => some (⟨x27.1, x27.2, true⟩ : P3)) (lk r) = some ((lk r).map (mkP true)) := lc_mp (g := mkP true) (by rw [lk_len]; omega) fun _ _ => rfl
  rw [elc]
  simp only [bs]
  have hll : ((lk r).map (mkP true)).length = r.length - 1 := by rw [List.length_map, lk_len]
  refine (okMod (by rw [hll]; omega)).bind fun st hst => ?_
  refine (okCat (by have a := len_cut ((lk r).map (mkP true)) (some st) none; have b := len_cut ((lk r).map (mkP true)) none (some st); omega)).bind fun rot hrot => ?_
  have hpm : rot.Perm ((lk r).map (mkP true)) := by
    obtain ⟨q, rfl⟩ := Int.eq_ofNat_of_zero_le hst.2.1
    rw [hrot, cut_from, cut_upto]
    exact List.perm_append_comm.trans (by rw [List.take_append_drop])
  rw [at_0 (by omega), at_last (by omega)]
  simp only [bs]
  show Ok ((Option.bind (some (gp r)) _)) _
  simp only [bs]
  have hgp := hr.gp_in hm6
  refine .bind (P := fun s : List Pi × List P3 => Ps r s.1 s.2) ?_ fun s hs => ?_
  · refine .ifd (fun _ => .ret (ps_held hr hm6 hpm)) fun _ => ?_
    have hl : rot.length = r.length - 1 := by rw [hpm.length_eq, hll]
    rw [app_eq _ _ (by omega)]
    simp only [bs]
    exact .ret (ps_open hr hm6 hpm)
  obtain ⟨A, ps⟩ := s
  have hs : Ps r A ps := hs
  refine .bind (P := fun q : List P3 => q.length ≤ 6 ∧ (∀ x ∈ q, x ∈ ps) ∧ ((c2 / 16) % 4 ≠ 1 → q = ps)) ?_ fun q ⟨hq1, hq2, hq3⟩ => ?_
  · have := hs.h8
    have := hs.h1
    refine .ifd (fun _ => ?_) fun _ => .ret ⟨hs.h8, fun x hx => hx, fun _ => rfl⟩
    refine .bind (P := fun q : List P3 => q.length ≤ 6 ∧ (∀ x ∈ q, x ∈ ps) ∧ ((c2 / 16) % 4 ≠ 1 → q = ps)) ?_ fun z hz => .ret hz
    refine (okMod (by show 0 < (ps.length : Int); omega)).bind fun k hk => ?_
    obtain ⟨j, rfl⟩ := Int.eq_ofNat_of_zero_le hk.2.1
    have hj : ((j : Nat) : Int) < (ps.length : Int) := hk.2.2
    unfold popAt ixN
    rw [if_pos (show ps.length < _ by omega), if_pos (by omega), if_pos (show ((j : Nat) : Int) < (ps.length : Int) from hj)]
    simp only [bs]
    refine .ret ⟨?_, fun x hx => List.mem_of_mem_eraseIdx hx, fun h => by contradiction⟩
    exact Nat.le_trans (List.length_eraseIdx_le _ _) hs.h8
  refine (told_ok hr hm6 c3).bind fun t ht => ?_
  rw [paper_ok]
  simp only [bs]
  obtain ⟨least, el⟩ : ∃ z, atI [(0 : Int), (0 : Int), (1 : Int), (-(1 : Int))] (c14 % 4) = some z := by
    have : c14 % 4 = 0 ∨ c14 % 4 = 1 ∨ c14 % 4 = 2 ∨ c14 % 4 = 3 := by omega
    rcases this with h | h | h | h <;> rw [h] <;> exact ⟨_, rfl⟩
  rw [el]
  simp only [bs]
  unfold m__law_decided
  rw [decided_g]
  simp only [bs]
  obtain ⟨D, hD, sd, dl, dh, df⟩ := decided_ok hs.ap hgp
  rw [hD]
  simp only [bs]
  rw [show (⟨D.d.l⟩ : Dz) = D from rfl]
  have hpo : PO (pp t q) := pp_PO ht fun x hx => ⟨(hs.inr x (hq2 x hx)).1, (hs.inr x (hq2 x hx)).2.2⟩
  have hdp : dep (pp t q) ≤ 9 := Nat.le_trans (pp_dep t q) (by omega)
  rw [judge_ok W least 9 (pp t q) D hdp hpo sd (by omega)]
  simp only [bs]
  rw [G.and_eq, G.and_eq, G.and_eq]
  refine .ifs (fun h => ?_) fun _ => ?_
  · exfalso
    obtain ⟨g1, g2⟩ := (Bool.and_eq_true _ _).mp h
    obtain ⟨g2, g3⟩ := (Bool.and_eq_true _ _).mp g2
    obtain ⟨g3, g4⟩ := (Bool.and_eq_true _ _).mp g3
    have g1 : t = r := of_decide_eq_true g1
    have g3 : least ≤ 0 := of_decide_eq_true g3
    have g2 : (c2 / 16) % 4 ≠ 1 := fun z => by rw [decide_eq_true z] at g2; cases g2
    have gq : q = ps := hq3 g2
    subst gq
    have due := due_ok W g3 hr.ok q D hs.nd (fun x hx => ⟨(hs.inr x hx).2.1, by rw [dh]; exact decide_eq_false (hs.fr x hx)⟩) (fun k hk => .inr (hs.lks k hk)) (hs.gap.elim (fun z => .inl (df _ z)) .inr)
    rw [g1, due] at g4
    cases g4
  · obtain ⟨b, eb, hb⟩ := shown_ok W (pp t q) m least A D (by omega) hdp hpo sd (by omega) hD
    rw [← Option.bind_assoc, eb]
    simp only [bs]
    rw [hb, decide_eq_true rfl]
    exact .ret rfl
end K42

open PySem PySem.W PyProof.Rows
set_option maxHeartbeats 0 in
theorem PySem.Challenge.cw_folk_k42_nevers_shown_holds : PySem.Challenge.rw_folk_k42_nevers_shown.Holds := by
  w_on; o_law; k_head; (case hw => w_witness2)
  k_fill
  refine L2.walk_of (l := PySem.Challenge.rw_folk_k42_nevers_shown) (n := 63) (k := 16) (x := "_law_script") (CX := fun _ => L2.CX0) (sp := fun w => FK.spV _ K42.m_law) rfl (by decide) rfl ⟨rfl, by decide, by decide⟩ (fun w h Y => PySem.W.kIn_of Y) ?F (fun _ H a ns hl _ hS => FK.law_in hS (K42.law_true ns hl)) (fun _ _ _ _ _ h => h)
  case F =>
    intro w mg fa h KX G hmg
    refine' K42.all_mk KX G hmg ?a1 ?l1 ?c1 ?k1 ?a2 ?l2 ?c2 ?k2 ?a3 ?l3 ?c3 ?k3 ?a4 ?l4 ?c4 ?k4 ?a5 ?l5 ?c5 ?k5 ?a6 ?l6 ?c6 ?k6 ?a7 ?l7 ?c7 ?k7 ?a8 ?l8 ?c8 ?k8 ?a9 ?l9 ?c9 ?k9 ?a10 ?l10 ?c10 ?k10 ?a11 ?l11 ?c11 ?k11 ?a12 ?l12 ?c12 ?k12 ?a13 ?l13 ?c13 ?k13 ?a14 ?l14 ?c14 ?k14 ?a15 ?l15 ?c15 ?k15 ?a16 ?l16 ?c16 ?k16 ?a17 ?l17 ?c17 ?k17 ?a18 ?l18 ?c18 ?k18 ?a19 ?l19 ?c19 ?k19 ?a20 ?l20 ?c20 ?k20 ?a21 ?l21 ?c21 ?k21 ?z1 ?z2 ?z3 ?z4 ?z5 ?z6 ?z7 ?z8 ?z9 ?z10 ?z11 ?z12 ?z13 ?z14
    (case a1 => k_is); (case l1 => k_is); (case c1 => k_is); (case k1 => k_is); (case a2 => k_is); (case l2 => k_is); (case c2 => k_is); (case k2 => k_is); (case a3 => k_is); (case l3 => k_is); (case c3 => k_is); (case k3 => k_is); (case a4 => k_is); (case l4 => k_is); (case c4 => k_is); (case k4 => k_is); (case a5 => k_is); (case l5 => k_is); (case c5 => k_is); (case k5 => k_is); (case a6 => k_is); (case l6 => k_is); (case c6 => k_is); (case k6 => k_is); (case a7 => k_is); (case l7 => k_is); (case c7 => k_is); (case k7 => k_is); (case a8 => k_is); (case l8 => k_is); (case c8 => k_is); (case k8 => k_is); (case a9 => k_is); (case l9 => k_is); (case c9 => k_is); (case k9 => k_is); (case a10 => k_is); (case l10 => k_is); (case c10 => k_is); (case k10 => k_is); (case a11 => k_is); (case l11 => k_is); (case c11 => k_is); (case k11 => k_is); (case a12 => k_is); (case l12 => k_is); (case c12 => k_is); (case k12 => k_is); (case a13 => k_is); (case l13 => k_is); (case c13 => k_is); (case k13 => k_is); (case a14 => k_is); (case l14 => k_is); (case c14 => k_is); (case k14 => k_is); (case a15 => k_is); (case l15 => k_is); (case c15 => k_is); (case k15 => k_is); (case a16 => k_is); (case l16 => k_is); (case c16 => k_is); (case k16 => k_is); (case a17 => k_is); (case l17 => k_is); (case c17 => k_is); (case k17 => k_is); (case a18 => k_is); (case l18 => k_is); (case c18 => k_is); (case k18 => k_is); (case a19 => k_is); (case l19 => k_is); (case c19 => k_is); (case k19 => k_is); (case a20 => k_is); (case l20 => k_is); (case c20 => k_is); (case k20 => k_is); (case a21 => k_is); (case l21 => k_is); (case c21 => k_is); (case k21 => k_is); (case z1 => k_is); (case z2 => k_is); (case z3 => k_is); (case z4 => k_is); (case z5 => k_is); (case z6 => k_is); (case z7 => k_is); (case z8 => k_is); (case z9 => k_is); (case z10 => k_is); (case z11 => k_is); (case z12 => k_is); (case z13 => k_is); (case z14 => k_is)
