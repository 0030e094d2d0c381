import PyProof.Rows.All
import Wide.All
import OpenK.AllK
import Wide.FinOn
import HandS.ForMost
import HandS.IsInst
import HandS.Exc
import HandS.Flt
import KE.DatumMoreOrd
import HandS.Wide
import HandS.ExcCtx
import HandS.Style
import HandS.Conv
import HandS.Deep
import HandS.StrMore
import HandS.Text
import PyProof.NeKinds
import KE.SortData
import HandS.TupAny
import HandS.RevTup
import HandS.Rev
import HandS.Dict
import HandS.More
import KE.KeyNested
import HandS.TupSets
import KE.KDictCopyH
import KE.KDictSum
import HandS.SetKeys
import HandS.TryOnly
import HandS.Iter
import HandS.WordsExc
import HandS.ExcInit
import HandS.RaiseMore
import KE.KExcIs
import KE.KIsAll
import HandS.Spec
import HandS.ReplaceLit
import HandS.ClsMeth
import KE.DatumOrd
import HandS.SortKw
import HandS.DictTup
import HandS.TupLen
import HandS.SetFor
import PyProof.SetRoads
import HandS.SuiteRaise
import HandS.ExcInitHot
import KE.GoesDict
import KE.KDictPairs
import KE.KStateDown
import HandS.Head0
import HandS.Head1
import HandS.Head2
import HandS.HeadEnd
import HandS.HeadHook1
import HandS.HeadHook2
import HandS.HeadHook3
import PyProof.Rows.StrCut
import HandS.Codes
import HandS.ReplaceList
import KE.KStrOpen
import KE.KIntText
import KE.KSort
import PySem.Challenge.RW_folk_k51_books_at_a_desk
set_option Elab.async false
set_option linter.all false
set_option maxRecDepth 100000
set_option maxHeartbeats 4000000
namespace FK
open PySem PySem.Spec PyProof.Rows L2

/-! ### heaps: R what is frozen, H all that is known -/
def Ex (H H' : Hp) : Prop := ∀ a o, H a = some o → H' a = some o
theorem Ex.refl (H : Hp) : Ex H H := fun _ _ h => h
theorem Ex.trans {H H1 H2 : Hp} (a : Ex H H1) (b : Ex H1 H2) : Ex H H2 := fun x o h => b x o (a x o h)
theorem Ex.new {H : Hp} {p : Addr} {o : HO} (h : H p = none) : Ex H (upd H p o) := fun a u e => by
  rw [upd_ne (ne_of_none e h)]
  exact e
theorem Ex.up {R H : Hp} {p : Addr} {o : HO} (e : Ex R H) : Ex (upd R p o) (upd H p o) := fun a u h => by
  by_cases q : a = p
  · subst q
    rw [upd_same] at h ⊢
    exact h
  · rw [upd_ne q] at h ⊢
    exact e a u h
theorem Ex.put {R H : Hp} {p : Addr} {o : HO} (e : Ex R H) (h : H p = some o) : Ex (upd R p o) H := fun a u q => by
  by_cases z : a = p
  · subst z
    rw [upd_same] at q
    rw [← q]
    exact h
  · rw [upd_ne z] at q
    exact e a u q
theorem Ex.none {H H' : Hp} {p : Addr} (e : Ex H H') (h : H' p = none) : H p = none := by
  cases q : H p with
  | none => rfl
  | some o =>
    rw [e p o q] at h
    cases h
theorem Ex.mut {H H' : Hp} {p : Addr} {o : HO} (e : Ex H H') (h : H p = Option.none) : Ex H (upd H' p o) := fun a u q => by
  rw [upd_ne (ne_of_none q h)]
  exact e a u q
/-- a tuple: never changed, so it may be frozen at any time -/
def isT : HO → Bool
  | .tup _ => true
  | _ => false
structure Ext (R H R' H' : Hp) : Prop where
  r : Ex R R'
  h : Ex H H'
  i : Ex R' H'
  n : ∀ a o, isT o = false → H a = some o → R a = none → R' a = none
theorem Ext.refl {R H : Hp} (i : Ex R H) : Ext R H R H := ⟨.refl R, .refl H, i, fun _ _ _ _ h => h⟩
theorem Ext.trans {R H R1 H1 R2 H2 : Hp} (a : Ext R H R1 H1) (b : Ext R1 H1 R2 H2) : Ext R H R2 H2 :=
  ⟨a.r.trans b.r, a.h.trans b.h, b.i, fun x o t h q => b.n x o t (a.h x o h) (a.n x o t h q)⟩
/-- a new thing, not frozen | frozen -/
theorem Ext.own {R H : Hp} {p : Addr} {o : HO} (i : Ex R H) (h : H p = none) : Ext R H R (upd H p o) :=
  ⟨.refl R, .new h, i.trans (.new h), fun _ _ _ _ q => q⟩
theorem Ext.new {R H : Hp} {p : Addr} {o : HO} (i : Ex R H) (h : H p = none) : Ext R H (upd R p o) (upd H p o) :=
  ⟨.new (i.none h), .new h, i.up, fun a u _ q z => by
    rw [upd_ne (ne_of_none q h)]
    exact z⟩

/-! ### what a value stands for -/
class Py (α : Type) where
  rep : PySem.W.Frag → Hp → V → α → Prop
  bor : PySem.W.Frag → Hp → Hp → V → α → Prop
  mono : ∀ {K : PySem.W.Frag} {R R' : Hp} {v : V} {a : α}, Ex R R' → rep K R v a → rep K R' v a
  bmono : ∀ {K : PySem.W.Frag} {R R' H H' : Hp} {v : V} {a : α}, Ex R R' → Ex H H' → bor K R H v a → bor K R' H' v a
  lend : ∀ {K : PySem.W.Frag} {R H : Hp} {v : V} {a : α}, Ex R H → rep K R v a → bor K R H v a
/-- what is changed in place: told by its record -/
class Ob (α : Type) where
  ho : PySem.W.Frag → Hp → HO → α → Prop
  mono : ∀ {K : PySem.W.Frag} {R R' : Hp} {o : HO} {a : α}, Ex R R' → ho K R o a → ho K R' o a
  nt : ∀ {K : PySem.W.Frag} {R : Hp} {o : HO} {a : α}, ho K R o a → isT o = false
abbrev rep {α : Type} [Py α] (K : PySem.W.Frag) (R : Hp) (v : V) (a : α) : Prop := Py.rep K R v a
abbrev bor {α : Type} [Py α] (K : PySem.W.Frag) (R H : Hp) (v : V) (a : α) : Prop := Py.bor K R H v a
abbrev ho {α : Type} [Ob α] (K : PySem.W.Frag) (R : Hp) (o : HO) (a : α) : Prop := Ob.ho K R o a
theorem rd_ex {H H' : Hp} {a : Addr} {u : HO} (e : Ex H H') (h : Rd H a u) : Rd H' a u := by
  rcases h with h | ⟨o, h⟩
  · exact .inl (e a _ h)
  · exact .inr ⟨o, e a _ h⟩
/-- what may be read -/
abbrev RdK (_ : PySem.W.Frag) (H : Hp) (p : Addr) (o : HO) : Prop := Rd H p o
theorem sql_ex {K : PySem.W.Frag} {H H' : Hp} {p : Addr} {xs : List V} (e : Ex H H') (h : SqL K H p xs) : SqL K H' p xs := h.elim (fun z => .inl (rd_ex e z)) .inr
instance instPyOb {α : Type} [Ob α] : Py α where
  rep := fun K R v a => ∃ p o, v = .ref p ∧ RdK K R p o ∧ Ob.ho K R o a
  bor := fun K R H v a => ∃ p o, v = .ref p ∧ RdK K H p o ∧ Ob.ho K R o a
  mono := fun e ⟨p, o, h, r, q⟩ => ⟨p, o, h, rd_ex e r, Ob.mono e q⟩
  bmono := fun e e2 ⟨p, o, h, r, q⟩ => ⟨p, o, h, rd_ex e2 r, Ob.mono e q⟩
  lend := fun e ⟨p, o, h, r, q⟩ => ⟨p, o, h, rd_ex e r, q⟩
@[reducible] def flatPy {α : Type} (f : α → V) : Py α where
  rep := fun _ _ v a => v = f a
  bor := fun _ _ _ v a => v = f a
  mono := fun _ h => h
  bmono := fun _ _ h => h
  lend := fun _ h => h
instance instPyInt : Py Int := flatPy V.int
instance instPyBool : Py Bool := flatPy V.bl
instance instPyStr : Py Str := flatPy V.str
instance instPyUnit : Py Unit := flatPy fun _ => V.non
inductive AllR {α : Type} [Py α] (K : PySem.W.Frag) (R : Hp) : List V → List α → Prop
  | nil : AllR K R [] []
  | cons {v : V} {vs : List V} {a : α} {as : List α} : rep K R v a → AllR K R vs as → AllR K R (v :: vs) (a :: as)
section
variable {α : Type} [Py α] {K : PySem.W.Frag} {R R' : Hp}
theorem AllR.mono (e : Ex R R') : ∀ {vs : List V} {as : List α}, AllR K R vs as → AllR K R' vs as
  | _, _, .nil => .nil
  | _, _, .cons h t => .cons (Py.mono e h) (t.mono e)
theorem AllR.len : ∀ {vs : List V} {as : List α}, AllR K R vs as → vs.length = as.length
  | _, _, .nil => rfl
  | _, _, .cons _ t => congrArg (· + 1) t.len
theorem AllR.get : ∀ {vs : List V} {as : List α} {i : Nat} {a : α}, AllR K R vs as → as[i]? = some a → ∃ v, vs[i]? = some v ∧ rep K R v a
  | _, _, i, a, .nil, e => by simp at e
  | _, _, 0, a, .cons (v := v) h _, e => by
    have e' := Option.some.inj e
    subst e'
    exact ⟨v, rfl, h⟩
  | _, _, i + 1, a, .cons _ t, e => t.get (i := i) (a := a) e
theorem AllR.app : ∀ {vs ws : List V} {as bs : List α}, AllR K R vs as → AllR K R ws bs → AllR K R (vs ++ ws) (as ++ bs)
  | _, _, _, _, .nil, q => q
  | _, _, _, _, .cons h t, q => .cons h (t.app q)
theorem AllR.drop : ∀ {vs : List V} {as : List α} (n : Nat), AllR K R vs as → AllR K R (vs.drop n) (as.drop n)
  | _, _, 0, q => q
  | _, _, _ + 1, .nil => .nil
  | _, _, n + 1, .cons _ t => t.drop n
theorem AllR.take : ∀ {vs : List V} {as : List α} (n : Nat), AllR K R vs as → AllR K R (vs.take n) (as.take n)
  | _, _, 0, _ => .nil
  | _, _, _ + 1, .nil => .nil
  | _, _, n + 1, .cons h t => .cons h (t.take n)
theorem AllR.rev : ∀ {vs : List V} {as : List α}, AllR K R vs as → AllR K R vs.reverse as.reverse
  | _, _, .nil => .nil
  | _, _, .cons h t => by
    rw [List.reverse_cons, List.reverse_cons]
    exact t.rev.app (.cons h .nil)
theorem AllR.map_eq {f : α → V} (h : ∀ v a, rep K R v a → v = f a) : ∀ {vs : List V} {as : List α}, AllR K R vs as → vs = as.map f
  | _, _, .nil => rfl
  | _, _, .cons q t => by
    rw [List.map_cons, ← t.map_eq h, h _ _ q]
theorem AllR.of_map {f : α → V} (h : ∀ a, rep K R (f a) a) : ∀ as : List α, AllR K R (as.map f) as
  | [] => .nil
  | a :: as => .cons (h a) (AllR.of_map h as)
end
instance instObList {α : Type} [Py α] : Ob (List α) where
  ho := fun K R o as => ∃ vs, o = .lst vs ∧ AllR K R vs as
  mono := fun e ⟨vs, h, q⟩ => ⟨vs, h, q.mono e⟩
  nt := fun ⟨vs, h, _⟩ => by rw [h]; rfl
@[reducible] def tupPy {α : Type} (f : PySem.W.Frag → Hp → List V → α → Prop) (m : ∀ {K : PySem.W.Frag} {R R' : Hp} {vs : List V} {a : α}, Ex R R' → f K R vs a → f K R' vs a) : Py α where
  rep := fun K R v a => ∃ p vs, v = .ref p ∧ SqT K R p vs ∧ f K R vs a
  bor := fun K R _ v a => ∃ p vs, v = .ref p ∧ SqT K R p vs ∧ f K R vs a
  mono := fun e ⟨p, vs, h, q, z⟩ => ⟨p, vs, h, q.elim (fun r => .inl (rd_ex e r)) .inr, m e z⟩
  bmono := fun e _ ⟨p, vs, h, q, z⟩ => ⟨p, vs, h, q.elim (fun r => .inl (rd_ex e r)) .inr, m e z⟩
  lend := fun _ h => h
/-- a tuple made here -/
@[reducible] def dirPy {α : Type} (f : PySem.W.Frag → Hp → List V → α → Prop) (m : ∀ {K : PySem.W.Frag} {R R' : Hp} {vs : List V} {a : α}, Ex R R' → f K R vs a → f K R' vs a) : Py α where
  rep := fun K R v a => ∃ p vs, v = .ref p ∧ R p = some (.tup vs) ∧ f K R vs a
  bor := fun K R _ v a => ∃ p vs, v = .ref p ∧ R p = some (.tup vs) ∧ f K R vs a
  mono := fun e ⟨p, vs, h, q, z⟩ => ⟨p, vs, h, e _ _ q, m e z⟩
  bmono := fun e _ ⟨p, vs, h, q, z⟩ => ⟨p, vs, h, e _ _ q, m e z⟩
  lend := fun _ h => h
theorem dsq {K : PySem.W.Frag} {R : Hp} {p : Addr} {vs : List V} (h : R p = some (.tup vs)) : SqT K R p vs := .inl (.inl h)
instance instPy2 {α β : Type} [Py α] [Py β] : Py (α × β) := dirPy (fun K R vs a => ∃ x y, vs = [x, y] ∧ rep K R x a.1 ∧ rep K R y a.2)
  fun e ⟨x, y, h, p, q⟩ => ⟨x, y, h, Py.mono e p, Py.mono e q⟩
abbrev T3 := PySem.W.T3
instance instPy3 {α β γ : Type} [Py α] [Py β] [Py γ] : Py (T3 α β γ) := dirPy (fun K R vs a => ∃ x y z, vs = [x, y, z] ∧ rep K R x a.a ∧ rep K R y a.b ∧ rep K R z a.c)
  fun e ⟨x, y, z, h, p, q, r⟩ => ⟨x, y, z, h, Py.mono e p, Py.mono e q, Py.mono e r⟩
/-- the script: a list of ints that the law is handed -/
structure Scr where
  l : List Int
instance instPyScr : Py Scr where
  rep := fun K R v a => ∃ p, v = .ref p ∧ SqL K R p (a.l.map V.int)
  bor := fun K _ H v a => ∃ p, v = .ref p ∧ SqL K H p (a.l.map V.int)
  mono := fun e ⟨p, h, q⟩ => ⟨p, h, sql_ex e q⟩
  bmono := fun _ e ⟨p, h, q⟩ => ⟨p, h, sql_ex e q⟩
  lend := fun e ⟨p, h, q⟩ => ⟨p, h, sql_ex e q⟩
theorem seq_rd {K : PySem.W.Frag} {H : Hp} {p : Addr} {vs : List V} (h : Rd H p (.lst vs)) : SqL K H p vs := .inl h

/-- a thing of one's own, with things of one's own in it (at ps) -/
class Od (α : Type) where
  dh : PySem.W.Frag → Hp → Hp → HO → List Addr → α → Prop
  mono : ∀ {K : PySem.W.Frag} {R R' H H' : Hp} {o : HO} {ps : List Addr} {a : α}, Ex R R' → (∀ c ∈ ps, ∀ u, H c = some u → H' c = some u) → dh K R H o ps a → dh K R' H' o ps a
  there : ∀ {K : PySem.W.Frag} {R H : Hp} {o : HO} {ps : List Addr} {a : α}, dh K R H o ps a → ∀ c ∈ ps, ∃ u, H c = some u ∧ isT u = false
  nt : ∀ {K : PySem.W.Frag} {R H : Hp} {o : HO} {ps : List Addr} {a : α}, dh K R H o ps a → isT o = false
/-! ### slots -/
inductive Slot : Type 1
  | any
  | v {α : Type} [Py α] (a : α)
  | b {α : Type} [Py α] (a : α)
  | own {α : Type} [Ob α] (a : α)
  | deep {α : Type} [Od α] (a : α)
  | dat {α : Type} [Od α] (p : Addr) (ps : List Addr) (a : α)
def SlotOk (K : PySem.W.Frag) (R0 H0 R H : Hp) (x : Option V) (s : Slot) (os : List Addr) : Prop :=
  match s with
  | .any => os = []
  | @Slot.v _ i a => os = [] ∧ ∃ v, x = some v ∧ @Py.rep _ i K R v a
  | @Slot.b _ i a => os = [] ∧ ∃ v, x = some v ∧ @Py.bor _ i K R0 H0 v a
  | @Slot.own _ i a => ∃ p o, os = [p] ∧ x = some (.ref p) ∧ H p = some o ∧ @Ob.ho _ i K R o a
  | @Slot.deep _ i a => ∃ p o ps, os = p :: ps ∧ x = some (.ref p) ∧ H p = some o ∧ @Od.dh _ i K R H o ps a
  | @Slot.dat _ i p ps a => os = p :: ps ∧ x = some (.ref p) ∧ ∃ o, H p = some o ∧ @Od.dh _ i K R H o ps a
def SlotsOk (K : PySem.W.Frag) (R0 H0 R H : Hp) : List Slot → L2.St → List Addr → Prop
  | [], [], os => os = []
  | s :: Γ, x :: σ, os => ∃ o1 o2, os = o1 ++ o2 ∧ SlotOk K R0 H0 R H x s o1 ∧ SlotsOk K R0 H0 R H Γ σ o2
  | _, _, _ => False
structure Sat (K : PySem.W.Frag) (R0 H0 : Hp) (Γ : List Slot) (σ : L2.St) (R H : Hp) : Prop where
  sl : ∃ os, SlotsOk K R0 H0 R H Γ σ os ∧ os.Nodup ∧ ∀ p ∈ os, R p = none ∧ H0 p = none
  e0 : Ext R0 H0 R H
section
variable {K : PySem.W.Frag} {R0 H0 R H R' H' : Hp} {Γ : List Slot} {σ : L2.St} {os : List Addr}
theorem SlotOk.ext {x : Option V} {s : Slot} (er : Ex R R') (eh : ∀ p ∈ os, ∀ o, H p = some o → H' p = some o) (h : SlotOk K R0 H0 R H x s os) : SlotOk K R0 H0 R' H' x s os := by
  cases s with
  | any => exact h
  | v a =>
    obtain ⟨e, v, e2, q⟩ := h
    exact ⟨e, v, e2, Py.mono er q⟩
  | b a => exact h
  | own a =>
    obtain ⟨p, o, e, e2, h, q⟩ := h
    exact ⟨p, o, e, e2, eh p (by rw [e]; exact List.mem_singleton.mpr rfl) o h, Ob.mono er q⟩
  | deep a =>
    obtain ⟨p, o, ps, e, e2, h, q⟩ := h
    subst e
    exact ⟨p, o, ps, rfl, e2, eh p List.mem_cons_self o h, Od.mono er (fun c hc u hu => eh c (List.mem_cons_of_mem _ hc) u hu) q⟩
  | dat p ps a =>
    obtain ⟨e, e2, o, h, q⟩ := h
    subst e
    exact ⟨rfl, e2, o, eh p List.mem_cons_self o h, Od.mono er (fun c hc u hu => eh c (List.mem_cons_of_mem _ hc) u hu) q⟩
theorem SlotsOk.ext (er : Ex R R') : ∀ {Γ : List Slot} {σ : L2.St} {os : List Addr}, (∀ p ∈ os, ∀ o, H p = some o → H' p = some o) → SlotsOk K R0 H0 R H Γ σ os → SlotsOk K R0 H0 R' H' Γ σ os
  | [], [], _, _, h => h
  | [], _ :: _, _, _, h => h.elim
  | _ :: _, [], _, _, h => h.elim
  | s :: Γ, x :: σ, os, eh, h => by
    obtain ⟨o1, o2, e, h1, h2⟩ := h
    subst e
    exact ⟨o1, o2, rfl, h1.ext er fun p hp => eh p (List.mem_append_left _ hp), h2.ext er fun p hp => eh p (List.mem_append_right _ hp)⟩
theorem SlotsOk.there : ∀ {Γ : List Slot} {σ : L2.St} {os : List Addr}, SlotsOk K R0 H0 R H Γ σ os → ∀ p ∈ os, ∃ o, H p = some o ∧ isT o = false
  | [], [], os, h, p, hp => by
    have h : os = [] := h
    subst h
    cases hp
  | [], _ :: _, _, h, _, _ => h.elim
  | _ :: _, [], _, h, _, _ => h.elim
  | s :: Γ, x :: σ, os, h, p, hp => by
    obtain ⟨o1, o2, e, h1, h2⟩ := h
    subst e
    rcases List.mem_append.mp hp with hp | hp
    · cases s with
      | any =>
        have h1 : o1 = [] := h1
        subst h1
        cases hp
      | v a =>
        obtain ⟨e, _⟩ := h1
        subst e
        cases hp
      | b a =>
        obtain ⟨e, _⟩ := h1
        subst e
        cases hp
      | own a =>
        obtain ⟨q, o, e, _, h, g⟩ := h1
        subst e
        cases List.mem_singleton.mp hp
        exact ⟨o, h, Ob.nt g⟩
      | deep a =>
        obtain ⟨q, o, ps, e, _, h, g⟩ := h1
        subst e
        rcases List.mem_cons.mp hp with hp | hp
        · subst hp
          exact ⟨o, h, Od.nt g⟩
        · exact Od.there g p hp
      | dat q ps a =>
        obtain ⟨e, _, o, h, g⟩ := h1
        subst e
        rcases List.mem_cons.mp hp with hp | hp
        · subst hp
          exact ⟨o, h, Od.nt g⟩
        · exact Od.there g p hp
    · exact h2.there p hp
theorem Sat.ext (S : Sat K R0 H0 Γ σ R H) (e : Ext R H R' H') : Sat K R0 H0 Γ σ R' H' := by
  obtain ⟨⟨os, s, nd, fr⟩, e0⟩ := S
  refine ⟨⟨os, s.ext e.r (fun p _ o h => e.h p o h), nd, fun p hp => ?_⟩, e0.trans e⟩
  obtain ⟨o, ho, t⟩ := s.there p hp
  exact ⟨e.n p o t ho (fr p hp).1, (fr p hp).2⟩
theorem Sat.i (S : Sat K R0 H0 Γ σ R H) : Ex R H := S.e0.i
/-- the slot at i, and the rest with another one in its place -/
theorem SlotsOk.at : ∀ {Γ : List Slot} {σ : L2.St} {os : List Addr} {i : Nat} {s : Slot}, SlotsOk K R0 H0 R H Γ σ os → Γ[i]? = some s → ∃ x o1 oa ob, σ[i]? = some x ∧ os = oa ++ (o1 ++ ob) ∧ SlotOk K R0 H0 R H x s o1 ∧
    ∀ (R' H' : Hp) (s' : Slot) (x' : Option V) (o1' : List Addr), Ex R R' → (∀ p ∈ oa ++ ob, ∀ o, H p = some o → H' p = some o) → SlotOk K R0 H0 R' H' x' s' o1' → SlotsOk K R0 H0 R' H' (Γ.set i s') (σ.set i x') (oa ++ (o1' ++ ob))
  | [], [], _, i, s, _, e => by simp at e
  | [], _ :: _, _, _, _, h, _ => h.elim
  | _ :: _, [], _, _, _, h, _ => h.elim
  | s0 :: Γ, x :: σ, os, 0, s, h, e => by
    obtain ⟨o1, o2, e1, h1, h2⟩ := h
    have e : s0 = s := Option.some.inj e
    subst e
    refine ⟨x, o1, [], o2, rfl, e1, h1, fun R' H' s' x' o1' er k q => ⟨o1', o2, rfl, q, h2.ext er fun p hp => k p hp⟩⟩
  | s0 :: Γ, x :: σ, os, i + 1, s, h, e => by
    obtain ⟨o1, o2, e1, h1, h2⟩ := h
    obtain ⟨y, p1, pa, pb, g1, g2, g3, g4⟩ := SlotsOk.at (i := i) (s := s) h2 e
    refine ⟨y, p1, o1 ++ pa, pb, g1, by rw [e1, g2, List.append_assoc], g3, fun R' H' s' x' o1' er k q => ?_⟩
    refine ⟨o1, pa ++ (o1' ++ pb), by rw [List.append_assoc], h1.ext er fun p hp => k p (List.mem_append_left _ (List.mem_append_left _ hp)), g4 R' H' s' x' o1' er (fun p hp => k p ?_) q⟩
    rw [List.append_assoc]
    exact List.mem_append_right _ hp
variable (S : Sat K R0 H0 Γ σ R H)
include S
theorem Sat.get_v {α : Type} [Py α] {a : α} {i : Nat} (e : Γ[i]? = some (.v a)) : ∃ v, σ[i]? = some (some v) ∧ rep K R v a := by
  obtain ⟨⟨os, s, nd, fr⟩, e0⟩ := S
  obtain ⟨x, o1, oa, ob, h1, h2, ⟨_, v, hx, hr⟩, h4⟩ := s.at e
  subst hx
  exact ⟨v, h1, hr⟩
theorem Sat.get_b {α : Type} [Py α] {a : α} {i : Nat} (e : Γ[i]? = some (.b a)) : ∃ v, σ[i]? = some (some v) ∧ bor K R0 H0 v a := by
  obtain ⟨⟨os, s, nd, fr⟩, e0⟩ := S
  obtain ⟨x, o1, oa, ob, h1, h2, ⟨_, v, hx, hr⟩, h4⟩ := s.at e
  subst hx
  exact ⟨v, h1, hr⟩
/-- what is owned may be changed; or given away, frozen -/
theorem Sat.get_own {α : Type} [Ob α] {a : α} {i : Nat} (e : Γ[i]? = some (.own a)) : ∃ p o, σ[i]? = some (some (.ref p)) ∧ H p = some o ∧ ho K R o a ∧ R p = none ∧ H0 p = none ∧
    ∀ (R' H' : Hp) {β : Type} [Ob β] (o' : HO) (b : β), Ext R H R' H' → ho K R' o' b → Sat K R0 H0 (Γ.set i (.own b)) σ R' (upd H' p o') := by
  obtain ⟨⟨os, s, nd, fr⟩, e0⟩ := S
  obtain ⟨x, o1, oa, ob, h1, h2, ⟨p, o, e1, hx, hp, hr⟩, h4⟩ := s.at e
  subst hx e1 h2
  have hm : p ∈ oa ++ ([p] ++ ob) := List.mem_append_right _ (List.mem_append_left _ (List.mem_singleton.mpr rfl))
  obtain ⟨f1, f2⟩ := fr p hm
  refine ⟨p, o, h1, hp, hr, f1, f2, fun R' H' β _ o' b ex q => ?_⟩
  have f3 : R' p = none := ex.n p o (Ob.nt hr) hp f1
  have hset : σ.set i (some (.ref p)) = σ := by
    refine List.ext_getElem? fun j => ?_
    rw [List.getElem?_set]
    split
    · rename_i hij
      subst hij
      split
      · exact h1.symm
      · rename_i hj
        exact (List.getElem?_eq_none_iff.mpr (Nat.le_of_not_lt hj)).symm
    · rfl
  refine ⟨⟨oa ++ ([p] ++ ob), ?_, nd, fun z hz => ?_⟩, ?_⟩
  · have g := h4 R' (upd H' p o') (.own b) (some (.ref p)) [p] ex.r (fun z hz u hu => ?_) ⟨p, o', rfl, rfl, upd_same, q⟩
    · rw [hset] at g
      exact g
    · have hne : z ≠ p := fun hzp => by
        subst hzp
        have hc := List.nodup_append.mp nd
        rcases List.mem_append.mp hz with hz | hz
        · exact hc.2.2 z hz z (List.mem_append_left _ (List.mem_singleton.mpr rfl)) rfl
        · have := (List.nodup_append.mp hc.2.1).2.2 z (List.mem_singleton.mpr rfl) z hz
          exact this rfl
      rw [upd_ne hne]
      exact ex.h z u hu
  · obtain ⟨u, hu, t⟩ := s.there z hz
    exact ⟨ex.n z u t hu (fr z hz).1, (fr z hz).2⟩
  · refine ⟨e0.r.trans ex.r, (e0.h.trans ex.h).mut f2, fun z u hz => ?_, fun z u t hz hn => ex.n z u t (e0.h z u hz) (e0.n z u t hz hn)⟩
    rw [upd_ne (ne_of_none hz f3)]
    exact ex.i z u hz
/-- a slot forgotten -/
theorem Sat.set_any {i : Nat} (x : Option V) (hi : i < Γ.length) : Sat K R0 H0 (Γ.set i .any) (σ.set i x) R H := by
  obtain ⟨⟨os, s, nd, fr⟩, e0⟩ := S
  obtain ⟨y, o1, oa, ob, h1, h2, _, h4⟩ := s.at (s := Γ[i]) (List.getElem?_eq_getElem hi)
  subst h2
  refine ⟨⟨oa ++ ([] ++ ob), h4 R H .any x [] (.refl _) (fun _ _ _ q => q) rfl, ?_, fun p hp => fr p ?_⟩, e0⟩
  · exact nd.sublist (List.Sublist.append (List.Sublist.refl _) (List.Sublist.append (List.nil_sublist _) (List.Sublist.refl _)))
  · exact (List.Sublist.append (List.Sublist.refl _) (List.Sublist.append (List.nil_sublist _) (List.Sublist.refl _))).mem hp
theorem Sat.set_v {α : Type} [Py α] {a : α} {v : V} {i : Nat} (hi : i < Γ.length) (h : rep K R v a) : Sat K R0 H0 (Γ.set i (.v a)) (σ.set i (some v)) R H := by
  obtain ⟨⟨os, s, nd, fr⟩, e0⟩ := S
  obtain ⟨y, o1, oa, ob, h1, h2, _, h4⟩ := s.at (s := Γ[i]) (List.getElem?_eq_getElem hi)
  subst h2
  refine ⟨⟨oa ++ ([] ++ ob), h4 R H (.v a) (some v) [] (.refl _) (fun _ _ _ q => q) ⟨rfl, v, rfl, h⟩, ?_, fun p hp => fr p ?_⟩, e0⟩
  · exact nd.sublist (List.Sublist.append (List.Sublist.refl _) (List.Sublist.append (List.nil_sublist _) (List.Sublist.refl _)))
  · exact (List.Sublist.append (List.Sublist.refl _) (List.Sublist.append (List.nil_sublist _) (List.Sublist.refl _))).mem hp
/-- a new thing of one's own into a slot -/
theorem Sat.set_own {α : Type} [Ob α] {a : α} {p : Addr} {o : HO} {i : Nat} {R' H' : Hp} (hi : i < Γ.length) (ex : Ext R H R' H') (hn : H p = none) (hp : H' p = some o) (hR : R' p = none) (h : ho K R' o a) : Sat K R0 H0 (Γ.set i (.own a)) (σ.set i (some (.ref p))) R' H' := by
  have S2 := S.ext ex
  obtain ⟨⟨os, s, nd, fr⟩, e0⟩ := S
  have th := s.there
  obtain ⟨y, o1, oa, ob, h1, h2, _, h4⟩ := s.at (s := Γ[i]) (List.getElem?_eq_getElem hi)
  subst h2
  have sub : (oa ++ ob).Sublist (oa ++ (o1 ++ ob)) := List.Sublist.append (List.Sublist.refl _) (List.sublist_append_right _ _)
  have npm : p ∉ oa ++ ob := fun hm => by
    obtain ⟨u, hu, _⟩ := th p (sub.mem hm)
    rw [hn] at hu
    cases hu
  refine ⟨⟨oa ++ ([p] ++ ob), h4 R' H' (.own a) (some (.ref p)) [p] ex.r (fun z _ u q => ex.h z u q) ⟨p, o, rfl, rfl, hp, h⟩, ?_, fun z hz => ?_⟩, S2.e0⟩
  · have pm : (p :: (oa ++ ob)).Perm (oa ++ ([p] ++ ob)) := List.perm_middle.symm
    exact pm.nodup_iff.mp (List.nodup_cons.mpr ⟨npm, nd.sublist sub⟩)
  · rcases List.mem_append.mp hz with hz | hz
    · obtain ⟨u, hu, t⟩ := th z (List.mem_append_left _ hz)
      exact ⟨ex.n z u t hu (fr z (List.mem_append_left _ hz)).1, (fr z (List.mem_append_left _ hz)).2⟩
    · rcases List.mem_cons.mp hz with hz | hz
      · subst hz
        exact ⟨hR, e0.h.none hn⟩
      · have hm : z ∈ oa ++ (o1 ++ ob) := List.mem_append_right _ (List.mem_append_right _ hz)
        obtain ⟨u, hu, t⟩ := th z hm
        exact ⟨ex.n z u t hu (fr z hm).1, (fr z hm).2⟩
omit S
end
end FK

namespace FK
open PySem PySem.Spec PyProof.Rows L2

/-! ### the text's own transformers -/
def eSem (X : Cx) (e : Expr) : TE := fun σ H Q => ∀ pins s, Inv X pins σ H s → wpAny (model X.prog X.w) X.A (eval e X.env) (EP X pins σ Q) X.xe s
def tSem (X : Cx) (e : Expr) : TT := fun σ H Q => ∀ pins s, Inv X pins σ H s → wpAny (model X.prog X.w) X.A (isTrue e X.env (eval e X.env)) (TP X pins σ Q) X.xe s
def wSem (X : Cx) (e : Expr) : TT := fun σ H Q => ∀ whole pins s, Inv X pins σ H s → wpAny (model X.prog X.w) X.A (isTrue e X.env whole) (TP X pins σ Q) X.xe s
def aSem (X : Cx) (es : List Expr) : TA := fun σ H Q => ∀ (pos : Pos) pins s, Inv X pins σ H s → wpAny (model X.prog X.w) X.A (spliced (backTo pos (starEach es X.env))) (AP X pins σ Q) X.xe s
def sSem (X : Cx) (st : List Stmt) : TS := fun D σ H => ∀ pins s, Inv X pins σ H s → wpAny (model X.prog X.w) X.A (execs st X.env) (SP X pins D) X.xe s
def s1Sem (X : Cx) (st : Stmt) : TS := fun D σ H => ∀ pins s, Inv X pins σ H s → wpAny (model X.prog X.w) X.A (exec st X.env) (SP X pins D) X.xe s
def iSem (X : Cx) (tg iter : Expr) : TI := fun σ H R => ∀ pins s, Inv X pins σ H s →
    wpAny (model X.prog X.w) X.A (eval iter X.env) (fun v s1 => wpAny (model X.prog X.w) X.A (pyIter v) (PIE X pins σ tg R) X.xe s1) X.xe s
def gSem (X : Cx) (tg : Expr) : TG := fun v σ H Q => ∀ pins s (u : Value), Inv X pins σ H s → RelV v u → wpAny (model X.prog X.w) X.A (assign tg X.env u) (fun _ s' => ∃ σ' H', Inv X pins σ' H' s' ∧ Q σ' H') X.xe s
def oSem (X : Cx) (e : Option Expr) : TO := fun σ H Q => ∀ pins s, Inv X pins σ H s → wpAny (model X.prog X.w) X.A (evalPart e X.env) (fun u s' => ∃ o H', Inv X pins σ H' s' ∧ IsPart u o ∧ Q o H') X.xe s
section
variable {X : Cx}
theorem eS {e : Expr} : PE X e (eSem X e) := ⟨fun pins s σ H Q I h => h pins s I⟩
theorem tS {e : Expr} : PT X e (tSem X e) := ⟨fun pins s σ H Q I h => h pins s I⟩
theorem wS {e : Expr} : PW X e (wSem X e) := ⟨fun wh pins s σ H Q I h => h wh pins s I⟩
theorem aS {es : List Expr} : PA X es (aSem X es) := ⟨fun pos pins s σ H Q I h => h pos pins s I⟩
theorem sS {st : List Stmt} : PSs X st (sSem X st) := ⟨fun pins s σ H D I h => h pins s I⟩
theorem s1S {st : Stmt} : PS X st (s1Sem X st) := ⟨fun pins s σ H D I h => h pins s I⟩
theorem iS {tg e : Expr} : PI X tg e (iSem X tg e) := ⟨fun pins s σ H R I h => h pins s I⟩
theorem gS {tg : Expr} : PG X tg (gSem X tg) := ⟨fun pins s σ H v u Q I r h => h pins s u I r⟩
theorem oS {e : Option Expr} : PO X e (oSem X e) := ⟨fun pins s σ H Q I h => h pins s I⟩
theorem PE_to {e : Expr} {t : TE} (h : PE X e t) {σ : L2.St} {H : Hp} {Q : VK} (q : t σ H Q) : eSem X e σ H Q := fun pins s I => h.run pins s σ H Q I q
theorem PT_to {e : Expr} {t : TT} (h : PT X e t) {σ : L2.St} {H : Hp} {Q : Bool → Hp → Prop} (q : t σ H Q) : tSem X e σ H Q := fun pins s I => h.run pins s σ H Q I q
theorem PW_to {e : Expr} {t : TT} (h : PW X e t) {σ : L2.St} {H : Hp} {Q : Bool → Hp → Prop} (q : t σ H Q) : wSem X e σ H Q := fun wh pins s I => h.run wh pins s σ H Q I q
theorem PA_to {es : List Expr} {t : TA} (h : PA X es t) {σ : L2.St} {H : Hp} {Q : List V → Hp → Prop} (q : t σ H Q) : aSem X es σ H Q := fun pos pins s I => h.run pos pins s σ H Q I q
theorem PSs_to {st : List Stmt} {t : TS} (h : PSs X st t) {σ : L2.St} {H : Hp} {D : Ends} (q : t D σ H) : sSem X st D σ H := fun pins s I => h.run pins s σ H D I q
theorem PS_to {st : Stmt} {t : TS} (h : PS X st t) {σ : L2.St} {H : Hp} {D : Ends} (q : t D σ H) : s1Sem X st D σ H := fun pins s I => h.run pins s σ H D I q
theorem PI_to {tg e : Expr} {t : TI} (h : PI X tg e t) {σ : L2.St} {H : Hp} {R : It → Hp → Prop} (q : t σ H R) : iSem X tg e σ H R := fun pins s I => h.run pins s σ H R I q
end

/-! ### the judgements: e gives what m says, in any state that Γ tells -/
/-- a frozen value | one that may be read | a new thing of one's own | a test | arguments -/
structure JE (X : Cx) (R0 H0 : Hp) (Γ : List Slot) (e : Expr) {α : Type} [Py α] (m : Option α) : Prop where
  run : ∀ σ R H, Sat X.K R0 H0 Γ σ R H → ∀ a, m = some a → ∀ Q : VK, (∀ v R' H', Ext R H R' H' → rep X.K R' v a → Q v H') → eSem X e σ H Q
instance {X : Cx} {R0 H0 : Hp} {Γ : List Slot} {e : Expr} {α : Type} [Py α] {m : Option α} : CoeFun (JE X R0 H0 Γ e m) fun _ => ∀ σ R H, Sat X.K R0 H0 Γ σ R H → ∀ a, m = some a → ∀ Q : VK, (∀ v R' H', Ext R H R' H' → rep X.K R' v a → Q v H') → eSem X e σ H Q := ⟨JE.run⟩
structure JB (X : Cx) (R0 H0 : Hp) (Γ : List Slot) (e : Expr) {α : Type} [Py α] (m : Option α) : Prop where
  run : ∀ σ R H, Sat X.K R0 H0 Γ σ R H → ∀ a, m = some a → ∀ Q : VK, (∀ v R' H', Ext R H R' H' → bor X.K R' H' v a → Q v H') → eSem X e σ H Q
instance {X : Cx} {R0 H0 : Hp} {Γ : List Slot} {e : Expr} {α : Type} [Py α] {m : Option α} : CoeFun (JB X R0 H0 Γ e m) fun _ => ∀ σ R H, Sat X.K R0 H0 Γ σ R H → ∀ a, m = some a → ∀ Q : VK, (∀ v R' H', Ext R H R' H' → bor X.K R' H' v a → Q v H') → eSem X e σ H Q := ⟨JB.run⟩
structure JO (X : Cx) (R0 H0 : Hp) (Γ : List Slot) (e : Expr) {α : Type} [Ob α] (m : Option α) : Prop where
  run : ∀ σ R H, Sat X.K R0 H0 Γ σ R H → ∀ a, m = some a → ∀ Q : VK, (∀ p o R' H', Ext R H R' H' → H p = none → H' p = some o → R' p = none → ho X.K R' o a → Q (.ref p) H') → eSem X e σ H Q
instance {X : Cx} {R0 H0 : Hp} {Γ : List Slot} {e : Expr} {α : Type} [Ob α] {m : Option α} : CoeFun (JO X R0 H0 Γ e m) fun _ => ∀ σ R H, Sat X.K R0 H0 Γ σ R H → ∀ a, m = some a → ∀ Q : VK, (∀ p o R' H', Ext R H R' H' → H p = none → H' p = some o → R' p = none → ho X.K R' o a → Q (.ref p) H') → eSem X e σ H Q := ⟨JO.run⟩
structure JT (X : Cx) (R0 H0 : Hp) (Γ : List Slot) (e : Expr) (m : Option Bool) : Prop where
  run : ∀ σ R H, Sat X.K R0 H0 Γ σ R H → ∀ a, m = some a → ∀ Q : Bool → Hp → Prop, (∀ R' H', Ext R H R' H' → Q a H') → tSem X e σ H Q
instance {X : Cx} {R0 H0 : Hp} {Γ : List Slot} {e : Expr} {m : Option Bool} : CoeFun (JT X R0 H0 Γ e m) fun _ => ∀ σ R H, Sat X.K R0 H0 Γ σ R H → ∀ a, m = some a → ∀ Q : Bool → Hp → Prop, (∀ R' H', Ext R H R' H' → Q a H') → tSem X e σ H Q := ⟨JT.run⟩
structure JW (X : Cx) (R0 H0 : Hp) (Γ : List Slot) (e : Expr) (m : Option Bool) : Prop where
  run : ∀ σ R H, Sat X.K R0 H0 Γ σ R H → ∀ a, m = some a → ∀ Q : Bool → Hp → Prop, (∀ R' H', Ext R H R' H' → Q a H') → wSem X e σ H Q
instance {X : Cx} {R0 H0 : Hp} {Γ : List Slot} {e : Expr} {m : Option Bool} : CoeFun (JW X R0 H0 Γ e m) fun _ => ∀ σ R H, Sat X.K R0 H0 Γ σ R H → ∀ a, m = some a → ∀ Q : Bool → Hp → Prop, (∀ R' H', Ext R H R' H' → Q a H') → wSem X e σ H Q := ⟨JW.run⟩
structure JP (X : Cx) (R0 H0 : Hp) (Γ : List Slot) (e : Option Expr) (m : Option (Option Int)) : Prop where
  run : ∀ σ R H, Sat X.K R0 H0 Γ σ R H → ∀ a, m = some a → ∀ Q : Option Int → Hp → Prop, (∀ R' H', Ext R H R' H' → Q a H') → oSem X e σ H Q
instance {X : Cx} {R0 H0 : Hp} {Γ : List Slot} {e : Option Expr} {m : Option (Option Int)} : CoeFun (JP X R0 H0 Γ e m) fun _ => ∀ σ R H, Sat X.K R0 H0 Γ σ R H → ∀ a, m = some a → ∀ Q : Option Int → Hp → Prop, (∀ R' H', Ext R H R' H' → Q a H') → oSem X e σ H Q := ⟨JP.run⟩
class Ar (γ : Type) where
  ok : PySem.W.Frag → Hp → Hp → List V → γ → Prop
  mono : ∀ {K : PySem.W.Frag} {R R' H H' : Hp} {vs : List V} {g : γ}, Ex R R' → Ex H H' → ok K R H vs g → ok K R' H' vs g
  slots : γ → List Slot
  sl : ∀ {K : PySem.W.Frag} {R H R' H' : Hp} {vs : List V} {g : γ}, ok K R H vs g → ∀ {Γ : List Slot} {σ : L2.St} {os : List Addr}, SlotsOk K R H R' H' Γ σ os → SlotsOk K R H R' H' (slots g ++ Γ) (vs.map some ++ σ) os
instance instArU : Ar Unit where
  ok := fun _ _ _ vs _ => vs = []
  mono := fun _ _ h => h
  slots := fun _ => []
  sl := fun {K R H R' H' vs g} h {Γ σ os} s => by
    subst h
    exact s
instance instArC {α γ : Type} [Py α] [Ar γ] : Ar (α × γ) where
  ok := fun K R H vs g => ∃ v r, vs = v :: r ∧ bor K R H v g.1 ∧ Ar.ok K R H r g.2
  mono := fun e1 e2 ⟨v, r, h, b, q⟩ => ⟨v, r, h, Py.bmono e1 e2 b, Ar.mono e1 e2 q⟩
  slots := fun g => .b g.1 :: Ar.slots g.2
  sl := fun {K R H R' H' vs g} h {Γ σ os} s => by
    obtain ⟨v, r, rfl, b, q⟩ := h
    exact ⟨[], os, rfl, ⟨rfl, v, rfl, b⟩, Ar.sl q s⟩
structure JA (X : Cx) (R0 H0 : Hp) (Γ : List Slot) (es : List Expr) {γ : Type} [Ar γ] (m : Option γ) : Prop where
  run : ∀ σ R H, Sat X.K R0 H0 Γ σ R H → ∀ g, m = some g → ∀ Q : List V → Hp → Prop, (∀ vs R' H', Ext R H R' H' → Ar.ok X.K R' H' vs g → Q vs H') → aSem X es σ H Q
instance {X : Cx} {R0 H0 : Hp} {Γ : List Slot} {es : List Expr} {γ : Type} [Ar γ] {m : Option γ} : CoeFun (JA X R0 H0 Γ es m) fun _ => ∀ σ R H, Sat X.K R0 H0 Γ σ R H → ∀ g, m = some g → ∀ Q : List V → Hp → Prop, (∀ vs R' H', Ext R H R' H' → Ar.ok X.K R' H' vs g → Q vs H') → aSem X es σ H Q := ⟨JA.run⟩
/-- an exception of the program: its class's name, what it carries -/
inductive Pl
  | no
  | int (f : Str) (x : Int)
  | str (f : Str) (x : Str)
  | txts (f : Str) (x : List Str)
structure Xv where
  c : Str
  p : Pl
def PlOk (K : PySem.W.Frag) (R : Hp) (d : Option Addr) : Pl → Prop
  | .no => d = none
  | .int f x => ∃ dd, d = some dd ∧ R dd = some (.xd [(f, .int x)])
  | .str f x => ∃ dd, d = some dd ∧ R dd = some (.xd [(f, .str x)])
  | .txts f x => ∃ dd v, d = some dd ∧ R dd = some (.xd [(f, v)]) ∧ rep K R v x
def XOk (K : PySem.W.Frag) (R : Hp) (cls : Value) (d : Option Addr) (x : Xv) : Prop := ∃ C, PySem.W.nsIn K mainGlobals x.c = some (some (.ref C)) ∧ cls = .ref C ∧ PlOk K R d x.p
theorem XOk.mono {K : PySem.W.Frag} {R R' : Hp} {cls : Value} {d : Option Addr} {x : Xv} (e : Ex R R') (h : XOk K R cls d x) : XOk K R' cls d x := by
  obtain ⟨c, p⟩ := x
  obtain ⟨C, h1, h2, h3⟩ := h
  refine ⟨C, h1, h2, ?_⟩
  cases p with
  | no => exact h3
  | int f i =>
    obtain ⟨dd, a, b⟩ := h3
    exact ⟨dd, a, e _ _ b⟩
  | str f i =>
    obtain ⟨dd, a, b⟩ := h3
    exact ⟨dd, a, e _ _ b⟩
  | txts f l =>
    obtain ⟨dd, v, a, b, r⟩ := h3
    exact ⟨dd, v, a, e _ _ b, Py.mono e r⟩
/-- rt, ro, rd: what is given back; ex, et: an exception, in a def | in the body of a try; exn: one without a context; rs, xs: what is given back | raised, and the slots as they then are -/
inductive Out : Type 1
  | nx (Γ : List Slot)
  | rt {α : Type} [Py α] (a : α)
  | ro {α : Type} [Ob α] (a : α)
  | rd {α : Type} [Od α] (a : α)
  | bk (Γ : List Slot)
  | ct (Γ : List Slot)
  | ex (x : Xv)
  | et (Γ : List Slot) (x : Xv)
  | exn (x : Xv)
  | rs {α : Type} [Py α] (Γ : List Slot) (a : α)
  | xs (Γ : List Slot) (x : Xv)
def Req (X : Cx) (R0 H0 Rb : Hp) (D : Ends) (o : Out) : Prop := match o with
  | .nx Γ => ∀ σ R H, Ex Rb R → Sat X.K R0 H0 Γ σ R H → D.nx σ H
  | @Out.rt _ i a => ∀ v R H, Ext R0 H0 R H → @Py.rep _ i X.K R v a → D.rt v H
  | @Out.ro _ i a => ∀ p o R H, Ext R0 H0 R H → H0 p = none → H p = some o → R p = none → @Ob.ho _ i X.K R o a → D.rt (.ref p) H
  | @Out.rd _ i a => ∀ p o ps R H, Ext R0 H0 R H → (∀ c ∈ p :: ps, H0 c = none) → (p :: ps).Nodup → H p = some o → (∀ c ∈ p :: ps, R c = none) → @Od.dh _ i X.K R H o ps a → D.rt (.ref p) H
  | .bk Γ => ∀ σ R H, Ex Rb R → Sat X.K R0 H0 Γ σ R H → D.bk σ H
  | .ct Γ => ∀ σ R H, Ex Rb R → Sat X.K R0 H0 Γ σ R H → D.ct σ H
  | .ex x => Takes X fun cls d _ H => ∃ R, Ext R0 H0 R H ∧ XOk X.K R cls d x
  | .et Γ x => Takes X fun cls d σ H => ∃ R, Ex Rb R ∧ Sat X.K R0 H0 Γ σ R H ∧ XOk X.K R cls d x
  | .exn x => L2N.Takes X fun cls d _ H => ∃ R, Ext R0 H0 R H ∧ XOk X.K R cls d x
  | @Out.rs _ i Γ a => ∀ v σ R H, Sat X.K R0 H0 Γ σ R H → @Py.rep _ i X.K R v a → D.rt v H
  | .xs Γ x => Takes X fun cls d σ H => ∃ R σ2, Sat X.K R0 H0 Γ σ2 R H ∧ XOk X.K R cls d x
theorem Req.mono {X : Cx} {R0 H0 R R' : Hp} {D : Ends} {o : Out} (e : Ex R R') (h : Req X R0 H0 R D o) : Req X R0 H0 R' D o := by
  cases o with
  | nx Γ => exact fun σ R2 H e2 S => h σ R2 H (e.trans e2) S
  | rt a => exact h
  | ro a => exact h
  | rd a => exact h
  | bk Γ => exact fun σ R2 H e2 S => h σ R2 H (e.trans e2) S
  | ct Γ => exact fun σ R2 H e2 S => h σ R2 H (e.trans e2) S
  | ex x => exact h
  | et Γ x => exact Takes.imp h fun cls d σ H ⟨R2, e2, q⟩ => ⟨R2, e.trans e2, q⟩
  | exn x => exact h
  | rs Γ a => exact h
  | xs Γ x => exact h
/-- statements: the outcome that m says -/
structure JS (X : Cx) (R0 H0 : Hp) (Γ : List Slot) (st : List Stmt) {β : Type} (m : Option β) (out : β → Out) : Prop where
  run : ∀ σ R H, Sat X.K R0 H0 Γ σ R H → ∀ b, m = some b → ∀ D : Ends, Req X R0 H0 R D (out b) → sSem X st D σ H
instance {X : Cx} {R0 H0 : Hp} {Γ : List Slot} {st : List Stmt} {β : Type} {m : Option β} {out : β → Out} : CoeFun (JS X R0 H0 Γ st m out) fun _ => ∀ σ R H, Sat X.K R0 H0 Γ σ R H → ∀ b, m = some b → ∀ D : Ends, Req X R0 H0 R D (out b) → sSem X st D σ H := ⟨JS.run⟩
structure J1 (X : Cx) (R0 H0 : Hp) (Γ : List Slot) (st : Stmt) {β : Type} (m : Option β) (out : β → Out) : Prop where
  run : ∀ σ R H, Sat X.K R0 H0 Γ σ R H → ∀ b, m = some b → ∀ D : Ends, Req X R0 H0 R D (out b) → s1Sem X st D σ H
instance {X : Cx} {R0 H0 : Hp} {Γ : List Slot} {st : Stmt} {β : Type} {m : Option β} {out : β → Out} : CoeFun (J1 X R0 H0 Γ st m out) fun _ => ∀ σ R H, Sat X.K R0 H0 Γ σ R H → ∀ b, m = some b → ∀ D : Ends, Req X R0 H0 R D (out b) → s1Sem X st D σ H := ⟨J1.run⟩

theorem bind_some' {α β : Type} {m : Option α} {f : α → Option β} {b : β} (h : m.bind f = some b) : ∃ a, m = some a ∧ f a = some b := by
  cases m with
  | none => cases h
  | some a => exact ⟨a, rfl, h⟩
class Flat (α : Type) [Py α] : Prop where
  flat : ∀ {K : PySem.W.Frag} {R H : Hp} {v : V} {a : α}, bor K R H v a → rep K R v a
instance : Flat Int := ⟨fun h => h⟩
instance : Flat Bool := ⟨fun h => h⟩
instance : Flat Str := ⟨fun h => h⟩
instance : Flat Unit := ⟨fun h => h⟩
instance {α β : Type} [Py α] [Py β] : Flat (α × β) := ⟨fun h => h⟩
instance {α β γ : Type} [Py α] [Py β] [Py γ] : Flat (T3 α β γ) := ⟨fun h => h⟩

def imod (x y : Int) : Option Int := if 0 < y then some (x % y) else none
def ifdiv (x y : Int) : Option Int := if 0 < y ∧ y < 2 ^ 64 then some (x / y) else none
def imul (x y : Int) : Option Int := if (-(2 ^ 64) < x ∧ x < 2 ^ 64) ∨ (-(2 ^ 64) < y ∧ y < 2 ^ 64) then some (x * y) else none
section
variable {X : Cx} {R0 H0 : Hp} {Γ : List Slot} {e a b : Expr} {pos : Pos}
/-! ### between the judgements -/
theorem jb_e {α : Type} [Py α] {m : Option α} (h : JE X R0 H0 Γ e m) : JB X R0 H0 Γ e m := .mk fun σ R H S a ea Q q => h σ R H S a ea Q fun v R' H' x r => q v R' H' x (Py.lend x.i r)
theorem je_f {α : Type} [Py α] [Flat α] {m : Option α} (h : JB X R0 H0 Γ e m) : JE X R0 H0 Γ e m := .mk fun σ R H S a ea Q q => h σ R H S a ea Q fun v R' H' x r => q v R' H' x (Flat.flat r)
theorem je_o {α : Type} [Ob α] {m : Option α} (h : JO X R0 H0 Γ e m) : JE X R0 H0 Γ e m := .mk fun σ R H S a ea Q q => h σ R H S a ea Q fun p o R' H' x np hp hr hh => by
  refine q (.ref p) (upd R' p o) H' ⟨x.r.trans (.new hr), x.h, x.i.put hp, fun z u t hz hn => ?_⟩ ⟨p, o, rfl, .inl upd_same, Ob.mono (.new hr) hh⟩
  rw [upd_ne (ne_of_none hz np)]
  exact x.n z u t hz hn
theorem jb_o {α : Type} [Ob α] {m : Option α} (h : JO X R0 H0 Γ e m) : JB X R0 H0 Γ e m := jb_e (je_o h)
/-! ### names and constants -/
theorem je_var (i : Nat) {x : Str} {α : Type} [Py α] {c : α} (hΓ : Γ[i]? = some (.v c) := by rfl) (hN : X.N[i]? = some x := by rfl) (hv : Vis X.env.scope x := by first | exact Or.inl rfl | exact Or.inr (Or.inl rfl) | exact Or.inr (Or.inr rfl)) (hd : (x == ("__debug__" : Str)) = false := by decide)
    (hcd : (x == ("__classdict__" : Str)) = false := by decide) : JE X R0 H0 Γ (.Name x pos) (some c) := .mk fun σ R H S a ea Q q => by
  cases ea
  obtain ⟨v, hs, r⟩ := S.get_v hΓ
  exact PE_to (pv i hN hv hd hcd) ⟨v, hs, q v R H (.refl S.i) r⟩
theorem jb_var (i : Nat) {x : Str} {α : Type} [Py α] {c : α} (hΓ : Γ[i]? = some (.b c) := by rfl) (hN : X.N[i]? = some x := by rfl) (hv : Vis X.env.scope x := by first | exact Or.inl rfl | exact Or.inr (Or.inl rfl) | exact Or.inr (Or.inr rfl)) (hd : (x == ("__debug__" : Str)) = false := by decide)
    (hcd : (x == ("__classdict__" : Str)) = false := by decide) : JB X R0 H0 Γ (.Name x pos) (some c) := .mk fun σ R H S a ea Q q => by
  cases ea
  obtain ⟨v, hs, r⟩ := S.get_b hΓ
  exact PE_to (pv i hN hv hd hcd) ⟨v, hs, q v R H (.refl S.i) (Py.bmono S.e0.r S.e0.h r)⟩
theorem jb_own (i : Nat) {x : Str} {α : Type} [Ob α] {c : α} (hΓ : Γ[i]? = some (.own c) := by rfl) (hN : X.N[i]? = some x := by rfl) (hv : Vis X.env.scope x := by first | exact Or.inl rfl | exact Or.inr (Or.inl rfl) | exact Or.inr (Or.inr rfl)) (hd : (x == ("__debug__" : Str)) = false := by decide)
    (hcd : (x == ("__classdict__" : Str)) = false := by decide) : JB X R0 H0 Γ (.Name x pos) (some c) := .mk fun σ R H S a ea Q q => by
  cases ea
  obtain ⟨p, o, hs, hp, hh, _⟩ := S.get_own hΓ
  exact PE_to (pv i hN hv hd hcd) ⟨.ref p, hs, q (.ref p) R H (.refl S.i) ⟨p, o, rfl, .inl hp, hh⟩⟩
theorem je_int {i : Int} {j : Nat} : JE X R0 H0 Γ (.Constant (.int i) j pos) (some i) := .mk fun σ R H S a ea Q q => by
  cases ea
  exact PE_to pe_int (q _ R H (.refl S.i) rfl)
theorem je_str {i : Str} {j : Nat} : JE X R0 H0 Γ (.Constant (.str i) j pos) (some i) := .mk fun σ R H S a ea Q q => by
  cases ea
  exact PE_to pe_str (q _ R H (.refl S.i) rfl)
theorem je_bl {i : Bool} {j : Nat} : JE X R0 H0 Γ (.Constant (.bool i) j pos) (some i) := .mk fun σ R H S a ea Q q => by
  cases ea
  exact PE_to pe_bl (q _ R H (.refl S.i) rfl)
theorem je_glob {x : Str} {z : Str} {t : Tok} (hm : X.mg x = some (.str z t)) (hg : Gl X x := by rfl) (hd : (x == ("__debug__" : Str)) = false := by decide) : JE X R0 H0 Γ (.Name x pos) (some z) := .mk fun σ R H S a ea Q q => by
  cases ea
  exact PE_to (pe_glob (v := .str z) hg hm ⟨t, rfl⟩ hd) (q _ R H (.refl S.i) rfl)
/-! ### two operands -/
theorem je_op2 {α β γ : Type} [Py α] [Py β] [Py γ] {op : Operator} {r : R2} {ma : Option α} {mb : Option β} {f : α → β → Option γ} (ho : OpR X (binaryOp op) r)
    (hr : ∀ (R H : Hp) (v w : V) (x : α) (y : β) (z : γ), Ex R H → bor X.K R H v x → bor X.K R H w y → f x y = some z → ∀ Q : VK, (∀ u R' H', Ext R H R' H' → rep X.K R' u z → Q u H') → r v w H Q)
    (ha : JB X R0 H0 Γ a ma) (hb : JB X R0 H0 Γ b mb) : JE X R0 H0 Γ (.BinOp a op b pos) (ma.bind fun x => mb.bind fun y => f x y) := .mk fun σ R H S z ez Q q => by
  obtain ⟨x, ex, ez⟩ := bind_some' ez
  obtain ⟨y, ey, ez⟩ := bind_some' ez
  refine PE_to (pe_op ho eS eS) (ha σ R H S x ex _ fun v R1 H1 e1 r1 => hb σ R1 H1 (S.ext e1) y ey _ fun w R2 H2 e2 r2 => ?_)
  exact hr R2 H2 v w x y z e2.i (Py.bmono e2.r e2.h r1) r2 ez Q fun u R3 H3 e3 r3 => q u R3 H3 ((e1.trans e2).trans e3) r3
theorem je_cmp2 {α β γ : Type} [Py α] [Py β] [Py γ] {op : CmpOp} {r : R2} {ma : Option α} {mb : Option β} {f : α → β → Option γ} (ho : OpR X (compareOp op) r) (hm : behindInMarks op b = false)
    (hr : ∀ (R H : Hp) (v w : V) (x : α) (y : β) (z : γ), Ex R H → bor X.K R H v x → bor X.K R H w y → f x y = some z → ∀ Q : VK, (∀ u R' H', Ext R H R' H' → rep X.K R' u z → Q u H') → r v w H Q)
    (ha : JB X R0 H0 Γ a ma) (hb : JB X R0 H0 Γ b mb) : JE X R0 H0 Γ (.Compare a [op] [b] pos) (ma.bind fun x => mb.bind fun y => f x y) := .mk fun σ R H S z ez Q q => by
  obtain ⟨x, ex, ez⟩ := bind_some' ez
  obtain ⟨y, ey, ez⟩ := bind_some' ez
  refine PE_to (pe_cmpR ho eS eS hm) (ha σ R H S x ex _ fun v R1 H1 e1 r1 => hb σ R1 H1 (S.ext e1) y ey _ fun w R2 H2 e2 r2 => ?_)
  exact hr R2 H2 v w x y z e2.i (Py.bmono e2.r e2.h r1) r2 ez Q fun u R3 H3 e3 r3 => q u R3 H3 ((e1.trans e2).trans e3) r3
theorem jt_cmp2 {α β : Type} [Py α] [Py β] {op : CmpOp} {r : R2} {ma : Option α} {mb : Option β} {f : α → β → Option Bool} (ho : OpR X (compareOp op) r) (hm : behindInMarks op b = false)
    (hr : ∀ (R H : Hp) (v w : V) (x : α) (y : β) (z : Bool), Ex R H → bor X.K R H v x → bor X.K R H w y → f x y = some z → ∀ Q : VK, (∀ u R' H', Ext R H R' H' → rep X.K R' u z → Q u H') → r v w H Q)
    (ha : JB X R0 H0 Γ a ma) (hb : JB X R0 H0 Γ b mb) : JT X R0 H0 Γ (.Compare a [op] [b] pos) (ma.bind fun x => mb.bind fun y => f x y) := .mk fun σ R H S z ez Q q => by
  obtain ⟨x, ex, ez⟩ := bind_some' ez
  obtain ⟨y, ey, ez⟩ := bind_some' ez
  refine PT_to (pt_cmpR ho eS eS hm) (ha σ R H S x ex _ fun v R1 H1 e1 r1 => hb σ R1 H1 (S.ext e1) y ey _ fun w R2 H2 e2 r2 => ?_)
  exact hr R2 H2 v w x y z e2.i (Py.bmono e2.r e2.h r1) r2 ez _ fun u R3 H3 e3 r3 => ⟨z, r3, q R3 H3 ((e1.trans e2).trans e3)⟩
/-! ### whole numbers -/
theorem ri0 {g : Int → Int → Int} {K : PySem.W.Frag} (R H : Hp) (v w : V) (x y z : Int) (i : Ex R H) (h1 : bor K R H v x) (h2 : bor K R H w y) (h3 : some (g x y) = some z) (Q : VK) (q : ∀ u R' H', Ext R H R' H' → rep K R' u z → Q u H') : rI0 (fun i j => .int (g i j)) v w H Q := by
  cases h3
  exact ⟨x, y, h1, h2, q _ R H (.refl i) rfl⟩
theorem rib0 {g : Int → Int → Bool} {K : PySem.W.Frag} (R H : Hp) (v w : V) (x y : Int) (z : Bool) (i : Ex R H) (h1 : bor K R H v x) (h2 : bor K R H w y) (h3 : some (g x y) = some z) (Q : VK) (q : ∀ u R' H', Ext R H R' H' → rep K R' u z → Q u H') : rI0 (fun i j => .bl (g i j)) v w H Q := by
  cases h3
  exact ⟨x, y, h1, h2, q _ R H (.refl i) rfl⟩
variable {ma mb : Option Int} {x y : Int}
theorem je_add (ha : JB X R0 H0 Γ a ma) (hb : JB X R0 H0 Γ b mb) : JE X R0 H0 Γ (.BinOp a .Add b pos) (ma.bind fun x => mb.bind fun y => some (x + y)) := je_op2 op_add ri0 ha hb
theorem je_add_t (ha : JB X R0 H0 Γ a (some x)) (hb : JB X R0 H0 Γ b (some y)) : JE X R0 H0 Γ (.BinOp a .Add b pos) (some (x + y)) := je_add ha hb
theorem je_sub (ha : JB X R0 H0 Γ a ma) (hb : JB X R0 H0 Γ b mb) : JE X R0 H0 Γ (.BinOp a .Sub b pos) (ma.bind fun x => mb.bind fun y => some (x - y)) := je_op2 op_sub ri0 ha hb
theorem je_sub_t (ha : JB X R0 H0 Γ a (some x)) (hb : JB X R0 H0 Γ b (some y)) : JE X R0 H0 Γ (.BinOp a .Sub b pos) (some (x - y)) := je_sub ha hb
theorem JE.eq {α : Type} [Py α] {m m' : Option α} (h : JE X R0 H0 Γ e m) (q : m = m') : JE X R0 H0 Γ e m' := by
  rw [← q]
  exact h
theorem je_mod (ha : JB X R0 H0 Γ a ma) (hb : JB X R0 H0 Γ b mb) : JE X R0 H0 Γ (.BinOp a .Mod b pos) (ma.bind fun x => mb.bind fun y => imod x y) := je_op2 op_mod (fun R H v w x y z i h1 h2 h3 Q q => by
  unfold imod at h3
  by_cases hy : 0 < y
  · rw [if_pos hy] at h3
    cases h3
    exact ⟨x, y, h1, h2, hy, q _ R H (.refl i) rfl⟩
  · rw [if_neg hy] at h3
    cases h3) ha hb
theorem je_mod_t (ha : JB X R0 H0 Γ a (some x)) (hb : JB X R0 H0 Γ b (some y)) : JE X R0 H0 Γ (.BinOp a .Mod b pos) (imod x y) := je_mod ha hb
/-- by a written positive number -/
theorem je_modc_t {c : Int} {j : Nat} {p2 : Pos} (ha : JB X R0 H0 Γ a (some x)) (hc : 0 < c := by decide) : JE X R0 H0 Γ (.BinOp a .Mod (.Constant (.int c) j p2) pos) (some (x % c)) := (je_mod_t ha (jb_e je_int)).eq (if_pos hc)
theorem je_modc {c : Int} {j : Nat} {p2 : Pos} (ha : JB X R0 H0 Γ a ma) (hc : 0 < c := by decide) : JE X R0 H0 Γ (.BinOp a .Mod (.Constant (.int c) j p2) pos) (ma.bind fun x => some (x % c)) := (je_mod ha (jb_e je_int)).eq (by
  cases ma with
  | none => rfl
  | some x => exact if_pos hc)
theorem cdivw {y : Int} (h : 0 < y) (h2 : y < 2 ^ 64) : y.natAbs.log2 < 9000 := by
  have : y.natAbs.log2 < 64 := (Nat.log2_lt (by omega)).mpr (by omega)
  omega
theorem je_fdiv (ha : JB X R0 H0 Γ a ma) (hb : JB X R0 H0 Γ b mb) : JE X R0 H0 Γ (.BinOp a .FloorDiv b pos) (ma.bind fun x => mb.bind fun y => ifdiv x y) := je_op2 op_fdivW (fun R H v w x y z i h1 h2 h3 Q q => by
  unfold ifdiv at h3
  by_cases hy : 0 < y ∧ y < 2 ^ 64
  · rw [if_pos hy] at h3
    cases h3
    exact ⟨x, y, h1, h2, ⟨hy.1, cdivw hy.1 hy.2⟩, q _ R H (.refl i) rfl⟩
  · rw [if_neg hy] at h3
    cases h3) ha hb
theorem je_fdivc_t {c : Int} {j : Nat} {p2 : Pos} (ha : JB X R0 H0 Γ a (some x)) (hc : 0 < c ∧ c < 2 ^ 64 := by decide) : JE X R0 H0 Γ (.BinOp a .FloorDiv (.Constant (.int c) j p2) pos) (some (x / c)) := (je_fdiv ha (jb_e je_int)).eq (if_pos hc)
theorem je_fdivc {c : Int} {j : Nat} {p2 : Pos} (ha : JB X R0 H0 Γ a ma) (hc : 0 < c ∧ c < 2 ^ 64 := by decide) : JE X R0 H0 Γ (.BinOp a .FloorDiv (.Constant (.int c) j p2) pos) (ma.bind fun x => some (x / c)) := (je_fdiv ha (jb_e je_int)).eq (by
  cases ma with
  | none => rfl
  | some x => exact if_pos hc)
end
end FK

namespace FK
open PySem PySem.Spec PyProof.Rows L2

inductive Fl (S ρ : Type) where
  | nx (s : S) | rt (r : ρ) | bk (s : S) | ct (s : S)
def outF {S ρ : Type} (Γ : S → List Slot) (ret : ρ → Out) : Fl S ρ → Out
  | .nx s => .nx (Γ s)
  | .rt r => ret r
  | .bk s => .bk (Γ s)
  | .ct s => .ct (Γ s)
/-- a block that never falls through -/
structure JN (X : Cx) (R0 H0 : Hp) (Γ : List Slot) (st : List Stmt) {β : Type} (m : Option β) (out : β → Out) : Prop where
  run : ∀ σ R H, Sat X.K R0 H0 Γ σ R H → ∀ b, m = some b → ∀ (D : Ends) (n : L2.St → Hp → Prop), Req X R0 H0 R D (out b) → sSem X st { D with nx := n } σ H
instance {X : Cx} {R0 H0 : Hp} {Γ : List Slot} {st : List Stmt} {β : Type} {m : Option β} {out : β → Out} : CoeFun (JN X R0 H0 Γ st m out) fun _ => ∀ σ R H, Sat X.K R0 H0 Γ σ R H → ∀ b, m = some b → ∀ (D : Ends) (n : L2.St → Hp → Prop), Req X R0 H0 R D (out b) → sSem X st { D with nx := n } σ H := ⟨JN.run⟩
def Sub (Γ Γ' : List Slot) : Prop := ∀ K R0 H0 σ R H, Sat K R0 H0 Γ σ R H → ∃ R', Ex R R' ∧ Sat K R0 H0 Γ' σ R' H
theorem sub_rfl {Γ : List Slot} : Sub Γ Γ := fun K R0 H0 σ R H S => ⟨R, .refl R, S⟩
theorem set_same {σ : L2.St} {i : Nat} {x : Option V} (h : σ[i]? = some x) : σ.set i x = σ := by
  refine List.ext_getElem? fun j => ?_
  rw [List.getElem?_set]
  split
  · rename_i hij
    subst hij
    split
    · exact h.symm
    · rename_i hj
      exact (List.getElem?_eq_none_iff.mpr (Nat.le_of_not_lt hj)).symm
  · rfl
theorem Sat.slot {K : PySem.W.Frag} {R0 H0 R H : Hp} {Γ : List Slot} {σ : L2.St} (S : Sat K R0 H0 Γ σ R H) {i : Nat} (hi : i < Γ.length) : ∃ x, σ[i]? = some x := by
  obtain ⟨⟨os, s, nd, fr⟩, e0⟩ := S
  obtain ⟨y, o1, oa, ob, h1, _⟩ := s.at (s := Γ[i]) (List.getElem?_eq_getElem hi)
  exact ⟨y, h1⟩
theorem sub_drop {Γ Γ' : List Slot} (i : Nat) (hi : i < Γ.length := by exact Nat.le_of_ble_eq_true rfl) (h : Sub (Γ.set i .any) Γ') : Sub Γ Γ' := fun K R0 H0 σ R H S => by
  obtain ⟨x, hx⟩ := S.slot hi
  have g := S.set_any x hi
  rw [set_same hx] at g
  exact h K R0 H0 σ R H g
section
variable {X : Cx} {R0 H0 : Hp} {Γ : List Slot} {e a b : Expr} {pos : Pos} {st : Stmt} {rest : List Stmt} {β : Type} {out : β → Out} {ret : β → Out}
theorem js_n {m : Option β} (h : JN X R0 H0 Γ rest m out) : JS X R0 H0 Γ rest m out := .mk fun σ R H S b eb D q => h σ R H S b eb D D.nx q
theorem js_nil {Γ' : List Slot} {x : β} (hs : Sub Γ Γ') (ho : out x = .nx Γ' := by rfl) : JS X R0 H0 Γ [] (some x) out := .mk fun σ R H S b eb D q => by
  cases eb
  rw [ho] at q
  obtain ⟨R', e', S'⟩ := hs X.K R0 H0 σ R H S
  exact PSs_to pss_nil (q σ R' H e' S')
theorem js_sub {Γ' : List Slot} {m : Option β} (hs : Sub Γ Γ') (h : JS X R0 H0 Γ' rest m out) : JS X R0 H0 Γ rest m out := .mk fun σ R H S b eb D q => by
  obtain ⟨R', e', S'⟩ := hs X.K R0 H0 σ R H S
  exact h σ R' H S' b eb D (q.mono e')
theorem jn_sub {Γ' : List Slot} {m : Option β} (hs : Sub Γ Γ') (h : JN X R0 H0 Γ' rest m out) : JN X R0 H0 Γ rest m out := .mk fun σ R H S b eb D n q => by
  obtain ⟨R', e', S'⟩ := hs X.K R0 H0 σ R H S
  exact h σ R' H S' b eb D n (q.mono e')
theorem Req.nx {D : Ends} {Rb : Hp} {n : L2.St → Hp → Prop} {o : Out} (h : Req X R0 H0 Rb D o) (hn : ∀ Γ, o ≠ .nx Γ) : Req X R0 H0 Rb { D with nx := n } o := by
  cases o with
  | nx Γ => exact absurd rfl (hn Γ)
  | rt a => exact h
  | ro a => exact h
  | rd a => exact h
  | ex x => exact h
  | et Γ x => exact h
  | exn x => exact h
  | bk Γ => exact h
  | ct Γ => exact h
  | rs Γ a => exact h
  | xs Γ x => exact h
/-- a statement that always goes on, then the rest -/
theorem js_c {S : Type} {Γ1 : S → List Slot} {m1 : Option S} {m2 : S → Option β} (h1 : J1 X R0 H0 Γ st m1 fun s => .nx (Γ1 s)) (h2 : ∀ s, JS X R0 H0 (Γ1 s) rest (m2 s) out) : JS X R0 H0 Γ (st :: rest) (m1.bind m2) out := .mk fun σ R H S b eb D q => by
  obtain ⟨s, es, eb⟩ := bind_some' eb
  exact PSs_to (pss_cons s1S sS) (h1 σ R H S s es _ fun σ' R' H' e' S' => h2 s σ' R' H' S' b eb D (q.mono e'))
theorem jn_c {S : Type} {Γ1 : S → List Slot} {m1 : Option S} {m2 : S → Option β} (h1 : J1 X R0 H0 Γ st m1 fun s => .nx (Γ1 s)) (h2 : ∀ s, JN X R0 H0 (Γ1 s) rest (m2 s) out) : JN X R0 H0 Γ (st :: rest) (m1.bind m2) out := .mk fun σ R H S b eb D n q => by
  obtain ⟨s, es, eb⟩ := bind_some' eb
  exact PSs_to (pss_cons s1S sS) (h1 σ R H S s es _ fun σ' R' H' e' S' => h2 s σ' R' H' S' b eb D n (q.mono e'))
/-- a statement that may return (or leave the loop), then the rest -/
def thenF {S ρ : Type} (m : Option (Fl S ρ)) (k : S → Option β) (r : ρ → Option β) (bk ct : S → Option β) : Option β := m.bind fun f => match f with
  | .nx s => k s
  | .rt v => r v
  | .bk s => bk s
  | .ct s => ct s
/-! ### if -/
def ifM (c : Option Bool) (x y : Option β) : Option β := c.bind fun b => if b then x else y
theorem ifM_t (c : Bool) (x y : Option β) : ifM (some c) x y = if c then x else y := rfl
/-- one branch never falls through -/
theorem js_ifr {mc : Option Bool} {A : List Stmt} {m1 m2 : Option β} (hc : JT X R0 H0 Γ e mc) (h1 : JN X R0 H0 Γ A m1 out) (h2 : JS X R0 H0 Γ rest m2 out) : JS X R0 H0 Γ (.If e A [] pos :: rest) (ifM mc m1 m2) out := .mk fun σ R H S b eb D q => by
  obtain ⟨c, ec, eb⟩ := bind_some' eb
  refine PSs_to (pss_cons (ps_if tS sS pss_nil) sS) (hc σ R H S c ec _ fun R' H' x => ?_)
  cases c with
  | true => exact h1 σ R' H' (S.ext x) b eb D _ (q.mono x.r)
  | false => exact h2 σ R' H' (S.ext x) b eb D (q.mono x.r)
theorem jn_ifr {mc : Option Bool} {A : List Stmt} {m1 m2 : Option β} (hc : JT X R0 H0 Γ e mc) (h1 : JN X R0 H0 Γ A m1 out) (h2 : JN X R0 H0 Γ rest m2 out) : JN X R0 H0 Γ (.If e A [] pos :: rest) (ifM mc m1 m2) out := .mk fun σ R H S b eb D n q => by
  obtain ⟨c, ec, eb⟩ := bind_some' eb
  refine PSs_to (pss_cons (ps_if tS sS pss_nil) sS) (hc σ R H S c ec _ fun R' H' x => ?_)
  cases c with
  | true => exact h1 σ R' H' (S.ext x) b eb D _ (q.mono x.r)
  | false => exact h2 σ R' H' (S.ext x) b eb D n (q.mono x.r)
/-- both go on (or any outcome): the outcomes' one type -/
theorem j1_if {mc : Option Bool} {A B : List Stmt} {m1 m2 : Option β} (hc : JT X R0 H0 Γ e mc) (h1 : JS X R0 H0 Γ A m1 out) (h2 : JS X R0 H0 Γ B m2 out) : J1 X R0 H0 Γ (.If e A B pos) (ifM mc m1 m2) out := .mk fun σ R H S b eb D q => by
  obtain ⟨c, ec, eb⟩ := bind_some' eb
  refine PS_to (ps_if tS sS sS) (hc σ R H S c ec _ fun R' H' x => ?_)
  cases c with
  | true => exact h1 σ R' H' (S.ext x) b eb D (q.mono x.r)
  | false => exact h2 σ R' H' (S.ext x) b eb D (q.mono x.r)
/-! ### return, break, continue -/
theorem jn_ret {α : Type} [Py α] {m : Option α} (h : JE X R0 H0 Γ e m) : JN X R0 H0 Γ (.Return (some e) pos :: rest) m fun a => .rt a := .mk fun σ R H S b eb D n q =>
  PSs_to (pss_cons (ps_ret eS) sS) (h σ R H S b eb _ fun v R' H' x r => q v R' H' (S.e0.trans x) r)
theorem jn_reto {α : Type} [Ob α] {m : Option α} (h : JO X R0 H0 Γ e m) : JN X R0 H0 Γ (.Return (some e) pos :: rest) m fun a => .ro a := .mk fun σ R H S b eb D n q =>
  PSs_to (pss_cons (ps_ret eS) sS) (h σ R H S b eb _ fun p o R' H' x np hp hr r => q p o R' H' (S.e0.trans x) (S.e0.h.none np) hp hr r)
theorem jn_retv (i : Nat) {x : Str} {p1 : Pos} {α : Type} [Ob α] {c : α} (hΓ : Γ[i]? = some (.own c) := by rfl) (hN : X.N[i]? = some x := by rfl) (hv : Vis X.env.scope x := by first | exact Or.inl rfl | exact Or.inr (Or.inl rfl) | exact Or.inr (Or.inr rfl)) (hd : (x == ("__debug__" : Str)) = false := by decide)
    (hcd : (x == ("__classdict__" : Str)) = false := by decide) : JN X R0 H0 Γ (.Return (some (.Name x p1)) pos :: rest) (some c) fun a => .ro a := .mk fun σ R H S b eb D n q => by
  cases eb
  obtain ⟨p, o, hs, hp, hh, h1, h2, _⟩ := S.get_own hΓ
  exact PSs_to (pss_cons (ps_ret (pv i hN hv hd hcd)) sS) ⟨.ref p, hs, q p o R H S.e0 h2 hp h1 hh⟩
/-- an outcome told in another type -/
theorem jn_map {β' : Type} {out' : β' → Out} {m : Option β} (f : β → β') (h : JN X R0 H0 Γ rest m out) (hf : ∀ b, out' (f b) = out b := by intro _; rfl) : JN X R0 H0 Γ rest (m.bind fun b => some (f b)) out' := .mk fun σ R H S b eb D n q => by
  obtain ⟨c, ec, eb⟩ := bind_some' eb
  cases eb
  rw [hf] at q
  exact h σ R H S c ec D n q
theorem jn_map_t {β' : Type} {out' : β' → Out} {x : β} (f : β → β') (h : JN X R0 H0 Γ rest (some x) out) (hf : ∀ b, out' (f b) = out b := by intro _; rfl) : JN X R0 H0 Γ rest (some (f x)) out' := jn_map f h hf
theorem js_map {β' : Type} {out' : β' → Out} {m : Option β} (f : β → β') (h : JS X R0 H0 Γ rest m out) (hf : ∀ b, out' (f b) = out b := by intro _; rfl) : JS X R0 H0 Γ rest (m.bind fun b => some (f b)) out' := .mk fun σ R H S b eb D q => by
  obtain ⟨c, ec, eb⟩ := bind_some' eb
  cases eb
  rw [hf] at q
  exact h σ R H S c ec D q
/-! ### name = value -/
theorem j1_set (i : Nat) {x : Str} {p1 : Pos} {α : Type} [Py α] {m : Option α} (Γ' : α → List Slot) (he : JE X R0 H0 Γ e m) (hN : X.N.Nodup) (hΓ : ∀ a, Γ' a = Γ.set i (.v a) := by intro _; rfl) (hi : X.N[i]? = some x := by rfl) (hl : i < Γ.length := by exact Nat.le_of_ble_eq_true rfl) (hx : Loc X.env.scope x := by first | exact Or.inl rfl | exact Or.inr rfl)
    (hs : swapsWith e (some (.Name x p1)) pos.line X.env = pure false := by rfl) (hf : X.fn x = true ∨ X.env.scope.names.lookup x = some .local := by first | exact .inl rfl | exact .inr rfl) : J1 X R0 H0 Γ (.Assign [.Name x p1] e pos) m fun a => .nx (Γ' a) := .mk fun σ R H S b eb D q => by
  have q : ∀ σ R' H, Ex R R' → Sat X.K R0 H0 (Γ' b) σ R' H → D.nx σ H := q
  rw [hΓ b] at q
  exact PS_to (ps_set hN hi hx eS hs hf) (he σ R H S b eb _ fun v R' H' z r => q _ R' H' z.r ((S.ext z).set_v hl r))
theorem j1_seto (i : Nat) {x : Str} {p1 : Pos} {α : Type} [Ob α] {m : Option α} (Γ' : α → List Slot) (he : JO X R0 H0 Γ e m) (hN : X.N.Nodup) (hΓ : ∀ a, Γ' a = Γ.set i (.own a) := by intro _; rfl) (hi : X.N[i]? = some x := by rfl) (hl : i < Γ.length := by exact Nat.le_of_ble_eq_true rfl) (hx : Loc X.env.scope x := by first | exact Or.inl rfl | exact Or.inr rfl)
    (hs : swapsWith e (some (.Name x p1)) pos.line X.env = pure false := by rfl) (hf : X.fn x = true ∨ X.env.scope.names.lookup x = some .local := by first | exact .inl rfl | exact .inr rfl) : J1 X R0 H0 Γ (.Assign [.Name x p1] e pos) m fun a => .nx (Γ' a) := .mk fun σ R H S b eb D q => by
  have q : ∀ σ R' H, Ex R R' → Sat X.K R0 H0 (Γ' b) σ R' H → D.nx σ H := q
  rw [hΓ b] at q
  exact PS_to (ps_set hN hi hx eS hs hf) (he σ R H S b eb _ fun p o R' H' z np hp hr r => q _ R' H' z.r (S.set_own hl z np hp hr r))
/-! ### tests -/
theorem jt_e {m : Option Bool} (h : JB X R0 H0 Γ e m) (he : ∀ whole, isTrue e X.env whole = (do let v ← whole; standAt e.pos; holding [v] (truthy v)) := by intro _; rfl) : JT X R0 H0 Γ e m := .mk fun σ R H S b eb Q q =>
  PT_to (pt_val eS he) (h σ R H S b eb _ fun v R' H' x r => ⟨b, r, q R' H' x⟩)
def bAnd (x y : Option Bool) : Option Bool := x.bind fun b => if b then y else some false
def bOr (x y : Option Bool) : Option Bool := x.bind fun b => if b then some true else y
theorem jt_w {m : Option Bool} {op : BoolOp} {es : List Expr} (h : JW X R0 H0 Γ (.BoolOp op es pos) m) : JT X R0 H0 Γ (.BoolOp op es pos) m := .mk fun σ R H S b eb Q q =>
  PT_to (PW.pt wS) (h σ R H S b eb Q q)
theorem jw_and1 {m : Option Bool} (h : JT X R0 H0 Γ a m) : JW X R0 H0 Γ (.BoolOp .And [a] pos) m := .mk fun σ R H S b eb Q q => PW_to (pw_and1 tS) (h σ R H S b eb Q q)
theorem jw_or1 {m : Option Bool} (h : JT X R0 H0 Γ a m) : JW X R0 H0 Γ (.BoolOp .Or [a] pos) m := .mk fun σ R H S b eb Q q => PW_to (pw_or1 tS) (h σ R H S b eb Q q)
theorem jw_and {es : List Expr} {m1 m2 : Option Bool} (h1 : JT X R0 H0 Γ a m1) (h2 : JW X R0 H0 Γ (.BoolOp .And (b :: es) pos) m2) : JW X R0 H0 Γ (.BoolOp .And (a :: b :: es) pos) (bAnd m1 m2) := .mk fun σ R H S z ez Q q => by
  obtain ⟨c, ec, ez⟩ := bind_some' ez
  refine PW_to (pw_and tS wS) (h1 σ R H S c ec _ fun R' H' x => ?_)
  cases c with
  | true => exact h2 σ R' H' (S.ext x) z ez Q fun R2 H2 x2 => q R2 H2 (x.trans x2)
  | false =>
    cases ez
    exact q R' H' x
theorem jw_or {es : List Expr} {m1 m2 : Option Bool} (h1 : JT X R0 H0 Γ a m1) (h2 : JW X R0 H0 Γ (.BoolOp .Or (b :: es) pos) m2) : JW X R0 H0 Γ (.BoolOp .Or (a :: b :: es) pos) (bOr m1 m2) := .mk fun σ R H S z ez Q q => by
  obtain ⟨c, ec, ez⟩ := bind_some' ez
  refine PW_to (pw_or tS wS) (h1 σ R H S c ec _ fun R' H' x => ?_)
  cases c with
  | false => exact h2 σ R' H' (S.ext x) z ez Q fun R2 H2 x2 => q R2 H2 (x.trans x2)
  | true =>
    cases ez
    exact q R' H' x
theorem jt_not {m : Option Bool} (h : JT X R0 H0 Γ a m) : JT X R0 H0 Γ (.UnaryOp .Not a pos) (m.bind fun b => some (!b)) := .mk fun σ R H S z ez Q q => by
  obtain ⟨c, ec, ez⟩ := bind_some' ez
  cases ez
  exact PT_to (pt_not tS) (h σ R H S c ec _ fun R' H' x => q R' H' x)
theorem jt_not_t {x : Bool} (h : JT X R0 H0 Γ a (some x)) : JT X R0 H0 Γ (.UnaryOp .Not a pos) (some (!x)) := jt_not h
/-- as values -/
theorem je_one {m : Option Bool} {op : BoolOp} (h : JB X R0 H0 Γ a m) : JE X R0 H0 Γ (.BoolOp op [a] pos) m := .mk fun σ R H S z ez Q q => PE_to (pe_one eS) (h σ R H S z ez Q q)
theorem je_and {es : List Expr} {m1 m2 : Option Bool} (h1 : JB X R0 H0 Γ a m1) (h2 : JE X R0 H0 Γ (.BoolOp .And (b :: es) pos) m2) : JE X R0 H0 Γ (.BoolOp .And (a :: b :: es) pos) (bAnd m1 m2) := .mk fun σ R H S z ez Q q => by
  obtain ⟨c, ec, ez⟩ := bind_some' ez
  refine PE_to (pe_and eS eS) (h1 σ R H S c ec _ fun v R' H' x r => ⟨c, r, ?_⟩)
  cases c with
  | true => exact h2 σ R' H' (S.ext x) z ez Q fun v R2 H2 x2 => q v R2 H2 (x.trans x2)
  | false =>
    cases ez
    exact q _ R' H' x rfl
theorem je_or {es : List Expr} {m1 m2 : Option Bool} (h1 : JB X R0 H0 Γ a m1) (h2 : JE X R0 H0 Γ (.BoolOp .Or (b :: es) pos) m2) : JE X R0 H0 Γ (.BoolOp .Or (a :: b :: es) pos) (bOr m1 m2) := .mk fun σ R H S z ez Q q => by
  obtain ⟨c, ec, ez⟩ := bind_some' ez
  refine PE_to (pe_or eS eS) (h1 σ R H S c ec _ fun v R' H' x r => ⟨c, r, ?_⟩)
  cases c with
  | false => exact h2 σ R' H' (S.ext x) z ez Q fun v R2 H2 x2 => q v R2 H2 (x.trans x2)
  | true =>
    cases ez
    exact q _ R' H' x rfl
end
end FK

namespace FK
open PySem PySem.Spec PyProof.Rows L2

/-! ### targets -/
structure JG (X : Cx) (R0 H0 : Hp) (Γ : List Slot) (tg : Expr) (ts : List Nat) {α : Type} [Py α] (up : α → List Slot) : Prop where
  run : ∀ σ R H, Sat X.K R0 H0 Γ σ R H → ∀ v a, rep X.K R v a → ∀ Q : L2.St → Hp → Prop, (∀ σ', (∀ vs, (∀ t ∈ ts, t ∈ vs) → wipe σ' vs = wipe σ vs) → Sat X.K R0 H0 (up a) σ' R H → Q σ' H) → gSem X tg v σ H Q
instance {X : Cx} {R0 H0 : Hp} {Γ : List Slot} {tg : Expr} {ts : List Nat} {α : Type} [Py α] {up : α → List Slot} : CoeFun (JG X R0 H0 Γ tg ts up) fun _ => ∀ σ R H, Sat X.K R0 H0 Γ σ R H → ∀ v a, rep X.K R v a → ∀ Q : L2.St → Hp → Prop, (∀ σ', (∀ vs, (∀ t ∈ ts, t ∈ vs) → wipe σ' vs = wipe σ vs) → Sat X.K R0 H0 (up a) σ' R H → Q σ' H) → gSem X tg v σ H Q := ⟨JG.run⟩
theorem wipe_at (σ : L2.St) (j : Nat) : ∀ vs : List Nat, (wipe σ vs)[j]? = if j ∈ vs then (if j < σ.length then some none else none) else σ[j]?
  | [] => by rw [if_neg (by simp)]; rfl
  | v :: vs => by
    show ((wipe σ vs).set v none)[j]? = _
    rw [List.getElem?_set, wipe_length, wipe_at σ j vs]
    by_cases h : v = j
    · subst h
      rw [if_pos rfl, if_pos (show v ∈ v :: vs from List.mem_cons_self)]
    · rw [if_neg h]
      by_cases h2 : j ∈ vs
      · rw [if_pos h2, if_pos (List.mem_cons_of_mem _ h2)]
      · rw [if_neg h2, if_neg (by simp [h2]; exact fun z => h z.symm)]
theorem wipe_set {σ : L2.St} {i : Nat} {x : Option V} {vs : List Nat} (h : i ∈ vs) : wipe (σ.set i x) vs = wipe σ vs := by
  refine List.ext_getElem? fun j => ?_
  rw [wipe_at, wipe_at, List.length_set, List.getElem?_set]
  by_cases h2 : j ∈ vs
  · rw [if_pos h2, if_pos h2]
  · rw [if_neg h2, if_neg h2, if_neg (fun z => h2 (by rw [← z]; exact h))]
theorem PG_to {X : Cx} {tg : Expr} {g : TG} (h : PG X tg g) {v : V} {σ : L2.St} {H : Hp} {Q : L2.St → Hp → Prop} (q : g v σ H Q) : gSem X tg v σ H Q := fun pins s u I r => h.run pins s σ H v u Q I r q
section
variable {X : Cx} {R0 H0 : Hp} {Γ : List Slot} {e a b : Expr} {pos : Pos} {st : Stmt} {rest : List Stmt} {β : Type} {out : β → Out}
theorem jg_name (i : Nat) {x : Str} {α : Type} [Py α] (hN : X.N.Nodup) {up : α → List Slot} (hu : ∀ a, up a = Γ.set i (.v a) := by intro _; rfl) (hi : X.N[i]? = some x := by rfl) (hl : i < Γ.length := by exact Nat.le_of_ble_eq_true rfl) (hx : Loc X.env.scope x := by first | exact Or.inl rfl | exact Or.inr rfl)
    (hf : X.fn x = true ∨ X.env.scope.names.lookup x = some .local := by first | exact .inl rfl | exact .inr rfl) : JG X R0 H0 Γ (.Name x pos) [i] up := .mk fun σ R H S v a r Q q => by
  rw [hu] at q
  exact PG_to (pg_name hN hi hx hf) (q _ (fun vs h => wipe_set (h i (by simp))) (S.set_v hl r))
theorem jg_2 {t1 t2 : Expr} {k : Nat} {s1 s2 : List Nat} {α β : Type} [Py α] [Py β] {u1 : α → List Slot} {u2 : α × β → List Slot} (hc : X.calm = true) (h1 : JG X R0 H0 Γ t1 s1 u1) (h2 : ∀ a, JG X R0 H0 (u1 a) t2 s2 (fun b => u2 (a, b)))
    (hn : (assignEach [t1, t2] X.env).length = 2 := by rfl) (hst : (assignEach [t1, t2] X.env).findIdx? (·.1) = none := by rfl) (hs : (assignEach [t1, t2] X.env).map (·.2) = assign t1 X.env :: (assignEach [t2] X.env).map (·.2) := by rfl) (hs2 : (assignEach [t2] X.env).map (·.2) = assign t2 X.env :: (assignEach [] X.env).map (·.2) := by rfl) :
    JG X R0 H0 Γ (.Tuple [t1, t2] k pos) (s1 ++ s2) u2 := .mk fun σ R H S v a r Q q => by
  obtain ⟨p, vs, rfl, hp, x, y, rfl, r1, r2⟩ := r
  refine PG_to (pg_tup hc (pgs_cons gS (pgs_cons gS pgs_nil hs2) hs) hn hst) ⟨p, [x, y], rfl, ?_, rfl, x, [y], rfl, h1 σ R H S x a.1 r1 _ fun σ1 w1 S1 => ⟨y, [], rfl, h2 a.1 σ1 R H S1 y a.2 r2 _ fun σ2 w2 S2 => ⟨rfl, q σ2 (fun vs h => (w2 vs fun t ht => h t (List.mem_append_right _ ht)).trans (w1 vs fun t ht => h t (List.mem_append_left _ ht))) S2⟩⟩⟩
  exact dsq (S.i _ _ hp)
theorem jg_3 {t1 t2 t3 : Expr} {k : Nat} {s1 s2 s3 : List Nat} {α β γ : Type} [Py α] [Py β] [Py γ] {u1 : α → List Slot} {u2 : α → β → List Slot} {u3 : T3 α β γ → List Slot} (hc : X.calm = true) (h1 : JG X R0 H0 Γ t1 s1 u1) (h2 : ∀ a, JG X R0 H0 (u1 a) t2 s2 (fun b => u2 a b)) (h3 : ∀ a b, JG X R0 H0 (u2 a b) t3 s3 (fun c => u3 ⟨a, b, c⟩))
    (hn : (assignEach [t1, t2, t3] X.env).length = 3 := by rfl) (hst : (assignEach [t1, t2, t3] X.env).findIdx? (·.1) = none := by rfl) (hs : (assignEach [t1, t2, t3] X.env).map (·.2) = assign t1 X.env :: (assignEach [t2, t3] X.env).map (·.2) := by rfl)
    (hs2 : (assignEach [t2, t3] X.env).map (·.2) = assign t2 X.env :: (assignEach [t3] X.env).map (·.2) := by rfl) (hs3 : (assignEach [t3] X.env).map (·.2) = assign t3 X.env :: (assignEach [] X.env).map (·.2) := by rfl) :
    JG X R0 H0 Γ (.Tuple [t1, t2, t3] k pos) (s1 ++ (s2 ++ s3)) u3 := .mk fun σ R H S v a r Q q => by
  obtain ⟨p, vs, rfl, hp, x, y, z, rfl, r1, r2, r3⟩ := r
  refine PG_to (pg_tup hc (pgs_cons gS (pgs_cons gS (pgs_cons gS pgs_nil hs3) hs2) hs) hn hst) ⟨p, [x, y, z], rfl, ?_, rfl, x, [y, z], rfl, h1 σ R H S x a.a r1 _ fun σ1 w1 S1 => ⟨y, [z], rfl, h2 a.a σ1 R H S1 y a.b r2 _ fun σ2 w2 S2 => ⟨z, [], rfl, h3 a.a a.b σ2 R H S2 z a.c r3 _ fun σ3 w3 S3 => ⟨rfl, q σ3 (fun vs h => ((w3 vs fun t ht => h t (List.mem_append_right _ (List.mem_append_right _ ht))).trans (w2 vs fun t ht => h t (List.mem_append_right _ (List.mem_append_left _ ht)))).trans (w1 vs fun t ht => h t (List.mem_append_left _ ht))) S3⟩⟩⟩⟩
  exact dsq (S.i _ _ hp)
/-- a, b = e -/
theorem j1_asg {tg : Expr} {α : Type} [Py α] {m : Option α} {up : α → List Slot} {ts : List Nat} (he : JE X R0 H0 Γ e m) (hg : JG X R0 H0 Γ tg ts up) (hs : swapsWithSole [tg] e pos.line X.env = pure false := by rfl) (hw : swappedStores [tg] e X.env = pure none := by rfl)
    (h1 : (assignEach [tg] X.env).map (·.2) = [assign tg X.env] := by rfl) : J1 X R0 H0 Γ (.Assign [tg] e pos) m fun a => .nx (up a) := .mk fun σ R H S b eb D q =>
  PS_to (ps_asg eS gS hs hw h1) (he σ R H S b eb _ fun v R' H' x r => hg σ R' H' (S.ext x) v b r _ fun σ' _ S' => q σ' R' H' x.r S')
end

/-! ### what is walked -/
def ItOk (K : PySem.W.Frag) (H0 : Hp) {α : Type} [Py α] (J : It) (xs : List α) (R1 : Hp) : Prop := ∀ i R2 H2, Ex R1 R2 → Ex H0 H2 → Ex R2 H2 →
  (∀ x, xs[i]? = some x → J.go i H2 ∧ ∀ v H3, J.yld i H2 v H3 → ∃ R3, Ext R2 H2 R3 H3 ∧ rep K R3 v x) ∧ (xs.length ≤ i → J.stop i H2)
structure JI (X : Cx) (R0 H0 : Hp) (Γ : List Slot) (tg iter : Expr) {α : Type} [Py α] (m : Option (List α)) : Prop where
  run : ∀ σ R H, Sat X.K R0 H0 Γ σ R H → ∀ xs, m = some xs → ∀ Q : It → Hp → Prop, (∀ J R' H', Ext R H R' H' → ItOk X.K H0 J xs R' → Q J H') → iSem X tg iter σ H Q
instance {X : Cx} {R0 H0 : Hp} {Γ : List Slot} {tg iter : Expr} {α : Type} [Py α] {m : Option (List α)} : CoeFun (JI X R0 H0 Γ tg iter m) fun _ => ∀ σ R H, Sat X.K R0 H0 Γ σ R H → ∀ xs, m = some xs → ∀ Q : It → Hp → Prop, (∀ J R' H', Ext R H R' H' → ItOk X.K H0 J xs R' → Q J H') → iSem X tg iter σ H Q := ⟨JI.run⟩
theorem itl_ok {K : PySem.W.Frag} {H0 R1 : Hp} {α : Type} [Py α] {p : Addr} {vs : List V} {xs : List α} (h : ∀ R2 H2, Ex R1 R2 → Ex H0 H2 → Ex R2 H2 → SqL K H2 p vs) (hr : AllR K R1 vs xs) : ItOk K H0 (Itl K p) xs R1 := fun i R2 H2 e1 e2 e3 => by
  have q := h R2 H2 e1 e2 e3
  refine ⟨fun x hx => ?_, fun hi => ⟨vs, q, by rw [hr.len]; exact hi⟩⟩
  obtain ⟨v, hv, r⟩ := hr.get hx
  refine ⟨⟨vs, v, q, hv⟩, fun w H3 hy => ?_⟩
  obtain ⟨rfl, hy⟩ := hy
  have e := hy vs q
  rw [hv] at e
  cases e
  exact ⟨R2, .refl e3, Py.mono e1 r⟩
section
variable {X : Cx} {R0 H0 : Hp} {Γ : List Slot} {e a b tg : Expr} {pos : Pos} {st : Stmt} {rest : List Stmt} {β : Type} {out : β → Out}
/-- a list: frozen | handed in -/
theorem ji_list {α : Type} [Py α] {m : Option (List α)} (h : JE X R0 H0 Γ e m) : JI X R0 H0 Γ tg e m := .mk fun σ R H S xs ex Q q =>
  PI_to (pi_list eS) (h σ R H S xs ex _ fun v R' H' x r => by
    obtain ⟨p, o, rfl, hp, vs, rfl, hv⟩ := r
    exact ⟨p, rfl, ⟨vs, sql_ex x.i (seq_rd hp)⟩, q _ R' H' x (itl_ok (fun R2 H2 e1 _ e3 => sql_ex (e1.trans e3) (seq_rd hp)) hv)⟩)
theorem ji_param (i : Nat) {x : Str} {α : Type} [Py α] {c : List α} (hΓ : Γ[i]? = some (.b c) := by rfl) (hN : X.N[i]? = some x := by rfl) (hv : Vis X.env.scope x := by first | exact Or.inl rfl | exact Or.inr (Or.inl rfl) | exact Or.inr (Or.inr rfl)) (hd : (x == ("__debug__" : Str)) = false := by decide)
    (hcd : (x == ("__classdict__" : Str)) = false := by decide) : JI X R0 H0 Γ tg (.Name x pos) (some c) := .mk fun σ R H S xs ex Q q => by
  cases ex
  obtain ⟨v, hs, p, o, rfl, hp, vs, rfl, r⟩ := S.get_b hΓ
  refine PI_to (pi_list (pv i hN hv hd hcd)) ⟨.ref p, hs, p, rfl, ⟨vs, sql_ex S.e0.h (seq_rd hp)⟩, q _ R H (.refl S.i) (itl_ok (fun R2 H2 e1 e2 e3 => sql_ex e2 (seq_rd hp)) (r.mono S.e0.r))⟩
/-- a text, sign by sign -/
def sgn (x : Str) : List Str := x.cps.toList.map fun c => ⟨#[c]⟩
theorem ji_str {m : Option Str} (h : JE X R0 H0 Γ e m) : JI X R0 H0 Γ tg e (m.bind fun x => some (sgn x)) := .mk fun σ R H S xs ex Q q => by
  obtain ⟨x, em, ex⟩ := bind_some' ex
  cases ex
  refine PI_to (pi_str eS) (h σ R H S x em _ fun v R' H' z r => ⟨x, r, q _ R' H' z fun i R2 H2 e1 e2 e3 => ⟨fun y hy => ?_, fun hi => ?_⟩⟩)
  · unfold sgn at hy
    rw [List.getElem?_map] at hy
    cases hc : x.cps.toList[i]? with
    | none =>
      rw [hc] at hy
      cases hy
    | some c =>
      rw [hc] at hy
      have hc' : x.cps[i]? = some c := by
        rw [← hc]
        exact Array.getElem?_toList.symm
      refine ⟨?_, fun w H3 hw => ?_⟩
      · exact (Array.getElem?_eq_some_iff.mp hc').1
      · obtain ⟨rfl, c', h1, rfl⟩ := hw
        rw [hc'] at h1
        cases h1
        cases hy
        exact ⟨R2, .refl e3, rfl⟩
  · unfold sgn at hi
    rw [List.length_map, Array.length_toList] at hi
    exact hi
theorem ji_str_t {x : Str} (h : JE X R0 H0 Γ e (some x)) : JI X R0 H0 Γ tg e (some (sgn x)) := ji_str h
/-- range(n) | range(a, b) -/
def rng (lo : Int) (n : Nat) : List Int := (List.range n).map fun (k : Nat) => lo + k
def range1 (j : Int) : Option (List Int) := if -(2 ^ 62) ≤ j ∧ j < 2 ^ 62 then some (rng 0 j.toNat) else none
def range2 (i j : Int) : Option (List Int) := if -(2 ^ 62) ≤ i ∧ i < 2 ^ 62 ∧ -(2 ^ 62) ≤ j ∧ j < 2 ^ 62 then some (rng i (j - i).toNat) else none
/-! ### for -/
def forS {S α : Type} (f : S → α → Option S) : List α → S → Option S
  | [], s => some s
  | x :: r, s => (f s x).bind (forS f r)
def forF {S α ρ : Type} (f : S → α → Option (Fl S ρ)) : List α → S → Option (Fl S ρ)
  | [], s => some (.nx s)
  | x :: r, s => (f s x).bind fun z => match z with
    | .nx s => forF f r s
    | .ct s => forF f r s
    | .bk s => some (.nx s)
    | .rt v => some (.rt v)
theorem drop_cons {α : Type} {xs : List α} {i : Nat} {x : α} (h : xs[i]? = some x) : xs.drop i = x :: xs.drop (i + 1) := by
  obtain ⟨hi, e⟩ := List.getElem?_eq_some_iff.mp h
  rw [List.drop_eq_getElem_cons hi, e]
theorem Req.loop {X : Cx} {R0 H0 Ra Rb : Hp} {D D' : Ends} {o : Out} (h : Req X R0 H0 Ra D o) (h1 : ∀ Γ, o ≠ .nx Γ) (h2 : ∀ Γ, o ≠ .bk Γ) (h3 : ∀ Γ, o ≠ .ct Γ) (h4 : ∀ Γ x, o ≠ .et Γ x) (e : D'.rt = D.rt := by rfl) : Req X R0 H0 Rb D' o := by
  cases o with
  | nx Γ => exact absurd rfl (h1 Γ)
  | rt a =>
    intro v R H x r
    rw [e]
    exact h v R H x r
  | ro a =>
    intro p o R H x np hp hr r
    rw [e]
    exact h p o R H x np hp hr r
  | rd a =>
    intro p o ps R H x nn nd hp hr r
    rw [e]
    exact h p o ps R H x nn nd hp hr r
  | bk Γ => exact absurd rfl (h2 Γ)
  | ct Γ => exact absurd rfl (h3 Γ)
  | ex x => exact h
  | exn x => exact h
  | rs Γ a =>
    intro v σ R H S r
    rw [e]
    exact h v σ R H S r
  | xs Γ x => exact h
  | et Γ x => exact absurd rfl (h4 Γ x)
theorem j1_forF {iter : Expr} {body : List Stmt} {S ρ α : Type} [Py α] {mi : Option (List α)} {f : S → α → Option (Fl S ρ)} (s0 : S) (Γh : S → List Slot) (up : S → α → List Slot) {ts : List Nat} {ret : ρ → Out} (hp : PassesOwn (model X.prog X.w) X.A X.env X.xe) (hc : X.calm = true) (h0 : Sub Γ (Γh s0))
    (hi : JI X R0 H0 Γ tg iter mi) (hg : ∀ s, JG X R0 H0 (Γh s) tg ts (up s)) (hb : ∀ s x, JS X R0 H0 (up s x) body (f s x) (outF Γh ret)) (hr : ∀ v Γ, ret v ≠ .nx Γ := by intro _ _ h; cases h) (hr2 : ∀ v Γ, ret v ≠ .bk Γ := by intro _ _ h; cases h) (hr3 : ∀ v Γ, ret v ≠ .ct Γ := by intro _ _ h; cases h) (hr4 : ∀ v Γ x, ret v ≠ .et Γ x := by intro _ _ _ h; cases h)
    (hs : ∀ x, foldedSetIterable iter X.env x = pure x := by intro _; rfl) : J1 X R0 H0 Γ (.For tg iter body [] pos) (mi.bind fun xs => forF f xs s0) (outF Γh ret) := .mk fun σ R H Sa b eb D q => by
  obtain ⟨xs, ex, eb⟩ := bind_some' eb
  refine PS_to (ps_for hp hc iS gS sS hs) (hi σ R H Sa xs ex _ fun J R1 H1 x1 hJ => ?_)
  obtain ⟨Rz, ez, Sz⟩ := h0 X.K R0 H0 σ R1 H1 (Sa.ext x1)
  refine ⟨fun i m σ H => m = xs.length - i ∧ i ≤ xs.length ∧ ∃ R s, Sat X.K R0 H0 (Γh s) σ R H ∧ Ex R1 R ∧ forF f (xs.drop i) s = some b, ⟨xs.length, by simp, Nat.zero_le _, Rz, s0, Sz, ez, eb⟩, ?_⟩
  rintro i m σ2 H2 ⟨rfl, hi, R2, s, S2, e2, ef⟩
  obtain ⟨g1, g2⟩ := hJ i R2 H2 e2 S2.e0.h S2.i
  by_cases hlt : i < xs.length
  · refine .inr ?_
    have hx : xs[i]? = some xs[i] := List.getElem?_eq_getElem hlt
    obtain ⟨go, yl⟩ := g1 _ hx
    rw [drop_cons hx] at ef
    obtain ⟨z, e3, ef⟩ := bind_some' ef
    refine ⟨go, fun σ' H' => ∃ R s, Sat X.K R0 H0 (Γh s) σ' R H' ∧ Ex R1 R ∧ forF f (xs.drop (i + 1)) s = some b, fun σ' H' p' => ⟨xs.length - (i + 1), by omega, rfl, hlt, p'⟩, fun v H3 hy => ?_⟩
    obtain ⟨R3, x3, r3⟩ := yl v H3 hy
    refine hg s σ2 R3 H3 (S2.ext x3) v xs[i] r3 _ fun σ4 _ S4 => ?_
    refine hb s xs[i] σ4 R3 H3 S4 z e3 _ ?_
    have w : ∀ {σ' : L2.St} {R' H' : Hp} {s' : S}, forF f (xs.drop (i + 1)) s' = some b → Ex R3 R' → Sat X.K R0 H0 (Γh s') σ' R' H' → ∃ R s, Sat X.K R0 H0 (Γh s) σ' R H' ∧ Ex R1 R ∧ forF f (xs.drop (i + 1)) s = some b :=
      fun {σ' R' H' s'} h e' S' => ⟨R', s', S', (e2.trans x3.r).trans e', h⟩
    cases z with
    | nx s' => exact fun σ' R' H' e' S' => w ef e' S'
    | ct s' => exact fun σ' R' H' e' S' => w ef e' S'
    | bk s' =>
      cases ef
      exact fun σ' R' H' e' S' => q σ' R' H' (((x1.r.trans e2).trans x3.r).trans e') S'
    | rt v =>
      cases ef
      exact Req.loop (show Req X R0 H0 R D (ret v) from q) (hr v) (hr2 v) (hr3 v) (hr4 v)
  · have e : i = xs.length := by omega
    subst e
    rw [List.drop_length] at ef
    cases ef
    exact .inl ⟨g2 (Nat.le_refl _), q σ2 R2 H2 (x1.r.trans e2) S2⟩

theorem forS_F {S α ρ : Type} {f : S → α → Option S} : ∀ (xs : List α) (s b : S), forS f xs s = some b → forF (ρ := ρ) (fun s x => (f s x).bind fun z => some (.nx z)) xs s = some (.nx b)
  | [], s, b, h => by
    cases h
    rfl
  | x :: r, s, b, h => by
    obtain ⟨z, e, h⟩ := bind_some' h
    show (((f s x).bind fun z => some (Fl.nx z)).bind _) = some (Fl.nx b)
    rw [e]
    exact forS_F r z b h
theorem j1_for {iter : Expr} {body : List Stmt} {S α : Type} [Py α] {mi : Option (List α)} {f : S → α → Option S} (s0 : S) (Γh : S → List Slot) (up : S → α → List Slot) {ts : List Nat} (hp : PassesOwn (model X.prog X.w) X.A X.env X.xe) (hc : X.calm = true) (h0 : Sub Γ (Γh s0))
    (hi : JI X R0 H0 Γ tg iter mi) (hg : ∀ s, JG X R0 H0 (Γh s) tg ts (up s)) (hb : ∀ s x, JS X R0 H0 (up s x) body (f s x) (fun s => .nx (Γh s)))
    (hs : ∀ x, foldedSetIterable iter X.env x = pure x := by intro _; rfl) : J1 X R0 H0 Γ (.For tg iter body [] pos) (mi.bind fun xs => forS f xs s0) (fun s => .nx (Γh s)) := .mk fun σ R H Sa b eb D q => by
  obtain ⟨xs, ex, eb⟩ := bind_some' eb
  refine j1_forF (ρ := Empty) (ret := Empty.elim) s0 Γh up hp hc h0 hi hg (f := fun s x => (f s x).bind fun z => some (.nx z)) (fun s x => js_map (out' := outF Γh Empty.elim) Fl.nx (hb s x)) (fun v => v.elim) (fun v => v.elim) (fun v => v.elim) (fun v => v.elim) hs σ R H Sa (.nx b) ?_ D q
  rw [ex]
  exact forS_F xs s0 b eb
/-! ### while -/
def whileS {S : Type} (c : S → Option Bool) (f : S → Option S) : Nat → S → Option S
  | 0, _ => none
  | n + 1, s => (c s).bind fun b => if b then (f s).bind (whileS c f n) else some s
def whileF {S ρ : Type} (c : S → Option Bool) (f : S → Option (Fl S ρ)) : Nat → S → Option (Fl S ρ)
  | 0, _ => none
  | n + 1, s => (c s).bind fun b => if b then (f s).bind fun z => match z with
    | .nx s => whileF c f n s
    | .ct s => whileF c f n s
    | .bk s => some (.nx s)
    | .rt v => some (.rt v) else some (.nx s)
end
end FK

namespace FK
open PySem PySem.Spec PyProof.Rows L2

/-! ### comprehensions -/
def wipeG (Γ : List Slot) : List Nat → List Slot
  | [] => Γ
  | v :: vs => (wipeG Γ vs).set v .any
theorem wipeG_len (Γ : List Slot) : ∀ vs : List Nat, (wipeG Γ vs).length = Γ.length
  | [] => rfl
  | v :: vs => by
    show ((wipeG Γ vs).set v .any).length = _
    rw [List.length_set, wipeG_len Γ vs]
theorem Sat.wipe {K : PySem.W.Frag} {R0 H0 R H : Hp} {Γ : List Slot} {σ : L2.St} (S : Sat K R0 H0 Γ σ R H) : ∀ vs : List Nat, (∀ v ∈ vs, v < Γ.length) → Sat K R0 H0 (wipeG Γ vs) (L2.wipe σ vs) R H
  | [], _ => S
  | v :: vs, h => (S.wipe vs fun x hx => h x (List.mem_cons_of_mem _ hx)).set_any none (by rw [wipeG_len]; exact h v List.mem_cons_self)
theorem wipe_idem (σ : L2.St) (vs : List Nat) : L2.wipe (L2.wipe σ vs) vs = L2.wipe σ vs := by
  refine List.ext_getElem? fun j => ?_
  rw [wipe_at, wipe_at, wipe_length]
  by_cases h : j ∈ vs
  · rw [if_pos h, if_pos h]
  · rw [if_neg h, if_neg h]
def lcM {α β : Type} (t : α → Option Bool) (f : α → Option β) : List α → Option (List β)
  | [] => some []
  | x :: r => (t x).bind fun b => if b then (f x).bind fun y => (lcM t f r).bind fun ys => some (y :: ys) else lcM t f r
def lcG {α β : Type} (t : α → Option Bool) (f : α → Option β) (xs : List α) : Option (List β) := if xs.length < 1000000 then lcM t f xs else none
def mapM' {α β : Type} (f : α → Option β) (xs : List α) : Option (List β) := lcG (fun _ => some true) f xs
structure JTs (X : Cx) (R0 H0 : Hp) (Γ : List Slot) (ifs : List Expr) (m : Option Bool) : Prop where
  run : ∀ σ R H, Sat X.K R0 H0 Γ σ R H → ∀ a, m = some a → ∀ Q : Bool → Hp → Prop, (∀ R' H', Ext R H R' H' → Q a H') → ∀ pins s, Inv X pins σ H s →
    wpAny (model X.prog X.w) X.A (forIn ifs true fun c r => if r = true then do let ok ← isTrue c X.env (eval c X.env); pure (ForInStep.yield ok) else pure (ForInStep.yield r)) (TP X pins σ Q) X.xe s
instance {X : Cx} {R0 H0 : Hp} {Γ : List Slot} {ifs : List Expr} {m : Option Bool} : CoeFun (JTs X R0 H0 Γ ifs m) fun _ => ∀ σ R H, Sat X.K R0 H0 Γ σ R H → ∀ a, m = some a → ∀ Q : Bool → Hp → Prop, (∀ R' H', Ext R H R' H' → Q a H') → ∀ pins s, Inv X pins σ H s →
    wpAny (model X.prog X.w) X.A (forIn ifs true fun c r => if r = true then do let ok ← isTrue c X.env (eval c X.env); pure (ForInStep.yield ok) else pure (ForInStep.yield r)) (TP X pins σ Q) X.xe s := ⟨JTs.run⟩
abbrev Blk (X : Cx) (scope : Scope) : Type := Shared × Hp × Addr × List (Str × Addr) × List Addr
abbrev blk (X : Cx) (scope : Scope) (q : Blk X scope) : Cx := X.blk q.1 q.2.1 scope (compEnvC scope q.2.2.2.1 q.2.2.1 X.env) q.2.2.2.2
section
variable {X : Cx} {R0 H0 : Hp} {Γ : List Slot} {e a b tg : Expr} {pos : Pos}
theorem jts_nil : JTs X R0 H0 Γ [] (some true) := .mk fun σ R H S z ez Q q pins s I => by
  cases ez
  exact pts_nil.run pins s σ H Q I (q R H (.refl S.i))
abbrev gB (X : Cx) (scope : Scope) (tg : Expr) : TG := fun v σ H Q => ∀ q : Blk X scope, gSem (blk X scope q) tg v σ H Q
abbrev tB (X : Cx) (scope : Scope) (ifs : List Expr) : TT := fun σ H Q => ∀ (q : Blk X scope) pins s, Inv (blk X scope q) pins σ H s →
      wpAny (model X.prog X.w) X.A (forIn ifs true fun c r => if r = true then do let ok ← isTrue c (blk X scope q).env (eval c (blk X scope q).env); pure (ForInStep.yield ok) else pure (ForInStep.yield r)) (TP (blk X scope q) pins σ Q) (blk X scope q).xe s
abbrev eB (X : Cx) (scope : Scope) (elt : Expr) : TE := fun σ H Q => ∀ q : Blk X scope, eSem (blk X scope q) elt σ H Q
theorem lc_tr {elt iter : Expr} {ifs : List Expr} {scope : Scope} {own : List (Str × Nat)} {ts : List Nat} {α β : Type} [Py α] [Py β] {mi : Option (List α)} {mt : α → Option Bool} {me : α → Option β} {Γb : List Slot} {up : α → List Slot}
    (hi : JI X R0 H0 Γ tg iter mi) (hw : wipeG Γ (own.map (·.2)) = Γb) (hg : ∀ q : Blk X scope, JG (blk X scope q) R0 H0 Γb tg ts up) (ht : ∀ (q : Blk X scope) x, JTs (blk X scope q) R0 H0 (up x) ifs (mt x))
    (he : ∀ (q : Blk X scope) x, JE (blk X scope q) R0 H0 (up x) elt (me x)) (hts : ∀ t ∈ ts, t ∈ own.map (·.2)) (hlt : (own.map (·.2)).all (fun v => decide (v < Γ.length)) = true)
    {σ : L2.St} {R H : Hp} (S : Sat X.K R0 H0 Γ σ R H) {r : List β} (er : (mi.bind fun xs => lcG mt me xs) = some r) (Q : VK) (q : ∀ p o R' H', Ext R H R' H' → H p = none → H' p = some o → R' p = none → ho X.K R' o r → Q (.ref p) H') :
    tLc (iSem X tg iter) (gB X scope tg) (tB X scope ifs) (eB X scope elt) (own.map (·.2)) σ H Q := by
  obtain ⟨xs, ex, er⟩ := bind_some' er
  unfold lcG at er
  by_cases hlen : xs.length < 1000000
  · rw [if_pos hlen] at er
    refine (hi σ R H S xs ex _ fun J R1 H1 x1 hJ D hD => ?_)
    refine ⟨fun i m H' => m = xs.length - i ∧ i ≤ xs.length ∧ ∃ R' acc as, Ext R1 H1 R' H' ∧ H' D = some (.lst acc) ∧ R' D = none ∧ AllR X.K R' acc as ∧ acc.length ≤ i ∧ ∃ r', lcM mt me (xs.drop i) = some r' ∧ r = as ++ r',
      ⟨xs.length, by simp, Nat.zero_le _, R1, [], [], .own x1.i hD, upd_same, x1.i.none hD, .nil, Nat.le_refl _, r, er, rfl⟩, ?_⟩
    rintro i m H2 ⟨rfl, hi', R2, acc, as, x2, hD2, hR2, hA, hal, r', er', hr'⟩
    have S2 : Sat X.K R0 H0 Γ σ R2 H2 := (S.ext x1).ext x2
    obtain ⟨g1, g2⟩ := hJ i R2 H2 x2.r S2.e0.h S2.i
    by_cases hlt' : i < xs.length
    · refine .inr ?_
      have hx : xs[i]? = some xs[i] := List.getElem?_eq_getElem hlt'
      obtain ⟨go, yl⟩ := g1 _ hx
      rw [drop_cons hx] at er'
      obtain ⟨k, ek, er'⟩ := bind_some' er'
      refine ⟨go, fun H' => ∃ R' acc as, Ext R1 H1 R' H' ∧ H' D = some (.lst acc) ∧ R' D = none ∧ AllR X.K R' acc as ∧ acc.length ≤ i + 1 ∧ ∃ r', lcM mt me (xs.drop (i + 1)) = some r' ∧ r = as ++ r', fun H' p' => ⟨xs.length - (i + 1), by omega, rfl, hlt', p'⟩, fun v H3 hy => ?_⟩
      obtain ⟨R3, x3, r3⟩ := yl v H3 hy
      intro qb
      have S3 := (S2.ext x3).wipe (own.map (·.2)) (fun v hv => of_decide_eq_true (List.all_eq_true.mp hlt v hv))
      rw [hw] at S3
      refine hg qb _ R3 H3 S3 v xs[i] r3 _ fun σ4 w4 S4 => ⟨(w4 _ hts).trans (wipe_idem σ _), ?_⟩
      intro qb
      refine ht qb xs[i] σ4 R3 H3 S4 k ek _ fun R5 H5 x5 => ?_
      have hD5 : H5 D = some (.lst acc) := x5.h _ _ (x3.h _ _ hD2)
      have hR5 : R5 D = none := x5.n _ _ rfl (x3.h _ _ hD2) (x3.n _ _ rfl hD2 hR2)
      cases k with
      | false => exact ⟨R5, acc, as, (x2.trans x3).trans x5, hD5, hR5, (hA.mono x3.r).mono x5.r, Nat.le_succ_of_le hal, r', er', hr'⟩
      | true =>
        obtain ⟨y, ey, er'⟩ := bind_some' er'
        obtain ⟨ys, eys, er'⟩ := bind_some' er'
        cases er'
        intro qb
        refine he qb xs[i] σ4 R5 H5 (S4.ext x5) y ey _ fun w R6 H6 x6 r6 => ?_
        have hD6 : H6 D = some (.lst acc) := x6.h _ _ hD5
        have hR6 : R6 D = none := x6.n _ _ rfl hD5 hR5
        refine ⟨acc, hD6, Nat.lt_of_lt_of_le (Nat.lt_of_le_of_lt hal (Nat.lt_trans hlt' hlen)) (by decide), R6, acc ++ [w], as ++ [y], ?_, upd_same, hR6, (((hA.mono x3.r).mono x5.r).mono x6.r).app (.cons r6 .nil), ?_, ys, eys, by rw [hr', List.append_assoc]; rfl⟩
        · have z := (((x2.trans x3).trans x5).trans x6)
          refine ⟨z.r, z.h.mut hD, fun p u hp => ?_, z.n⟩
          rw [upd_ne (ne_of_none hp hR6)]
          exact z.i p u hp
        · rw [List.length_append]
          exact Nat.add_le_add_right hal 1
    · have e : i = xs.length := by omega
      subst e
      rw [List.drop_length] at er'
      cases er'
      refine .inl ⟨g2 (Nat.le_refl _), q D _ R2 H2 (x1.trans x2) (x1.h.none hD) hD2 hR2 ?_⟩
      rw [hr', List.append_nil]
      exact ⟨acc, rfl, hA⟩
  · rw [if_neg hlen] at er
    cases er
theorem jo_lc {elt iter : Expr} {ifs : List Expr} {scope : Scope} {own : List (Str × Nat)} {ts : List Nat} {α β : Type} [Py α] [Py β] {mi : Option (List α)} {mt : α → Option Bool} {me : α → Option β} (Γb : List Slot) (up : α → List Slot) (hc : X.calm = true) (hN : X.N.Nodup)
    (hi : JI X R0 H0 Γ tg iter mi) (ok : BlkOk X.N X.env.scope scope own) (hw : wipeG Γ (own.map (·.2)) = Γb) (hg : ∀ q : Blk X scope, JG (blk X scope q) R0 H0 Γb tg ts up) (ht : ∀ (q : Blk X scope) x, JTs (blk X scope q) R0 H0 (up x) ifs (mt x))
    (he : ∀ (q : Blk X scope) x, JE (blk X scope q) R0 H0 (up x) elt (me x)) (hts : (∀ t ∈ ts, t ∈ own.map (·.2)) := by decide) (hlt : (own.map (·.2)).all (fun v => decide (v < Γ.length)) = true := by rfl) (hs : ∀ x, foldedSetIterable iter X.env x = pure x := by intro _; rfl) :
    JO X R0 H0 Γ (.ListComp elt [⟨tg, iter, ifs, 0⟩] scope pos) (mi.bind fun xs => lcG mt me xs) := .mk fun σ R H S r er Q q =>
  PE_to (pe_lc hc hN iS ok (g := gB X scope tg) (tt := tB X scope ifs) (te := eB X scope elt) (fun s H' C cl fp => ⟨fun pins s' σ H v u Q I r h => h ⟨s, H', C, cl, fp⟩ pins s' u I r⟩) (fun s H' C cl fp => ⟨fun pins s' σ H Q I h => h ⟨s, H', C, cl, fp⟩ pins s' I⟩)
    (fun s H' C cl fp => ⟨fun pins s' σ H Q I h => h ⟨s, H', C, cl, fp⟩ pins s' I⟩) hs) (lc_tr hi hw hg ht he hts hlt S er Q q)
/-- name = [..] on one line -/
theorem j1_setlc (i : Nat) {y : Str} {py spos : Pos} {elt iter : Expr} {ifs : List Expr} {scope : Scope} {own : List (Str × Nat)} {ts : List Nat} {α β : Type} [Py α] [Py β] {mi : Option (List α)} {mt : α → Option Bool} {me : α → Option β} (Γ' : List β → List Slot) (Γb : List Slot) (up : α → List Slot) (hc : X.calm = true) (hN : X.N.Nodup)
    (hi : JI X R0 H0 Γ tg iter mi) (ok : BlkOk X.N X.env.scope scope own) (hw : wipeG Γ (own.map (·.2)) = Γb) (hg : ∀ q : Blk X scope, JG (blk X scope q) R0 H0 Γb tg ts up) (ht : ∀ (q : Blk X scope) x, JTs (blk X scope q) R0 H0 (up x) ifs (mt x))
    (he : ∀ (q : Blk X scope) x, JE (blk X scope q) R0 H0 (up x) elt (me x)) (hΓ : ∀ a, Γ' a = Γ.set i (.own a) := by intro _; rfl) (hy : X.N[i]? = some y := by rfl) (hl : i < Γ.length := by exact Nat.le_of_ble_eq_true rfl) (hyl : X.env.scope.names.lookup y = some .local := by rfl)
    (hsw : swapsWith (.ListComp elt [⟨tg, iter, ifs, 0⟩] scope pos) (some (.Name y py)) spos.line X.env = pure true := by exact sw_true rfl rfl rfl (by decide +kernel)) (hts : (∀ t ∈ ts, t ∈ own.map (·.2)) := by decide) (hlt : (own.map (·.2)).all (fun v => decide (v < Γ.length)) = true := by rfl) (hs : ∀ x, foldedSetIterable iter X.env x = pure x := by intro _; rfl) :
    J1 X R0 H0 Γ (.Assign [.Name y py] (.ListComp elt [⟨tg, iter, ifs, 0⟩] scope pos) spos) (mi.bind fun xs => lcG mt me xs) fun a => .nx (Γ' a) := .mk fun σ R H S b eb D q => by
  have q : ∀ σ R' H, Ex R R' → Sat X.K R0 H0 (Γ' b) σ R' H → D.nx σ H := q
  rw [hΓ b] at q
  exact PS_to (ps_setLc hc hN hy hyl hsw iS ok (g := gB X scope tg) (tt := tB X scope ifs) (te := eB X scope elt) (fun s H' C cl fp => ⟨fun pins s' σ H v u Q I r h => h ⟨s, H', C, cl, fp⟩ pins s' u I r⟩) (fun s H' C cl fp => ⟨fun pins s' σ H Q I h => h ⟨s, H', C, cl, fp⟩ pins s' I⟩)
    (fun s H' C cl fp => ⟨fun pins s' σ H Q I h => h ⟨s, H', C, cl, fp⟩ pins s' I⟩) hs) (lc_tr hi hw hg ht he hts hlt S eb _ fun p o R' H' z np hp hr r => q _ R' H' z.r (S.set_own hl z np hp hr r))
/-! ### arguments and calls -/
theorem ja_nil : JA X R0 H0 Γ [] (some ()) := .mk fun σ R H S g eg Q q => PA_to pa_nil (q [] R H (.refl S.i) rfl)
theorem ja_cons {es : List Expr} {α γ : Type} [Py α] [Ar γ] {m : Option α} {mr : Option γ} (h : JB X R0 H0 Γ e m) (hr : JA X R0 H0 Γ es mr) (hs : starEach (e :: es) X.env = (false, eval e X.env) :: starEach es X.env := by rfl) :
    JA X R0 H0 Γ (e :: es) (m.bind fun x => mr.bind fun r => some (x, r)) := .mk fun σ R H S g eg Q q => by
  obtain ⟨x, ex, eg⟩ := bind_some' eg
  obtain ⟨r, er, eg⟩ := bind_some' eg
  cases eg
  exact PA_to (pa_cons eS aS hs) (h σ R H S x ex _ fun v R1 H1 x1 r1 => hr σ R1 H1 (S.ext x1) r er _ fun vs R2 H2 x2 r2 => q (v :: vs) R2 H2 (x1.trans x2) ⟨v, vs, rfl, Py.bmono x2.r x2.h r1, r2⟩)
theorem ja_cons_t {es : List Expr} {α γ : Type} [Py α] [Ar γ] {x : α} {r : γ} (h : JB X R0 H0 Γ e (some x)) (hr : JA X R0 H0 Γ es (some r)) (hs : starEach (e :: es) X.env = (false, eval e X.env) :: starEach es X.env := by rfl) :
    JA X R0 H0 Γ (e :: es) (some (x, r)) := ja_cons h hr hs
end
def spV {γ β : Type} [Ar γ] [Py β] (K : PySem.W.Frag) (m : γ → Option β) : Sp := fun vs H Q _ => ∃ R g b, Ex R H ∧ Ar.ok K R H vs g ∧ m g = some b ∧ ∀ v R' H', Ext R H R' H' → rep K R' v b → Q v H'
def spO {γ β : Type} [Ar γ] [Ob β] (K : PySem.W.Frag) (m : γ → Option β) : Sp := fun vs H Q _ => ∃ R g b, Ex R H ∧ Ar.ok K R H vs g ∧ m g = some b ∧ ∀ p o R' H', Ext R H R' H' → H p = none → H' p = some o → R' p = none → ho K R' o b → Q (.ref p) H'
/-- a def that may be called by its name -/
def Cal (P : Program) (w : World) (K : PySem.W.Frag) (mg : Str → Option Value) (base : Heap) (CX : CXT) (k : Nat) (x : Str) (ps : List Str) (sp : Sp) : Prop :=
  ∃ f fd, mg x = some (.ref f) ∧ PySem.W.keepIn K (.ref f) = true ∧ Binds K fd ps [] ∧ FnOk P w K mg base CX k f fd ps sp
theorem Cal.mono {P : Program} {w : World} {K : PySem.W.Frag} {mg : Str → Option Value} {base : Heap} {CX : CXT} {k j : Nat} {x : Str} {ps : List Str} {sp : Sp} (h : Cal P w K mg base CX k x ps sp) (l : k ≤ j) : Cal P w K mg base CX j x ps sp := by
  obtain ⟨f, fd, h1, h2, h3, h4⟩ := h
  exact ⟨f, fd, h1, h2, h3, h4.mono l⟩
section
variable {X : Cx} {R0 H0 : Hp} {Γ : List Slot} {e : Expr} {es : List Expr} {pos p : Pos} {γ β : Type} [Ar γ]
theorem je_call [Py β] {k : Nat} {x : Str} {ps : List Str} {m : γ → Option β} {ma : Option γ} (C : Cal X.prog X.w X.K X.mg X.base CX0 k x ps (spV X.K m)) (hr : Room k X.A) (ha : JA X R0 H0 Γ (e :: es) ma) (hg : Gl X x := by rfl)
    (hdb : (x == ("__debug__" : Str)) = false := by decide) (he : starEach (e :: es) X.env = (false, eval e X.env) :: starEach es X.env := by rfl) (hpl : (backTo pos (starEach es X.env)).any (·.1) = false := by rfl) :
    JE X R0 H0 Γ (.Call (.Name x p) (e :: es) [] pos) (ma.bind m) := .mk fun σ R H S b eb Q q => by
  obtain ⟨g, eg, eb⟩ := bind_some' eb
  obtain ⟨f, fd, h1, h2, h3, h4⟩ := C
  refine PE_to (pe_call h4 hr hg h1 h2 h3 .nil pass0 aS hdb he hpl) (ha σ R H S g eg _ fun vs R1 H1 x1 r1 => ?_)
  rw [List.append_nil]
  exact ⟨R1, g, b, x1.i, r1, eb, fun v R2 H2 x2 r2 => q v R2 H2 (x1.trans x2) r2⟩
theorem je_call_t [Py β] {k : Nat} {x : Str} {ps : List Str} {m : γ → Option β} {g : γ} (C : Cal X.prog X.w X.K X.mg X.base CX0 k x ps (spV X.K m)) (hr : Room k X.A) (ha : JA X R0 H0 Γ (e :: es) (some g)) (hg : Gl X x := by rfl)
    (hdb : (x == ("__debug__" : Str)) = false := by decide) (he : starEach (e :: es) X.env = (false, eval e X.env) :: starEach es X.env := by rfl) (hpl : (backTo pos (starEach es X.env)).any (·.1) = false := by rfl) :
    JE X R0 H0 Γ (.Call (.Name x p) (e :: es) [] pos) (m g) := je_call C hr ha hg hdb he hpl
theorem jo_call [Ob β] {k : Nat} {x : Str} {ps : List Str} {m : γ → Option β} {ma : Option γ} (C : Cal X.prog X.w X.K X.mg X.base CX0 k x ps (spO X.K m)) (hr : Room k X.A) (ha : JA X R0 H0 Γ (e :: es) ma) (hg : Gl X x := by rfl)
    (hdb : (x == ("__debug__" : Str)) = false := by decide) (he : starEach (e :: es) X.env = (false, eval e X.env) :: starEach es X.env := by rfl) (hpl : (backTo pos (starEach es X.env)).any (·.1) = false := by rfl) :
    JO X R0 H0 Γ (.Call (.Name x p) (e :: es) [] pos) (ma.bind m) := .mk fun σ R H S b eb Q q => by
  obtain ⟨g, eg, eb⟩ := bind_some' eb
  obtain ⟨f, fd, h1, h2, h3, h4⟩ := C
  refine PE_to (pe_call h4 hr hg h1 h2 h3 .nil pass0 aS hdb he hpl) (ha σ R H S g eg _ fun vs R1 H1 x1 r1 => ?_)
  rw [List.append_nil]
  exact ⟨R1, g, b, x1.i, r1, eb, fun p o R2 H2 x2 np hp hr r2 => q p o R2 H2 (x1.trans x2) (x1.h.none np) hp hr r2⟩
theorem jo_call_t [Ob β] {k : Nat} {x : Str} {ps : List Str} {m : γ → Option β} {g : γ} (C : Cal X.prog X.w X.K X.mg X.base CX0 k x ps (spO X.K m)) (hr : Room k X.A) (ha : JA X R0 H0 Γ (e :: es) (some g)) (hg : Gl X x := by rfl)
    (hdb : (x == ("__debug__" : Str)) = false := by decide) (he : starEach (e :: es) X.env = (false, eval e X.env) :: starEach es X.env := by rfl) (hpl : (backTo pos (starEach es X.env)).any (·.1) = false := by rfl) :
    JO X R0 H0 Γ (.Call (.Name x p) (e :: es) [] pos) (m g) := jo_call C hr ha hg hdb he hpl
end
/-! ### a def -/
theorem slots_any (K : PySem.W.Frag) (R0 H0 R H : Hp) : ∀ n : Nat, SlotsOk K R0 H0 R H (List.replicate n Slot.any) (List.replicate n none) []
  | 0 => rfl
  | n + 1 => ⟨[], [], rfl, rfl, slots_any K R0 H0 R H n⟩
theorem sat_start {γ : Type} [Ar γ] {K : PySem.W.Frag} {R H : Hp} {vs : List V} {g : γ} {N ps : List Str} (i : Ex R H) (h : Ar.ok K R H vs g) (hl : vs.length = ps.length) : Sat K R H (Ar.slots g ++ List.replicate (N.length - ps.length) .any) (L2.start N vs) R H := by
  refine ⟨⟨[], ?_, List.nodup_nil, fun p hp => by cases hp⟩, .refl i⟩
  unfold L2.start
  rw [hl]
  exact Ar.sl h (slots_any K R H R H _)
section
variable {P : Program} {w : World} {K : PySem.W.Frag} {mg : Str → Option Value} {base : Heap} {x qual : Str} {st : Stmt} {f : Addr} {fd : FuncData} {N ps : List Str} {k : Nat} {γ β : Type} [Ar γ]
abbrev bodyX (P : Program) (w : World) (K : PySem.W.Frag) (mg : Str → Option Value) (base : Heap) (N : List Str) (qual : Str) (st : Stmt) (f : Addr) (cdv : Value) (A : Around) (outer : List Env) (s : Shared) (H : Hp) (E : XK) : Cx := (cxOf CX0 P w K mg base N qual (defScope st) f cdv A outer s H E).nox
theorem fn_v [Py β] {m : γ → Option β} (F : Fun K x qual st f fd) (S : FnScope N ps (defScope st)) (hl : ∀ R H vs (g : γ), Ar.ok K R H vs g → vs.length = ps.length)
    (hb : ∀ (cdv : Value) (A : Around) (outer : List Env) (s : Shared) (H R : Hp) (E : XK) (g : γ), Room k (A.deeper (envOfC qual (defScope st) s.heap.objs.size f cdv)) →
      JN (bodyX P w K mg base N qual st f cdv A outer s H E) R H (Ar.slots g ++ List.replicate (N.length - ps.length) .any) (defBody st) (m g) fun b => .rt b) : FnOk P w K mg base CX0 (k + 1) f fd ps (spV K m) := by
  refine F.ok S (fun vs H Q E h => ?_) (fun cdv A outer s H vs Q E hr h => ?_)
  · obtain ⟨R, g, b, i, h, _⟩ := h
    exact hl R H vs g h
  · obtain ⟨R, g, b, i, h, e, q⟩ := h
    exact ⟨_, sS, hb cdv A outer s H R E g hr _ R H (sat_start i h (hl R H vs g h)) b e { nx := fun _ H' => Q .non H', rt := Q } (fun _ H' => Q .non H') fun v R' H' x r => q v R' H' x r⟩
theorem fn_o [Ob β] {m : γ → Option β} (F : Fun K x qual st f fd) (S : FnScope N ps (defScope st)) (hl : ∀ R H vs (g : γ), Ar.ok K R H vs g → vs.length = ps.length)
    (hb : ∀ (cdv : Value) (A : Around) (outer : List Env) (s : Shared) (H R : Hp) (E : XK) (g : γ), Room k (A.deeper (envOfC qual (defScope st) s.heap.objs.size f cdv)) →
      JN (bodyX P w K mg base N qual st f cdv A outer s H E) R H (Ar.slots g ++ List.replicate (N.length - ps.length) .any) (defBody st) (m g) fun b => .ro b) : FnOk P w K mg base CX0 (k + 1) f fd ps (spO K m) := by
  refine F.ok S (fun vs H Q E h => ?_) (fun cdv A outer s H vs Q E hr h => ?_)
  · obtain ⟨R, g, b, i, h, _⟩ := h
    exact hl R H vs g h
  · obtain ⟨R, g, b, i, h, e, q⟩ := h
    exact ⟨_, sS, hb cdv A outer s H R E g hr _ R H (sat_start i h (hl R H vs g h)) b e { nx := fun _ H' => Q .non H', rt := Q } (fun _ H' => Q .non H') fun p o R' H' x np hp hr r => q p o R' H' x np hp hr r⟩
end
theorem ar1 {α : Type} [Py α] {x1 : Str} : ∀ (K : PySem.W.Frag) R H vs (g : α × Unit), Ar.ok K R H vs g → vs.length = [x1].length := fun K R H vs g ⟨v, r, h, _, q⟩ => by
  have q : r = [] := q
  rw [h, q]
  rfl
theorem ar2 {α β : Type} [Py α] [Py β] {x1 x2 : Str} : ∀ (K : PySem.W.Frag) R H vs (g : α × β × Unit), Ar.ok K R H vs g → vs.length = [x1, x2].length := fun K R H vs g ⟨v, r, h, _, v2, r2, h2, _, q⟩ => by
  have q : r2 = [] := q
  rw [h, h2, q]
  rfl
theorem ar3 {α β γ : Type} [Py α] [Py β] [Py γ] {x1 x2 x3 : Str} : ∀ (K : PySem.W.Frag) R H vs (g : α × β × γ × Unit), Ar.ok K R H vs g → vs.length = [x1, x2, x3].length := fun K R H vs g ⟨v, r, h, _, v2, r2, h2, _, v3, r3, h3, _, q⟩ => by
  have q : r3 = [] := q
  rw [h, h2, h3, q]
  rfl
end FK

namespace FK
open PySem PySem.Spec PyProof.Rows L2
theorem size_ok {n : Nat} (h : n ≤ 16000000) : n ≤ sizeLine := Nat.le_trans h (by rw [sizeLine_eq]; decide)
/-! ### scalars compared -/
class Sc (α : Type) [Py α] where
  to : α → V
  bor_eq : ∀ {K : PySem.W.Frag} {R H : Hp} {v : V} {a : α}, bor K R H v a → v = to a
  inj : ∀ {a b : α}, to a = to b → a = b
  sc : ∀ a b : α, scal (to a) (to b) = true
instance instScInt : Sc Int := ⟨V.int, fun h => h, fun h => V.int.inj h, fun _ _ => rfl⟩
instance instScBool : Sc Bool := ⟨V.bl, fun h => h, fun h => V.bl.inj h, fun _ _ => rfl⟩
instance instScStr : Sc Str := ⟨V.str, fun h => h, fun h => V.str.inj h, fun _ _ => rfl⟩
section
variable {X : Cx} {R0 H0 : Hp} {Γ : List Slot} {e a b o : Expr} {pos : Pos} {lo hi : Option Expr}
theorem sc_eq {α : Type} [Py α] [Sc α] [DecidableEq α] {K : PySem.W.Frag} (R H : Hp) (v w : V) (x y : α) (z : Bool) (i : Ex R H) (h1 : bor K R H v x) (h2 : bor K R H w y) (h3 : some (decide (x = y)) = some z) (Q : VK) (q : ∀ u R' H', Ext R H R' H' → rep K R' u z → Q u H') : rEq v w H Q := by
  cases h3
  have e1 := Sc.bor_eq h1
  have e2 := Sc.bor_eq h2
  subst e1 e2
  refine ⟨Sc.sc x y, ?_⟩
  have e : decide (Sc.to x = Sc.to y) = decide (x = y) := by
    by_cases h : x = y
    · subst h
      rw [decide_eq_true rfl, decide_eq_true rfl]
    · rw [decide_eq_false h, decide_eq_false fun z => h (Sc.inj z)]
  rw [e]
  exact q _ R H (.refl i) rfl
theorem sc_ne {α : Type} [Py α] [Sc α] [DecidableEq α] {K : PySem.W.Frag} (R H : Hp) (v w : V) (x y : α) (z : Bool) (i : Ex R H) (h1 : bor K R H v x) (h2 : bor K R H w y) (h3 : some (!decide (x = y)) = some z) (Q : VK) (q : ∀ u R' H', Ext R H R' H' → rep K R' u z → Q u H') : rNe v w H Q := by
  cases h3
  have e1 := Sc.bor_eq h1
  have e2 := Sc.bor_eq h2
  subst e1 e2
  refine ⟨Sc.sc x y, ?_⟩
  have e : decide (Sc.to x = Sc.to y) = decide (x = y) := by
    by_cases h : x = y
    · subst h
      rw [decide_eq_true rfl, decide_eq_true rfl]
    · rw [decide_eq_false h, decide_eq_false fun z => h (Sc.inj z)]
  rw [e]
  exact q _ R H (.refl i) rfl
section
variable {α : Type} [Py α] [Sc α] [DecidableEq α] {ma mb : Option α} {x y : α}
theorem je_eq (ha : JB X R0 H0 Γ a ma) (hb : JB X R0 H0 Γ b mb) : JE X R0 H0 Γ (.Compare a [.Eq] [b] pos) (ma.bind fun x => mb.bind fun y => some (decide (x = y))) := je_cmp2 op_eq (nomark _) sc_eq ha hb
theorem je_eq_t (ha : JB X R0 H0 Γ a (some x)) (hb : JB X R0 H0 Γ b (some y)) : JE X R0 H0 Γ (.Compare a [.Eq] [b] pos) (some (decide (x = y))) := je_eq ha hb
theorem jt_eq (ha : JB X R0 H0 Γ a ma) (hb : JB X R0 H0 Γ b mb) : JT X R0 H0 Γ (.Compare a [.Eq] [b] pos) (ma.bind fun x => mb.bind fun y => some (decide (x = y))) := jt_cmp2 op_eq (nomark _) sc_eq ha hb
theorem jt_eq_t (ha : JB X R0 H0 Γ a (some x)) (hb : JB X R0 H0 Γ b (some y)) : JT X R0 H0 Γ (.Compare a [.Eq] [b] pos) (some (decide (x = y))) := jt_eq ha hb
theorem je_ne (ha : JB X R0 H0 Γ a ma) (hb : JB X R0 H0 Γ b mb) : JE X R0 H0 Γ (.Compare a [.NotEq] [b] pos) (ma.bind fun x => mb.bind fun y => some (!decide (x = y))) := je_cmp2 op_ne (nomark _) sc_ne ha hb
theorem jt_ne (ha : JB X R0 H0 Γ a ma) (hb : JB X R0 H0 Γ b mb) : JT X R0 H0 Γ (.Compare a [.NotEq] [b] pos) (ma.bind fun x => mb.bind fun y => some (!decide (x = y))) := jt_cmp2 op_ne (nomark _) sc_ne ha hb
theorem jt_ne_t (ha : JB X R0 H0 Γ a (some x)) (hb : JB X R0 H0 Γ b (some y)) : JT X R0 H0 Γ (.Compare a [.NotEq] [b] pos) (some (!decide (x = y))) := jt_ne ha hb
end
section
variable {ma mb : Option Int} {x y : Int}
theorem jt_lt (ha : JB X R0 H0 Γ a ma) (hb : JB X R0 H0 Γ b mb) : JT X R0 H0 Γ (.Compare a [.Lt] [b] pos) (ma.bind fun x => mb.bind fun y => some (decide (x < y))) := jt_cmp2 op_lt (nomark _) rib0 ha hb
theorem jt_lt_t (ha : JB X R0 H0 Γ a (some x)) (hb : JB X R0 H0 Γ b (some y)) : JT X R0 H0 Γ (.Compare a [.Lt] [b] pos) (some (decide (x < y))) := jt_lt ha hb
theorem jt_gt (ha : JB X R0 H0 Γ a ma) (hb : JB X R0 H0 Γ b mb) : JT X R0 H0 Γ (.Compare a [.Gt] [b] pos) (ma.bind fun x => mb.bind fun y => some (decide (y < x))) := jt_cmp2 op_gt (nomark _) rib0 ha hb
theorem jt_gt_t (ha : JB X R0 H0 Γ a (some x)) (hb : JB X R0 H0 Γ b (some y)) : JT X R0 H0 Γ (.Compare a [.Gt] [b] pos) (some (decide (y < x))) := jt_gt ha hb
theorem jt_ge (ha : JB X R0 H0 Γ a ma) (hb : JB X R0 H0 Γ b mb) : JT X R0 H0 Γ (.Compare a [.GtE] [b] pos) (ma.bind fun x => mb.bind fun y => some (decide (y ≤ x))) := jt_cmp2 op_ge (nomark _) rib0 ha hb
theorem jt_ge_t (ha : JB X R0 H0 Γ a (some x)) (hb : JB X R0 H0 Γ b (some y)) : JT X R0 H0 Γ (.Compare a [.GtE] [b] pos) (some (decide (y ≤ x))) := jt_ge ha hb
theorem je_neg {m : Option Int} (h : JB X R0 H0 Γ a m) : JE X R0 H0 Γ (.UnaryOp .USub a pos) (m.bind fun x => some (-x)) := .mk fun σ R H S z ez Q q => by
  obtain ⟨x, ex, ez⟩ := bind_some' ez
  cases ez
  exact PE_to (pe_un un_neg eS) (h σ R H S x ex _ fun v R' H' z r => ⟨x, r, q _ R' H' z rfl⟩)
theorem je_neg_t (h : JB X R0 H0 Γ a (some x)) : JE X R0 H0 Γ (.UnaryOp .USub a pos) (some (-x)) := je_neg h
end
/-! ### texts -/
def sAdd (x y : Str) : Option Str := if x.length + y.length ≤ 16000000 then some (x ++ y) else none
theorem je_cat {ma mb : Option Str} (ha : JB X R0 H0 Γ a ma) (hb : JB X R0 H0 Γ b mb) : JE X R0 H0 Γ (.BinOp a .Add b pos) (ma.bind fun x => mb.bind fun y => sAdd x y) := je_op2 op_add_str (fun R H v w x y z i h1 h2 h3 Q q => by
  unfold sAdd at h3
  by_cases h : x.length + y.length ≤ 16000000
  · rw [if_pos h] at h3
    cases h3
    exact ⟨x, y, h1, h2, size_ok h, q _ R H (.refl i) rfl⟩
  · rw [if_neg h] at h3
    cases h3) ha hb
theorem je_cat_t {x y : Str} (ha : JB X R0 H0 Γ a (some x)) (hb : JB X R0 H0 Γ b (some y)) : JE X R0 H0 Γ (.BinOp a .Add b pos) (sAdd x y) := je_cat ha hb
def sAt (z : Str) (i : Int) : Option Str := if z.length ≤ 16000000 then (atI z.cps.toList i).bind fun c => some ⟨#[c]⟩ else none
theorem je_ixs {ma : Option Str} {mb : Option Int} (ha : JB X R0 H0 Γ a ma) (hb : JB X R0 H0 Γ b mb) (hs : PlainIx b) : JE X R0 H0 Γ (.Subscript a b pos) (ma.bind fun x => mb.bind fun y => sAt x y) := .mk fun σ R H S z ez Q q => by
  obtain ⟨x, ex, ez⟩ := bind_some' ez
  obtain ⟨y, ey, ez⟩ := bind_some' ez
  unfold sAt at ez
  by_cases h : x.length ≤ 16000000
  · rw [if_pos h] at ez
    obtain ⟨c, ec, ez⟩ := bind_some' ez
    cases ez
    refine PE_to (pe_ix ix_str eS eS hs) (ha σ R H S x ex _ fun v R1 H1 e1 r1 => hb σ R1 H1 (S.ext e1) y ey _ fun w R2 H2 e2 r2 => ?_)
    exact ⟨x, y, c, r1, r2, size_ok h, ec, q _ R2 H2 (e1.trans e2) rfl⟩
  · rw [if_neg h] at ez
    cases ez
theorem je_ixs_t {x : Str} {y : Int} (ha : JB X R0 H0 Γ a (some x)) (hb : JB X R0 H0 Γ b (some y)) (hs : PlainIx b) : JE X R0 H0 Γ (.Subscript a b pos) (sAt x y) := je_ixs ha hb hs
theorem jp_none : JP X R0 H0 Γ none (some none) := .mk fun σ R H S z ez Q q pins s I => by
  cases ez
  exact po_none.run pins s σ H Q I (q R H (.refl S.i))
theorem jp_some {m : Option Int} (h : JB X R0 H0 Γ e m) : JP X R0 H0 Γ (some e) (m.bind fun x => some (some x)) := .mk fun σ R H S z ez Q q pins s I => by
  obtain ⟨x, ex, ez⟩ := bind_some' ez
  cases ez
  exact (po_some eS).run pins s σ H Q I (h σ R H S x ex _ fun v R' H' z r => ⟨x, r, q R' H' z⟩)
theorem jp_some_t {x : Int} (h : JB X R0 H0 Γ e (some x)) : JP X R0 H0 Γ (some e) (some (some x)) := jp_some h
def sCut (z : Str) (lo hi : Option Int) : Option Str := if z.length ≤ 16000000 then some (cutS z lo hi) else none
theorem je_cuts {p2 : Pos} {m : Option Str} {ml mh : Option (Option Int)} (h : JB X R0 H0 Γ e m) (hl : JP X R0 H0 Γ lo ml) (hh : JP X R0 H0 Γ hi mh) : JE X R0 H0 Γ (.Subscript e (.Slice lo hi none p2) pos) (m.bind fun x => ml.bind fun l => mh.bind fun u => sCut x l u) := .mk fun σ R H S z ez Q q => by
  obtain ⟨x, ex, ez⟩ := bind_some' ez
  obtain ⟨l, el, ez⟩ := bind_some' ez
  obtain ⟨u, eu, ez⟩ := bind_some' ez
  unfold sCut at ez
  by_cases hx : x.length ≤ 16000000
  · rw [if_pos hx] at ez
    cases ez
    refine PE_to (pe_slice sl_str eS oS oS) (h σ R H S x ex _ fun v R1 H1 x1 r1 => hl σ R1 H1 (S.ext x1) l el _ fun R2 H2 x2 => hh σ R2 H2 ((S.ext x1).ext x2) u eu _ fun R3 H3 x3 => ?_)
    exact ⟨x, r1, size_ok hx, q _ R3 H3 ((x1.trans x2).trans x3) rfl⟩
  · rw [if_neg hx] at ez
    cases ez
theorem je_cuts_t {p2 : Pos} {x : Str} {l u : Option Int} (h : JB X R0 H0 Γ e (some x)) (hl : JP X R0 H0 Γ lo (some l)) (hh : JP X R0 H0 Γ hi (some u)) : JE X R0 H0 Γ (.Subscript e (.Slice lo hi none p2) pos) (sCut x l u) := je_cuts h hl hh
/-- a text's methods -/
theorem je_m1 {id : String} {name : Str} {apos : Pos} {r : V → List V → Hp → VK → Prop} {α β : Type} [Py α] [Py β] {mo : Option Str} {me : Option α} {f : Str → α → Option β} (slot : PySem.Slot "str" name id) (ty : typeOf (.builtin id) = pure (.type "method_descriptor")) (rule : MtR X id r)
    (hr : ∀ (R H : Hp) (w : V) (x : Str) (y : α) (z : β), Ex R H → bor X.K R H w y → f x y = some z → ∀ Q : VK, (∀ u R' H', Ext R H R' H' → rep X.K R' u z → Q u H') → r (.str x) [w] H Q) (ho : JB X R0 H0 Γ o mo) (he : JB X R0 H0 Γ e me)
    (hs : starEach [e] X.env = [(false, eval e X.env)] := by rfl) (hbase : attributeBase o name X.env (eval o X.env) = eval o X.env := by rfl) (hline : (apos.endLine == pos.line) = true := by rfl) :
    JE X R0 H0 Γ (.Call (.Attribute o name apos) [e] [] pos) (mo.bind fun x => me.bind fun y => f x y) := .mk fun σ R H S z ez Q q => by
  obtain ⟨x, ex, ez⟩ := bind_some' ez
  obtain ⟨y, ey, ez⟩ := bind_some' ez
  refine PE_to (pe_m1 slot ty rule eS eS hs hbase hline) (ho σ R H S x ex _ fun v R1 H1 x1 r1 => ?_)
  have r1 : v = .str x := r1
  subst r1
  exact ⟨⟨x, rfl⟩, he σ R1 H1 (S.ext x1) y ey _ fun w R2 H2 x2 r2 => hr R2 H2 w x y z x2.i r2 ez Q fun u R3 H3 x3 r3 => q u R3 H3 ((x1.trans x2).trans x3) r3⟩
theorem jo_m1 {id : String} {name : Str} {apos : Pos} {r : V → List V → Hp → VK → Prop} {α β : Type} [Py α] [Ob β] {mo : Option Str} {me : Option α} {f : Str → α → Option β} (slot : PySem.Slot "str" name id) (ty : typeOf (.builtin id) = pure (.type "method_descriptor")) (rule : MtR X id r)
    (hr : ∀ (R H : Hp) (w : V) (x : Str) (y : α) (z : β), Ex R H → bor X.K R H w y → f x y = some z → ∀ Q : VK, (∀ p o R' H', Ext R H R' H' → H p = none → H' p = some o → R' p = none → ho X.K R' o z → Q (.ref p) H') → r (.str x) [w] H Q) (hho : JB X R0 H0 Γ o mo) (he : JB X R0 H0 Γ e me)
    (hs : starEach [e] X.env = [(false, eval e X.env)] := by rfl) (hbase : attributeBase o name X.env (eval o X.env) = eval o X.env := by rfl) (hline : (apos.endLine == pos.line) = true := by rfl) :
    JO X R0 H0 Γ (.Call (.Attribute o name apos) [e] [] pos) (mo.bind fun x => me.bind fun y => f x y) := .mk fun σ R H S z ez Q q => by
  obtain ⟨x, ex, ez⟩ := bind_some' ez
  obtain ⟨y, ey, ez⟩ := bind_some' ez
  refine PE_to (pe_m1 slot ty rule eS eS hs hbase hline) (hho σ R H S x ex _ fun v R1 H1 x1 r1 => ?_)
  have r1 : v = .str x := r1
  subst r1
  exact ⟨⟨x, rfl⟩, he σ R1 H1 (S.ext x1) y ey _ fun w R2 H2 x2 r2 => hr R2 H2 w x y z x2.i r2 ez Q fun p o R3 H3 x3 np hp hr' r3 => q p o R3 H3 ((x1.trans x2).trans x3) ((x1.trans x2).h.none np) hp hr' r3⟩
theorem je_find {apos : Pos} {mo me : Option Str} (ho : JB X R0 H0 Γ o mo) (he : JB X R0 H0 Γ e me)
    (hs : starEach [e] X.env = [(false, eval e X.env)] := by rfl) (hbase : attributeBase o "find" X.env (eval o X.env) = eval o X.env := by rfl) (hline : (apos.endLine == pos.line) = true := by rfl) :
    JE X R0 H0 Γ (.Call (.Attribute o "find" apos) [e] [] pos) (mo.bind fun x => me.bind fun y => some (Txt.find x y)) := je_m1 F.slot_str_find F.type_str_find mt_find (fun R H w x y z i h h3 Q q => by
  cases h3
  have h : w = .str y := h
  subst h
  exact ⟨x, y, rfl, rfl, q _ R H (.refl i) rfl⟩) ho he hs hbase hline
theorem je_find_t {apos : Pos} {x y : Str} (ho : JB X R0 H0 Γ o (some x)) (he : JB X R0 H0 Γ e (some y))
    (hs : starEach [e] X.env = [(false, eval e X.env)] := by rfl) (hbase : attributeBase o "find" X.env (eval o X.env) = eval o X.env := by rfl) (hline : (apos.endLine == pos.line) = true := by rfl) :
    JE X R0 H0 Γ (.Call (.Attribute o "find" apos) [e] [] pos) (some (Txt.find x y)) := je_find ho he hs hbase hline
/-- a new list of texts -/
theorem new_strs {K : PySem.W.Frag} {R H : Hp} {ys : List Str} {Q : VK} (i : Ex R H) (q : ∀ p o R' H', Ext R H R' H' → H p = none → H' p = some o → R' p = none → ho K R' o ys → Q (.ref p) H') : rNewStrs ys H Q := fun p hp =>
  q p _ R _ (.own i hp) hp upd_same (i.none hp) ⟨ys.map V.str, rfl, AllR.of_map (fun a => rfl) ys⟩
def sSplit (x y : Str) : Option (List Str) := if (y.length == 0) = false ∧ x.length ≤ 15000000 then some (Txt.split x y) else none
theorem jo_split {apos : Pos} {mo me : Option Str} (hho : JB X R0 H0 Γ o mo) (he : JB X R0 H0 Γ e me)
    (hs : starEach [e] X.env = [(false, eval e X.env)] := by rfl) (hbase : attributeBase o "split" X.env (eval o X.env) = eval o X.env := by rfl) (hline : (apos.endLine == pos.line) = true := by rfl) :
    JO X R0 H0 Γ (.Call (.Attribute o "split" apos) [e] [] pos) (mo.bind fun x => me.bind fun y => sSplit x y) := jo_m1 F.slot_str_split F.type_str_split mt_split (fun R H w x y z i h h3 Q q => by
  unfold sSplit at h3
  by_cases g : (y.length == 0) = false ∧ x.length ≤ 15000000
  · rw [if_pos g] at h3
    cases h3
    have h : w = .str y := h
    subst h
    exact ⟨x, y, rfl, rfl, g.1, size_ok (by omega), new_strs i q⟩
  · rw [if_neg g] at h3
    cases h3) hho he hs hbase hline
theorem jo_split_t {apos : Pos} {x y : Str} (hho : JB X R0 H0 Γ o (some x)) (he : JB X R0 H0 Γ e (some y))
    (hs : starEach [e] X.env = [(false, eval e X.env)] := by rfl) (hbase : attributeBase o "split" X.env (eval o X.env) = eval o X.env := by rfl) (hline : (apos.endLine == pos.line) = true := by rfl) :
    JO X R0 H0 Γ (.Call (.Attribute o "split" apos) [e] [] pos) (sSplit x y) := jo_split hho he hs hbase hline
def sJoin (x : Str) (ys : List Str) : Option Str := if (ys.map (·.length)).sum + ys.length * x.length ≤ 16000000 then some (Txt.join x ys) else none
theorem bor_strs {K : PySem.W.Frag} {R H : Hp} {v : V} {ys : List Str} (h : bor K R H v ys) : ∃ p, v = .ref p ∧ SqL K H p (ys.map V.str) := by
  obtain ⟨p, o, rfl, hp, vs, rfl, hv⟩ := h
  have e := hv.map_eq (f := V.str) (fun v a r => r)
  subst e
  exact ⟨p, rfl, (seq_rd hp)⟩
theorem je_join {apos : Pos} {mo : Option Str} {me : Option (List Str)} (ho : JB X R0 H0 Γ o mo) (he : JB X R0 H0 Γ e me)
    (hs : starEach [e] X.env = [(false, eval e X.env)] := by rfl) (hbase : attributeBase o "join" X.env (eval o X.env) = eval o X.env := by rfl) (hline : (apos.endLine == pos.line) = true := by rfl) :
    JE X R0 H0 Γ (.Call (.Attribute o "join" apos) [e] [] pos) (mo.bind fun x => me.bind fun y => sJoin x y) := je_m1 F.slot_str_join F.type_str_join mt_join (fun R H w x y z i h h3 Q q => by
  unfold sJoin at h3
  by_cases g : (y.map (·.length)).sum + y.length * x.length ≤ 16000000
  · rw [if_pos g] at h3
    cases h3
    obtain ⟨p, rfl, hp⟩ := bor_strs h
    exact ⟨x, p, y, rfl, rfl, .inl hp, Nat.le_trans g (by decide), q _ R H (.refl i) rfl⟩
  · rw [if_neg g] at h3
    cases h3) ho he hs hbase hline
theorem je_join_t {apos : Pos} {x : Str} {y : List Str} (ho : JB X R0 H0 Γ o (some x)) (he : JB X R0 H0 Γ e (some y))
    (hs : starEach [e] X.env = [(false, eval e X.env)] := by rfl) (hbase : attributeBase o "join" X.env (eval o X.env) = eval o X.env := by rfl) (hline : (apos.endLine == pos.line) = true := by rfl) :
    JE X R0 H0 Γ (.Call (.Attribute o "join" apos) [e] [] pos) (sJoin x y) := je_join ho he hs hbase hline
/-! ### lists -/
def cutA {α : Type} (xs : List α) (lo hi : Option Int) : List α := (xs.drop (HT.sIx xs.length 0 lo)).take (HT.sIx xs.length xs.length hi - HT.sIx xs.length 0 lo)
theorem jo_cutl {p2 : Pos} {α : Type} [Py α] {m : Option (List α)} {ml mh : Option (Option Int)} (h : JB X R0 H0 Γ e m) (hl : JP X R0 H0 Γ lo ml) (hh : JP X R0 H0 Γ hi mh) : JO X R0 H0 Γ (.Subscript e (.Slice lo hi none p2) pos) (m.bind fun x => ml.bind fun l => mh.bind fun u => some (cutA x l u)) := .mk fun σ R H S z ez Q q => by
  obtain ⟨x, ex, ez⟩ := bind_some' ez
  obtain ⟨l, el, ez⟩ := bind_some' ez
  obtain ⟨u, eu, ez⟩ := bind_some' ez
  cases ez
  refine PE_to (pe_slice sl_list eS oS oS) (h σ R H S x ex _ fun v R1 H1 x1 r1 => hl σ R1 H1 (S.ext x1) l el _ fun R2 H2 x2 => hh σ R2 H2 ((S.ext x1).ext x2) u eu _ fun R3 H3 x3 => ?_)
  obtain ⟨p, o, rfl, hp, vs, rfl, hv⟩ := Py.bmono (x2.trans x3).r (x2.trans x3).h r1
  refine ⟨p, vs, rfl, (seq_rd hp), fun d hd => q d _ R3 _ (((x1.trans x2).trans x3).trans (.own x3.i hd)) (((x1.trans x2).trans x3).h.none hd) upd_same (x3.i.none hd) ⟨_, rfl, ?_⟩⟩
  unfold cutV cutA
  rw [← hv.len]
  exact (hv.drop _).take _
theorem jo_cutl_t {p2 : Pos} {α : Type} [Py α] {x : List α} {l u : Option Int} (h : JB X R0 H0 Γ e (some x)) (hl : JP X R0 H0 Γ lo (some l)) (hh : JP X R0 H0 Γ hi (some u)) : JO X R0 H0 Γ (.Subscript e (.Slice lo hi none p2) pos) (some (cutA x l u)) := jo_cutl h hl hh
theorem AllR.at' {α : Type} [Py α] {K : PySem.W.Frag} {R : Hp} {vs : List V} {as : List α} (h : AllR K R vs as) {i : Int} {a : α} (e : atI as i = some a) : ∃ v, atI vs i = some v ∧ rep K R v a := by
  unfold atI at e ⊢
  rw [h.len]
  obtain ⟨j, ej, e⟩ := bind_some' e
  rw [ej]
  exact h.get e
theorem je_ixl {α : Type} [Py α] {ma : Option (List α)} {mb : Option Int} (ha : JB X R0 H0 Γ a ma) (hb : JB X R0 H0 Γ b mb) (hs : PlainIx b) : JE X R0 H0 Γ (.Subscript a b pos) (ma.bind fun x => mb.bind fun y => atI x y) := .mk fun σ R H S z ez Q q => by
  obtain ⟨x, ex, ez⟩ := bind_some' ez
  obtain ⟨y, ey, ez⟩ := bind_some' ez
  refine PE_to (pe_ix ix_list eS eS hs) (ha σ R H S x ex _ fun v R1 H1 e1 r1 => hb σ R1 H1 (S.ext e1) y ey _ fun w R2 H2 e2 r2 => ?_)
  obtain ⟨p, o, rfl, hp, vs, rfl, hv⟩ := Py.bmono e2.r e2.h r1
  obtain ⟨u, hu, ru⟩ := hv.at' ez
  exact ⟨p, vs, y, u, rfl, r2, (seq_rd hp), hu, q _ R2 H2 (e1.trans e2) ru⟩
theorem je_ixl_t {α : Type} [Py α] {x : List α} {y : Int} (ha : JB X R0 H0 Γ a (some x)) (hb : JB X R0 H0 Γ b (some y)) (hs : PlainIx b) : JE X R0 H0 Γ (.Subscript a b pos) (atI x y) := je_ixl ha hb hs
theorem je_lenl {p : Pos} {α : Type} [Py α] {m : Option (List α)} (hm : X.mg "len" = none) (h : JB X R0 H0 Γ a m) (hg : Gl X "len" := by rfl) (hs : starEach (a :: []) X.env = (false, eval a X.env) :: starEach [] X.env := by rfl) (hpl : (backTo pos (starEach ([] : List Expr) X.env)).any (·.1) = false := by rfl) :
    JE X R0 H0 Γ (.Call (.Name "len" p) [a] [] pos) (m.bind fun x => some (x.length : Int)) := .mk fun σ R H S z ez Q q => by
  obtain ⟨x, ex, ez⟩ := bind_some' ez
  cases ez
  refine PE_to (pe_callB call_len_seq hg hm PySem.boot_len (pa_cons eS pa_nil hs) (he := hs) (hpl := hpl)) (h σ R H S x ex _ fun v R1 H1 x1 r1 => ?_)
  obtain ⟨p, o, rfl, hp, vs, rfl, hv⟩ := r1
  exact ⟨p, vs, rfl, .inl (seq_rd hp), q _ R1 H1 x1 (by rw [hv.len]; rfl)⟩
theorem je_lenl_t {p : Pos} {α : Type} [Py α] {x : List α} (hm : X.mg "len" = none) (h : JB X R0 H0 Γ a (some x)) (hg : Gl X "len" := by rfl) (hs : starEach (a :: []) X.env = (false, eval a X.env) :: starEach [] X.env := by rfl) (hpl : (backTo pos (starEach ([] : List Expr) X.env)).any (·.1) = false := by rfl) :
    JE X R0 H0 Γ (.Call (.Name "len" p) [a] [] pos) (some (x.length : Int)) := je_lenl hm h hg hs hpl
/-! ### isinstance by a built-in class -/
class Ty (α : Type) [Py α] where
  nm : String
  ty : ∀ {K : PySem.W.Frag} {R H : Hp} {v : V} {a : α}, Ex R H → bor K R H v a → TyX K H v (.type nm)
instance : Ty Int := ⟨"int", fun {K R H v a} _ h => by cases (show v = .int a from h); exact .base (.int a)⟩
instance : Ty Bool := ⟨"bool", fun {K R H v a} _ h => by cases (show v = .bl a from h); exact .base (.bl a)⟩
instance : Ty Str := ⟨"str", fun {K R H v a} _ h => by cases (show v = .str a from h); exact .base (.str a)⟩
instance {α : Type} [Py α] : Ty (List α) := ⟨"list", fun {K R H v a} _ h => by
  obtain ⟨p, o, rfl, hp, vs, rfl, hv⟩ := h
  rcases (seq_rd (K := K) hp) with (hp | ⟨ob, hp⟩) | ⟨ob, its, n, hp, hc, _⟩
  · exact .base (.lst hp)
  · exact .base (.frz hp)
  · exact .kList hp hc⟩
end
end FK

namespace FK
open PySem PySem.Spec PyProof.Rows L2
section
variable {X : Cx} {R0 H0 : Hp} {Γ : List Slot} {e a b c o tg : Expr} {pos : Pos} {lo hi : Option Expr} {st : Stmt}
def sLen (x : Str) : Option Int := if x.length ≤ 16000000 then some (x.length : Int) else none
theorem js_last {β : Type} {m : Option β} {out : β → Out} (h : J1 X R0 H0 Γ st m out) : JS X R0 H0 Γ [st] m out := .mk fun σ R H S b eb D q => PSs_to (pss_one s1S) (h σ R H S b eb D q)
/-! ### the script -/
theorem je_ixscr {ma : Option Scr} {mb : Option Int} (ha : JB X R0 H0 Γ a ma) (hb : JB X R0 H0 Γ b mb) (hs : PlainIx b) : JE X R0 H0 Γ (.Subscript a b pos) (ma.bind fun x => mb.bind fun y => atI x.l y) := .mk fun σ R H S z ez Q q => by
  obtain ⟨x, ex, ez⟩ := bind_some' ez
  obtain ⟨y, ey, ez⟩ := bind_some' ez
  refine PE_to (pe_ix ix_list eS eS hs) (ha σ R H S x ex _ fun v R1 H1 e1 r1 => hb σ R1 H1 (S.ext e1) y ey _ fun w R2 H2 e2 r2 => ?_)
  obtain ⟨p, rfl, hp⟩ := Py.bmono e2.r e2.h r1
  have hv : AllR X.K R2 (x.l.map V.int) x.l := AllR.of_map (fun a => rfl) x.l
  obtain ⟨u, hu, ru⟩ := hv.at' ez
  exact ⟨p, _, y, u, rfl, r2, hp, hu, q _ R2 H2 (e1.trans e2) ru⟩
theorem je_ixscr_t {x : Scr} {y : Int} (ha : JB X R0 H0 Γ a (some x)) (hb : JB X R0 H0 Γ b (some y)) (hs : PlainIx b) : JE X R0 H0 Γ (.Subscript a b pos) (atI x.l y) := je_ixscr ha hb hs
theorem jo_cutscr {p2 : Pos} {m : Option Scr} {ml mh : Option (Option Int)} (h : JB X R0 H0 Γ e m) (hl : JP X R0 H0 Γ lo ml) (hh : JP X R0 H0 Γ hi mh) : JO X R0 H0 Γ (.Subscript e (.Slice lo hi none p2) pos) (m.bind fun x => ml.bind fun l => mh.bind fun u => some (cutA x.l l u)) := .mk fun σ R H S z ez Q q => by
  obtain ⟨x, ex, ez⟩ := bind_some' ez
  obtain ⟨l, el, ez⟩ := bind_some' ez
  obtain ⟨u, eu, ez⟩ := bind_some' ez
  cases ez
  refine PE_to (pe_slice sl_list eS oS oS) (h σ R H S x ex _ fun v R1 H1 x1 r1 => hl σ R1 H1 (S.ext x1) l el _ fun R2 H2 x2 => hh σ R2 H2 ((S.ext x1).ext x2) u eu _ fun R3 H3 x3 => ?_)
  obtain ⟨p, rfl, hp⟩ := Py.bmono (x2.trans x3).r (x2.trans x3).h r1
  refine ⟨p, _, rfl, hp, fun d hd => q d _ R3 _ (((x1.trans x2).trans x3).trans (.own x3.i hd)) (((x1.trans x2).trans x3).h.none hd) upd_same (x3.i.none hd) ⟨_, rfl, ?_⟩⟩
  have hv : AllR X.K R3 (x.l.map V.int) x.l := AllR.of_map (fun a => rfl) x.l
  unfold cutV cutA
  rw [List.length_map]
  exact (hv.drop _).take _
theorem jo_cutscr_t {p2 : Pos} {x : Scr} {l u : Option Int} (h : JB X R0 H0 Γ e (some x)) (hl : JP X R0 H0 Γ lo (some l)) (hh : JP X R0 H0 Γ hi (some u)) : JO X R0 H0 Γ (.Subscript e (.Slice lo hi none p2) pos) (some (cutA x.l l u)) := jo_cutscr h hl hh
theorem je_lenscr {p : Pos} {m : Option Scr} (hm : X.mg "len" = none) (h : JB X R0 H0 Γ a m) (hg : Gl X "len" := by rfl) (hs : starEach (a :: []) X.env = (false, eval a X.env) :: starEach [] X.env := by rfl) (hpl : (backTo pos (starEach ([] : List Expr) X.env)).any (·.1) = false := by rfl) :
    JE X R0 H0 Γ (.Call (.Name "len" p) [a] [] pos) (m.bind fun x => some (x.l.length : Int)) := .mk fun σ R H S z ez Q q => by
  obtain ⟨x, ex, ez⟩ := bind_some' ez
  cases ez
  refine PE_to (pe_callB call_len_seq hg hm PySem.boot_len (pa_cons eS pa_nil hs) (he := hs) (hpl := hpl)) (h σ R H S x ex _ fun v R1 H1 x1 r1 => ?_)
  obtain ⟨p, rfl, hp⟩ := r1
  exact ⟨p, _, rfl, .inl hp, q _ R1 H1 x1 (by rw [List.length_map]; rfl)⟩
theorem je_lenscr_t {p : Pos} {x : Scr} (hm : X.mg "len" = none) (h : JB X R0 H0 Γ a (some x)) (hg : Gl X "len" := by rfl) (hs : starEach (a :: []) X.env = (false, eval a X.env) :: starEach [] X.env := by rfl) (hpl : (backTo pos (starEach ([] : List Expr) X.env)).any (·.1) = false := by rfl) :
    JE X R0 H0 Γ (.Call (.Name "len" p) [a] [] pos) (some (x.l.length : Int)) := je_lenscr hm h hg hs hpl
/-! ### one argument, two, three: built-ins -/
theorem je_b1 {p : Pos} {f : Str} {id : String} {r : List V → Hp → VK → Prop} {α β : Type} [Py α] [Py β] {m : Option α} {g : α → Option β} (hc : CallR X (.builtin id) r) (hb : bootBuiltins f = some (.builtin id)) (hm : X.mg f = none)
    (hr : ∀ (R H : Hp) (v : V) (x : α) (z : β), Ex R H → bor X.K R H v x → g x = some z → ∀ Q : VK, (∀ u R' H', Ext R H R' H' → rep X.K R' u z → Q u H') → r [v] H Q) (h : JB X R0 H0 Γ a m) (hg : Gl X f)
    (hs : starEach (a :: []) X.env = (false, eval a X.env) :: starEach [] X.env) (hpl : (backTo pos (starEach ([] : List Expr) X.env)).any (·.1) = false) (hn : f ≠ "__name__") (hd : (f == ("__debug__" : Str)) = false) :
    JE X R0 H0 Γ (.Call (.Name f p) [a] [] pos) (m.bind g) := .mk fun σ R H S z ez Q q => by
  obtain ⟨x, ex, ez⟩ := bind_some' ez
  exact PE_to (pe_callB hc hg hm hb (pa_cons eS pa_nil hs) hn hd (he := hs) (hpl := hpl)) (h σ R H S x ex _ fun v R1 H1 x1 r1 => hr R1 H1 v x z x1.i r1 ez Q fun u R2 H2 x2 r2 => q u R2 H2 (x1.trans x2) r2)
def iabs (i : Int) : Int := if i < 0 then -i else i
def bint (k : Bool) : Int := if k then 1 else 0
def imax2 (i j : Int) : Int := if j > i then j else i
def imin2 (i j : Int) : Int := if j < i then j else i
def imin3 (i j k : Int) : Int := imin2 (imin2 i j) k
theorem je_b2 {p : Pos} {f : Str} {id : String} {r : List V → Hp → VK → Prop} {g : Int → Int → Int} {m m2 : Option Int} (hc : CallR X (.builtin id) r) (hb : bootBuiltins f = some (.builtin id)) (hm : X.mg f = none)
    (hr : ∀ (H : Hp) (x y : Int) (Q : VK), Q (.int (g x y)) H → r [.int x, .int y] H Q) (h : JB X R0 H0 Γ a m) (h2 : JB X R0 H0 Γ b m2) (hg : Gl X f)
    (hs : starEach [a, b] X.env = (false, eval a X.env) :: starEach [b] X.env) (hs2 : starEach [b] X.env = (false, eval b X.env) :: starEach [] X.env) (hpl : (backTo pos (starEach [b] X.env)).any (·.1) = false) (hn : f ≠ "__name__") (hd : (f == ("__debug__" : Str)) = false) :
    JE X R0 H0 Γ (.Call (.Name f p) [a, b] [] pos) (m.bind fun x => m2.bind fun y => some (g x y)) := .mk fun σ R H S z ez Q q => by
  obtain ⟨x, ex, ez⟩ := bind_some' ez
  obtain ⟨y, ey, ez⟩ := bind_some' ez
  cases ez
  refine PE_to (pe_callB hc hg hm hb (pa_cons eS (pa_cons eS pa_nil hs2) hs) hn hd (he := hs) (hpl := hpl)) (h σ R H S x ex _ fun v R1 H1 x1 r1 => h2 σ R1 H1 (S.ext x1) y ey _ fun w R2 H2 x2 r2 => ?_)
  have r1 : v = .int x := r1
  have r2 : w = .int y := r2
  subst r1 r2
  exact hr H2 x y Q (q _ R2 H2 (x1.trans x2) rfl)
theorem je_max2 {p : Pos} {m m2 : Option Int} (hm : X.mg "max" = none) (h : JB X R0 H0 Γ a m) (h2 : JB X R0 H0 Γ b m2) (hc : X.calm = true := by rfl) (hg : Gl X "max" := by rfl) (hs : starEach [a, b] X.env = (false, eval a X.env) :: starEach [b] X.env := by rfl) (hs2 : starEach [b] X.env = (false, eval b X.env) :: starEach [] X.env := by rfl) (hpl : (backTo pos (starEach [b] X.env)).any (·.1) = false := by rfl) :
    JE X R0 H0 Γ (.Call (.Name "max" p) [a, b] [] pos) (m.bind fun x => m2.bind fun y => some (imax2 x y)) := je_b2 (call_max2 hc) (by decide +kernel) hm (fun H x y Q q => ⟨x, y, rfl, q⟩) h h2 hg hs hs2 hpl (by decide) (by decide)
theorem je_max2_t {p : Pos} {m m2 : Int} (hm : X.mg "max" = none) (h : JB X R0 H0 Γ a (some m)) (h2 : JB X R0 H0 Γ b (some m2)) (hc : X.calm = true := by rfl) (hg : Gl X "max" := by rfl) (hs : starEach [a, b] X.env = (false, eval a X.env) :: starEach [b] X.env := by rfl) (hs2 : starEach [b] X.env = (false, eval b X.env) :: starEach [] X.env := by rfl) (hpl : (backTo pos (starEach [b] X.env)).any (·.1) = false := by rfl) :
    JE X R0 H0 Γ (.Call (.Name "max" p) [a, b] [] pos) (some (imax2 m m2)) := je_max2 hm h h2 hc hg hs hs2 hpl
theorem je_min2 {p : Pos} {m m2 : Option Int} (hm : X.mg "min" = none) (h : JB X R0 H0 Γ a m) (h2 : JB X R0 H0 Γ b m2) (hc : X.calm = true := by rfl) (hg : Gl X "min" := by rfl) (hs : starEach [a, b] X.env = (false, eval a X.env) :: starEach [b] X.env := by rfl) (hs2 : starEach [b] X.env = (false, eval b X.env) :: starEach [] X.env := by rfl) (hpl : (backTo pos (starEach [b] X.env)).any (·.1) = false := by rfl) :
    JE X R0 H0 Γ (.Call (.Name "min" p) [a, b] [] pos) (m.bind fun x => m2.bind fun y => some (imin2 x y)) := je_b2 (call_min2 hc) (by decide +kernel) hm (fun H x y Q q => ⟨x, y, rfl, q⟩) h h2 hg hs hs2 hpl (by decide) (by decide)
theorem je_min2_t {p : Pos} {m m2 : Int} (hm : X.mg "min" = none) (h : JB X R0 H0 Γ a (some m)) (h2 : JB X R0 H0 Γ b (some m2)) (hc : X.calm = true := by rfl) (hg : Gl X "min" := by rfl) (hs : starEach [a, b] X.env = (false, eval a X.env) :: starEach [b] X.env := by rfl) (hs2 : starEach [b] X.env = (false, eval b X.env) :: starEach [] X.env := by rfl) (hpl : (backTo pos (starEach [b] X.env)).any (·.1) = false := by rfl) :
    JE X R0 H0 Γ (.Call (.Name "min" p) [a, b] [] pos) (some (imin2 m m2)) := je_min2 hm h h2 hc hg hs hs2 hpl
theorem je_lens {p : Pos} {m : Option Str} (hm : X.mg "len" = none) (h : JB X R0 H0 Γ a m) (hg : Gl X "len" := by rfl) (hs : starEach (a :: []) X.env = (false, eval a X.env) :: starEach [] X.env := by rfl) (hpl : (backTo pos (starEach ([] : List Expr) X.env)).any (·.1) = false := by rfl) :
    JE X R0 H0 Γ (.Call (.Name "len" p) [a] [] pos) (m.bind fun x => sLen x) := je_b1 call_len PySem.boot_len hm (fun R H v x z i h1 h2 Q q => by
  unfold sLen at h2
  by_cases hz : x.length ≤ 16000000
  · rw [if_pos hz] at h2
    cases h2
    have h1 : v = .str x := h1
    exact ⟨.str x, x.length, by rw [h1], ⟨size_ok hz, rfl⟩, q _ R H (.refl i) rfl⟩
  · rw [if_neg hz] at h2
    cases h2) h hg hs hpl (by decide) (by decide)
theorem je_lens_t {p : Pos} {x : Str} (hm : X.mg "len" = none) (h : JB X R0 H0 Γ a (some x)) (hg : Gl X "len" := by rfl) (hs : starEach (a :: []) X.env = (false, eval a X.env) :: starEach [] X.env := by rfl) (hpl : (backTo pos (starEach ([] : List Expr) X.env)).any (·.1) = false := by rfl) : JE X R0 H0 Γ (.Call (.Name "len" p) [a] [] pos) (sLen x) := je_lens hm h hg hs hpl
/-! ### displays -/
structure JLs (X : Cx) (R0 H0 : Hp) (Γ : List Slot) (es : List Expr) {α : Type} [Py α] (m : Option (List α)) : Prop where
  run : ∀ σ R H, Sat X.K R0 H0 Γ σ R H → ∀ xs, m = some xs → ∀ Q : List V → Hp → Prop, (∀ vs R' H', Ext R H R' H' → vs.length = es.length → AllR X.K R' vs xs → Q vs H') → aSem X es σ H Q
theorem ll_nil {α : Type} [Py α] : JLs X R0 H0 Γ [] (some ([] : List α)) := ⟨fun σ R H S xs ex Q q => by
  cases ex
  exact PA_to pa_nil (q [] R H (.refl S.i) rfl .nil)⟩
theorem ll_cons {α : Type} [Py α] {es : List Expr} {m : Option α} {mr : Option (List α)} (h : JE X R0 H0 Γ e m) (hr : JLs X R0 H0 Γ es mr) (hs : starEach (e :: es) X.env = (false, eval e X.env) :: starEach es X.env := by rfl) :
    JLs X R0 H0 Γ (e :: es) (m.bind fun x => mr.bind fun r => some (x :: r)) := ⟨fun σ R H S xs eg Q q => by
  obtain ⟨x, ex, eg⟩ := bind_some' eg
  obtain ⟨r, er, eg⟩ := bind_some' eg
  cases eg
  exact PA_to (pa_cons eS aS hs) (h σ R H S x ex _ fun v R1 H1 x1 r1 => hr.run σ R1 H1 (S.ext x1) r er _ fun vs R2 H2 x2 l2 r2 => q (v :: vs) R2 H2 (x1.trans x2) (congrArg (· + 1) l2) (.cons (Py.mono x2.r r1) r2))⟩
theorem ll_cons_t {α : Type} [Py α] {es : List Expr} {x : α} {r : List α} (h : JE X R0 H0 Γ e (some x)) (hr : JLs X R0 H0 Γ es (some r)) (hs : starEach (e :: es) X.env = (false, eval e X.env) :: starEach es X.env := by rfl) : JLs X R0 H0 Γ (e :: es) (some (x :: r)) := ll_cons h hr hs
theorem jo_lst {α : Type} [Py α] {es : List Expr} {m : Option (List α)} (h : JLs X R0 H0 Γ es m) (hn : es.length ≤ 100 := by exact Nat.le_of_ble_eq_true rfl) : JO X R0 H0 Γ (.List es pos) m := .mk fun σ R H S xs ex Q q =>
  PE_to (pe_lst aS) (h.run σ R H S xs ex _ fun vs R1 H1 x1 l1 r1 => ⟨size_ok (by rw [l1]; exact Nat.le_trans hn (by decide)), fun p hp => q p _ R1 _ (x1.trans (.own x1.i hp)) (x1.h.none hp) upd_same (x1.i.none hp) ⟨vs, rfl, r1⟩⟩)
theorem jo_nil {α : Type} [Py α] : JO X R0 H0 Γ (.List [] pos) (some ([] : List α)) := jo_lst ll_nil (by decide)
/-! ### lists: a new one of two, a copy; what is one's own changed -/
def lCat {α : Type} (x y : List α) : Option (List α) := if x.length + y.length ≤ 16000000 then some (x ++ y) else none
def lApp {α : Type} (xs : List α) (x : α) : Option (List α) := if xs.length < 16000000 then some (xs ++ [x]) else none
theorem j1_app (i : Nat) {x : Str} {px apos p : Pos} {α : Type} [Py α] {xs : List α} {m : Option α} (Γ' : List α → List Slot) (h : JE X R0 H0 Γ e m) (hΓ : Γ[i]? = some (.own xs) := by rfl) (hu : ∀ ys, Γ' ys = Γ.set i (.own ys) := by intro _; rfl) (hN : X.N[i]? = some x := by rfl)
    (hv : Vis X.env.scope x := by first | exact Or.inl rfl | exact Or.inr (Or.inl rfl) | exact Or.inr (Or.inr rfl)) (hd : (x == ("__debug__" : Str)) = false := by decide) (hcd : (x == ("__classdict__" : Str)) = false := by decide)
    (he : starEach (e :: []) X.env = (false, eval e X.env) :: starEach [] X.env := by rfl) (hpl : (backTo p (starEach ([] : List Expr) X.env)).any (·.1) = false := by rfl) (hfew : ((backTo p (starEach (e :: []) X.env)).all (fun x => !x.1) && (backToKw p (keywordEach [] X.env)).all (fun x => x.1.isSome) && decide ((e :: []).length + ([] : List Keyword).length + (if ([] : List Keyword).isEmpty then 0 else 1) < 30)) = true := by rfl) (hb : attributeBase (.Name x px) "append" X.env (eval (.Name x px) X.env) = eval (.Name x px) X.env := by rfl) (hln : (apos.endLine == p.line) = true := by rfl)
    (hsw : swapsWith (.Call (.Attribute (.Name x px) "append" apos) [e] [] p) none pos.line X.env = pure false := by rfl) :
    J1 X R0 H0 Γ (.Expr (.Call (.Attribute (.Name x px) "append" apos) [e] [] p) pos) (m.bind fun y => lApp xs y) fun ys => .nx (Γ' ys) := .mk fun σ R H S b eb D q => by
  obtain ⟨y, ey, eb⟩ := bind_some' eb
  unfold lApp at eb
  by_cases hz : xs.length < 16000000
  · rw [if_pos hz] at eb
    cases eb
    obtain ⟨l, o, hs, hp, ⟨vs, rfl, hv0⟩, hR, hH, _⟩ := S.get_own hΓ
    have q : ∀ σ R' H, Ex R R' → Sat X.K R0 H0 (Γ' (xs ++ [y])) σ R' H → D.nx σ H := q
    rw [hu] at q
    refine PS_to (ps_expr (pe_bm PySem.F.plainAttrs_list PySem.F.slot_list_append PySem.F.type_list_append mt_append (pv i hN hv hd hcd) (pa_cons eS pa_nil he) (hbase := hb) (hfew := hfew) (hline := hln) (hs := he) (hplain := hpl)) hsw) ⟨.ref l, hs, .inl ⟨rfl, _, .inl (.inl hp)⟩, h σ R H S y ey _ fun v R1 H1 x1 r1 => ?_⟩
    refine ⟨l, vs, v, rfl, rfl, x1.h _ _ hp, ?_, ?_⟩
    · rw [hv0.len]
      exact Nat.lt_of_lt_of_le hz (by rw [sizeLine_eq]; decide)
    · obtain ⟨_, _, hs', _, _, _, _, up⟩ := S.get_own hΓ
      rw [hs] at hs'
      cases hs'
      exact q _ _ _ x1.r (up R1 H1 _ (xs ++ [y]) x1 ⟨_, rfl, (hv0.mono x1.r).app (.cons r1 .nil)⟩)
  · rw [if_neg hz] at eb
    cases eb
end
theorem law_in {K : PySem.W.Frag} {H : Hp} {a : Addr} {ns : List Int} {m : Scr × Unit → Option Bool} {E : XK} (hS : SqL K H a (ns.map V.int)) (h : m (⟨ns⟩, ()) = some true) : spV K m [.ref a] H (fun v _ => v = .bl true) E :=
  ⟨H, (⟨ns⟩, ()), true, .refl H, ⟨.ref a, [], rfl, ⟨a, rfl, hS⟩, rfl⟩, h, fun v R' H' _ r => r⟩
end FK

namespace FK
open PySem PySem.Spec PyProof.Rows L2
section
variable {X : Cx} {R0 H0 : Hp} {Γ : List Slot} {e a b c o tg : Expr} {pos : Pos} {lo hi : Option Expr} {st : Stmt}
/-! ### truths: is -/
def sLt (x y : Str) : Bool := decide (x.cps.toList < y.cps.toList)
def sLe (x y : Str) : Bool := decide (x.cps.toList ≤ y.cps.toList)
abbrev T4 := PySem.W.T4
instance instPy4 {α β γ δ : Type} [Py α] [Py β] [Py γ] [Py δ] : Py (T4 α β γ δ) := dirPy (fun K R vs a => ∃ x y z u, vs = [x, y, z, u] ∧ rep K R x a.a ∧ rep K R y a.b ∧ rep K R z a.c ∧ rep K R u a.d)
  fun e ⟨x, y, z, u, h, p, q, r, s⟩ => ⟨x, y, z, u, h, Py.mono e p, Py.mono e q, Py.mono e r, Py.mono e s⟩
instance {α β γ δ : Type} [Py α] [Py β] [Py γ] [Py δ] : Flat (T4 α β γ δ) := ⟨fun h => h⟩
theorem tup_lay {K : PySem.W.Frag} {α : Type} {f : PySem.W.Frag → Hp → List V → α → Prop} {R H R' H' : Hp} {vs : List V} (x : Ext R H R' H') {Q : VK} (q : ∀ v R2 H2, Ext R H R2 H2 → (∃ p, v = .ref p ∧ R2 p = some (.tup vs) ∧ Ex R' R2) → Q v H2) : ∀ p, H' p = none → Q (.ref p) (upd H' p (.tup vs)) := fun p hp =>
  q (.ref p) (upd R' p (.tup vs)) _ (x.trans (.new x.i hp)) ⟨p, rfl, upd_same, .new (x.i.none hp)⟩
theorem je_tup3 {α β γ : Type} [Py α] [Py β] [Py γ] {m1 : Option α} {m2 : Option β} {m3 : Option γ} {kk : Nat} (h1 : JE X R0 H0 Γ a m1) (h2 : JE X R0 H0 Γ b m2) (h3 : JE X R0 H0 Γ c m3) (s1 : starEach (a :: [b, c]) X.env = (false, eval a X.env) :: starEach [b, c] X.env := by rfl) (s2 : starEach (b :: [c]) X.env = (false, eval b X.env) :: starEach [c] X.env := by rfl) (s3 : starEach (c :: []) X.env = (false, eval c X.env) :: starEach [] X.env := by rfl) : JE X R0 H0 Γ (.Tuple [a, b, c] kk pos) (m1.bind fun x1 => m2.bind fun x2 => m3.bind fun x3 => some (⟨x1, x2, x3⟩ : (T3 α β γ))) := .mk fun σ R H S z ez Q q => by
  obtain ⟨x1, e1, ez⟩ := bind_some' ez
  obtain ⟨x2, e2, ez⟩ := bind_some' ez
  obtain ⟨x3, e3, ez⟩ := bind_some' ez
  cases ez
  refine PE_to (pe_tup (pa_cons eS (pa_cons eS (pa_cons eS pa_nil s3) s2) s1)) (h1 σ R H S x1 e1 _ fun v1 R1 H1 y1 r1 => h2 σ R1 H1 (S.ext y1) x2 e2 _ fun v2 R2 H2 y2 r2 => h3 σ R2 H2 ((S.ext y1).ext y2) x3 e3 _ fun v3 R3 H3 y3 r3 => ⟨(by show 3 ≤ sizeLine; rw [sizeLine_eq]; decide), ?_⟩)
  exact tup_lay (K := X.K) (α := (T3 α β γ)) (f := fun _ _ _ _ => True) ((y1.trans y2).trans y3) fun v R' H' w ⟨p, ev, hp, ex⟩ => q v R' H' w ⟨p, _, ev, hp, v1, v2, v3, rfl, Py.mono ex (Py.mono y3.r (Py.mono y2.r r1)), Py.mono ex (Py.mono y3.r r2), Py.mono ex r3⟩
theorem je_tup3_t {α β γ : Type} [Py α] [Py β] [Py γ] {x1 : α} {x2 : β} {x3 : γ} {kk : Nat} (h1 : JE X R0 H0 Γ a (some x1)) (h2 : JE X R0 H0 Γ b (some x2)) (h3 : JE X R0 H0 Γ c (some x3)) (s1 : starEach (a :: [b, c]) X.env = (false, eval a X.env) :: starEach [b, c] X.env := by rfl) (s2 : starEach (b :: [c]) X.env = (false, eval b X.env) :: starEach [c] X.env := by rfl) (s3 : starEach (c :: []) X.env = (false, eval c X.env) :: starEach [] X.env := by rfl) : JE X R0 H0 Γ (.Tuple [a, b, c] kk pos) (some (⟨x1, x2, x3⟩ : (T3 α β γ))) := je_tup3 h1 h2 h3 s1 s2 s3
theorem bor_map {α : Type} [Py α] {K : PySem.W.Frag} {R H : Hp} {v : V} {xs : List α} {f : α → V} (hf : ∀ v a, rep K R v a → v = f a) (h : bor K R H v xs) : ∃ p, v = .ref p ∧ SqL K H p (xs.map f) := by
  obtain ⟨p, o, rfl, hp, vs, rfl, hv⟩ := h
  have e := hv.map_eq hf
  subst e
  exact ⟨p, rfl, .inl hp⟩
theorem je_all {p : Pos} {m : Option (List Bool)} (hm : X.mg "all" = none) (h : JB X R0 H0 Γ a m) (hc : X.calm = true := by rfl) (hg : Gl X "all" := by rfl) (hs : starEach (a :: []) X.env = (false, eval a X.env) :: starEach [] X.env := by rfl) (hpl : (backTo pos (starEach ([] : List Expr) X.env)).any (·.1) = false := by rfl) : JE X R0 H0 Γ (.Call (.Name "all" p) [a] [] pos) (m.bind fun x => some (x.all id)) := je_b1 (cr_all hc) (by decide +kernel) hm (fun R H v x z i h1 h2 Q q => by
  cases h2
  obtain ⟨p, rfl, hp⟩ := bor_map (f := V.bl) (fun v a r => r) h1
  exact ⟨p, x, rfl, hp, q _ R H (.refl i) rfl⟩) h hg hs hpl (by decide) (by decide)
def lSet {α : Type} (xs : List α) (k : Int) (x : α) : Option (List α) := (ixN xs.length k).bind fun j => some (xs.set j x)
theorem AllR.set {α : Type} [Py α] {K : PySem.W.Frag} {R : Hp} {v : V} {x : α} (r : rep K R v x) : ∀ {vs : List V} {as : List α} (j : Nat), AllR K R vs as → AllR K R (vs.set j v) (as.set j x)
  | _, _, _, .nil => .nil
  | _, _, 0, .cons _ t => .cons r t
  | _, _, j + 1, .cons h t => .cons h (t.set r j)
/-! ### a list that stays, walked otherwise -/
structure JL (X : Cx) (R0 H0 : Hp) (Γ : List Slot) (e : Expr) {α : Type} [Py α] (m : Option (List α)) : Prop where
  run : ∀ σ R H, Sat X.K R0 H0 Γ σ R H → ∀ xs, m = some xs → ∀ Q : VK, (∀ p vs R' H', Ext R H R' H' → (∀ R2 H2, Ex R' R2 → Ex H0 H2 → Ex R2 H2 → SqL X.K H2 p vs) → AllR X.K R' vs xs → Q (.ref p) H') → eSem X e σ H Q
theorem jl_e {α : Type} [Py α] {m : Option (List α)} (h : JE X R0 H0 Γ e m) : JL X R0 H0 Γ e m := ⟨fun σ R H S xs ex Q q => h σ R H S xs ex Q fun v R' H' x r => by
  obtain ⟨p, o, rfl, hp, vs, rfl, hv⟩ := r
  exact q p vs R' H' x (fun R2 H2 e1 _ e3 => .inl (rd_ex (e1.trans e3) hp)) hv⟩
theorem jl_b (i : Nat) {x : Str} {α : Type} [Py α] {c : List α} (hΓ : Γ[i]? = some (.b c) := by rfl) (hN : X.N[i]? = some x := by rfl) (hv : Vis X.env.scope x := by first | exact Or.inl rfl | exact Or.inr (Or.inl rfl) | exact Or.inr (Or.inr rfl)) (hd : (x == ("__debug__" : Str)) = false := by decide)
    (hcd : (x == ("__classdict__" : Str)) = false := by decide) : JL X R0 H0 Γ (.Name x pos) (some c) := ⟨fun σ R H S xs ex Q q => by
  cases ex
  obtain ⟨v, hs, p, o, rfl, hp, vs, rfl, r⟩ := S.get_b hΓ
  exact PE_to (pv i hN hv hd hcd) ⟨.ref p, hs, q p vs R H (.refl S.i) (fun R2 H2 e1 e2 e3 => .inl (rd_ex e2 hp)) (r.mono S.e0.r)⟩⟩
def enumF {α : Type} : Nat → List α → List (Int × α)
  | _, [] => []
  | k, x :: r => ((k : Int), x) :: enumF (k + 1) r
def enumL {α : Type} (xs : List α) : List (Int × α) := enumF 0 xs
theorem enumF_get {α : Type} : ∀ (xs : List α) (k i : Nat), (enumF k xs)[i]? = xs[i]?.map fun x => (((k + i : Nat) : Int), x)
  | [], k, i => by simp [enumF]
  | x :: r, k, 0 => by simp [enumF]
  | x :: r, k, i + 1 => by
    show (enumF (k + 1) r)[i]? = r[i]?.map _
    rw [enumF_get r (k + 1) i, show k + 1 + i = k + (i + 1) by omega]
theorem enumF_len {α : Type} : ∀ (xs : List α) (k : Nat), (enumF k xs).length = xs.length
  | [], _ => rfl
  | x :: r, k => congrArg (· + 1) (enumF_len r (k + 1))
theorem ji_enum {p tpos : Pos} {elts : List Expr} {kk : Nat} {α : Type} [Py α] {m : Option (List α)} (hm : X.mg "enumerate" = none) (h : JL X R0 H0 Γ a m) (hg : Gl X "enumerate" := by rfl) (hs : starEach [a] X.env = [(false, eval a X.env)] := by rfl) (hs2 : starEach (a :: []) X.env = (false, eval a X.env) :: starEach [] X.env := by rfl) :
    JI X R0 H0 Γ (.Tuple elts kk tpos) (.Call (.Name "enumerate" p) [a] [] pos) (m.bind fun xs => some (enumL xs)) := .mk fun σ R H S zs ez Q q => by
  obtain ⟨xs, ex, ez⟩ := bind_some' ez
  cases ez
  refine PI_to (pi_enum hg hm (pa_cons eS pa_nil hs2) hs) (h.run σ R H S xs ex _ fun p vs R' H' x st hv => ⟨p, vs, rfl, st R' H' (.refl R') (S.e0.h.trans x.h) x.i, q _ R' H' x fun i R2 H2 e1 e2 e3 => ?_⟩)
  have sq := st R2 H2 e1 e2 e3
  refine ⟨fun y hy => ?_, fun hi => ⟨vs, sq, by rw [hv.len]; unfold enumL at hi; rw [enumF_len] at hi; exact hi⟩⟩
  unfold enumL at hy
  rw [enumF_get] at hy
  cases hx : xs[i]? with
  | none =>
    rw [hx] at hy
    cases hy
  | some x0 =>
    rw [hx] at hy
    cases hy
    obtain ⟨v, hv1, r⟩ := hv.get hx
    refine ⟨⟨vs, v, sq, hv1⟩, fun w H3 hy => ?_⟩
    obtain ⟨T, x', rfl, hT, rfl, f⟩ := hy
    have e := f vs sq
    rw [hv1] at e
    cases e
    refine ⟨_, .new e3 hT, T, _, rfl, upd_same, .int (i : Nat), v, rfl, ?_, Py.mono (e1.trans (.new (e3.none hT))) r⟩
    show V.int (i : Nat) = V.int ((0 + i : Nat) : Int)
    rw [Nat.zero_add]
theorem ji_enum_t {p tpos : Pos} {elts : List Expr} {kk : Nat} {α : Type} [Py α] {xs : List α} (hm : X.mg "enumerate" = none) (h : JL X R0 H0 Γ a (some xs)) (hg : Gl X "enumerate" := by rfl) (hs : starEach [a] X.env = [(false, eval a X.env)] := by rfl) (hs2 : starEach (a :: []) X.env = (false, eval a X.env) :: starEach [] X.env := by rfl) :
    JI X R0 H0 Γ (.Tuple elts kk tpos) (.Call (.Name "enumerate" p) [a] [] pos) (some (enumL xs)) := ji_enum hm h hg hs hs2
/-- range(a, b, -1) -/
def range3 (i j c : Int) : Option (List Int) := if c = -1 ∧ -(2 ^ 62) ≤ i ∧ i < 2 ^ 62 ∧ -(2 ^ 62) ≤ j ∧ j < 2 ^ 62 then some ((List.range (i - j).toNat).map fun (k : Nat) => i - k) else none
end
end FK

namespace FK
open PySem PySem.Spec PyProof.Rows L2
section
variable {K : PySem.W.Frag} {R0 H0 R H : Hp} {Γ : List Slot} {σ : L2.St}
end
section
variable {X : Cx} {R0 H0 : Hp} {Γ : List Slot} {pos : Pos}
/-! ### list(range(..)) -/
variable {a b c : Expr}
def lrange1 (j : Int) : Option (List Int) := if -(2 ^ 62) ≤ j ∧ j ≤ 16000000 then some (rng 0 j.toNat) else none
def lrange2 (i j : Int) : Option (List Int) := if -(2 ^ 62) ≤ i ∧ i < 2 ^ 62 ∧ -(2 ^ 62) ≤ j ∧ j < 2 ^ 62 ∧ (j - i).toNat ≤ 16000000 then some (rng i (j - i).toNat) else none
/-- range(a, b, c) as an argument, any step that is not 0 -/
def PRg3 (X : Cx) (e : Expr) (t : L2.St → Hp → (Int → Int → Int → Hp → Prop) → Prop) : Prop :=
  ∀ (pins : List (Addr × Obj)) (s : Shared) (σ : L2.St) (H : Hp) (Q : Int → Int → Int → Hp → Prop), Inv X pins σ H s → t σ H Q →
    wpAny (model X.prog X.w) X.A (eval e X.env) (fun x s' => ∃ r a b c t u v H', x = .ref r ∧ IsRange s'.heap r a b c t u v ∧ Inv X pins σ H' s' ∧ Q a b c H') X.xe s
def lrange3 (i j c : Int) : Option (List Int) := if c = -1 ∧ -(2 ^ 62) ≤ i ∧ i < 2 ^ 62 ∧ -(2 ^ 62) ≤ j ∧ j < 2 ^ 62 ∧ (i - j).toNat ≤ 16000000 then some ((List.range (i - j).toNat).map fun (k : Nat) => i - k) else none
end
end FK

namespace FK
open PySem PySem.Spec PyProof.Rows L2
open PySem.SeqAt (EqAt RcAt RcNeAt)
/-! ### == of data -/
noncomputable def dec (p : Prop) : Bool := @decide p (Classical.propDecidable p)
theorem dec_t {p : Prop} (h : p) : dec p = true := @decide_eq_true p (Classical.propDecidable p) h
theorem dec_f {p : Prop} (h : ¬ p) : dec p = false := @decide_eq_false p (Classical.propDecidable p) h
theorem dec_eq (p : Prop) [Decidable p] : dec p = decide p := by
  by_cases h : p
  · rw [dec_t h, decide_eq_true h]
  · rw [dec_f h, decide_eq_false h]
theorem dec_iff {p q : Prop} (h : p ↔ q) : dec p = dec q := by
  by_cases hp : p
  · rw [dec_t hp, dec_t (h.mp hp)]
  · rw [dec_f hp, dec_f fun z => hp (h.mpr z)]
theorem dec_and (p q : Prop) : dec (p ∧ q) = (dec p && dec q) := by
  by_cases hp : p
  · by_cases hq : q
    · rw [dec_t hp, dec_t hq, dec_t (⟨hp, hq⟩ : p ∧ q)]
      rfl
    · rw [dec_t hp, dec_f hq, dec_f fun z : p ∧ q => hq z.2]
      rfl
  · rw [dec_f hp, dec_f fun z : p ∧ q => hp z.1]
    rfl
class Dq (α : Type) [Py α] where
  dep : Nat
  rp : ∀ {K : PySem.W.Frag} {R H : Hp} {v : V} {a : α}, Ex R H → bor K R H v a → rep K H v a
  uq : ∀ {X : Cx} {pins : List (Addr × Obj)} {σ : L2.St} {H : Hp} {s : Shared}, Inv X pins σ H s → ∀ {v w : V} {u : Value} {a b : α}, RelV v u → RelV w u → rep X.K H v a → rep X.K H w b → a = b
  eq : ∀ {X : Cx} {pins : List (Addr × Obj)} {σ : L2.St} {H : Hp} {s : Shared}, Inv X pins σ H s → ∀ {A : Around} {v w : V} {u u' : Value} {a b : α}, A.units + dep < cLine → RelV v u → RelV w u' → rep X.K H v a → rep X.K H w b → EqAt A s u u' (dec (a = b))
/-- lists and tuples -/
class Dc (α : Type) [Py α] [Dq α] where
  rc : ∀ {X : Cx} {pins : List (Addr × Obj)} {σ : L2.St} {H : Hp} {s : Shared}, Inv X pins σ H s → ∀ {A : Around} {v w : V} {u u' : Value} {a b : α}, A.units + Dq.dep α < cLine → RelV v u → RelV w u' → rep X.K H v a → rep X.K H w b → RcAt A s u u' (dec (a = b)) ∧ RcNeAt A s u u' (!dec (a = b))
instance instDqInt : Dq Int where
  dep := 0
  rp := fun _ h => h
  uq := fun {X pins σ H s} _ {v w u a b} r1 r2 h1 h2 => by
    cases (show v = V.int a from h1)
    cases (show w = V.int b from h2)
    obtain ⟨t, e⟩ := r1
    obtain ⟨t2, e2⟩ := r2
    rw [e] at e2
    injection e2
  eq := fun {X pins σ H s} _ {A v w u u' a b} _ r1 r2 h1 h2 => by
    cases (show v = V.int a from h1)
    cases (show w = V.int b from h2)
    obtain ⟨t, rfl⟩ := r1
    obtain ⟨t2, rfl⟩ := r2
    rw [dec_eq]
    exact SeqAt.EqAt.int_int a t b t2
instance instDqStr : Dq Str where
  dep := 0
  rp := fun _ h => h
  uq := fun {X pins σ H s} _ {v w u a b} r1 r2 h1 h2 => by
    cases (show v = V.str a from h1)
    cases (show w = V.str b from h2)
    obtain ⟨t, e⟩ := r1
    obtain ⟨t2, e2⟩ := r2
    rw [e] at e2
    injection e2
  eq := fun {X pins σ H s} _ {A v w u u' a b} _ r1 r2 h1 h2 => by
    cases (show v = V.str a from h1)
    cases (show w = V.str b from h2)
    obtain ⟨t, rfl⟩ := r1
    obtain ⟨t2, rfl⟩ := r2
    have e : dec (a = b) = (a == b) := by
      by_cases h : a = b
      · rw [dec_t h, beq_iff_eq.mpr h]
      · rw [dec_f h, beq_eq_false_iff_ne.mpr h]
    rw [e]
    exact SeqAt.EqAt.str_str a t b t2
instance instDqBool : Dq Bool where
  dep := 0
  rp := fun _ h => h
  uq := fun {X pins σ H s} _ {v w u a b} r1 r2 h1 h2 => by
    cases (show v = V.bl a from h1)
    cases (show w = V.bl b from h2)
    have e : u = .bool a := r1
    have e2 : u = .bool b := r2
    rw [e] at e2
    injection e2
  eq := fun {X pins σ H s} _ {A v w u u' a b} _ r1 r2 h1 h2 => by
    cases (show v = V.bl a from h1)
    cases (show w = V.bl b from h2)
    cases (show u = .bool a from r1)
    cases (show u' = .bool b from r2)
    have e : dec (a = b) = (a == b) := by
      by_cases h : a = b
      · rw [dec_t h, beq_iff_eq.mpr h]
      · rw [dec_f h, beq_eq_false_iff_ne.mpr h]
    rw [e]
    exact SeqAt.EqAt.bool_bool a b
section
variable {α : Type} [Py α] [Dq α] {X : Cx} {pins : List (Addr × Obj)} {σ : L2.St} {H : Hp} {s : Shared}
theorem allr_uq (I : Inv X pins σ H s) : ∀ {vs ws : List V} {us : List Value} {as bs : List α}, Vals vs us → Vals ws us → AllR X.K H vs as → AllR X.K H ws bs → as = bs
  | [], ws, us, as, bs, r1, r2, h1, h2 => by
    cases r1
    cases r2
    cases h1
    cases h2
    rfl
  | v :: vs, ws, us, as, bs, r1, r2, h1, h2 => by
    cases r1 with
    | cons a1 t1 =>
      cases r2 with
      | cons a2 t2 =>
        cases h1 with
        | cons p1 q1 =>
          cases h2 with
          | cons p2 q2 => rw [Dq.uq I a1 a2 p1 p2, allr_uq I t1 t2 q1 q2]
theorem allr_eq (I : Inv X pins σ H s) {A : Around} (hu : A.units + Dq.dep α < cLine) : ∀ {vs ws : List V} {us us' : List Value} {as bs : List α}, Vals vs us → Vals ws us' → AllR X.K H vs as → AllR X.K H ws bs → ∀ j (h1 : j < us.length) (h2 : j < us'.length), EqAt A s us[j] us'[j] (dec (as[j]? = bs[j]?))
  | [], ws, us, us', as, bs, r1, r2, k1, k2, j, h1, h2 => by
    cases r1
    exact absurd h1 (Nat.not_lt_zero j)
  | v :: vs, [], us, us', as, bs, r1, r2, k1, k2, j, h1, h2 => by
    cases r2
    exact absurd h2 (Nat.not_lt_zero j)
  | v :: vs, w :: ws, us, us', as, bs, r1, r2, k1, k2, j, h1, h2 => by
    cases r1 with
    | cons a1 t1 =>
      cases r2 with
      | cons a2 t2 =>
        cases k1 with
        | @cons _ _ a as p1 q1 =>
          cases k2 with
          | @cons _ _ b bs p2 q2 =>
            cases j with
            | zero =>
              rw [dec_iff (show ((a :: as)[0]? = (b :: bs)[0]?) ↔ a = b from ⟨fun z => Option.some.inj z, fun z => by rw [z]; rfl⟩)]
              exact Dq.eq I hu a1 a2 p1 p2
            | succ j => exact allr_eq I hu t1 t2 q1 q2 j (Nat.lt_of_succ_lt_succ h1) (Nat.lt_of_succ_lt_succ h2)
theorem all_ext {as bs : List α} {n : Nat} (h1 : as.length = n) (h2 : bs.length = n) : ((List.range n).all fun j => dec (as[j]? = bs[j]?)) = dec (as = bs) := by
  by_cases h : as = bs
  · rw [dec_t h, h]
    exact List.all_eq_true.mpr fun j _ => dec_t rfl
  · rw [dec_f h]
    cases e : (List.range n).all fun j => dec (as[j]? = bs[j]?) with
    | false => rfl
    | true =>
      refine absurd (List.ext_getElem? fun j => ?_) h
      by_cases hj : j < n
      · have := List.all_eq_true.mp e j (List.mem_range.mpr hj)
        by_cases q : as[j]? = bs[j]?
        · exact q
        · rw [dec_f q] at this
          cases this
      · rw [List.getElem?_eq_none (by omega), List.getElem?_eq_none (by omega)]
theorem list_rc (I : Inv X pins σ H s) {A : Around} {v w : V} {u u' : Value} {a b : List α} (hu : A.units + (Dq.dep α + 1) < cLine) (r1 : RelV v u) (r2 : RelV w u') (h1 : rep X.K H v a) (h2 : rep X.K H w b) : RcAt A s u u' (dec (a = b)) ∧ RcNeAt A s u u' (!dec (a = b)) := by
  obtain ⟨p, o, rfl, hp, vs, rfl, q1⟩ := h1
  obtain ⟨p', o', rfl, hp', ws, rfl, q2⟩ := h2
  cases r1
  cases r2
  obtain ⟨us, t1, l1, _⟩ := I.list (.inl hp)
  obtain ⟨us', t2, l2, _⟩ := I.list (.inl hp')
  have n1 : us.length = a.length := by rw [← t1.length, q1.len]
  have n2 : us'.length = b.length := by rw [← t2.length, q2.len]
  have hu0 : A.units < cLine := by omega
  have he : ∀ j (h1 : j < us.toArray.size) (h2 : j < us'.toArray.size), EqAt A.in1 s us.toArray[j] us'.toArray[j] (dec (a[j]? = b[j]?)) := fun j h1 h2 => by
    have := allr_eq I (A := A.in1) (show A.units + 1 + Dq.dep α < cLine by omega) t1 t2 q1 q2 j (by simpa using h1) (by simpa using h2)
    simpa using this
  by_cases hz : us.length = us'.length
  · have hsz : us.toArray.size = us'.toArray.size := by simpa using hz
    have e1 := RcAt.lists l1.isList l2.isList hsz hu0 he
    have e2 := RcNeAt.lists l1.isList l2.isList hsz hu0 he
    rw [show us.toArray.size = a.length by simpa using n1, all_ext rfl (by omega)] at e1 e2
    exact ⟨e1, e2⟩
  · have hsz : (us.toArray.size != us'.toArray.size) = true := by simpa using hz
    rw [dec_f fun z => hz (by rw [n1, n2, z])]
    exact ⟨RcAt.lists_lengths l1.isList l2.isList hsz hu0, RcNeAt.lists_lengths l1.isList l2.isList hsz hu0⟩
theorem arr_inj {us us' : List Value} (h : us.toArray = us'.toArray) : us = us' := by
  have := congrArg Array.toList h
  exact this
theorem islist_uq {h : Heap} {a : Addr} {us us' : List Value} (p : PlainL h a us.toArray) (q : PlainL h a us'.toArray) : us = us' := by
  obtain ⟨o, n, e, _, _, d⟩ := p
  obtain ⟨o', n', e', _, _, d'⟩ := q
  rw [e] at e'
  cases e'
  rw [d] at d'
  injection d' with d'
  exact arr_inj d'
theorem istup_uq {h : Heap} {a : Addr} {us us' : List Value} (p : IsTup h a us.toArray) (q : IsTup h a us'.toArray) : us = us' := by
  obtain ⟨o, e, _, n, d⟩ := p
  obtain ⟨o', e', _, n', d'⟩ := q
  rw [e] at e'
  cases e'
  rw [d] at d'
  injection d' with d'
  exact arr_inj d'
instance instDqList : Dq (List α) where
  dep := Dq.dep α + 1
  rp := fun e ⟨p, o, h, r, q⟩ => ⟨p, o, h, r, Ob.mono e q⟩
  uq := fun {X pins σ H s} I {v w u a b} r1 r2 h1 h2 => by
    obtain ⟨p, o, rfl, hp, vs, rfl, q1⟩ := h1
    obtain ⟨p', o', rfl, hp', ws, rfl, q2⟩ := h2
    cases r1
    cases r2
    obtain ⟨us, t1, l1, _⟩ := I.list (.inl hp)
    obtain ⟨us', t2, l2, _⟩ := I.list (.inl hp')
    have e := islist_uq l1 l2
    subst e
    exact allr_uq I t1 t2 q1 q2
  eq := fun {X pins σ H s} I {A v w u u' a b} hu r1 r2 h1 h2 => by
    have k := list_rc I hu r1 r2 h1 h2
    have hh1 := h1
    have hh2 := h2
    obtain ⟨p, o, rfl, hp, vs, rfl, q1⟩ := h1
    obtain ⟨p', o', rfl, hp', ws, rfl, q2⟩ := h2
    cases r1
    cases r2
    by_cases e : p = p'
    · subst e
      obtain ⟨us, t1, l1, _⟩ := I.list (.inl hp)
      obtain ⟨us', t2, l2, _⟩ := I.list (.inl hp')
      have e := islist_uq l1 l2
      subst e
      rw [dec_t (allr_uq I t1 t2 q1 q2)]
      exact SeqAt.EqAt.same _
    · exact SeqAt.EqAt.of_refs e k.1
instance instDcList : Dc (List α) := ⟨fun {X pins σ H s} I {A v w u u' a b} hu r1 r2 h1 h2 => list_rc I hu r1 r2 h1 h2⟩
end
section
variable {α : Type} {β : Type} [Py α] [Dq α] [Py β] [Dq β]
theorem tup2_ext (a b : (α × β)) : (a = b) ↔ (a.1 = b.1 ∧ a.2 = b.2) := by
  refine ⟨fun h => by rw [h]; exact ⟨rfl, rfl⟩, fun h => ?_⟩
  obtain ⟨h0, h1⟩ := h
  cases a
  cases b
  simp only at h0 h1
  subst h0 h1
  rfl
theorem tup2_rd {X : Cx} {pins : List (Addr × Obj)} {σ : L2.St} {H : Hp} {s : Shared} (I : Inv X pins σ H s) {v : V} {u : Value} {a : (α × β)} (r : RelV v u) (h : rep X.K H v a) : ∃ p x0 x1 z0 z1, v = .ref p ∧ u = .ref p ∧ IsTup s.heap p [z0, z1].toArray ∧ RelV x0 z0 ∧ RelV x1 z1 ∧ rep X.K H x0 a.1 ∧ rep X.K H x1 a.2 := by
  obtain ⟨p, vs, rfl, hp, x0, x1, rfl, q0, q1⟩ := h
  cases r
  obtain ⟨us, t, l, _⟩ := I.tuple (dsq hp)
  cases t with
  | cons r0 t0 =>
  cases t0 with
  | cons r1 t1 =>
  cases t1
  exact ⟨p, _, _, _, _, rfl, rfl, l, r0, r1, q0, q1⟩
theorem tup2_rc {X : Cx} {pins : List (Addr × Obj)} {σ : L2.St} {H : Hp} {s : Shared} (I : Inv X pins σ H s) {A : Around} {v w : V} {u u' : Value} {a b : (α × β)} (hu : A.units + (Dq.dep α + Dq.dep β + 1) < cLine) (r1 : RelV v u) (r2 : RelV w u') (h1 : rep X.K H v a) (h2 : rep X.K H w b) : RcAt A s u u' (dec (a = b)) ∧ RcNeAt A s u u' (!dec (a = b)) := by
  obtain ⟨pm, x0m, x1m, z0m, z1m, rfl, rfl, lm, r0m, r1m, q0m, q1m⟩ := tup2_rd I r1 h1
  obtain ⟨pn, x0n, x1n, z0n, z1n, rfl, rfl, ln, r0n, r1n, q0n, q1n⟩ := tup2_rd I r2 h2
  have hu0 : A.units < cLine := by omega
  have he : ∀ j (h1 : j < [z0m, z1m].toArray.size) (h2 : j < [z0n, z1n].toArray.size), EqAt A.in1 s [z0m, z1m].toArray[j] [z0n, z1n].toArray[j] ((fun j => match j with | 0 => dec (a.1 = b.1) | _ => dec (a.2 = b.2) : Nat → Bool) j) := fun j h1 h2 => by
    match j, h1, h2 with
    | 0, _, _ => exact Dq.eq I (A := A.in1) (show A.units + 1 + Dq.dep α < cLine by omega) r0m r0n q0m q0n
    | 1, _, _ => exact Dq.eq I (A := A.in1) (show A.units + 1 + Dq.dep β < cLine by omega) r1m r1n q1m q1n
    | j + 2, h1, _ => exact absurd h1 (by simp)
  have e1 := RcAt.tuples lm ln hu0 he
  have e2 := RcNeAt.tuples lm ln hu0 he
  have e : ((List.range (min [z0m, z1m].toArray.size [z0n, z1n].toArray.size)).all (fun j => match j with | 0 => dec (a.1 = b.1) | _ => dec (a.2 = b.2) : Nat → Bool) && [z0m, z1m].toArray.size == [z0n, z1n].toArray.size) = dec (a = b) := by
    rw [dec_iff (tup2_ext a b)]
    rw [dec_and]
    show ((dec (a.1 = b.1) && (dec (a.2 = b.2) && true)) && true) = _
    simp only [Bool.and_true]
  rw [e] at e1 e2
  exact ⟨e1, e2⟩
instance instDq2 : Dq (α × β) where
  dep := Dq.dep α + Dq.dep β + 1
  rp := fun e ⟨p, vs, h, q, z⟩ => Py.mono e ⟨p, vs, h, q, z⟩
  uq := fun {X pins σ H s} I {v w u a b} r1 r2 h1 h2 => by
    obtain ⟨pm, x0m, x1m, z0m, z1m, rfl, rfl, lm, r0m, r1m, q0m, q1m⟩ := tup2_rd I r1 h1
    obtain ⟨pn, x0n, x1n, z0n, z1n, e0, e1, ln, r0n, r1n, q0n, q1n⟩ := tup2_rd I r2 h2
    cases e1
    have e := istup_uq lm ln
    injection e with e0 et
    injection et with e1 et
    subst e0 e1
    exact (tup2_ext a b).mpr ⟨Dq.uq I r0m r0n q0m q0n, Dq.uq I r1m r1n q1m q1n⟩
  eq := fun {X pins σ H s} I {A v w u u' a b} hu r1 r2 h1 h2 => by
    have k := tup2_rc I hu r1 r2 h1 h2
    obtain ⟨pm, x0m, x1m, z0m, z1m, rfl, rfl, lm, r0m, r1m, q0m, q1m⟩ := tup2_rd I r1 h1
    obtain ⟨pn, x0n, x1n, z0n, z1n, rfl, rfl, ln, r0n, r1n, q0n, q1n⟩ := tup2_rd I r2 h2
    by_cases e : pm = pn
    · subst e
      have e := istup_uq lm ln
      injection e with e0 et
      injection et with e1 et
      subst e0 e1
      rw [dec_t ((tup2_ext a b).mpr ⟨Dq.uq I r0m r0n q0m q0n, Dq.uq I r1m r1n q1m q1n⟩)]
      exact SeqAt.EqAt.same _
    · exact SeqAt.EqAt.of_refs e k.1
instance instDc2 : Dc (α × β) := ⟨fun {X pins σ H s} I {A v w u u' a b} hu r1 r2 h1 h2 => tup2_rc I hu r1 r2 h1 h2⟩
end
section
variable {α : Type} {β : Type} {γ : Type} [Py α] [Dq α] [Py β] [Dq β] [Py γ] [Dq γ]
theorem tup3_ext (a b : (T3 α β γ)) : (a = b) ↔ (a.a = b.a ∧ a.b = b.b ∧ a.c = b.c) := by
  refine ⟨fun h => by rw [h]; exact ⟨rfl, rfl, rfl⟩, fun h => ?_⟩
  obtain ⟨h0, h1, h2⟩ := h
  cases a
  cases b
  simp only at h0 h1 h2
  subst h0 h1 h2
  rfl
theorem tup3_rd {X : Cx} {pins : List (Addr × Obj)} {σ : L2.St} {H : Hp} {s : Shared} (I : Inv X pins σ H s) {v : V} {u : Value} {a : (T3 α β γ)} (r : RelV v u) (h : rep X.K H v a) : ∃ p x0 x1 x2 z0 z1 z2, v = .ref p ∧ u = .ref p ∧ IsTup s.heap p [z0, z1, z2].toArray ∧ RelV x0 z0 ∧ RelV x1 z1 ∧ RelV x2 z2 ∧ rep X.K H x0 a.a ∧ rep X.K H x1 a.b ∧ rep X.K H x2 a.c := by
  obtain ⟨p, vs, rfl, hp, x0, x1, x2, rfl, q0, q1, q2⟩ := h
  cases r
  obtain ⟨us, t, l, _⟩ := I.tuple (dsq hp)
  cases t with
  | cons r0 t0 =>
  cases t0 with
  | cons r1 t1 =>
  cases t1 with
  | cons r2 t2 =>
  cases t2
  exact ⟨p, _, _, _, _, _, _, rfl, rfl, l, r0, r1, r2, q0, q1, q2⟩
theorem tup3_rc {X : Cx} {pins : List (Addr × Obj)} {σ : L2.St} {H : Hp} {s : Shared} (I : Inv X pins σ H s) {A : Around} {v w : V} {u u' : Value} {a b : (T3 α β γ)} (hu : A.units + (Dq.dep α + Dq.dep β + Dq.dep γ + 1) < cLine) (r1 : RelV v u) (r2 : RelV w u') (h1 : rep X.K H v a) (h2 : rep X.K H w b) : RcAt A s u u' (dec (a = b)) ∧ RcNeAt A s u u' (!dec (a = b)) := by
  obtain ⟨pm, x0m, x1m, x2m, z0m, z1m, z2m, rfl, rfl, lm, r0m, r1m, r2m, q0m, q1m, q2m⟩ := tup3_rd I r1 h1
  obtain ⟨pn, x0n, x1n, x2n, z0n, z1n, z2n, rfl, rfl, ln, r0n, r1n, r2n, q0n, q1n, q2n⟩ := tup3_rd I r2 h2
  have hu0 : A.units < cLine := by omega
  have he : ∀ j (h1 : j < [z0m, z1m, z2m].toArray.size) (h2 : j < [z0n, z1n, z2n].toArray.size), EqAt A.in1 s [z0m, z1m, z2m].toArray[j] [z0n, z1n, z2n].toArray[j] ((fun j => match j with | 0 => dec (a.a = b.a) | 1 => dec (a.b = b.b) | _ => dec (a.c = b.c) : Nat → Bool) j) := fun j h1 h2 => by
    match j, h1, h2 with
    | 0, _, _ => exact Dq.eq I (A := A.in1) (show A.units + 1 + Dq.dep α < cLine by omega) r0m r0n q0m q0n
    | 1, _, _ => exact Dq.eq I (A := A.in1) (show A.units + 1 + Dq.dep β < cLine by omega) r1m r1n q1m q1n
    | 2, _, _ => exact Dq.eq I (A := A.in1) (show A.units + 1 + Dq.dep γ < cLine by omega) r2m r2n q2m q2n
    | j + 3, h1, _ => exact absurd h1 (by simp)
  have e1 := RcAt.tuples lm ln hu0 he
  have e2 := RcNeAt.tuples lm ln hu0 he
  have e : ((List.range (min [z0m, z1m, z2m].toArray.size [z0n, z1n, z2n].toArray.size)).all (fun j => match j with | 0 => dec (a.a = b.a) | 1 => dec (a.b = b.b) | _ => dec (a.c = b.c) : Nat → Bool) && [z0m, z1m, z2m].toArray.size == [z0n, z1n, z2n].toArray.size) = dec (a = b) := by
    rw [dec_iff (tup3_ext a b)]
    rw [dec_and]
    rw [dec_and]
    show ((dec (a.a = b.a) && (dec (a.b = b.b) && (dec (a.c = b.c) && true))) && true) = _
    simp only [Bool.and_true]
  rw [e] at e1 e2
  exact ⟨e1, e2⟩
instance instDq3 : Dq (T3 α β γ) where
  dep := Dq.dep α + Dq.dep β + Dq.dep γ + 1
  rp := fun e ⟨p, vs, h, q, z⟩ => Py.mono e ⟨p, vs, h, q, z⟩
  uq := fun {X pins σ H s} I {v w u a b} r1 r2 h1 h2 => by
    obtain ⟨pm, x0m, x1m, x2m, z0m, z1m, z2m, rfl, rfl, lm, r0m, r1m, r2m, q0m, q1m, q2m⟩ := tup3_rd I r1 h1
    obtain ⟨pn, x0n, x1n, x2n, z0n, z1n, z2n, e0, e1, ln, r0n, r1n, r2n, q0n, q1n, q2n⟩ := tup3_rd I r2 h2
    cases e1
    have e := istup_uq lm ln
    injection e with e0 et
    injection et with e1 et
    injection et with e2 et
    subst e0 e1 e2
    exact (tup3_ext a b).mpr ⟨Dq.uq I r0m r0n q0m q0n, Dq.uq I r1m r1n q1m q1n, Dq.uq I r2m r2n q2m q2n⟩
  eq := fun {X pins σ H s} I {A v w u u' a b} hu r1 r2 h1 h2 => by
    have k := tup3_rc I hu r1 r2 h1 h2
    obtain ⟨pm, x0m, x1m, x2m, z0m, z1m, z2m, rfl, rfl, lm, r0m, r1m, r2m, q0m, q1m, q2m⟩ := tup3_rd I r1 h1
    obtain ⟨pn, x0n, x1n, x2n, z0n, z1n, z2n, rfl, rfl, ln, r0n, r1n, r2n, q0n, q1n, q2n⟩ := tup3_rd I r2 h2
    by_cases e : pm = pn
    · subst e
      have e := istup_uq lm ln
      injection e with e0 et
      injection et with e1 et
      injection et with e2 et
      subst e0 e1 e2
      rw [dec_t ((tup3_ext a b).mpr ⟨Dq.uq I r0m r0n q0m q0n, Dq.uq I r1m r1n q1m q1n, Dq.uq I r2m r2n q2m q2n⟩)]
      exact SeqAt.EqAt.same _
    · exact SeqAt.EqAt.of_refs e k.1
instance instDc3 : Dc (T3 α β γ) := ⟨fun {X pins σ H s} I {A v w u u' a b} hu r1 r2 h1 h2 => tup3_rc I hu r1 r2 h1 h2⟩
end
section
variable {α : Type} {β : Type} {γ : Type} {δ : Type} [Py α] [Dq α] [Py β] [Dq β] [Py γ] [Dq γ] [Py δ] [Dq δ]
theorem tup4_ext (a b : (T4 α β γ δ)) : (a = b) ↔ (a.a = b.a ∧ a.b = b.b ∧ a.c = b.c ∧ a.d = b.d) := by
  refine ⟨fun h => by rw [h]; exact ⟨rfl, rfl, rfl, rfl⟩, fun h => ?_⟩
  obtain ⟨h0, h1, h2, h3⟩ := h
  cases a
  cases b
  simp only at h0 h1 h2 h3
  subst h0 h1 h2 h3
  rfl
theorem tup4_rd {X : Cx} {pins : List (Addr × Obj)} {σ : L2.St} {H : Hp} {s : Shared} (I : Inv X pins σ H s) {v : V} {u : Value} {a : (T4 α β γ δ)} (r : RelV v u) (h : rep X.K H v a) : ∃ p x0 x1 x2 x3 z0 z1 z2 z3, v = .ref p ∧ u = .ref p ∧ IsTup s.heap p [z0, z1, z2, z3].toArray ∧ RelV x0 z0 ∧ RelV x1 z1 ∧ RelV x2 z2 ∧ RelV x3 z3 ∧ rep X.K H x0 a.a ∧ rep X.K H x1 a.b ∧ rep X.K H x2 a.c ∧ rep X.K H x3 a.d := by
  obtain ⟨p, vs, rfl, hp, x0, x1, x2, x3, rfl, q0, q1, q2, q3⟩ := h
  cases r
  obtain ⟨us, t, l, _⟩ := I.tuple (dsq hp)
  cases t with
  | cons r0 t0 =>
  cases t0 with
  | cons r1 t1 =>
  cases t1 with
  | cons r2 t2 =>
  cases t2 with
  | cons r3 t3 =>
  cases t3
  exact ⟨p, _, _, _, _, _, _, _, _, rfl, rfl, l, r0, r1, r2, r3, q0, q1, q2, q3⟩
theorem tup4_rc {X : Cx} {pins : List (Addr × Obj)} {σ : L2.St} {H : Hp} {s : Shared} (I : Inv X pins σ H s) {A : Around} {v w : V} {u u' : Value} {a b : (T4 α β γ δ)} (hu : A.units + (Dq.dep α + Dq.dep β + Dq.dep γ + Dq.dep δ + 1) < cLine) (r1 : RelV v u) (r2 : RelV w u') (h1 : rep X.K H v a) (h2 : rep X.K H w b) : RcAt A s u u' (dec (a = b)) ∧ RcNeAt A s u u' (!dec (a = b)) := by
  obtain ⟨pm, x0m, x1m, x2m, x3m, z0m, z1m, z2m, z3m, rfl, rfl, lm, r0m, r1m, r2m, r3m, q0m, q1m, q2m, q3m⟩ := tup4_rd I r1 h1
  obtain ⟨pn, x0n, x1n, x2n, x3n, z0n, z1n, z2n, z3n, rfl, rfl, ln, r0n, r1n, r2n, r3n, q0n, q1n, q2n, q3n⟩ := tup4_rd I r2 h2
  have hu0 : A.units < cLine := by omega
  have he : ∀ j (h1 : j < [z0m, z1m, z2m, z3m].toArray.size) (h2 : j < [z0n, z1n, z2n, z3n].toArray.size), EqAt A.in1 s [z0m, z1m, z2m, z3m].toArray[j] [z0n, z1n, z2n, z3n].toArray[j] ((fun j => match j with | 0 => dec (a.a = b.a) | 1 => dec (a.b = b.b) | 2 => dec (a.c = b.c) | _ => dec (a.d = b.d) : Nat → Bool) j) := fun j h1 h2 => by
    match j, h1, h2 with
    | 0, _, _ => exact Dq.eq I (A := A.in1) (show A.units + 1 + Dq.dep α < cLine by omega) r0m r0n q0m q0n
    | 1, _, _ => exact Dq.eq I (A := A.in1) (show A.units + 1 + Dq.dep β < cLine by omega) r1m r1n q1m q1n
    | 2, _, _ => exact Dq.eq I (A := A.in1) (show A.units + 1 + Dq.dep γ < cLine by omega) r2m r2n q2m q2n
    | 3, _, _ => exact Dq.eq I (A := A.in1) (show A.units + 1 + Dq.dep δ < cLine by omega) r3m r3n q3m q3n
    | j + 4, h1, _ => exact absurd h1 (by simp)
  have e1 := RcAt.tuples lm ln hu0 he
  have e2 := RcNeAt.tuples lm ln hu0 he
  have e : ((List.range (min [z0m, z1m, z2m, z3m].toArray.size [z0n, z1n, z2n, z3n].toArray.size)).all (fun j => match j with | 0 => dec (a.a = b.a) | 1 => dec (a.b = b.b) | 2 => dec (a.c = b.c) | _ => dec (a.d = b.d) : Nat → Bool) && [z0m, z1m, z2m, z3m].toArray.size == [z0n, z1n, z2n, z3n].toArray.size) = dec (a = b) := by
    rw [dec_iff (tup4_ext a b)]
    rw [dec_and]
    rw [dec_and]
    rw [dec_and]
    show ((dec (a.a = b.a) && (dec (a.b = b.b) && (dec (a.c = b.c) && (dec (a.d = b.d) && true)))) && true) = _
    simp only [Bool.and_true]
  rw [e] at e1 e2
  exact ⟨e1, e2⟩
instance instDq4 : Dq (T4 α β γ δ) where
  dep := Dq.dep α + Dq.dep β + Dq.dep γ + Dq.dep δ + 1
  rp := fun e ⟨p, vs, h, q, z⟩ => Py.mono e ⟨p, vs, h, q, z⟩
  uq := fun {X pins σ H s} I {v w u a b} r1 r2 h1 h2 => by
    obtain ⟨pm, x0m, x1m, x2m, x3m, z0m, z1m, z2m, z3m, rfl, rfl, lm, r0m, r1m, r2m, r3m, q0m, q1m, q2m, q3m⟩ := tup4_rd I r1 h1
    obtain ⟨pn, x0n, x1n, x2n, x3n, z0n, z1n, z2n, z3n, e0, e1, ln, r0n, r1n, r2n, r3n, q0n, q1n, q2n, q3n⟩ := tup4_rd I r2 h2
    cases e1
    have e := istup_uq lm ln
    injection e with e0 et
    injection et with e1 et
    injection et with e2 et
    injection et with e3 et
    subst e0 e1 e2 e3
    exact (tup4_ext a b).mpr ⟨Dq.uq I r0m r0n q0m q0n, Dq.uq I r1m r1n q1m q1n, Dq.uq I r2m r2n q2m q2n, Dq.uq I r3m r3n q3m q3n⟩
  eq := fun {X pins σ H s} I {A v w u u' a b} hu r1 r2 h1 h2 => by
    have k := tup4_rc I hu r1 r2 h1 h2
    obtain ⟨pm, x0m, x1m, x2m, x3m, z0m, z1m, z2m, z3m, rfl, rfl, lm, r0m, r1m, r2m, r3m, q0m, q1m, q2m, q3m⟩ := tup4_rd I r1 h1
    obtain ⟨pn, x0n, x1n, x2n, x3n, z0n, z1n, z2n, z3n, rfl, rfl, ln, r0n, r1n, r2n, r3n, q0n, q1n, q2n, q3n⟩ := tup4_rd I r2 h2
    by_cases e : pm = pn
    · subst e
      have e := istup_uq lm ln
      injection e with e0 et
      injection et with e1 et
      injection et with e2 et
      injection et with e3 et
      subst e0 e1 e2 e3
      rw [dec_t ((tup4_ext a b).mpr ⟨Dq.uq I r0m r0n q0m q0n, Dq.uq I r1m r1n q1m q1n, Dq.uq I r2m r2n q2m q2n, Dq.uq I r3m r3n q3m q3n⟩)]
      exact SeqAt.EqAt.same _
    · exact SeqAt.EqAt.of_refs e k.1
instance instDc4 : Dc (T4 α β γ δ) := ⟨fun {X pins σ H s} I {A v w u u' a b} hu r1 r2 h1 h2 => tup4_rc I hu r1 r2 h1 h2⟩
end
section
variable {X : Cx} {R0 H0 : Hp} {Γ : List Slot} {e a b c o tg : Expr} {pos : Pos} {st : Stmt}
def rEqQ (X : Cx) : R2 := fun x y H Q => ∃ k, (∀ pins s σ, Inv X pins σ H s → ∀ v u, RelV x v → RelV y u → RcAt X.A s v u k) ∧ Q (.bl k) H
def rNeQ (X : Cx) : R2 := fun x y H Q => ∃ k, (∀ pins s σ, Inv X pins σ H s → ∀ v u, RelV x v → RelV y u → RcNeAt X.A s v u k) ∧ Q (.bl k) H
theorem op_neQ : OpR X (compareOp .NotEq) (rNeQ X) := by
  intro pins s σ H x y v u Q I rx ry h
  obtain ⟨k, h, q⟩ := h
  exact h pins s σ I v u rx ry X.prog X.w _ _ ⟨.bl k, H, I, rfl, q⟩
variable {α : Type} [Py α] [Dq α] [Dc α] [DecidableEq α] {ma mb : Option α} {x y : α}
theorem dat_ne (hu : X.A.units + 64 < cLine) (hd : Dq.dep α ≤ 60) (R H : Hp) (v w : V) (x y : α) (z : Bool) (i : Ex R H) (h1 : bor X.K R H v x) (h2 : bor X.K R H w y) (h3 : some (!decide (x = y)) = some z) (Q : VK) (q : ∀ u R' H', Ext R H R' H' → rep X.K R' u z → Q u H') : rNeQ X v w H Q := by
  cases h3
  refine ⟨_, fun pins s σ I v' u' r1 r2 => ?_, q _ R H (.refl i) rfl⟩
  rw [← dec_eq]
  exact (Dc.rc I (by omega) r1 r2 (Dq.rp i h1) (Dq.rp i h2)).2
theorem jt_ned (hu : X.A.units + 64 < cLine) (ha : JB X R0 H0 Γ a ma) (hb : JB X R0 H0 Γ b mb) (hd : Dq.dep α ≤ 60 := by decide) : JT X R0 H0 Γ (.Compare a [.NotEq] [b] pos) (ma.bind fun x => mb.bind fun y => some (!decide (x = y))) := jt_cmp2 op_neQ (nomark _) (dat_ne hu hd) ha hb
end
end FK

namespace FK
open PySem PySem.Spec PyProof.Rows L2
open PySem.SeqAt (EqAt RcAt RcNeAt)
section
variable {X : Cx} {R0 H0 : Hp} {Γ : List Slot} {e a b c o tg : Expr} {pos : Pos} {st : Stmt} {stmts : List Stmt}
/-! ### texts' order -/
/-! ### a text in a text -/
def sIn (x y : Str) : Bool := !(Builtin.Str.occurrences y x 0 y.length 1).isEmpty
theorem je_ins {ma mb : Option Str} (ha : JB X R0 H0 Γ a ma) (hb : JB X R0 H0 Γ b mb) (hk : behindInMarks .In b = false := by rfl) : JE X R0 H0 Γ (.Compare a [.In] [b] pos) (ma.bind fun x => mb.bind fun y => some (sIn x y)) := je_cmp2 op_in_str hk (fun R H v w x y z i h1 h2 h3 Q q => by
  cases h3
  exact ⟨x, y, h1, h2, q _ R H (.refl i) rfl⟩) ha hb
theorem je_ins_t {x y : Str} (ha : JB X R0 H0 Γ a (some x)) (hb : JB X R0 H0 Γ b (some y)) (hk : behindInMarks .In b = false := by rfl) : JE X R0 H0 Γ (.Compare a [.In] [b] pos) (some (sIn x y)) := je_ins ha hb hk
/-! ### tuples of items of one type -/
structure Tl (α : Type) where
  l : List α
  deriving DecidableEq
instance instPyTl {α : Type} [Py α] : Py (Tl α) := tupPy (fun K R vs a => AllR K R vs a.l) fun e h => h.mono e
instance {α : Type} [Py α] : Flat (Tl α) := ⟨fun h => h⟩
theorem je_tl {α : Type} [Py α] {es : List Expr} {m : Option (List α)} {kk : Nat} (h : JLs X R0 H0 Γ es m) (hn : es.length ≤ 100 := by exact Nat.le_of_ble_eq_true rfl) : JE X R0 H0 Γ (.Tuple es kk pos) (m.bind fun x => some (⟨x⟩ : Tl α)) := .mk fun σ R H S xs ex Q q => by
  obtain ⟨x, e1, ex⟩ := bind_some' ex
  cases ex
  refine PE_to (pe_tup aS) (h.run σ R H S x e1 _ fun vs R1 H1 x1 l1 r1 => ⟨size_ok (by rw [l1]; exact Nat.le_trans hn (by decide)), ?_⟩)
  exact tup_lay (K := X.K) (α := Tl α) (f := fun _ _ _ _ => True) x1 fun v R' H' w ⟨p, ev, hp, ex⟩ => q v R' H' w ⟨p, _, ev, dsq hp, r1.mono ex⟩
theorem je_tl_t {α : Type} [Py α] {es : List Expr} {x : List α} {kk : Nat} (h : JLs X R0 H0 Γ es (some x)) (hn : es.length ≤ 100 := by exact Nat.le_of_ble_eq_true rfl) : JE X R0 H0 Γ (.Tuple es kk pos) (some (⟨x⟩ : Tl α)) := je_tl h hn
/-- a tuple of texts written at the top -/
def WTup (K : PySem.W.Frag) (mg : Str → Option Value) (x : Str) (l : List Str) : Prop := ∃ p, mg x = some (.ref p) ∧ ∀ H : Hp, SqT K H p (l.map V.str)
theorem je_wtup {x : Str} {l : List Str} (hm : WTup X.K X.mg x l) (hg : Gl X x := by rfl) (hd : (x == ("__debug__" : Str)) = false := by decide) : JE X R0 H0 Γ (.Name x pos) (some (⟨l⟩ : Tl Str)) := .mk fun σ R H S z ez Q q => by
  cases ez
  obtain ⟨p, hp, hs⟩ := hm
  exact PE_to (pe_glob (v := .ref p) hg hp rfl hd) (q _ R H (.refl S.i) ⟨p, _, rfl, hs R, AllR.of_map (fun _ => rfl) l⟩)
/-! ### an item in a list, a tuple -/
def rInQ (X : Cx) (op : CmpOp) : R2 := fun x y H Q => ∃ k, (∀ pins s σ, Inv X pins σ H s → ∀ v u, RelV x v → RelV y u → ∀ Q' : Value → Shared → Prop, Q' (.bool k) s → wpAny (model X.prog X.w) X.A (compareOp op v u) Q' X.xe s) ∧ Q (.bl k) H
theorem op_inQ {op : CmpOp} : OpR X (compareOp op) (rInQ X op) := by
  intro pins s σ H x y v u Q I rx ry h
  obtain ⟨k, h, q⟩ := h
  exact h pins s σ I v u rx ry _ ⟨.bl k, H, I, rfl, q⟩
section
variable {α : Type} [Py α] [Dq α]
theorem allr_mem {K : PySem.W.Frag} {H : Hp} : ∀ {vs : List V} {us : List Value} {as : List α}, Vals vs us → AllR K H vs as → ∀ u ∈ us, ∃ v a, RelV v u ∧ rep K H v a ∧ a ∈ as
  | [], us, as, r, h, u, hu => by
    cases r
    cases hu
  | v :: vs, us, as, r, h, u, hu => by
    cases r with
    | cons r1 t1 =>
      cases h with
      | @cons _ _ a as p1 q1 =>
        rcases List.mem_cons.mp hu with rfl | hu
        · exact ⟨v, a, r1, p1, List.mem_cons_self⟩
        · obtain ⟨w, b, x, y, z⟩ := allr_mem t1 q1 u hu
          exact ⟨w, b, x, y, List.mem_cons_of_mem _ z⟩
noncomputable def isQ (K : PySem.W.Frag) (H : Hp) (x : α) (u : Value) : Bool := dec (∃ v a, RelV v u ∧ rep K H v a ∧ a = x)
variable {pins : List (Addr × Obj)} {σ : L2.St} {H : Hp} {s : Shared}
theorem isQ_eq (I : Inv X pins σ H s) {v : V} {u : Value} {a x : α} (r : RelV v u) (h : rep X.K H v a) : isQ X.K H x u = dec (a = x) := by
  unfold isQ
  refine dec_iff ⟨fun ⟨w, b, r', h', e⟩ => ?_, fun e => ⟨v, a, r, h, e⟩⟩
  rw [Dq.uq I r r' h h', e]
theorem any_isQ (I : Inv X pins σ H s) {x : α} : ∀ {vs : List V} {us : List Value} {as : List α}, Vals vs us → AllR X.K H vs as → us.any (isQ X.K H x) = dec (x ∈ as)
  | [], us, as, r, h => by
    cases r
    cases h
    rw [dec_f (List.not_mem_nil)]
    rfl
  | v :: vs, us, as, r, h => by
    cases r with
    | cons r1 t1 =>
      cases h with
      | @cons _ _ a as p1 q1 =>
        rw [List.any_cons, any_isQ I t1 q1, isQ_eq I r1 p1]
        by_cases h1 : a = x
        · rw [dec_t h1, dec_t (show x ∈ a :: as from by rw [h1]; exact List.mem_cons_self)]
          rfl
        · rw [dec_f h1, Bool.false_or]
          exact dec_iff ⟨fun z => List.mem_cons_of_mem _ z, fun z => (List.mem_cons.mp z).elim (fun e => absurd e.symm h1) id⟩
theorem each_isQ (I : Inv X pins σ H s) {A : Around} (hu : A.units + Dq.dep α < cLine) {x : α} {w : V} {v : Value} (rx : RelV w v) (hx : rep X.K H w x) {vs : List V} {us : List Value} {as : List α} (r : Vals vs us) (h : AllR X.K H vs as) : ∀ y, y ∈ us.toArray → EqAt A s y v (isQ X.K H x y) := fun y hy => by
  obtain ⟨w', a, r1, p1, _⟩ := allr_mem r h y (by simpa using hy)
  rw [isQ_eq I r1 p1]
  exact Dq.eq I hu r1 rx p1 hx
variable [DecidableEq α]
theorem in_tl (hu : X.A.units + 64 < cLine) (hd : Dq.dep α ≤ 60) (R H : Hp) (v w : V) (x : α) (y : Tl α) (z : Bool) (i : Ex R H) (h1 : bor X.K R H v x) (h2 : bor X.K R H w y) (h3 : some (decide (x ∈ y.l)) = some z) (Q : VK) (q : ∀ u R' H', Ext R H R' H' → rep X.K R' u z → Q u H') : rInQ X .In v w H Q := by
  cases h3
  refine ⟨_, fun pins s σ I v' u' r1 r2 Q' q' => ?_, q _ R H (.refl i) rfl⟩
  obtain ⟨p, vs, rfl, hp, q2⟩ := Py.mono i (show rep X.K R w y from h2)
  cases r2
  obtain ⟨us, t2, l2, _⟩ := I.tuple hp
  refine SeqAt.in_tupleAt (isQ X.K H x) l2 (each_isQ I (show X.A.units + 1 + Dq.dep α < cLine by omega) r1 (Dq.rp i h1) t2 q2) ?_
  rw [show us.toArray.any (isQ X.K H x) = us.any (isQ X.K H x) by simp, any_isQ I t2 q2, dec_eq]
  exact q'
variable {ma : Option α} {x : α}
theorem je_inu {mb : Option (Tl α)} (hu : X.A.units + 64 < cLine) (ha : JB X R0 H0 Γ a ma) (hb : JB X R0 H0 Γ b mb) (hk : behindInMarks .In b = false := by rfl) (hd : Dq.dep α ≤ 60 := by decide) : JE X R0 H0 Γ (.Compare a [.In] [b] pos) (ma.bind fun x => mb.bind fun y => some (decide (x ∈ y.l))) := je_cmp2 op_inQ hk (in_tl hu hd) ha hb
theorem jt_inu {mb : Option (Tl α)} (hu : X.A.units + 64 < cLine) (ha : JB X R0 H0 Γ a ma) (hb : JB X R0 H0 Γ b mb) (hk : behindInMarks .In b = false := by rfl) (hd : Dq.dep α ≤ 60 := by decide) : JT X R0 H0 Γ (.Compare a [.In] [b] pos) (ma.bind fun x => mb.bind fun y => some (decide (x ∈ y.l))) := jt_cmp2 op_inQ hk (in_tl hu hd) ha hb
theorem jt_inu_t {y : Tl α} (hu : X.A.units + 64 < cLine) (ha : JB X R0 H0 Γ a (some x)) (hb : JB X R0 H0 Γ b (some y)) (hk : behindInMarks .In b = false := by rfl) (hd : Dq.dep α ≤ 60 := by decide) : JT X R0 H0 Γ (.Compare a [.In] [b] pos) (some (decide (x ∈ y.l))) := jt_inu hu ha hb hk hd
end
/-! ### sorted -/
class Dh (α : Type) [Py α] [DecidableEq α] [PySem.W.Datum α] where
  hd : ∀ {X : Cx} {pins : List (Addr × Obj)} {σ : L2.St} {H : Hp} {s : Shared}, Inv X pins σ H s → ∀ {v : V} {u : Value} {a : α}, RelV v u → rep X.K H v a → PySem.W.Holds s.heap u a
class Dso (α : Type) [DecidableEq α] [PySem.W.Datum α] where
  so : (∀ b : α, ∃ x r, PySem.W.Datum.toD b = .tuple (x :: r)) ∨ ∀ b : α, PySem.W.Datum.toD b ≠ .none ∧ ∀ xs, PySem.W.Datum.toD b ≠ .tuple xs
instance instDhInt : Dh Int := ⟨fun {X pins σ H s} _ {v u a} r h => by
  cases (show v = V.int a from h)
  obtain ⟨t, rfl⟩ := r
  exact PySem.W.holds_int a t⟩
instance instDhStr : Dh Str := ⟨fun {X pins σ H s} _ {v u a} r h => by
  cases (show v = V.str a from h)
  obtain ⟨t, rfl⟩ := r
  exact PySem.W.holds_str a t⟩
instance instDhBool : Dh Bool := ⟨fun {X pins σ H s} _ {v u a} r h => by
  cases (show v = V.bl a from h)
  cases (show u = .bool a from r)
  exact PySem.W.holds_bool a⟩
instance instDsoInt : Dso Int := ⟨.inr fun b => ⟨(fun e => by cases e), fun xs e => by cases e⟩⟩
instance instDsoStr : Dso Str := ⟨.inr fun b => ⟨(fun e => by cases e), fun xs e => by cases e⟩⟩
instance instDsoList {α : Type} [DecidableEq α] [PySem.W.Datum α] : Dso (List α) := ⟨.inr fun b => ⟨(fun e => by cases e), fun xs e => by cases e⟩⟩
theorem holdAll_of {α : Type} [Py α] [DecidableEq α] [PySem.W.Datum α] [Dh α] {pins : List (Addr × Obj)} {σ : L2.St} {H : Hp} {s : Shared} (I : Inv X pins σ H s) : ∀ {vs : List V} {us : List Value} {as : List α}, Vals vs us → AllR X.K H vs as → PySem.W.HoldAll s.heap us as
  | [], us, as, r, h => by
    cases r
    cases h
    exact PySem.W.HoldAll.nil
  | v :: vs, us, as, r, h => by
    cases r with
    | cons r1 t1 =>
      cases h with
      | cons p1 q1 => exact PySem.W.HoldAll.cons (Dh.hd I r1 p1) (holdAll_of I t1 q1)
instance instDhList {α : Type} [Py α] [DecidableEq α] [PySem.W.Datum α] [Dh α] : Dh (List α) := ⟨fun {X pins σ H s} I {v u a} r h => by
  obtain ⟨p, o, rfl, hp, vs, rfl, q1⟩ := h
  cases r
  obtain ⟨us, t1, l1, _⟩ := I.list (.inl hp)
  exact PySem.W.holds_list l1.isList (holdAll_of I t1 q1)⟩
instance instDh2 {α : Type} {β : Type} [Py α] [DecidableEq α] [PySem.W.Datum α] [Dh α] [Py β] [DecidableEq β] [PySem.W.Datum β] [Dh β] [Dq α] [Dq β] : Dh (α × β) := ⟨fun {X pins σ H s} I {v u a} r h => by
  obtain ⟨p, x0, x1, z0, z1, rfl, rfl, l, r0, r1, q0, q1⟩ := tup2_rd I r h
  cases a
  exact PySem.W.holds_pair l (Dh.hd I r0 q0) (Dh.hd I r1 q1)⟩
instance instDso2 {α : Type} {β : Type} [DecidableEq α] [PySem.W.Datum α] [DecidableEq β] [PySem.W.Datum β] : Dso (α × β) := ⟨.inl fun b => ⟨_, _, rfl⟩⟩
instance instDh3 {α : Type} {β : Type} {γ : Type} [Py α] [DecidableEq α] [PySem.W.Datum α] [Dh α] [Py β] [DecidableEq β] [PySem.W.Datum β] [Dh β] [Py γ] [DecidableEq γ] [PySem.W.Datum γ] [Dh γ] [Dq α] [Dq β] [Dq γ] : Dh (T3 α β γ) := ⟨fun {X pins σ H s} I {v u a} r h => by
  obtain ⟨p, x0, x1, x2, z0, z1, z2, rfl, rfl, l, r0, r1, r2, q0, q1, q2⟩ := tup3_rd I r h
  cases a
  exact PySem.W.holds_t3 l (Dh.hd I r0 q0) (Dh.hd I r1 q1) (Dh.hd I r2 q2)⟩
instance instDso3 {α : Type} {β : Type} {γ : Type} [DecidableEq α] [PySem.W.Datum α] [DecidableEq β] [PySem.W.Datum β] [DecidableEq γ] [PySem.W.Datum γ] : Dso (T3 α β γ) := ⟨.inl fun b => ⟨_, _, rfl⟩⟩
instance instDh4 {α : Type} {β : Type} {γ : Type} {δ : Type} [Py α] [DecidableEq α] [PySem.W.Datum α] [Dh α] [Py β] [DecidableEq β] [PySem.W.Datum β] [Dh β] [Py γ] [DecidableEq γ] [PySem.W.Datum γ] [Dh γ] [Py δ] [DecidableEq δ] [PySem.W.Datum δ] [Dh δ] [Dq α] [Dq β] [Dq γ] [Dq δ] : Dh (T4 α β γ δ) := ⟨fun {X pins σ H s} I {v u a} r h => by
  obtain ⟨p, x0, x1, x2, x3, z0, z1, z2, z3, rfl, rfl, l, r0, r1, r2, r3, q0, q1, q2, q3⟩ := tup4_rd I r h
  cases a
  exact PySem.W.holds_t4 l (Dh.hd I r0 q0) (Dh.hd I r1 q1) (Dh.hd I r2 q2) (Dh.hd I r3 q3)⟩
instance instDso4 {α : Type} {β : Type} {γ : Type} {δ : Type} [DecidableEq α] [PySem.W.Datum α] [DecidableEq β] [PySem.W.Datum β] [DecidableEq γ] [PySem.W.Datum γ] [DecidableEq δ] [PySem.W.Datum δ] : Dso (T4 α β γ δ) := ⟨.inl fun b => ⟨_, _, rfl⟩⟩
section
variable {α : Type} [Py α] [DecidableEq α] [PySem.W.DatumOrd α] [Dh α] [Dso α]
/-- as sorted() orders -/
def srt (as : List α) : List α := as.mergeSort fun a b => !PySem.W.DatumOrd.lt b a
theorem each_reads {pins : List (Addr × Obj)} {σ : L2.St} {H : Hp} {s : Shared} (I : Inv X pins σ H s) : ∀ {vs : List V} {us : List Value} {as : List α}, Vals vs us → AllR X.K H vs as → PySem.W.EachIs (fun u (a : α) => ∃ l, Reads s.heap u (PySem.W.Datum.toD a) l) us as
  | [], us, as, r, h => by
    cases r
    cases h
    exact .nil
  | v :: vs, us, as, r, h => by
    cases r with
    | cons r1 t1 =>
      cases h with
      | cons p1 q1 => exact .cons (Dh.hd I r1 p1) (each_reads I t1 q1)
theorem each_rel {K : PySem.W.Frag} {H : Hp} : ∀ {vs : List V} {us : List Value} {as : List α}, Vals vs us → AllR K H vs as → PySem.W.EachIs (fun u (a : α) => ∃ v, RelV v u ∧ rep K H v a) us as
  | [], us, as, r, h => by
    cases r
    cases h
    exact .nil
  | v :: vs, us, as, r, h => by
    cases r with
    | cons r1 t1 =>
      cases h with
      | cons p1 q1 => exact .cons ⟨v, r1, p1⟩ (each_rel t1 q1)
theorem rel_each {K : PySem.W.Frag} {H : Hp} : ∀ {us : List Value} {as : List α}, PySem.W.EachIs (fun u (a : α) => ∃ v, RelV v u ∧ rep K H v a) us as → ∃ vs, Vals vs us ∧ AllR K H vs as
  | [], as, h => by
    cases h
    exact ⟨[], .nil, .nil⟩
  | u :: us, as, h => by
    cases h with
    | cons p t =>
      obtain ⟨v, r, q⟩ := p
      obtain ⟨vs, r2, q2⟩ := rel_each t
      exact ⟨v :: vs, .cons r r2, .cons q q2⟩
def rSrt (X : Cx) (α : Type) [Py α] [DecidableEq α] [PySem.W.DatumOrd α] [Dh α] [Dso α] : List V → Hp → VK → Prop := fun ws H Q => ∃ (R : Hp) (l : V) (as : List α), ws = [l] ∧ Ex R H ∧ bor X.K R H l as ∧ as.length ≤ 16000000 ∧ ∀ p vs, H p = none → AllR X.K R vs (srt as) → Q (.ref p) (upd H p (.lst vs))
theorem cr_srt (hu : X.A.units + 64 < cLine) (hd : PySem.W.Datum.depth α ≤ 60) : CallR X (.builtin "sorted") (rSrt X α) := by
  intro pins s σ H ws us Q I r h
  obtain ⟨R, l, as, rfl, hi, hl, hz, q⟩ := h
  obtain ⟨p, o, rfl, hp, vs, rfl, q1⟩ := hl
  obtain ⟨its, t1, l1, hz1⟩ := I.list (.inl hp)
  rw [Vals.ref1 r]
  have er := each_reads (α := α) I t1 (q1.mono hi)
  refine PySem.W.sorted_data (enc := PySem.W.Datum.toD) (R := fun u (a : α) => ∃ v, RelV v u ∧ rep X.K R v a) l1.isList (each_rel t1 q1) er (PySem.W.AllAlike.of PySem.W.DatumOrd.alike) (Dso.so.elim PySem.W.Sortable.tuples PySem.W.Sortable.others) (size_ok hz) (fun b _ => ?_) fun out ho eo => ?_
  · have := PySem.W.Datum.depth_le b
    omega
  · have e : as.mergeSort (PySem.W.dataLe false PySem.W.Datum.toD) = srt as := by
      unfold srt
      congr 1
      funext a b
      rw [PySem.W.dataLe_eq]
      show (!PySem.W.dataLt _ _) = _
      rw [PySem.W.DatumOrd.lt_eq]
    rw [e] at eo
    obtain ⟨ws, r2, q2⟩ := rel_each eo
    obtain ⟨ep, he'⟩ := PyProof.Rows.sortedAll_at s.heap its out.toArray
    have hlen : ws.length ≤ sizeLine := by
      rw [r2.length, ho]
      exact size_ok hz
    exact ⟨.ref _, upd H (s.heap.objs.size + 1) (.lst ws), I.laid (t' := s.toks) (fun _ _ => PyProof.Rows.sortedAll_old) (Nat.le_succ _) ⟨hlen, out, ep, r2, he'⟩, rfl, q _ _ (I.hok.fresh (Nat.le_succ _)) q2⟩
theorem jo_sorted {p : Pos} {m : Option (List α)} [Dq α] (hm : X.mg "sorted" = none) (hu : X.A.units + 64 < cLine) (h : JB X R0 H0 Γ a m) (hd : PySem.W.Datum.depth α ≤ 60 := by decide) (hg : Gl X "sorted" := by rfl) (hs : starEach (a :: []) X.env = (false, eval a X.env) :: starEach [] X.env := by rfl) (hpl : (backTo pos (starEach ([] : List Expr) X.env)).any (·.1) = false := by rfl) :
    JO X R0 H0 Γ (.Call (.Name "sorted" p) [a] [] pos) (m.bind fun x => if x.length ≤ 16000000 then some (srt x) else none) := .mk fun σ R H S z ez Q q => by
  obtain ⟨x, ex, ez⟩ := bind_some' ez
  by_cases hz : x.length ≤ 16000000
  · rw [if_pos hz] at ez
    cases ez
    refine PE_to (pe_callB (cr_srt (α := α) hu hd) hg hm (by decide +kernel) (pa_cons eS pa_nil hs) (he := hs) (hpl := hpl)) (h σ R H S x ex _ fun v R1 H1 x1 r1 => ?_)
    exact ⟨R1, v, x, rfl, x1.i, r1, hz, fun p vs hp hv => q p _ R1 _ (x1.trans (.own x1.i hp)) (x1.h.none hp) upd_same (x1.i.none hp) ⟨vs, rfl, hv⟩⟩
  · rw [if_neg hz] at ez
    cases ez
end

/-! ### texts' methods -/
theorem jn_never {β : Type} {out : β → Out} : JN X R0 H0 Γ stmts (none : Option β) out := .mk fun σ R H S b eb D n q => by cases eb
def sStrip (x y : Str) : Option Str := if x.length ≤ 16000000 then some (Txt.stripChars x y) else none
def sPart (x y : Str) : Option (T3 Str Str Str) := if (y.length == 0) = false ∧ x.length ≤ 16000000 then some ⟨(Txt.partition x y).1, (Txt.partition x y).2.1, (Txt.partition x y).2.2⟩ else none
def sUp (x : Str) : Option Str := if x.length ≤ 5000000 then some (Txt.upper x) else none
def sLow (x : Str) : Option Str := if x.length ≤ 5000000 then some (Txt.lower x) else none
theorem je_strip {apos : Pos} {mo me : Option Str} (ho : JB X R0 H0 Γ o mo) (he : JB X R0 H0 Γ e me) (hs : starEach [e] X.env = [(false, eval e X.env)] := by rfl) (hbase : attributeBase o "strip" X.env (eval o X.env) = eval o X.env := by rfl) (hline : (apos.endLine == pos.line) = true := by rfl) :
    JE X R0 H0 Γ (.Call (.Attribute o "strip" apos) [e] [] pos) (mo.bind fun x => me.bind fun y => sStrip x y) := je_m1 F.slot_str_strip F.type_str_strip mt_stripChars (fun R H w x y z i h h3 Q q => by
  unfold sStrip at h3
  by_cases g : x.length ≤ 16000000
  · rw [if_pos g] at h3
    cases h3
    have h : w = .str y := h
    subst h
    exact ⟨x, y, rfl, rfl, size_ok g, q _ R H (.refl i) rfl⟩
  · rw [if_neg g] at h3
    cases h3) ho he hs hbase hline
theorem je_strip_t {apos : Pos} {x y : Str} (ho : JB X R0 H0 Γ o (some x)) (he : JB X R0 H0 Γ e (some y)) (hs : starEach [e] X.env = [(false, eval e X.env)] := by rfl) (hbase : attributeBase o "strip" X.env (eval o X.env) = eval o X.env := by rfl) (hline : (apos.endLine == pos.line) = true := by rfl) :
    JE X R0 H0 Γ (.Call (.Attribute o "strip" apos) [e] [] pos) (sStrip x y) := je_strip ho he hs hbase hline
theorem je_startswith {apos : Pos} {mo me : Option Str} (ho : JB X R0 H0 Γ o mo) (he : JB X R0 H0 Γ e me) (hs : starEach [e] X.env = [(false, eval e X.env)] := by rfl) (hbase : attributeBase o "startswith" X.env (eval o X.env) = eval o X.env := by rfl) (hline : (apos.endLine == pos.line) = true := by rfl) :
    JE X R0 H0 Γ (.Call (.Attribute o "startswith" apos) [e] [] pos) (mo.bind fun x => me.bind fun y => some (Txt.startswith x y)) := je_m1 F.slot_str_startswith F.type_str_startswith mt_startswith (fun R H w x y z i h h3 Q q => by
  cases h3
  have h : w = .str y := h
  subst h
  exact ⟨x, y, rfl, rfl, q _ R H (.refl i) rfl⟩) ho he hs hbase hline
theorem je_startswith_t {apos : Pos} {x y : Str} (ho : JB X R0 H0 Γ o (some x)) (he : JB X R0 H0 Γ e (some y)) (hs : starEach [e] X.env = [(false, eval e X.env)] := by rfl) (hbase : attributeBase o "startswith" X.env (eval o X.env) = eval o X.env := by rfl) (hline : (apos.endLine == pos.line) = true := by rfl) :
    JE X R0 H0 Γ (.Call (.Attribute o "startswith" apos) [e] [] pos) (some (Txt.startswith x y)) := je_startswith ho he hs hbase hline
theorem je_part {apos : Pos} {mo me : Option Str} (ho : JB X R0 H0 Γ o mo) (he : JB X R0 H0 Γ e me) (hs : starEach [e] X.env = [(false, eval e X.env)] := by rfl) (hbase : attributeBase o "partition" X.env (eval o X.env) = eval o X.env := by rfl) (hline : (apos.endLine == pos.line) = true := by rfl) :
    JE X R0 H0 Γ (.Call (.Attribute o "partition" apos) [e] [] pos) (mo.bind fun x => me.bind fun y => sPart x y) := je_m1 F.slot_str_partition F.type_str_partition mt_partition (fun R H w x y z i h h3 Q q => by
  unfold sPart at h3
  by_cases g : (y.length == 0) = false ∧ x.length ≤ 16000000
  · rw [if_pos g] at h3
    cases h3
    have h : w = .str y := h
    subst h
    exact ⟨x, y, rfl, rfl, g.1, size_ok g.2, tup_lay (K := X.K) (α := T3 Str Str Str) (f := fun _ _ _ _ => True) (.refl i) fun v R' H' w ⟨p, ev, hp, ex⟩ => q v R' H' w ⟨p, _, ev, hp, _, _, _, rfl, rfl, rfl, rfl⟩⟩
  · rw [if_neg g] at h3
    cases h3) ho he hs hbase hline
theorem je_part_t {apos : Pos} {x y : Str} (ho : JB X R0 H0 Γ o (some x)) (he : JB X R0 H0 Γ e (some y)) (hs : starEach [e] X.env = [(false, eval e X.env)] := by rfl) (hbase : attributeBase o "partition" X.env (eval o X.env) = eval o X.env := by rfl) (hline : (apos.endLine == pos.line) = true := by rfl) :
    JE X R0 H0 Γ (.Call (.Attribute o "partition" apos) [e] [] pos) (sPart x y) := je_part ho he hs hbase hline
/-! ### powers, chains -/
theorem je_chlele {ma mb mc : Option Int} (ha : JB X R0 H0 Γ a ma) (hb : JB X R0 H0 Γ b mb) (hc : JB X R0 H0 Γ c mc) : JE X R0 H0 Γ (.Compare a [.LtE, .LtE] [b, c] pos) (ma.bind fun x => mb.bind fun y => if decide (x ≤ y) = true then mc.bind fun z => some (decide (y ≤ z)) else some false) := .mk fun σ R H S w ew Q q => by
  obtain ⟨x, ex, ew⟩ := bind_some' ew
  obtain ⟨y, ey, ew⟩ := bind_some' ew
  refine PE_to (pe_chain op_le op_le eS eS eS (nomark c)) (ha σ R H S x ex _ fun v R1 H1 x1 r1 => hb σ R1 H1 (S.ext x1) y ey _ fun u R2 H2 x2 r2 => ?_)
  have r1 : v = .int x := r1
  have r2 : u = .int y := r2
  subst r1 r2
  refine ⟨x, y, rfl, rfl, _, rfl, ?_⟩
  by_cases k : decide (x ≤ y) = true
  · rw [if_pos k] at ew
    obtain ⟨z, ez, ew⟩ := bind_some' ew
    cases ew
    rw [if_pos k]
    refine hc σ R2 H2 ((S.ext x1).ext x2) z ez _ fun t R3 H3 x3 r3 => ?_
    have r3 : t = .int z := r3
    subst r3
    exact ⟨y, z, rfl, rfl, q _ R3 H3 ((x1.trans x2).trans x3) rfl⟩
  · rw [if_neg k] at ew
    cases ew
    rw [if_neg k]
    exact q _ R2 H2 (x1.trans x2) rfl
/-! ### the lesser, the greater of two texts -/
def smin (x y : Str) : Str := if sLt y x = true then y else x
def smax (x y : Str) : Str := if sLt x y = true then y else x
def strAt (xs : Array Value) (i : Nat) : Str := match xs.getD i .none with
  | .str x _ => x
  | _ => ⟨#[]⟩
section
variable {prog : Program} {w : World} {A : Around} {E : Value → Shared → Prop} {s : Shared}
theorem min_two_strs {a b : Str} {t u : Tok} {Q : Value → Shared → Prop} (hh : A.handled = none)
    (h : ∀ h' tk, (∀ c o, s.heap.get? c = some o → h'.get? c = some o) → Q (if sLt b a = true then .str b u else .str a t) { s with heap := h', toks := tk }) :
    wpAny (model prog w) A (call (.builtin "min") [.str a t, .str b u]) Q E s := by
  have hT : (s.heap.push { cls := .type "tuple", data := .seq #[.str a t, .str b u] }).IsTuple s.heap.objs.size #[.str a t, .str b u] := ⟨_, Heap.get?_push_size _ rfl, rfl, 0, rfl⟩
  refine call_min_two (wpAny_pyIter_tuple hT ?_)
  have hsz : (s.heap.push { cls := .type "tuple", data := .seq #[.str a t, .str b u] }).objs.size = s.heap.objs.size + 1 := Heap.size_push ..
  refine ⟨_, [_, s.heap.objs.size], [_], _, _, _, fun i j => sLt (strAt #[.str a t, .str b u] i) (strAt #[.str a t, .str b u] j), rfl, Walks.tuple (A := A.in1) hh _ s.heap.objs.size (by rw [hsz]; exact Nat.ne_of_lt (Nat.lt_succ_self _)) #[.str a t, .str b u],
    ⟨⟨_, Heap.get?_push_size _ rfl, rfl, rfl⟩, hT.push _⟩, fun c hc => ?_, by simp, fun i j vi vj s' Q' E' hi hj hQ => ?_, fun v h' tk hP hk => ?_⟩
  · show c < ((s.heap.push _).push _).objs.size
    rw [Heap.size_push, hsz]
    rcases List.mem_cons.mp hc with rfl | hc
    · rw [hsz]; exact Nat.lt_succ_self _
    · rcases List.mem_cons.mp hc with rfl | hc
      · exact Nat.lt_succ_of_lt (Nat.lt_succ_self _)
      · cases hc
  · have two : ∀ (k : Nat) (v : Value), (#[Value.str a t, Value.str b u])[k]? = some v → ∃ t', v = .str (strAt #[.str a t, .str b u] k) t' := fun k v e => by
      match k, e with
      | 0, e => cases e; exact ⟨t, rfl⟩
      | 1, e => cases e; exact ⟨u, rfl⟩
      | k + 2, e => simp at e
    obtain ⟨t1, rfl⟩ := two i vi hi
    obtain ⟨t2, rfl⟩ := two j vj hj
    exact lt_str hQ
  · have hold : ∀ c o, s.heap.get? c = some o → h'.get? c = some o := fun c o e => by
      refine hk c o (fun hm => ?_) (Heap.get?_push_of_some _ (Heap.get?_push_of_some _ e))
      rcases List.mem_cons.mp hm with e1 | hm
      · have := Heap.lt_size e; rw [e1, hsz] at this; exact Nat.lt_irrefl _ (Nat.lt_of_succ_lt this)
      · cases hm
    have := h h' tk hold
    have hv : v = if sLt b a = true then Value.str b u else Value.str a t := by
      have hP' : (#[Value.str a t, Value.str b u])[argBest (fun i j => sLt (strAt #[.str a t, .str b u] i) (strAt #[.str a t, .str b u] j)) 1]? = some v := hP
      by_cases hba : sLt b a = true
      · have e : argBest (fun i j => sLt (strAt #[.str a t, .str b u] i) (strAt #[.str a t, .str b u] j)) 1 = 1 := by
          show (if sLt b a = true then 1 else 0) = 1
          rw [if_pos hba]
        rw [e] at hP'
        rw [if_pos hba]
        exact (Option.some.inj hP').symm
      · have e : argBest (fun i j => sLt (strAt #[.str a t, .str b u] i) (strAt #[.str a t, .str b u] j)) 1 = 0 := by
          show (if sLt b a = true then 1 else 0) = 0
          rw [if_neg hba]
        rw [e] at hP'
        rw [if_neg hba]
        exact (Option.some.inj hP').symm
    rw [hv]; exact this
theorem max_two_strs {a b : Str} {t u : Tok} {Q : Value → Shared → Prop} (hh : A.handled = none)
    (h : ∀ h' tk, (∀ c o, s.heap.get? c = some o → h'.get? c = some o) → Q (if sLt a b = true then .str b u else .str a t) { s with heap := h', toks := tk }) :
    wpAny (model prog w) A (call (.builtin "max") [.str a t, .str b u]) Q E s := by
  have hT : (s.heap.push { cls := .type "tuple", data := .seq #[.str a t, .str b u] }).IsTuple s.heap.objs.size #[.str a t, .str b u] := ⟨_, Heap.get?_push_size _ rfl, rfl, 0, rfl⟩
  refine call_max_two (wpAny_pyIter_tuple hT ?_)
  have hsz : (s.heap.push { cls := .type "tuple", data := .seq #[.str a t, .str b u] }).objs.size = s.heap.objs.size + 1 := Heap.size_push ..
  refine ⟨_, [_, s.heap.objs.size], [_], _, _, _, fun i j => sLt (strAt #[.str a t, .str b u] j) (strAt #[.str a t, .str b u] i), rfl, Walks.tuple (A := A.in1) hh _ s.heap.objs.size (by rw [hsz]; exact Nat.ne_of_lt (Nat.lt_succ_self _)) #[.str a t, .str b u],
    ⟨⟨_, Heap.get?_push_size _ rfl, rfl, rfl⟩, hT.push _⟩, fun c hc => ?_, by simp, fun i j vi vj s' Q' E' hi hj hQ => ?_, fun v h' tk hP hk => ?_⟩
  · show c < ((s.heap.push _).push _).objs.size
    rw [Heap.size_push, hsz]
    rcases List.mem_cons.mp hc with rfl | hc
    · rw [hsz]; exact Nat.lt_succ_self _
    · rcases List.mem_cons.mp hc with rfl | hc
      · exact Nat.lt_succ_of_lt (Nat.lt_succ_self _)
      · cases hc
  · have two : ∀ (k : Nat) (v : Value), (#[Value.str a t, Value.str b u])[k]? = some v → ∃ t', v = .str (strAt #[.str a t, .str b u] k) t' := fun k v e => by
      match k, e with
      | 0, e => cases e; exact ⟨t, rfl⟩
      | 1, e => cases e; exact ⟨u, rfl⟩
      | k + 2, e => simp at e
    obtain ⟨t1, rfl⟩ := two i vi hi
    obtain ⟨t2, rfl⟩ := two j vj hj
    exact PySem.P.gt_str hQ
  · have hold : ∀ c o, s.heap.get? c = some o → h'.get? c = some o := fun c o e => by
      refine hk c o (fun hm => ?_) (Heap.get?_push_of_some _ (Heap.get?_push_of_some _ e))
      rcases List.mem_cons.mp hm with e1 | hm
      · have := Heap.lt_size e; rw [e1, hsz] at this; exact Nat.lt_irrefl _ (Nat.lt_of_succ_lt this)
      · cases hm
    have := h h' tk hold
    have hv : v = if sLt a b = true then Value.str b u else Value.str a t := by
      have hP' : (#[Value.str a t, Value.str b u])[argBest (fun i j => sLt (strAt #[.str a t, .str b u] j) (strAt #[.str a t, .str b u] i)) 1]? = some v := hP
      by_cases hba : sLt a b = true
      · have e : argBest (fun i j => sLt (strAt #[.str a t, .str b u] j) (strAt #[.str a t, .str b u] i)) 1 = 1 := by
          show (if sLt a b = true then 1 else 0) = 1
          rw [if_pos hba]
        rw [e] at hP'
        rw [if_pos hba]
        exact (Option.some.inj hP').symm
      · have e : argBest (fun i j => sLt (strAt #[.str a t, .str b u] j) (strAt #[.str a t, .str b u] i)) 1 = 0 := by
          show (if sLt a b = true then 1 else 0) = 0
          rw [if_neg hba]
        rw [e] at hP'
        rw [if_neg hba]
        exact (Option.some.inj hP').symm
    rw [hv]; exact this
end
theorem call_mins (hc : X.calm = true) : CallR X (.builtin "min") (fun xs H Q => ∃ x y, xs = [.str x, .str y] ∧ Q (.str (smin x y)) H) := by
  intro pins s σ H xs us Q I r h
  obtain ⟨x, y, rfl, q⟩ := h
  obtain ⟨u, w', rfl, ⟨t, rfl⟩, ⟨t', rfl⟩⟩ := vals2 r
  refine min_two_strs (I.ok.hd hc) fun h' tk k => ⟨_, H, I.kept k, ?_, q⟩
  unfold smin
  by_cases hj : sLt y x = true
  · rw [if_pos hj, if_pos hj]; exact ⟨_, rfl⟩
  · rw [if_neg hj, if_neg hj]; exact ⟨_, rfl⟩
theorem je_mins {p : Pos} {m m2 : Option Str} (hm : X.mg "min" = none) (h : JB X R0 H0 Γ a m) (h2 : JB X R0 H0 Γ b m2) (hc : X.calm = true := by rfl) (hg : Gl X "min" := by rfl) (hs : starEach [a, b] X.env = (false, eval a X.env) :: starEach [b] X.env := by rfl) (hs2 : starEach [b] X.env = (false, eval b X.env) :: starEach [] X.env := by rfl) (hpl : (backTo pos (starEach [b] X.env)).any (·.1) = false := by rfl) :
    JE X R0 H0 Γ (.Call (.Name "min" p) [a, b] [] pos) (m.bind fun x => m2.bind fun y => some (smin x y)) := .mk fun σ R H S z ez Q q => by
  obtain ⟨x, ex, ez⟩ := bind_some' ez
  obtain ⟨y, ey, ez⟩ := bind_some' ez
  cases ez
  refine PE_to (pe_callB (call_mins hc) hg hm (by decide +kernel) (pa_cons eS (pa_cons eS pa_nil hs2) hs) (he := hs) (hpl := hpl)) (h σ R H S x ex _ fun v R1 H1 x1 r1 => h2 σ R1 H1 (S.ext x1) y ey _ fun w R2 H2 x2 r2 => ?_)
  have r1 : v = .str x := r1
  have r2 : w = .str y := r2
  subst r1 r2
  exact ⟨x, y, rfl, q _ R2 H2 (x1.trans x2) rfl⟩
theorem je_mins_t {p : Pos} {x y : Str} (hm : X.mg "min" = none) (h : JB X R0 H0 Γ a (some x)) (h2 : JB X R0 H0 Γ b (some y)) (hc : X.calm = true := by rfl) (hg : Gl X "min" := by rfl) (hs : starEach [a, b] X.env = (false, eval a X.env) :: starEach [b] X.env := by rfl) (hs2 : starEach [b] X.env = (false, eval b X.env) :: starEach [] X.env := by rfl) (hpl : (backTo pos (starEach [b] X.env)).any (·.1) = false := by rfl) :
    JE X R0 H0 Γ (.Call (.Name "min" p) [a, b] [] pos) (some (smin x y)) := je_mins hm h h2 hc hg hs hs2 hpl
theorem call_maxs (hc : X.calm = true) : CallR X (.builtin "max") (fun xs H Q => ∃ x y, xs = [.str x, .str y] ∧ Q (.str (smax x y)) H) := by
  intro pins s σ H xs us Q I r h
  obtain ⟨x, y, rfl, q⟩ := h
  obtain ⟨u, w', rfl, ⟨t, rfl⟩, ⟨t', rfl⟩⟩ := vals2 r
  refine max_two_strs (I.ok.hd hc) fun h' tk k => ⟨_, H, I.kept k, ?_, q⟩
  unfold smax
  by_cases hj : sLt x y = true
  · rw [if_pos hj, if_pos hj]; exact ⟨_, rfl⟩
  · rw [if_neg hj, if_neg hj]; exact ⟨_, rfl⟩
theorem je_maxs {p : Pos} {m m2 : Option Str} (hm : X.mg "max" = none) (h : JB X R0 H0 Γ a m) (h2 : JB X R0 H0 Γ b m2) (hc : X.calm = true := by rfl) (hg : Gl X "max" := by rfl) (hs : starEach [a, b] X.env = (false, eval a X.env) :: starEach [b] X.env := by rfl) (hs2 : starEach [b] X.env = (false, eval b X.env) :: starEach [] X.env := by rfl) (hpl : (backTo pos (starEach [b] X.env)).any (·.1) = false := by rfl) :
    JE X R0 H0 Γ (.Call (.Name "max" p) [a, b] [] pos) (m.bind fun x => m2.bind fun y => some (smax x y)) := .mk fun σ R H S z ez Q q => by
  obtain ⟨x, ex, ez⟩ := bind_some' ez
  obtain ⟨y, ey, ez⟩ := bind_some' ez
  cases ez
  refine PE_to (pe_callB (call_maxs hc) hg hm (by decide +kernel) (pa_cons eS (pa_cons eS pa_nil hs2) hs) (he := hs) (hpl := hpl)) (h σ R H S x ex _ fun v R1 H1 x1 r1 => h2 σ R1 H1 (S.ext x1) y ey _ fun w R2 H2 x2 r2 => ?_)
  have r1 : v = .str x := r1
  have r2 : w = .str y := r2
  subst r1 r2
  exact ⟨x, y, rfl, q _ R2 H2 (x1.trans x2) rfl⟩
theorem je_maxs_t {p : Pos} {x y : Str} (hm : X.mg "max" = none) (h : JB X R0 H0 Γ a (some x)) (h2 : JB X R0 H0 Γ b (some y)) (hc : X.calm = true := by rfl) (hg : Gl X "max" := by rfl) (hs : starEach [a, b] X.env = (false, eval a X.env) :: starEach [b] X.env := by rfl) (hs2 : starEach [b] X.env = (false, eval b X.env) :: starEach [] X.env := by rfl) (hpl : (backTo pos (starEach [b] X.env)).any (·.1) = false := by rfl) :
    JE X R0 H0 Γ (.Call (.Name "max" p) [a, b] [] pos) (some (smax x y)) := je_maxs hm h h2 hc hg hs hs2 hpl
end
end FK

namespace FK
open PySem PySem.Spec PyProof.Rows L2
theorem sqt_ex {K : PySem.W.Frag} {H H' : Hp} {p : Addr} {xs : List V} (e : Ex H H') (h : SqT K H p xs) : SqT K H' p xs := h.elim (fun z => .inl (rd_ex e z)) .inr
section
variable {X : Cx} {R0 H0 : Hp} {Γ : List Slot} {e a b c o tg : Expr} {pos : Pos} {st : Stmt} {stmts : List Stmt}
section
variable {α : Type} [Py α] [DecidableEq α] [PySem.W.DatumOrd α] [Dh α] [Dso α] [Dq α]
def sSort (x : List α) : Option (List α) := if x.length ≤ 16000000 then some (srt x) else none
theorem jo_srt_t {p : Pos} {x : List α} (hm : X.mg "sorted" = none) (hu : X.A.units + 64 < cLine) (h : JB X R0 H0 Γ a (some x)) (hd : PySem.W.Datum.depth α ≤ 60 := by decide) (hg : Gl X "sorted" := by rfl) (hs : starEach (a :: []) X.env = (false, eval a X.env) :: starEach [] X.env := by rfl) (hpl : (backTo pos (starEach ([] : List Expr) X.env)).any (·.1) = false := by rfl) :
    JO X R0 H0 Γ (.Call (.Name "sorted" p) [a] [] pos) (sSort x) := jo_sorted hm hu h hd hg hs hpl
end
/-! ### how many items a tuple has -/
/-! ### a range by steps -/
def rangek (i j c : Int) : Option (List Int) := if c ≠ 0 ∧ c.natAbs < 1073741824 ∧ Builtin.Range.small i j c = true ∧ 0 ≤ Builtin.Range.rangeSize i j c then some ((List.range (Builtin.Range.rangeSize i j c).toNat).map fun (k : Nat) => i + k * c) else none
/-! ### a sign between two -/
theorem ty_tup {K : PySem.W.Frag} {H : Hp} {p : Addr} {vs : List V} (h : SqT K H p vs) : TyX K H (.ref p) (.type "tuple") := by
  rcases h with (hp | ⟨ob, hp⟩) | ⟨ob, its, n, hp, hc, _⟩
  · exact .base (.tup hp)
  · exact .fTuple hp
  · exact .kTuple hp hc
instance {α β : Type} [Py α] [Py β] : Ty (α × β) := ⟨"tuple", fun {K R H v a} i h => by
  obtain ⟨p, vs, rfl, hp, _⟩ := h
  exact ty_tup (sqt_ex i (dsq hp))⟩
instance {α β γ : Type} [Py α] [Py β] [Py γ] : Ty (T3 α β γ) := ⟨"tuple", fun {K R H v a} i h => by
  obtain ⟨p, vs, rfl, hp, _⟩ := h
  exact ty_tup (sqt_ex i (dsq hp))⟩
instance {α β γ δ : Type} [Py α] [Py β] [Py γ] [Py δ] : Ty (T4 α β γ δ) := ⟨"tuple", fun {K R H v a} i h => by
  obtain ⟨p, vs, rfl, hp, _⟩ := h
  exact ty_tup (sqt_ex i (dsq hp))⟩
/-! ### a tuple walked -/
end
end FK

/-! list(reversed(xs)): a new list -/
namespace FK
open PySem PySem.Spec PyProof.Rows
section
variable {prog : Program} {w : World} {A : Around} {E : Value → Shared → Prop} {s : Shared}
theorem extend_rev {R : Result → Shared → Prop} {it l : Addr} {items : Array Value} (hh : A.handled = none) (hit : s.heap.IsRevIter it l ((items.size : Int) - 1)) (hl : s.heap.IsList l items) (hne : l ≠ it) (hn : items.size ≤ sizeLine)
    (S : Addr) (res : Value) (c₀ : Nat) (hS : s.heap.get? S = some { cls := .type "list", data := .seq #[] c₀ }) (hSi : S ≠ it) (hSl : S ≠ l)
    (hR : ∀ h' tk acc' c', (∀ b o, b ≠ S → b ≠ it → s.heap.get? b = some o → h'.get? b = some o) → h'.get? S = some { cls := .type "list", dict := none, data := .seq acc' c', slots := #[] } →
      ItemsOf (fun i v => items[items.size - 1 - i]? = some v) acc' items.size → R (.ok (.ret res)) { s with heap := h', toks := tk }) :
    wpAny (model prog w) A.in1 (Builtin.List.listExtendWith (.ref S) (.ref it) res)
      (fun fin s' => match fin with | .done f => R (.ok f) s' | .again c' => c'.quiet = true ∧ codeAny (model prog w) A c' R s') (fun e s' => R (.error e) s') s := by
  have W := (Walks.listRev (prog := prog) (w := w) (A := A.in1) hh it l hne items).toS
  have hSf : S ∉ [it, l] := by simp only [List.mem_cons, List.not_mem_nil, or_false, not_or]; exact ⟨hSi, hSl⟩
  have hT : s.TypeIs (.ref it) "list_reverseiterator" := hit.typeIs
  have h1 : Builtin.List.listSameRef (.ref S) (.ref it) = false := by simp [Builtin.List.listSameRef, hSi]
  unfold Builtin.List.listExtendWith
  refine wpAny_bind (wpAny_typeOf hT ?_)
  rw [if_neg (by rw [h1]; decide)]
  refine wpAny_bind (wpAny_pyIter_revIter hit ?_)
  refine wpAny_bind (wpAny_holding ?_)
  unfold Builtin.List.listLengthHint
  refine wpAny_bind (wpAny_specialOf hT RT.nolen_lri ?_)
  show wpAny _ A.in1 (specialOf (Value.ref it) (Str.ofString "__length_hint__") >>= _) _ _ _
  refine wpAny_bind (wpAny_specialOf hT RT.hint_lri ?_)
  generalize hid : ("list_reverseiterator.__length_hint__" : String) = id0
  wp_delta
  rw [show splitId id0 = some ("list_reverseiterator", "__length_hint__") from by subst hid; decide +kernel]
  subst hid
  refine wpAny_bind (wpAny_isInstance (b := true) hT (by rw [isSubtype_type]; kernel_rfl) ?_)
  refine wpAny_pure ?_
  rw [if_neg (by decide)]
  have e0 : ((items.size : Nat) : Int) - 1 - ((0 : Nat) : Int) = (items.size : Int) - 1 := by omega
  refine wpAny_pure ⟨plainId_quiet F.plain_extend_loop _, codeAny_extend_loopS W hn S hSf res items.size 0 _ #[] c₀ rfl (Nat.zero_le _) ⟨Nat.zero_le _, by rw [e0]; exact hit, hl⟩ hS (ItemsOf.nil _) fun s' acc' c' hm hS' hacc => ?_⟩
  rw [Moved.eq_with hm]
  refine hR s'.heap s'.toks acc' c' (fun b o hb hb2 e => hm.heap b o (fun hmem => ?_) e) hS' hacc
  rcases List.mem_cons.mp hmem with e' | hmem
  · exact hb e'
  · exact hb2 (List.mem_singleton.mp hmem)
theorem list_init_rev {R : Result → Shared → Prop} {it l : Addr} {items : Array Value} (hh : A.handled = none) (hit : s.heap.IsRevIter it l ((items.size : Int) - 1)) (hl : s.heap.IsList l items) (hne : l ≠ it) (hn : items.size ≤ sizeLine)
    (S : Addr) (hS : s.heap.get? S = some { cls := .type "list", data := .seq #[] }) (hSi : S ≠ it) (hSl : S ≠ l)
    (hR : ∀ h' tk acc' c', (∀ b o, b ≠ S → b ≠ it → s.heap.get? b = some o → h'.get? b = some o) → h'.get? S = some { cls := .type "list", dict := none, data := .seq acc' c', slots := #[] } →
      ItemsOf (fun i v => items[items.size - 1 - i]? = some v) acc' items.size → R (.ok (.ret .none)) { s with heap := h', toks := tk }) :
    wpAny (model prog w) A.in1 (Builtin.«list.__init__» ⟨[.ref S, .ref it], []⟩)
      (fun fin s' => match fin with | .done f => R (.ok f) s' | .again c' => c'.quiet = true ∧ codeAny (model prog w) A c' R s') (fun e s' => R (.error e) s') s := by
  show wpAny _ _ (do let old ← Builtin.List.listItems (.ref S); Builtin.List.listUpdate (.ref S) (fun _ => #[]); letGo old.toList.reverse; Builtin.List.listExtendWith (.ref S) (.ref it) .none) _ _ s
  refine wpAny_bind ?_
  unfold Builtin.List.listItems
  refine wpAny_bind (wpAny_seqItems hS rfl (wpAny_pure ?_))
  show wpAny _ _ (updateSeq S (fun _ => #[]) >>= fun _ => letGo (#[] : Array Value).toList.reverse >>= fun _ => Builtin.List.listExtendWith (.ref S) (.ref it) .none) _ _ s
  refine wpAny_bind (wpAny_updateSeq hS rfl ?_)
  have hS₂ := Heap.get?_update_self (Obj.mapSeq (fun _ => (#[] : Array Value))) hS rfl
  have oth : ∀ b o, b ≠ S → s.heap.get? b = some o → (s.heap.update S (Obj.mapSeq (fun _ => (#[] : Array Value)))).get? b = some o :=
    fun b o hb e => (Heap.get?_update_other _ _ (Ne.symm hb)).trans e
  refine wpAny_bind (wpAny_letGo ?_)
  have hl2 : (s.heap.update S (Obj.mapSeq (fun _ => (#[] : Array Value)))).IsList l items := by
    obtain ⟨o, ho, r⟩ := hl
    exact ⟨o, oth l o (Ne.symm hSl) ho, r⟩
  refine extend_rev (s := { s with heap := s.heap.update S (Obj.mapSeq (fun _ => (#[] : Array Value))) }) hh (hit.at fun o e => oth it o (Ne.symm hSi) e) hl2 hne hn S .none _ hS₂ hSi hSl fun h' tk acc' c' hk hS' hacc => ?_
  exact hR h' tk acc' c' (fun b o hb hb2 e => hk b o hb hb2 (oth b o hb e)) hS' hacc
theorem call_list_rev {Q : Value → Shared → Prop} {it l : Addr} {items : Array Value} (hh : A.handled = none) (hit : s.heap.IsRevIter it l ((items.size : Int) - 1)) (hl : s.heap.IsList l items) (hne : l ≠ it) (hn : items.size ≤ sizeLine)
    (hQ : ∀ h' tk acc' c', (∀ b o, b ≠ it → s.heap.get? b = some o → h'.get? b = some o) →
      h'.get? s.heap.objs.size = some { cls := .type "list", dict := none, data := .seq acc' c', slots := #[] } → ItemsOf (fun i v => items[items.size - 1 - i]? = some v) acc' items.size → Q (.ref s.heap.objs.size) { s with heap := h', toks := tk }) :
    wpAny (model prog w) A (call (.type "list") [.ref it]) Q E s := by
  refine callType_codes (Q₁ := fun obj s₁ => obj = .ref s.heap.objs.size ∧ s₁ = { s with heap := s.heap.push { cls := .type "list", data := .seq #[] } }) F.called_list (F.typeCall_list_1 _) F.entry_list_init
    (code_list_new _ ⟨rfl, rfl⟩) fun obj s₁ h₁ => ?_
  obtain ⟨rfl, rfl⟩ := h₁
  have hS : (s.heap.push { cls := .type "list", data := .seq #[] }).get? s.heap.objs.size = some { cls := .type "list", data := .seq #[] } := Heap.get?_push_size _ rfl
  obtain ⟨oi, hoi, _⟩ := id hit
  obtain ⟨ol, hol, _⟩ := id hl
  refine ⟨⟨_, hS, rfl⟩, F.args_list_init_2 _ _, list_init_rev (A := A.in1) (s := { s with heap := s.heap.push { cls := .type "list", data := .seq #[] } }) hh (hit.at fun o e => Heap.get?_push_of_some _ e) (hl.push _) hne hn _ hS (Nat.ne_of_gt (Heap.lt_size hoi)) (Nat.ne_of_gt (Heap.lt_size hol)) fun h' tk acc' c' hk hS' hacc => ?_⟩
  exact ⟨rfl, hQ h' tk acc' c' (fun b o hb e => hk b o (Nat.ne_of_lt (Heap.lt_size e)) hb (Heap.get?_push_of_some _ e)) hS' hacc⟩
end
open L2
/-- list(reversed(x)), x a list -/
def tListRev (K : PySem.W.Frag) (te : TE) : TE := fun σ H Q => te σ H fun v H1 => ∃ (a : Addr) (xs : List V), v = .ref a ∧ SqL K H1 a xs ∧ ∀ q, H1 q = none → Q (.ref q) (upd H1 q (.lst xs.reverse))
section
variable {X : Cx} {R0 H0 : Hp} {Γ : List Slot} {e : Expr}
theorem pe_listRev {te : TE} {p p2 pos pos2 : Pos} (hc : X.calm = true) (hg : Gl X "list") (hm : X.mg "list" = none) (hg2 : Gl X "reversed") (hm2 : X.mg "reversed" = none) (he : PE X e te)
    (hs : starEach [e] X.env = (false, eval e X.env) :: starEach [] X.env := by rfl)
    (hs2 : starEach [.Call (.Name "reversed" p2) [e] [] pos2] X.env = (false, eval (.Call (.Name "reversed" p2) [e] [] pos2) X.env) :: starEach [] X.env := by rfl) :
    PE X (.Call (.Name "list" p) [.Call (.Name "reversed" p2) [e] [] pos2] [] pos) (tListRev X.K te) := by
  refine ⟨fun pins s σ H Q I h => ?_⟩
  refine Call_ (ld_blt I hg hm (show bootBuiltins "list" = some (.type "list") by decide +kernel) (PyProof.Rows.callWith_type1 (args_cons (Call_ (ld_blt I hg2 hm2 PyProof.Rows.boot_reversed (PyProof.Rows.callWith_type1 (args_cons (thn (he.run pins s σ H _ I h) fun u s1 ⟨v, H1, I1, r1, q1⟩ => args_nil ?_) hs) hs rfl))) hs2) hs2 rfl))
  obtain ⟨a, xs, ev, hq, q⟩ := q1
  subst ev
  obtain rfl : u = Value.ref a := r1
  obtain ⟨its, rv, p', hz⟩ := I1.list hq
  refine call_reversed_list p'.isList (args_nil ?_)
  have k0 : ∀ b o, s1.heap.get? b = some o → (s1.heap.push (revObj a ((its.toArray.size : Int) - 1))).get? b = some o := fun b o e => Heap.get?_push_of_some _ e
  have I2 : Inv X pins σ H1 { s1 with heap := s1.heap.push (revObj a ((its.toArray.size : Int) - 1)) } := I1.kept (t' := s1.toks) k0
  obtain ⟨f0, f1, f2, f3, f4, f5⟩ := I1.fpOk (H' := H1) (b := s1.heap.objs.size) (Nat.le_refl _) (I1.hok.fresh (Nat.le_refl _))
  have hl := p'.isList
  obtain ⟨ol, hol, _⟩ := id hl
  have hne : a ≠ s1.heap.objs.size := Nat.ne_of_lt (Heap.lt_size hol)
  have hn : its.toArray.size ≤ sizeLine := by rw [List.size_toArray, ← rv.length]; exact hz
  have hsz2 : (s1.heap.push (revObj a ((its.toArray.size : Int) - 1))).objs.size = s1.heap.objs.size + 1 := Heap.size_push ..
  refine call_list_rev (s := { s1 with heap := s1.heap.push (revObj a ((its.toArray.size : Int) - 1)) }) (I1.ok.hd hc) ⟨_, Heap.get?_push_size _ rfl, rfl, rfl⟩ (hl.push _) hne hn fun h' tk acc c' hk hS' hi => ?_
  have kk : ∀ b o, s1.heap.get? b = some o → h'.get? b = some o := fun b o e => hk b o (Nat.ne_of_lt (Heap.lt_size e)) (Heap.get?_push_of_some _ e)
  have hS2 : h'.get? (s1.heap.objs.size + 1) = some { cls := .type "list", dict := none, data := .seq acc c', slots := #[] } := by rw [← hsz2]; exact hS'
  have hfr : H1 (s1.heap.objs.size + 1) = none := I1.hok.fresh (Nat.le_succ _)
  have eS : (s1.heap.push (revObj a ((its.toArray.size : Int) - 1))).objs.size = s1.heap.objs.size + 1 := hsz2
  show ∃ x H', _
  refine ⟨.ref (s1.heap.objs.size + 1), upd H1 (s1.heap.objs.size + 1) (.lst xs.reverse), I1.laid (t' := tk) kk (Nat.le_succ _) ⟨by rw [List.length_reverse]; exact hz, acc.toList, c', RT.vals_rev rv hi, hS2⟩, ?_, q _ hfr⟩
  show Value.ref _ = Value.ref _
  exact congrArg Value.ref eS
theorem jo_lrev {α : Type} [Py α] {p p2 pos pos2 : Pos} {m : Option (List α)} (hm : X.mg "list" = none) (hm2 : X.mg "reversed" = none) (h : JB X R0 H0 Γ e m) (hc : X.calm = true := by rfl) (hg : Gl X "list" := by rfl) (hg2 : Gl X "reversed" := by rfl) (hs : starEach [e] X.env = (false, eval e X.env) :: starEach [] X.env := by rfl)
    (hs2 : starEach [.Call (.Name "reversed" p2) [e] [] pos2] X.env = (false, eval (.Call (.Name "reversed" p2) [e] [] pos2) X.env) :: starEach [] X.env := by rfl) :
    JO X R0 H0 Γ (.Call (.Name "list" p) [.Call (.Name "reversed" p2) [e] [] pos2] [] pos) (m.bind fun x => some x.reverse) := .mk fun σ R H S z ez Q q => by
  obtain ⟨x, ex, ez⟩ := bind_some' ez
  cases ez
  refine PE_to (pe_listRev hc hg hm hg2 hm2 eS hs hs2) (h σ R H S x ex _ fun v R1 H1 x1 r1 => ?_)
  obtain ⟨a, o, rfl, hp, vs, rfl, hv⟩ := r1
  exact ⟨a, vs, rfl, .inl hp, fun d hd => q d _ R1 _ (x1.trans (.own x1.i hd)) (x1.h.none hd) upd_same (x1.i.none hd) ⟨_, rfl, hv.rev⟩⟩
theorem jo_lrev_t {α : Type} [Py α] {p p2 pos pos2 : Pos} {x : List α} (hm : X.mg "list" = none) (hm2 : X.mg "reversed" = none) (h : JB X R0 H0 Γ e (some x)) (hc : X.calm = true := by rfl) (hg : Gl X "list" := by rfl) (hg2 : Gl X "reversed" := by rfl) (hs : starEach [e] X.env = (false, eval e X.env) :: starEach [] X.env := by rfl)
    (hs2 : starEach [.Call (.Name "reversed" p2) [e] [] pos2] X.env = (false, eval (.Call (.Name "reversed" p2) [e] [] pos2) X.env) :: starEach [] X.env := by rfl) :
    JO X R0 H0 Γ (.Call (.Name "list" p) [.Call (.Name "reversed" p2) [e] [] pos2] [] pos) (some x.reverse) := jo_lrev hm hm2 h hc hg hg2 hs hs2
section
variable {a b : Expr} {pos : Pos}
end
end
instance {α : Type} [Py α] : Ty (Tl α) := ⟨"tuple", fun {K R H v a} i h => by
  obtain ⟨p, vs, rfl, hp, _⟩ := h
  exact ty_tup (sqt_ex i hp)⟩
end FK

/-! dicts of one's own, the keys ints or texts -/
namespace FK
open PySem PySem.Spec PyProof.Rows L2
/-- in, for pairs -/
def lMem {α : Type} [DecidableEq α] (x : α) (y : List α) : Bool := decide (x ∈ y)
structure Dct (κ α : Type) where
  l : List (κ × α)
class Kq (κ : Type) [Py κ] [DecidableEq κ] where
  key : κ → L2.Key
  inj : ∀ {a b : κ}, key a = key b → a = b
  bv : ∀ {K : PySem.W.Frag} {R H : Hp} {v : V} {a : κ}, bor K R H v a → v = kV (key a)
  vr : ∀ {K : PySem.W.Frag} {R : Hp} (a : κ), rep K R (kV (key a)) a
instance instKqInt : Kq Int := ⟨Sum.inl, fun h => Sum.inl.inj h, fun h => h, fun _ => rfl⟩
instance instKqStr : Kq Str := ⟨Sum.inr, fun h => Sum.inr.inj h, fun h => h, fun _ => rfl⟩
section
variable {κ α : Type} [Py κ] [DecidableEq κ] [Kq κ] [Py α]
inductive DR (K : PySem.W.Frag) (R : Hp) : List (L2.Key × V) → List (κ × α) → Prop
  | nil : DR K R [] []
  | cons {k : κ} {v : V} {a : α} {vs : List (L2.Key × V)} {l : List (κ × α)} : rep K R v a → DR K R vs l → DR K R ((Kq.key k, v) :: vs) ((k, a) :: l)
theorem DR.mono {K : PySem.W.Frag} {R R' : Hp} (e : Ex R R') : ∀ {vs : List (L2.Key × V)} {l : List (κ × α)}, DR K R vs l → DR K R' vs l
  | _, _, .nil => .nil
  | _, _, .cons h t => .cons (Py.mono e h) (t.mono e)
theorem DR.len {K : PySem.W.Frag} {R : Hp} : ∀ {vs : List (L2.Key × V)} {l : List (κ × α)}, DR K R vs l → vs.length = l.length
  | _, _, .nil => rfl
  | _, _, .cons _ t => congrArg (· + 1) t.len
instance instObDct : Ob (Dct κ α) where
  nt := fun ⟨_, h, _⟩ => by rw [h]; rfl
  ho := fun K R o d => ∃ kvs, o = .dK kvs ∧ DR K R kvs d.l
  mono := fun e ⟨kvs, h, q⟩ => ⟨kvs, h, q.mono e⟩
def dGet (l : List (κ × α)) (k : κ) : Option α := (l.find? fun p => decide (p.1 = k)).map (·.2)
def dHas (l : List (κ × α)) (k : κ) : Bool := (dGet l k).isSome
def dPut (l : List (κ × α)) (k : κ) (a : α) : List (κ × α) := if (l.any fun p => decide (p.1 = k)) = true then l.map (fun p => if p.1 = k then (p.1, a) else p) else l ++ [(k, a)]
theorem key_dec (a b : κ) : decide (Kq.key a = Kq.key b) = decide (a = b) := by
  by_cases h : a = b
  · rw [decide_eq_true h, decide_eq_true (by rw [h])]
  · rw [decide_eq_false h, decide_eq_false fun z => h (Kq.inj z)]
theorem DR.get {K : PySem.W.Frag} {R : Hp} (k : κ) : ∀ {vs : List (L2.Key × V)} {l : List (κ × α)}, DR K R vs l → (dGet l k = none ∧ valV vs (Kq.key k) = none) ∨ ∃ a v, dGet l k = some a ∧ valV vs (Kq.key k) = some v ∧ rep K R v a
  | _, _, .nil => .inl ⟨rfl, rfl⟩
  | _, _, .cons (k := k') (v := v) (a := a) (vs := vs) (l := l) h t => by
    by_cases e : k' = k
    · subst e
      refine .inr ⟨a, v, ?_, ?_, h⟩
      · unfold dGet
        rw [List.find?_cons, decide_eq_true rfl]
        rfl
      · exact valV_pos rfl
    · have e2 : ¬ Kq.key k' = Kq.key k := fun z => e (Kq.inj z)
      have g1 : dGet ((k', a) :: l) k = dGet l k := by
        unfold dGet
        rw [List.find?_cons, decide_eq_false e]
      rw [g1, valV_neg (p := (Kq.key k', v)) e2]
      exact t.get k
theorem DR.any {K : PySem.W.Frag} {R : Hp} (k : κ) : ∀ {vs : List (L2.Key × V)} {l : List (κ × α)}, DR K R vs l → (vs.any fun p => decide (p.1 = Kq.key k)) = l.any fun p => decide (p.1 = k)
  | _, _, .nil => rfl
  | _, _, .cons (k := k') h t => by
    rw [List.any_cons, List.any_cons, t.any k]
    show (decide (Kq.key k' = Kq.key k) || _) = _
    rw [key_dec]
theorem DR.repl {K : PySem.W.Frag} {R : Hp} (k : κ) {v : V} {a : α} (r : rep K R v a) : ∀ {vs : List (L2.Key × V)} {l : List (κ × α)}, DR K R vs l → DR K R (vs.map fun p => if p.1 = Kq.key k then (p.1, v) else p) (l.map fun p => if p.1 = k then (p.1, a) else p)
  | _, _, .nil => .nil
  | _, _, .cons (k := k') h t => by
    rw [List.map_cons, List.map_cons]
    by_cases e : k' = k
    · rw [if_pos (show Kq.key k' = Kq.key k by rw [e]), if_pos e]
      exact .cons r (t.repl k r)
    · rw [if_neg (show ¬ Kq.key k' = Kq.key k from fun z => e (Kq.inj z)), if_neg e]
      exact .cons h (t.repl k r)
theorem DR.snoc {K : PySem.W.Frag} {R : Hp} (k : κ) {v : V} {a : α} (r : rep K R v a) : ∀ {vs : List (L2.Key × V)} {l : List (κ × α)}, DR K R vs l → DR K R (vs ++ [(Kq.key k, v)]) (l ++ [(k, a)])
  | _, _, .nil => .cons r .nil
  | _, _, .cons h t => .cons h (t.snoc k r)
theorem DR.put {K : PySem.W.Frag} {R : Hp} (k : κ) {v : V} {a : α} (r : rep K R v a) {vs : List (L2.Key × V)} {l : List (κ × α)} (h : DR K R vs l) : DR K R (putK vs (Kq.key k) v) (dPut l k a) := by
  unfold putK dPut
  rw [h.any k]
  split
  · exact h.repl k r
  · exact h.snoc k r
theorem DR.keys {K : PySem.W.Frag} {R : Hp} : ∀ {vs : List (L2.Key × V)} {l : List (κ × α)}, DR K R vs l → AllR K R (vs.map fun p => kV p.1) (l.map (·.1))
  | _, _, .nil => .nil
  | _, _, .cons h t => .cons (Kq.vr _) t.keys
variable {X : Cx} {R0 H0 : Hp} {Γ : List Slot} {e a b o : Expr} {pos : Pos}
theorem je_dget {mo : Option (Dct κ α)} {mk : Option κ} (hu : X.A.units + 64 < cLine) (ho : JB X R0 H0 Γ a mo) (hk : JB X R0 H0 Γ b mk) (hs : NoSl b) : JE X R0 H0 Γ (.Subscript a b pos) (mo.bind fun d => mk.bind fun k => dGet d.l k) := .mk fun σ R H S z ez Q q => by
  obtain ⟨d, ed, ez⟩ := bind_some' ez
  obtain ⟨k, ek, ez⟩ := bind_some' ez
  refine PE_to (pe_dget (by omega) eS eS hs) (ho σ R H S d ed _ fun v R1 H1 x1 r1 => hk σ R1 H1 (S.ext x1) k ek _ fun w R2 H2 x2 r2 => ?_)
  obtain ⟨p, ob, rfl, hp, kvs, rfl, hd⟩ := Py.bmono x2.r x2.h r1
  have r2 := Kq.bv r2
  subst r2
  rcases hd.get k with ⟨g1, g2⟩ | ⟨a, v, g1, g2, g3⟩
  · rw [g1] at ez
    cases ez
  · rw [g1] at ez
    cases ez
    exact ⟨p, v, rfl, .inl ⟨kvs, Kq.key k, hp, rfl, g2.symm⟩, q v R2 H2 (x1.trans x2) g3⟩
theorem je_dget_t {d : Dct κ α} {k : κ} (hu : X.A.units + 64 < cLine) (ho : JB X R0 H0 Γ a (some d)) (hk : JB X R0 H0 Γ b (some k)) (hs : NoSl b) : JE X R0 H0 Γ (.Subscript a b pos) (dGet d.l k) := je_dget hu ho hk hs
end
section
variable {κ α : Type} [Py κ] [DecidableEq κ] [Kq κ] [Py α] {X : Cx} {R0 H0 : Hp} {Γ : List Slot} {e a b o : Expr} {pos : Pos} {mo : Option (Dct κ α)} {mk : Option κ} {d : Dct κ α} {k : κ}
theorem dget_o {K : PySem.W.Frag} {R H : Hp} {p : Addr} {kvs : List (L2.Key × V)} {l : List (κ × α)} (hp : Rd H p (.dK kvs)) (hd : DR K R kvs l) (k : κ) : ∃ r, DGet H p (kV (Kq.key k)) r ∧ r.isSome = dHas l k := by
  refine ⟨_, .inl ⟨kvs, Kq.key k, hp, rfl, rfl⟩, ?_⟩
  unfold dHas
  rcases hd.get k with ⟨g1, g2⟩ | ⟨a, v, g1, g2, _⟩
  · rw [g1, g2]
    rfl
  · rw [g1, g2]
    rfl
theorem jt_nind (hu : X.A.units + 64 < cLine) (hk : JB X R0 H0 Γ a mk) (ho : JB X R0 H0 Γ b mo) (hm : behindInMarks .NotIn b = false := by rfl) : JT X R0 H0 Γ (.Compare a [.NotIn] [b] pos) (mk.bind fun k => mo.bind fun d => some (!dHas d.l k)) := .mk fun σ R H S z ez Q q => by
  obtain ⟨k, ek, ez⟩ := bind_some' ez
  obtain ⟨d, ed, ez⟩ := bind_some' ez
  cases ez
  refine PT_to (pt_cmp (pc_dnotin (by omega) eS eS) hm) (hk σ R H S k ek _ fun w R1 H1 x1 r1 => ho σ R1 H1 (S.ext x1) d ed _ fun v R2 H2 x2 r2 => ?_)
  obtain ⟨p, ob, rfl, hp, kvs, rfl, hd⟩ := r2
  have r1 := Kq.bv r1
  subst r1
  obtain ⟨r, g, e⟩ := dget_o hp hd k
  refine ⟨p, r, rfl, g, ?_⟩
  rw [e]
  exact ⟨_, rfl, q R2 H2 (x1.trans x2)⟩
theorem jt_nind_t (hu : X.A.units + 64 < cLine) (hk : JB X R0 H0 Γ a (some k)) (ho : JB X R0 H0 Γ b (some d)) (hm : behindInMarks .NotIn b = false := by rfl) : JT X R0 H0 Γ (.Compare a [.NotIn] [b] pos) (some (!dHas d.l k)) := jt_nind hu hk ho hm
def dSet (d : Dct κ α) (k : κ) (a : α) : Option (Dct κ α) := if d.l.length < 16000000 then some ⟨dPut d.l k a⟩ else none
end
/-! ### l.index(x), x there -/
class Fv (α : Type) [Py α] [DecidableEq α] extends Sc α where
  fl : ∀ a : α, flatV (to a) = true
  ev : ∀ a b : α, eqV (to a) (to b) = decide (a = b)
  tr : ∀ {K : PySem.W.Frag} {R : Hp} {v : V} {a : α}, rep K R v a → v = to a
theorem evInt (a b : Int) : (a == b) = decide (a = b) := by
  by_cases h : a = b
  · rw [decide_eq_true h, beq_iff_eq]
    exact h
  · rw [decide_eq_false h]
    exact beq_eq_false_iff_ne.mpr h
theorem evStr (a b : Str) : (a == b) = decide (a = b) := by
  by_cases h : a = b
  · rw [decide_eq_true h, beq_iff_eq]
    exact h
  · rw [decide_eq_false h]
    exact beq_eq_false_iff_ne.mpr h
instance instFvInt : Fv Int := { instScInt with fl := fun _ => rfl, ev := evInt, tr := fun h => h }
instance instFvStr : Fv Str := { instScStr with fl := fun _ => rfl, ev := evStr, tr := fun h => h }
section
variable {α : Type} [Py α] [DecidableEq α] [Fv α] {X : Cx} {R0 H0 : Hp} {Γ : List Slot} {e o : Expr} {pos : Pos}
def lIdx (l : List α) (x : α) : Option Int := if x ∈ l then some (l.idxOf x : Int) else none
end
end FK

/-! a value or None -/
namespace FK
open PySem PySem.Spec PyProof.Rows L2
class Nn (α : Type) [Py α] : Prop where
  nn : ∀ {K : PySem.W.Frag} {R : Hp} {v : V} {a : α}, rep K R v a → v ≠ .non
instance : Nn Int := ⟨fun {K R v a} h e => by rw [e] at h; cases h⟩
instance : Nn Bool := ⟨fun {K R v a} h e => by rw [e] at h; cases h⟩
instance : Nn Str := ⟨fun {K R v a} h e => by rw [e] at h; cases h⟩
instance instNnOb {α : Type} [Ob α] : Nn α := ⟨fun {K R v a} h e => by obtain ⟨p, o, h, _⟩ := h; rw [e] at h; cases h⟩
instance {α β : Type} [Py α] [Py β] : Nn (α × β) := ⟨fun {K R v a} h e => by obtain ⟨p, o, h, _⟩ := h; rw [e] at h; cases h⟩
instance {α β γ : Type} [Py α] [Py β] [Py γ] : Nn (T3 α β γ) := ⟨fun {K R v a} h e => by obtain ⟨p, o, h, _⟩ := h; rw [e] at h; cases h⟩
instance {α β γ δ : Type} [Py α] [Py β] [Py γ] [Py δ] : Nn (T4 α β γ δ) := ⟨fun {K R v a} h e => by obtain ⟨p, o, h, _⟩ := h; rw [e] at h; cases h⟩
instance instPyOpt {α : Type} [Py α] : Py (Option α) where
  rep := fun K R v o => match o with
    | none => v = .non
    | some a => Py.rep K R v a ∧ v ≠ .non
  bor := fun K R H v o => match o with
    | none => v = .non
    | some a => Py.bor K R H v a ∧ v ≠ .non
  mono := fun {K R R' v a} e h => match a, h with
    | none, h => h
    | some a, h => ⟨Py.mono e h.1, h.2⟩
  bmono := fun {K R R' H H' v a} e e2 h => match a, h with
    | none, h => h
    | some a, h => ⟨Py.bmono e e2 h.1, h.2⟩
  lend := fun {K R H v a} e h => match a, h with
    | none, h => h
    | some a, h => ⟨Py.lend e h.1, h.2⟩
section
variable {α : Type} [Py α] {X : Cx} {R0 H0 : Hp} {Γ : List Slot} {e : Expr} {pos p2 : Pos} {j : Nat} {m : Option α} {mo : Option (Option α)} {o : Option α}
end
end FK

/-! text times a number -/
namespace FK
open PySem PySem.Spec PyProof.Rows L2
theorem op_muls {X : Cx} : OpR X (binaryOp .Mult) (fun x y H Q => ∃ i n, x = .str i ∧ y = .int n ∧ MulOk i n ∧ Q (.str (Txt.mul i n)) H) := by
  intro pins s σ H x y v u Q I rx ry h
  obtain ⟨i, j, rfl, rfl, hz, q⟩ := h
  obtain ⟨t, rfl⟩ := rx
  obtain ⟨t', rfl⟩ := ry
  exact PySem.SB.mul hz (fun t' k => ⟨.str (Txt.mul i j), H, I.tok _, ⟨_, rfl⟩, q⟩)
def sMul (x : Str) (n : Int) : Option Str := if x.length ≤ 4000 ∧ n ≤ 4000 ∧ -(2 ^ 63 : Int) ≤ n then some (Txt.mul x n) else none
section
variable {X : Cx} {R0 H0 : Hp} {Γ : List Slot} {a b : Expr} {pos : Pos}
theorem je_muls {ma : Option Str} {mb : Option Int} (ha : JB X R0 H0 Γ a ma) (hb : JB X R0 H0 Γ b mb) : JE X R0 H0 Γ (.BinOp a .Mult b pos) (ma.bind fun x => mb.bind fun y => sMul x y) := je_op2 op_muls (fun R H v w x y z i h1 h2 h3 Q q => by
  unfold sMul at h3
  by_cases h : x.length ≤ 4000 ∧ y ≤ 4000 ∧ -(2 ^ 63 : Int) ≤ y
  · rw [if_pos h] at h3
    cases h3
    exact ⟨x, y, h1, h2, mulOk_of 4000 4000 h.1 h.2.1 h.2.2 (by decide) (by decide), q _ R H (.refl i) rfl⟩
  · rw [if_neg h] at h3
    cases h3) ha hb
theorem je_muls_t {x : Str} {y : Int} (ha : JB X R0 H0 Γ a (some x)) (hb : JB X R0 H0 Γ b (some y)) : JE X R0 H0 Γ (.BinOp a .Mult b pos) (sMul x y) := je_muls ha hb
end
end FK
namespace FK
open PySem PySem.Spec PyProof.Rows L2
theorem str_ext {a b : Str} (h : a.cps.toList = b.cps.toList) : a = b := by
  cases a; cases b
  exact congrArg _ (Array.toList_inj.mp h)
end FK
namespace FK
open PySem PySem.Spec PyProof.Rows L2
theorem DR.strs {K : PySem.W.Frag} {R : Hp} {α : Type} [Py α] : ∀ {vs : List (L2.Key × V)} {l : List (Str × α)}, DR K R vs l → vs.map (·.1) = (l.map (·.1)).map Sum.inr
  | _, _, .nil => rfl
  | _, _, .cons (k := k) h t => congrArg (Sum.inr k :: ·) t.strs
section
variable {α : Type} [Py α] {X : Cx} {R0 H0 : Hp} {Γ : List Slot} {e a b o : Expr} {pos : Pos} {d : Dct Str α}
end
end FK

namespace FK
open PySem PySem.Spec PyProof.Rows L2
/-! ### small questions asked of keys -/
section
variable {P : Program} {w : World}
def NoCls (P : Program) (w : World) (n : Nat) (s : Shared) (v : Value) : Prop := ∀ (A : Around) (E : Value → Shared → Prop) (Q : Bool → Shared → Prop), Q false s → wpAny (model P w) A (ofAClassStatement n v) Q E s
def AnyHb (P : Program) (w : World) (n : Nat) (s : Shared) (v : Value) : Prop := ∀ (A : Around) (E : Value → Shared → Prop) (Q : Bool → Shared → Prop), (∀ b, Q b s) → wpAny (model P w) A (hashByValue n v) Q E s
theorem NoCls.flat {n : Nat} {s : Shared} {v : Value} (e : ofAClassStatement n v = pure false) : NoCls P w n s v := fun A E Q q => by
  rw [e]
  exact wpAny_pure q
theorem AnyHb.flat {n : Nat} {s : Shared} {v : Value} {b : Bool} (e : hashByValue n v = pure b) : AnyHb P w n s v := fun A E Q q => by
  rw [e]
  exact wpAny_pure (q b)
theorem NoCls.tup {n m : Nat} {s : Shared} {d : Addr} {o : Obj} {xs : Array Value} (g : s.heap.get? d = some o) (gc : o.cls = .type "tuple") (gd : o.data = .seq xs m) (all : ∀ v ∈ xs.toList, NoCls P w n s v) : NoCls P w (n + 1) s (.ref d) := fun A E Q q => by
  have ty : s.TypeIs (.ref d) "tuple" := ⟨o, g, gc⟩
  unfold ofAClassStatement
  refine wpAny_bind (wpAny_typeOf ty ?_)
  dsimp only
  have e1 : (("tuple" : String) == "tuple") = true := rfl
  simp only [e1, if_true, Bool.not_true, Bool.false_eq_true, if_false]
  first | (refine wpAny_bind (wpAny_pure ?_); simp only [Bool.not_true, Bool.false_eq_true, if_false]) | skip
  refine wpAny_bind (m := seqItems? (.ref d)) (wpAny_seqItems g gd ?_)
  dsimp only
  refine wpAny_bind (m := forIn xs _ _) ?_
  rw [← Array.forIn_toList]
  refine wpAny_forIn_list _ (fun r b z => b.1 = none ∧ z = s ∧ ∀ v ∈ r, NoCls P w n s v) _ (fun v r b z ⟨h1, h2, h3⟩ => ?_) (fun b z ⟨h1, h2, _⟩ => ?_) _ _ ⟨rfl, rfl, all⟩
  · subst h2
    refine wpAny_bind (h3 v List.mem_cons_self _ _ _ ?_)
    simp only [Bool.false_eq_true, if_false]
    exact wpAny_pure ⟨rfl, rfl, fun u hu => h3 u (List.mem_cons_of_mem _ hu)⟩
  · obtain ⟨b1, b2⟩ := b
    simp only at h1
    subst h1 h2
    exact wpAny_pure q
theorem AnyHb.tup {n m : Nat} {s : Shared} {d : Addr} {o : Obj} {xs : Array Value} (g : s.heap.get? d = some o) (gc : o.cls = .type "tuple") (gd : o.data = .seq xs m) (all : ∀ v ∈ xs.toList, AnyHb P w n s v) : AnyHb P w (n + 1) s (.ref d) := fun A E Q q => by
  have ty : s.TypeIs (.ref d) "tuple" := ⟨o, g, gc⟩
  unfold hashByValue
  refine wpAny_bind (wpAny_specialOf ty F.slot_tuple_hash.lookup ?_)
  refine wpAny_bind (m := seqItems? (.ref d)) (wpAny_seqItems g gd ?_)
  refine wpAny_bind (m := forIn xs _ _) ?_
  rw [← Array.forIn_toList]
  refine wpAny_forIn_list _ (fun r b z => b.1 = none ∧ z = s ∧ ∀ v ∈ r, AnyHb P w n s v) _ (fun v r b z ⟨h1, h2, h3⟩ => ?_) (fun b z ⟨h1, h2, _⟩ => ?_) _ _ ⟨rfl, rfl, all⟩
  · subst h2
    refine wpAny_bind (h3 v List.mem_cons_self _ _ _ fun b0 => ?_)
    cases b0 with
    | true =>
      simp only [Bool.not_true, Bool.false_eq_true, if_false]
      exact wpAny_pure ⟨rfl, rfl, fun u hu => h3 u (List.mem_cons_of_mem _ hu)⟩
    | false =>
      simp only [Bool.not_false, if_true]
      exact wpAny_pure (wpAny_pure (q false))
  · obtain ⟨b1, b2⟩ := b
    simp only at h1
    subst h1 h2
    exact wpAny_pure (q true)
theorem oac_int (n : Nat) (i : Int) (t : Tok) : ofAClassStatement n (.int i t) = pure false := by cases n <;> rfl
theorem oac_str (n : Nat) (i : Str) (t : Tok) : ofAClassStatement n (.str i t) = pure false := by cases n <;> rfl
theorem oac_bool (n : Nat) (b : Bool) : ofAClassStatement n (.bool b) = pure false := by cases n <;> rfl
theorem oac_none (n : Nat) : ofAClassStatement n .none = pure false := by cases n <;> rfl
theorem hbv_int (n : Nat) (i : Int) (t : Tok) : hashByValue n (.int i t) = pure true := by cases n <;> rfl
theorem hbv_str (n : Nat) (i : Str) (t : Tok) : hashByValue n (.str i t) = pure false := by cases n <;> rfl
theorem hbv_bool (n : Nat) (b : Bool) : hashByValue n (.bool b) = pure true := by cases n <;> rfl
theorem hbv_none (n : Nat) : hashByValue n .none = pure true := by cases n <;> rfl
mutual
theorem nocls_key : ∀ (k : NestedKey) (v : Value) (n : Nat) (s : Shared), NestedIs s.heap k v → k.depth ≤ n → NoCls P w n s v
  | .none, _, n, s, x, _ => by cases x; exact .flat (oac_none n)
  | .num i, _, n, s, x, _ => by
    cases x with
    | bool e => exact .flat (oac_bool n _)
    | int _ t => exact .flat (oac_int n i t)
  | .text y, _, n, s, x, _ => by cases x; exact .flat (oac_str n y _)
  | .tup ks, _, n, s, x, hn => by
    cases x with
    | tup h1 h2 h3 h4 =>
      simp only [NestedKey.depth] at hn
      cases n with
      | zero => omega
      | succ n => exact .tup h1 h2 h3 (nocls_keys ks _ n s h4 (by omega))
theorem nocls_keys : ∀ (ks : List NestedKey) (vs : List Value) (n : Nat) (s : Shared), NestedAll s.heap ks vs → NestedKey.depthAll ks ≤ n → ∀ v ∈ vs, NoCls P w n s v
  | [], _, n, s, x, _, v, hv => by cases x; cases hv
  | k :: ks, _, n, s, x, hn, v, hv => by
    cases x with
    | cons x1 x2 =>
      simp only [NestedKey.depthAll] at hn
      rcases List.mem_cons.mp hv with e | z
      · rw [e]
        exact nocls_key k _ n s x1 (by omega)
      · exact nocls_keys ks _ n s x2 (by omega) v z
end
mutual
theorem anyhb_key : ∀ (k : NestedKey) (v : Value) (n : Nat) (s : Shared), NestedIs s.heap k v → k.depth ≤ n → AnyHb P w n s v
  | .none, _, n, s, x, _ => by cases x; exact .flat (hbv_none n)
  | .num i, _, n, s, x, _ => by
    cases x with
    | bool e => exact .flat (hbv_bool n _)
    | int _ t => exact .flat (hbv_int n i t)
  | .text y, _, n, s, x, _ => by cases x; exact .flat (hbv_str n y _)
  | .tup ks, _, n, s, x, hn => by
    cases x with
    | tup h1 h2 h3 h4 =>
      simp only [NestedKey.depth] at hn
      cases n with
      | zero => omega
      | succ n => exact .tup h1 h2 h3 (anyhb_keys ks _ n s h4 (by omega))
theorem anyhb_keys : ∀ (ks : List NestedKey) (vs : List Value) (n : Nat) (s : Shared), NestedAll s.heap ks vs → NestedKey.depthAll ks ≤ n → ∀ v ∈ vs, AnyHb P w n s v
  | [], _, n, s, x, _, v, hv => by cases x; cases hv
  | k :: ks, _, n, s, x, hn, v, hv => by
    cases x with
    | cons x1 x2 =>
      simp only [NestedKey.depthAll] at hn
      rcases List.mem_cons.mp hv with e | z
      · rw [e]
        exact anyhb_key k _ n s x1 (by omega)
      · exact anyhb_keys ks _ n s x2 (by omega) v z
end
end
end FK

namespace FK
open PySem PySem.Spec PyProof.Rows L2
/-- the object at d is the key k -/
abbrev KeyAt (h : Heap) (k : NestedKey) (d : Addr) : Prop := NestedIs h k (.ref d) ∧ k.depth ≤ 8
theorem KeyAt.keep {h g : Heap} {k : NestedKey} {d : Addr} (x : KeyAt h k d) (e : ∀ b o, h.get? b = some o → g.get? b = some o) : KeyAt g k d :=
  ⟨NestedIs.at (fun b o _ _ hb _ => e b o hb) k _ x.1, x.2⟩
/-- .. while a set is changed -/
theorem KeyAt.but {h g : Heap} {k : NestedKey} {d c : Addr} {o : Obj} {xs : Array (Int × Value)} {n : Nat} {tb : SetTable} (x : KeyAt h k d) (ho : h.get? c = some o) (hd : o.data = .set xs n tb) (sb : Heap.SameBut c h g) : KeyAt g k d :=
  ⟨NestedIs.at (fun b u vs m hb hu => by
    refine (sb.2 b fun e => ?_).trans hb
    rw [e, ho] at hb
    cases hb
    rw [hd] at hu
    cases hu) k _ x.1, x.2⟩
section
variable {P : Program} {w : World}
/-- a set of keys at c -/
structure SetN (P : Program) (w : World) (h : Heap) (c : Addr) (M : List (Addr × NestedKey)) (xs : Array (Int × Value)) (n : Nat) (tb : SetTable) : Prop where
  obj : ∃ o, h.get? c = some o ∧ o.ExactSet ∧ o.data = .set xs n tb
  row : xs.toList = M.map fun p => (p.2.hash w, Value.ref p.1)
  tab : TabOk tb (M.map fun p => p.2.hash w)
  nd : (M.map (·.2)).Nodup
  key : ∀ p ∈ M, KeyAt h p.2 p.1
  led : w.params.followText "set-order" = true ∨ tb.led = true
  room : M.length * 5 < tb.mask * 3
variable {A : Around} {E : Value → Shared → Prop} {s : Shared} {c : Addr} {M : List (Addr × NestedKey)} {xs : Array (Int × Value)} {n : Nat} {tb : SetTable}
theorem sn_len {M : List (Addr × NestedKey)} {xs : Array (Int × Value)} (e : xs.toList = M.map fun p => (p.2.hash w, Value.ref p.1)) : xs.size = M.length := by
  have z : xs.toList.length = (M.map fun p => (p.2.hash w, Value.ref p.1)).length := congrArg _ e
  simpa using z
theorem SetN.fit (T : SetN P w s.heap c M xs n tb) : tb.fits xs.size = true := by
  have a1 : tb.place.size = M.length := by simpa using T.tab.sz
  have a2 := sn_len T.row
  have a3 := T.room
  have a4 : tb.dummies.size = 0 := by rw [T.tab.dm]; rfl
  simp only [SetTable.fits, SetTable.fill, Bool.and_eq_true, beq_iff_eq, decide_eq_true_eq]
  refine ⟨a1.trans a2.symm, decide_eq_true ?_⟩
  show tb.place.size + tb.dummies.size ≤ tb.mask
  rw [a4, a1]
  omega
theorem sn_entry (e : xs.toList = M.map fun p => (p.2.hash w, Value.ref p.1)) {i : Nat} {p : Addr × NestedKey} (hp : M[i]? = some p) : xs[i]? = some (p.2.hash w, Value.ref p.1) := by
  have z : xs.toList[i]? = (M.map fun p => (p.2.hash w, Value.ref p.1))[i]? := by rw [e]
  simpa [hp] using z
theorem nth_nodummy (m : Nat) : ∀ (i : Nat) (p : SetTable.Probe), p.dummy = none → (nth m p i).dummy = none
  | 0, _, e => e
  | i + 1, p, e => nth_nodummy m i (adv m p) (by unfold adv; split <;> exact e)
/-- a search shows nothing -/
theorem sn_seen {k : NestedKey} {x : Addr} {Q : Bool → Shared → Prop} (hx : KeyAt s.heap k x) {ys : List Value} (hy : ∀ y ∈ ys, ∃ j d, y = Value.ref d ∧ KeyAt s.heap j d) (q : Q false s) : wpAny (model P w) A (searchCouldBeSeen (.ref x) ys) Q E s := by
  unfold searchCouldBeSeen
  refine wpAny_bind ?_
  refine wpAny_forIn_list _ (fun r b z => b.1 = none ∧ z = s ∧ ∀ y ∈ r, ∃ j d, y = Value.ref d ∧ KeyAt s.heap j d) _ (fun v r b z ⟨h1, h2, h3⟩ => ?_) (fun b z ⟨h1, h2, _⟩ => ?_) _ _ ⟨rfl, rfl, hy⟩
  · subst h2
    obtain ⟨j, d, rfl, hd⟩ := h3 v List.mem_cons_self
    have more := fun u hu => h3 u (List.mem_cons_of_mem (Value.ref d) hu)
    dsimp only
    by_cases same : (x == d || (carriedByValue (.ref x) && carriedByValue (.ref d))) = true
    · exact wp_if_pos same (wpAny_pure ⟨rfl, rfl, more⟩)
    · refine wp_if_neg same ?_
      refine wpAny_bind (quiet_key (prog := P) (w := w) _ _ 8 z hx.1 hx.2 _ _ _ ?_)
      simp only [Bool.not_true, Bool.false_eq_true, if_false]
      refine wpAny_bind (quiet_key (prog := P) (w := w) _ _ 8 z hd.1 hd.2 _ _ _ ?_)
      simp only [Bool.not_true, Bool.false_eq_true, if_false]
      refine wpAny_bind (nocls_key _ _ 8 z hx.1 hx.2 _ _ _ ?_)
      simp only [Bool.false_eq_true, if_false]
      refine wpAny_bind (nocls_key _ _ 8 z hd.1 hd.2 _ _ _ ?_)
      simp only [Bool.false_eq_true, if_false]
      exact wpAny_pure ⟨rfl, rfl, more⟩
  · obtain ⟨b1, b2⟩ := b
    simp only at h1
    subst h1 h2
    exact wpAny_pure q
abbrev wy (tb : SetTable) (h : Int) (i : Nat) : Nat := way tb.mask h i
abbrev p0 (tb : SetTable) (h : Int) : SetTable.Probe := runAt tb.mask (SetTable.bits h % (tb.mask + 1)) (SetTable.bits h)
/-- the search, from the i-th step of the way on -/
theorem sn_from (T : SetN P w s.heap c M xs n tb) {x : Addr} {k : NestedKey} {h : Int} (eh : h = k.hash w) (hx : KeyAt s.heap k x) (hu : A.units + 8 < cLine) {K : Nat} (lt : K < 10 * SetTable.turns tb.mask)
    (hK : wy tb h K ∉ tb.place.toList) (hb : ∀ i, i < K → wy tb h i ∈ tb.place.toList) {Q : SetFound → Shared → Prop} (yes : k ∈ M.map (·.2) → Q (.there none) s) (no : k ∉ M.map (·.2) → Q (.free (wy tb h K) false) s) :
    ∀ (f i : Nat) (st : Option SetTable.Probe), st.getD (tb.probeStart h) = nth tb.mask (p0 tb h) i → i ≤ K → K - i < f →
      (∀ (j : Nat) p, M[j]? = some p → p.2 = k → ∃ i', i ≤ i' ∧ i' < K ∧ tb.place.toList[j]? = some (wy tb h i')) → wpAny (model P w) A (setSearchFrom c (.ref x) h true f st) Q E s
  | 0, i, st, _, _, z, _ => absurd z (Nat.not_lt_zero _)
  | f + 1, i, st, e0, le, z, ahead => by
    obtain ⟨o, g, ge, gd⟩ := T.obj
    have odd : ¬ tb.gaveWay = true := by
      unfold SetTable.gaveWay
      rw [mask_odd T.tab.mok]
      decide
    have sh : ∀ q, nth tb.mask (nth tb.mask (p0 tb h) i) q = nth tb.mask (p0 tb h) (i + q) := fun q => (nth_add tb.mask i _ q).symm
    have shj : ∀ q, (nth tb.mask (nth tb.mask (p0 tb h) i) q).j = wy tb h (i + q) := fun q => by rw [sh]
    have hashOf : ∀ (j : Nat) p, M[j]? = some p → (fun j => (xs[j]?.map (·.1)).getD 0) j = p.2.hash w := fun j p hp => by
      dsimp only
      rw [sn_entry T.row hp]
      rfl
    have sp := go_spec tb T.tab.ris T.tab.dm (fun j => (xs[j]?.map (·.1)).getD 0) h (10 * SetTable.turns tb.mask) (K - i) (nth tb.mask (p0 tb h) i) (nth_nodummy _ i _ rfl) (by omega)
      (fun q hq => by rw [shj]; exact hb _ (by omega)) (by rw [shj, Nat.add_sub_cancel' le]; exact hK)
    rw [setSearchFrom_succ]
    refine wpAny_bind (wpAny_setState_of g gd T.fit ?_)
    dsimp only
    refine wp_if_neg odd ?_
    first | refine wpAny_bind (wpAny_pure ?_) | skip
    rcases sp with ⟨q, j, lq, ej, ehj, before, pr⟩ | ⟨before, pr⟩
    · have pr1 : tb.probe (fun j => (xs[j]?.map (·.1)).getD 0) h (st.getD (tb.probeStart h)) = some (.candidate (wy tb h (i + q)) j (nth tb.mask (p0 tb h) (i + (q + 1)))) := by
        rw [e0, ← shj, ← sh]
        exact pr
      rw [pr1]
      dsimp only
      rw [shj] at ej
      have lj : j < M.length := by
        have a1 := (List.getElem?_eq_some_iff.mp ej).1
        have a2 : tb.place.size = M.length := by simpa using T.tab.sz
        have a3 : tb.place.toList.length = tb.place.size := rfl
        omega
      obtain ⟨p, hp⟩ : ∃ p, M[j]? = some p := ⟨_, List.getElem?_eq_getElem lj⟩
      have pm : p ∈ M := List.mem_of_getElem? hp
      have live : tb.slot (wy tb h (i + q)) = .live j := slot_live T.tab.ris ej
      have rest : wpAny (model P w) A (searchRest c (.ref x) h true f xs tb (wy tb h (i + q)) j (nth tb.mask (p0 tb h) (i + (q + 1)))) Q E s := by
        unfold searchRest
        rw [sn_entry T.row hp]
        dsimp only
        refine wpAny_bind (wpAny_holding ((nestedKind P w).eqBool hu (T.key p pm) hx ?_))
        refine wpAny_bind (wpAny_setState_of g gd T.fit ?_)
        dsimp only
        by_cases ek : p.2 = k
        · exact wp_if_pos (by simp [ek]) (wpAny_pure (yes (List.mem_map.mpr ⟨p, pm, ek⟩)))
        · refine wp_if_neg (by simp [ek]) ?_
          first | refine wpAny_bind (wpAny_pure ?_) | skip
          rw [sameMem]
          dsimp only
          simp only [if_true, live, sn_entry T.row hp]
          refine wpAny_bind (wpAny_isSame_ref_self (wpAny_bind (wpAny_pure ?_)))
          simp only [if_true]
          refine wp_if_neg (by simp [ek]) ?_
          refine sn_from T eh hx hu lt hK hb yes no f (i + (q + 1)) _ rfl (by omega) (by omega) fun j2 p2 h2 k2 => ?_
          obtain ⟨i', u1, u2, u3⟩ := ahead j2 p2 h2 k2
          refine ⟨i', ?_, u2, u3⟩
          have hash2 : (fun j => (xs[j]?.map (·.1)).getD 0) j2 = h := by rw [hashOf j2 p2 h2, k2, eh]
          rcases Nat.lt_trichotomy i' (i + q) with y | y | y
          · exact absurd hash2 (before (i' - i) j2 (by omega) (by rw [shj, Nat.add_sub_cancel' u1]; exact u3))
          · rw [y] at u3
            have l2 := slot_live T.tab.ris u3
            rw [live] at l2
            injection l2 with l2
            subst l2
            rw [hp] at h2
            cases h2
            exact absurd k2 ek
          · omega
      by_cases hl : tb.led = true
      · refine wp_if_neg (by simp [hl]) ?_
        first | refine wpAny_bind (wpAny_pure ?_) | skip
        exact rest
      · refine wp_if_pos (by simp [hl]) ?_
        refine wpAny_bind (sn_seen hx (fun y hy => ?_) ?_)
        · obtain ⟨e, he, rfl⟩ := List.mem_map.mp hy
          have he2 : e ∈ xs.toList := (show e ∈ xs ∧ e.1 = h by simpa using he).1.val
          rw [T.row] at he2
          obtain ⟨p2, m2, rfl⟩ := List.mem_map.mp he2
          exact ⟨p2.2, p2.1, rfl, T.key p2 m2⟩
        · refine wp_if_neg (by decide) ?_
          first | refine wpAny_bind (wpAny_pure ?_) | skip
          exact rest
    · have pr1 : tb.probe (fun j => (xs[j]?.map (·.1)).getD 0) h (st.getD (tb.probeStart h)) = some (.empty (wy tb h K) none) := by
        have e1 := shj (K - i)
        rw [Nat.add_sub_cancel' le] at e1
        rw [e0, ← e1]
        exact pr
      rw [pr1]
      dsimp only
      refine wpAny_pure (no fun hm => ?_)
      obtain ⟨p, pm, ek⟩ := List.mem_map.mp hm
      obtain ⟨j, hj⟩ := List.getElem?_of_mem pm
      obtain ⟨i', u1, u2, u3⟩ := ahead j p hj ek
      exact before (i' - i) j (by omega) (by rw [shj, Nat.add_sub_cancel' u1]; exact u3) ((hashOf j p hj).trans (by rw [ek, eh]))
/-- the search that adding asks for -/
theorem sn_search (T : SetN P w s.heap c M xs n tb) {x : Addr} {k : NestedKey} (hx : KeyAt s.heap k x) (hu : A.units + 8 < cLine) {Q : SetFound → Shared → Prop} (yes : k ∈ M.map (·.2) → Q (.there none) s)
    (no : ∀ K, k ∉ M.map (·.2) → wy tb (k.hash w) K ∉ tb.place.toList → (∀ i, i < K → wy tb (k.hash w) i ∈ tb.place.toList) → Q (.free (wy tb (k.hash w) K) false) s) : wpAny (model P w) A (setSearch c (.ref x) (k.hash w) true) Q E s := by
  have a3 := T.room
  obtain ⟨K, lt, hK, hb⟩ := T.tab.first (by rw [List.length_map]; omega) (k.hash w)
  have big : K < 100000 := by
    have : 10 * SetTable.turns tb.mask ≤ 1420 := by
      unfold SetTable.turns
      rcases T.tab.mok with e | e | e <;> omega
    omega
  unfold setSearch
  refine sn_from T rfl hx hu lt hK hb yes (fun z => no K z hK hb) 100000 0 none rfl (Nat.zero_le _) (by omega) fun j p hp ek => ?_
  have e1 : (M.map fun p => p.2.hash w)[j]? = some (k.hash w) := by simp [hp, ek]
  have lj : j < tb.place.toList.length := by
    have b1 := (List.getElem?_eq_some_iff.mp hp).1
    have b2 : tb.place.size = M.length := by simpa using T.tab.sz
    have b3 : tb.place.toList.length = tb.place.size := rfl
    omega
  obtain ⟨i, li, ei⟩ := T.tab.before hK e1 (List.getElem?_eq_getElem lj)
  exact ⟨i, Nat.zero_le _, li, by rw [List.getElem?_eq_getElem lj]; exact congrArg some ei.symm⟩
end
end FK

namespace FK
open PySem PySem.Spec PyProof.Rows L2
section
variable {P : Program} {w : World} {A : Around} {E : Value → Shared → Prop} {s : Shared} {c : Addr} {M : List (Addr × NestedKey)} {xs : Array (Int × Value)} {n : Nat} {tb : SetTable}
abbrev rw0 (w : World) (p : Addr × NestedKey) : Int × Value := (p.2.hash w, Value.ref p.1)
theorem sn_order (M : List (Addr × NestedKey)) (xs : Array (Int × Value)) (od : Array Nat) (e : xs.toList = M.map (rw0 w)) (pm : od.toList.Perm (List.range M.length)) :
    ∃ N : List (Addr × NestedKey), (od.filterMap (xs[·]?)).toList = N.map (rw0 w) ∧ N.Perm M ∧ (N.map fun p => p.2.hash w) = od.toList.map fun i => (xs.map (·.1)).getD i 0 := by
  have lx : xs.size = M.length := sn_len e
  have key : ∀ l : List Nat, (∀ i ∈ l, i < M.length) → ∃ N : List (Addr × NestedKey), l.filterMap (fun i => xs[i]?) = N.map (rw0 w) ∧ N = l.filterMap (fun i => M[i]?) ∧ (N.map fun p => p.2.hash w) = l.map fun i => (xs.map (·.1)).getD i 0 := by
    intro l
    induction l with
    | nil => exact fun _ => ⟨[], rfl, rfl, rfl⟩
    | cons i l ih =>
      intro hl
      have li : i < M.length := hl i List.mem_cons_self
      obtain ⟨N, e1, e2, e3⟩ := ih fun j hj => hl j (List.mem_cons_of_mem _ hj)
      have g1 : M[i]? = some M[i] := List.getElem?_eq_getElem li
      have g2 : xs[i]? = some (rw0 w M[i]) := sn_entry e g1
      have g3 : (xs.map (·.1)).getD i 0 = (M[i]).2.hash w := by
        have : (xs.map (·.1))[i]? = some ((M[i]).2.hash w) := by simp [g2]
        simp [Array.getD_eq_getD_getElem?, this]
      exact ⟨M[i] :: N, by rw [List.filterMap_cons_some g2, e1, List.map_cons], by rw [List.filterMap_cons_some g1, e2], by rw [List.map_cons, List.map_cons, e3, g3]⟩
  obtain ⟨N, e1, e2, e3⟩ := key od.toList fun i hi => List.mem_range.mp (pm.mem_iff.mp hi)
  refine ⟨N, by rw [Array.toList_filterMap]; exact e1, ?_, e3⟩
  have all : ∀ m, m ≤ M.length → (List.range m).filterMap (fun i => M[i]?) = M.take m := by
    intro m
    induction m with
    | zero => exact fun _ => rfl
    | succ m ih =>
      intro hm
      have lm : m < M.length := hm
      rw [List.range_succ, List.filterMap_append, ih (by omega), List.take_succ, List.getElem?_eq_getElem lm]
      simp [List.getElem?_eq_getElem lm]
  have z := pm.filterMap fun i => M[i]?
  rw [all _ (Nat.le_refl _), List.take_length] at z
  rw [e2]
  exact z
/-- laid anew, larger -/
theorem sn_relay {o : Obj} (g : s.heap.get? c = some o) (ge : o.ExactSet) (gd : o.data = .set xs n tb) (row : xs.toList = M.map (rw0 w)) (sz : tb.place.size = xs.size) (dm : tb.dummies = #[]) (fl : xs.size ≤ tb.mask) (nd : (M.map (·.2)).Nodup) (key : ∀ p ∈ M, KeyAt s.heap p.2 p.1)
    (led : w.params.followText "set-order" = true ∨ tb.led = true) {want K : Nat} (hw : SetTable.sizeAbove want - 1 = K) (hK : MaskOk K) (h2 : SetTable.sizeAbove want ≤ 128) (hn : M.length * 5 < K * 3) {Q : Unit → Shared → Prop}
    (q : ∀ h' N ys n' tb', Heap.SameBut c s.heap h' → SetN P w h' c N ys n' tb' → N.Perm M → Q () { s with heap := h' }) : wpAny (model P w) A (setRelay c want) Q E s := by
  have lx : xs.size = M.length := sn_len row
  have fit : tb.fits xs.size = true := by
    have a4 : tb.dummies.size = 0 := by rw [dm]; rfl
    simp only [SetTable.fits, SetTable.fill, Bool.and_eq_true, beq_iff_eq]
    refine ⟨sz, decide_eq_true ?_⟩
    rw [a4, sz]
    omega
  obtain ⟨tb', od, e1, e2, e3, e4, e5, e6, e7⟩ := relaid_ok tb (hs := xs.map (·.1)) (wanted := want) hw hK (by rw [Array.size_map, lx]; omega)
  rw [Array.size_map, lx] at e2
  obtain ⟨N, r1, r2, r3⟩ := sn_order M xs od row e2
  rw [← r3] at e3
  have lN : (od.filterMap (xs[·]?)).size = xs.size := by rw [sn_len r1, lx, r2.length_eq]
  rw [setRelay_eq]
  refine wpAny_bind (wpAny_setState_of g gd fit ?_)
  dsimp only
  refine wp_if_neg (by rw [sizeLine_eq]; omega) ?_
  first | refine wpAny_bind (wpAny_pure ?_) | skip
  rw [e1]
  dsimp only
  refine wpAny_bind ?_
  refine wp_if_neg (by rw [lN]; simp) ?_
  first | refine wpAny_bind (wpAny_pure ?_) | skip
  refine wpAny_pure ?_
  dsimp only
  have sb : Heap.SameBut c s.heap (s.heap.update c (Obj.putSet (od.filterMap (xs[·]?)) tb')) := Heap.SameBut.update ..
  refine wpAny_storeSet_of g gd (q _ N _ (n + 1) tb' sb ⟨⟨_, store_at g gd, ⟨ge.1, ge.2.1, ge.2.2⟩, rfl⟩, r1, e3, (r2.map (·.2)).nodup_iff.mpr nd, fun p hp => (key p (r2.mem_iff.mp hp)).but g gd sb, by rw [e5]; exact led, ?_⟩ r2) (by rw [lN, lx, sizeLine_eq]; rcases hK with e | e | e <;> omega)
  rw [r2.length_eq, e4]
  exact hn
theorem take_put {α : Type} (l : List α) (i : Nat) (x : α) : (l.take i ++ x :: l.drop i).Perm (x :: l) := by
  have z : (l.take i ++ x :: l.drop i).Perm (x :: (l.take i ++ l.drop i)) := List.perm_middle
  rwa [List.take_append_drop] at z
/-- one more -/
theorem sn_add (T : SetN P w s.heap c M xs n tb) {x : Addr} {k : NestedKey} (hx : KeyAt s.heap k x) (hu : A.units + 8 < cLine) (few : M.length + 1 ≤ 76 ∨ k ∈ M.map (·.2)) {Q : Bool → Shared → Prop}
    (q : ∀ b h' N ys n' tb', Heap.SameBut c s.heap h' → SetN P w h' c N ys n' tb' → (k ∈ M.map (·.2) → N = M) → (k ∉ M.map (·.2) → N.Perm ((x, k) :: M)) → Q b { s with heap := h' }) : wpAny (model P w) A (setAddHashed c (.ref x) (k.hash w)) Q E s := by
  obtain ⟨o, g, ge, gd⟩ := T.obj
  have lx : xs.size = M.length := sn_len T.row
  have rm := T.room
  unfold setAddHashed
  refine wpAny_holding ?_
  rw [show (100000 : Nat) = 99999 + 1 from rfl, setAddHashedIn_succ]
  refine wpAny_bind (wpAny_setState_of g gd T.fit ?_)
  dsimp only
  refine wp_if_neg (by simp [byScan, Value.scannable]) ?_
  first | refine wpAny_bind (wpAny_pure ?_) | skip
  refine wpAny_bind (sn_search T hx hu (fun hm => ?_) fun K hm hK hb => ?_)
  · dsimp only
    exact wpAny_pure (q false _ M xs n tb (Heap.SameBut.refl c s.heap) T (fun _ => rfl) fun z => absurd hm z)
  · dsimp only
    have few : M.length + 1 ≤ 76 := few.resolve_right hm
    refine wpAny_bind (wpAny_setState_of g gd T.fit ?_)
    dsimp only
    obtain ⟨z1, z2, z3, z4, z5, z6, z7, z8, z9⟩ := T.tab.put hK hb
    generalize etp : tb.put (wy tb (k.hash w) K) = tp at z1 z3 z4 z5 z6 z7 z8 z9 ⊢
    obtain ⟨ta, i⟩ := tp
    dsimp only at z1 z3 z4 z5 z6 z7 z8 z9 ⊢
    subst z1
    have hin : (SetTable.insertAt xs (SetTable.below tb.place (wy tb (k.hash w) K)) (k.hash w, Value.ref x)).toList = (M.take (SetTable.below tb.place (wy tb (k.hash w) K)) ++ (x, k) :: M.drop (SetTable.below tb.place (wy tb (k.hash w) K))).map (rw0 w) := by
      rw [SetTable.toList_insertAt, T.row, List.map_append, List.map_cons, List.map_take, List.map_drop]
    generalize SetTable.below tb.place (wy tb (k.hash w) K) = i at z2 z3 hin ⊢
    have pm := take_put M i (x, k)
    have hh : (M.take i ++ (x, k) :: M.drop i).map (fun p => p.2.hash w) = (M.map fun p => p.2.hash w).take i ++ k.hash w :: (M.map fun p => p.2.hash w).drop i := by
      rw [List.map_append, List.map_cons, List.map_take, List.map_drop]
    rw [← hh] at z3
    generalize SetTable.insertAt xs i (k.hash w, Value.ref x) = ys at hin ⊢
    generalize M.take i ++ (x, k) :: M.drop i = N at pm z3 hin
    have lN : N.length = M.length + 1 := pm.length_eq
    have ly : ys.size = M.length + 1 := by rw [sn_len hin, lN]
    have nd : (N.map (·.2)).Nodup := (pm.map (·.2)).nodup_iff.mpr (by rw [List.map_cons]; exact List.nodup_cons.mpr ⟨hm, T.nd⟩)
    -- whatever the new element's hash hangs on
    have go : ∀ b0 : Bool, wpAny (model P w) A (do
        let t := if b0 then ta else { ta with plain := false }
        storeSet c ys t
        if !false && t.tooFull then setRelay c (SetTable.grown (xs.size + 1))
        return true) Q E s := fun b0 => by
      have hgen : ∃ tc : SetTable, (if b0 then ta else { ta with plain := false }) = tc ∧ TabOk tc (N.map fun p => p.2.hash w) ∧ tc.mask = tb.mask ∧ tc.led = tb.led ∧ tc.fill = M.length + 1 := by
        refine ⟨_, rfl, ?_⟩
        cases b0 with
        | true => exact ⟨z3, z4, z5, by simpa using z9⟩
        | false => exact ⟨⟨z3.ris, z3.dm, z3.sz, z3.mok, z3.bd, z3.reach⟩, z4, z5, (show ta.fill = M.length + 1 by simpa using z9)⟩
      obtain ⟨tc, ec, c3, c4, c5, c9⟩ := hgen
      dsimp only
      rw [ec]
      refine wpAny_bind (wpAny_storeSet_of g gd ?_ (by rw [ly, sizeLine_eq]; omega))
      have sb : Heap.SameBut c s.heap (s.heap.update c (Obj.putSet ys tc)) := Heap.SameBut.update ..
      have g1 := store_at (es' := ys) (t' := tc) g gd
      generalize s.heap.update c (Obj.putSet ys tc) = h1 at sb g1 ⊢
      have key1 : ∀ p ∈ N, KeyAt h1 p.2 p.1 := fun p hp => by
        rcases List.mem_cons.mp (pm.mem_iff.mp hp) with e | z
        · rw [e]
          exact hx.but g gd sb
        · exact (T.key p z).but g gd sb
      have led1 : w.params.followText "set-order" = true ∨ tc.led = true := by rw [c5]; exact T.led
      by_cases full : tc.tooFull = true
      · first
          | (refine wpAny_bind ?_; refine wp_if_pos (by simp [full]) ?_)
          | (refine wp_if_pos (by simp [full]) ?_; refine wpAny_bind ?_)
        have f1 : (M.length + 1) * 5 ≥ tb.mask * 3 := by
          have z := full
          unfold SetTable.tooFull at z
          rw [decide_eq_true_eq, c9, c4] at z
          exact z
        rw [lx]
        have go2 : ∀ m, SetTable.sizeAbove (SetTable.grown (M.length + 1)) - 1 = m → MaskOk m → SetTable.sizeAbove (SetTable.grown (M.length + 1)) ≤ 128 → (M.length + 1) * 5 < m * 3 → wpAny (model P w) A (setRelay c (SetTable.grown (M.length + 1))) (fun _ s' => wpAny (model P w) A (pure true) Q E s') E { s with heap := h1 } := fun m y1 y2 y3 y4 => by
          have sz1 : tc.place.size = ys.size := by
            have z := c3.sz
            rw [List.length_map, lN] at z
            rw [z, ly]
          refine sn_relay (s := { s with heap := h1 }) (M := N) (tb := tc) g1 ⟨ge.1, ge.2.1, ge.2.2⟩ rfl hin sz1 c3.dm (by rw [ly, c4]; omega) nd key1 led1 y1 y2 y3 (by rw [lN]; exact y4) fun h2 N2 ys2 n2 tb2 sb2 T2 pm2 => ?_
          exact wpAny_pure (q true h2 N2 ys2 n2 tb2 (sb.trans sb2) T2 (fun z => absurd z hm) fun _ => pm2.trans pm)
        rcases T.tab.mok with e | e | e
        · have e4 : M.length = 4 := by omega
          exact go2 31 (by rw [e4, size_20]) (.inr (.inl rfl)) (by rw [e4, size_20]; decide) (by omega)
        · have e4 : M.length = 18 := by omega
          exact go2 127 (by rw [e4, size_76]) (.inr (.inr rfl)) (by rw [e4, size_76]; decide) (by omega)
        · omega
      · first
          | refine wp_if_neg (by simp [full]) ?_
          | (refine wpAny_bind ?_; refine wp_if_neg (by simp [full]) ?_; refine wpAny_pure ?_)
        refine wpAny_pure (q true h1 N ys (n + 1) tc sb ⟨⟨_, g1, ⟨ge.1, ge.2.1, ge.2.2⟩, rfl⟩, hin, c3, nd, key1, led1, ?_⟩ (fun z => absurd z hm) fun _ => pm)
        have z := full
        unfold SetTable.tooFull at z
        rw [decide_eq_true_eq, c9] at z
        rw [lN]
        omega
    by_cases pl : ta.plain = true
    · first
        | (refine wpAny_bind ?_; refine wp_if_pos pl ?_; exact anyhb_key _ _ 8 s hx.1 hx.2 _ _ _ fun b0 => go b0)
        | exact wp_if_pos pl (wpAny_bind (anyhb_key _ _ 8 s hx.1 hx.2 _ _ _ fun b0 => go b0))
    · first
        | (refine wpAny_bind ?_; refine wp_if_neg pl ?_; exact wpAny_pure (go true))
        | exact wp_if_neg pl (go true)
end
end FK

namespace FK
open PySem PySem.Spec PyProof.Rows L2
theorem nodup_le {α : Type} [DecidableEq α] : ∀ (l r : List α), l.Nodup → (∀ x ∈ l, x ∈ r) → l.length ≤ r.length
  | [], _, _, _ => Nat.zero_le _
  | x :: l, r, nd, sub => by
    obtain ⟨a1, a2⟩ := List.nodup_cons.mp nd
    have hx : x ∈ r := sub x List.mem_cons_self
    have ih := nodup_le l (r.erase x) a2 fun y hy => (List.mem_erase_of_ne (fun e : y = x => a1 (by rw [← e]; exact hy))).2 (sub y (List.mem_cons_of_mem _ hy))
    have e := List.length_erase_of_mem hx
    have p := List.length_pos_of_mem hx
    simp only [List.length_cons]
    omega
/-- M has what the first i of ks have -/
structure Had (ks : List (Addr × NestedKey)) (i : Nat) (M : List (Addr × NestedKey)) : Prop where
  sub : ∀ p ∈ M, p ∈ ks.take i
  all : ∀ p ∈ ks.take i, p.2 ∈ M.map (·.2)
theorem Had.zero (ks : List (Addr × NestedKey)) : Had ks 0 [] := ⟨fun _ z => (by cases z), fun _ z => (by simp at z)⟩
theorem take_one {α : Type} {l : List α} {i : Nat} {x : α} (e : l[i]? = some x) : l.take (i + 1) = l.take i ++ [x] := by
  rw [List.take_succ, e]
  rfl
theorem Had.old {ks M : List (Addr × NestedKey)} {i : Nat} {x : Addr × NestedKey} (g : Had ks i M) (e : ks[i]? = some x) (hm : x.2 ∈ M.map (·.2)) : Had ks (i + 1) M := by
  constructor
  · intro p hp
    rw [take_one e]
    exact List.mem_append.mpr (.inl (g.sub p hp))
  · intro p hp
    rw [take_one e] at hp
    rcases List.mem_append.mp hp with z | z
    · exact g.all p z
    · cases List.mem_singleton.mp z
      exact hm
theorem Had.new {ks M N : List (Addr × NestedKey)} {i : Nat} {x : Addr × NestedKey} (g : Had ks i M) (e : ks[i]? = some x) (pm : N.Perm (x :: M)) : Had ks (i + 1) N := by
  constructor
  · intro p hp
    rw [take_one e]
    rcases List.mem_cons.mp (pm.mem_iff.mp hp) with z | z
    · exact List.mem_append.mpr (.inr (List.mem_singleton.mpr z))
    · exact List.mem_append.mpr (.inl (g.sub p z))
  · intro p hp
    rw [(pm.map (·.2)).mem_iff, List.map_cons]
    rw [take_one e] at hp
    rcases List.mem_append.mp hp with z | z
    · exact List.mem_cons.mpr (.inr (g.all p z))
    · cases List.mem_singleton.mp z
      exact List.mem_cons_self
section
variable {P : Program} {w : World} {A : Around} {E : Value → Shared → Prop} {s : Shared}
abbrev emptySet (w : World) : Obj := { cls := .type "set", dict := none, data := .set #[] 0 (.fresh 0 0 (!w.params.followText "set-order")) }
theorem SetN.keep {h g : Heap} {c : Addr} {M : List (Addr × NestedKey)} {xs : Array (Int × Value)} {n : Nat} {tb : SetTable} (T : SetN P w h c M xs n tb) (e : ∀ o, h.get? c = some o → g.get? c = some o) (k : ∀ p ∈ M, KeyAt g p.2 p.1) : SetN P w g c M xs n tb := by
  obtain ⟨o, a1, a2⟩ := T.obj
  exact ⟨⟨o, e o a1, a2⟩, T.row, T.tab, T.nd, k, T.led, T.room⟩
theorem sn_fresh {h : Heap} {c : Addr} (e : h.get? c = some (emptySet w)) : SetN P w h c [] #[] 0 (.fresh 0 0 (!w.params.followText "set-order")) where
  obj := ⟨_, e, ⟨rfl, rfl, rfl⟩, rfl⟩
  row := rfl
  tab := ⟨List.Pairwise.nil, rfl, rfl, .inl rfl, fun _ z => (by cases z), fun _ _ _ z => (by simp at z)⟩
  nd := List.nodup_nil
  key := fun _ z => (by cases z)
  led := by
    cases w.params.followText "set-order"
    · exact .inr rfl
    · exact .inl rfl
  room := show 0 * 5 < 7 * 3 by decide
/-- at most 76 unlike ones -/
def Few (ks : List (Addr × NestedKey)) : Prop := ∀ l : List NestedKey, l.Nodup → (∀ k ∈ l, k ∈ ks.map (·.2)) → l.length ≤ 76
/-- the loop behind set(..) -/
theorem sn_loop {I : Addr} {fp wr : List Addr} {G : Array GenState → Array GenState → Prop} {m : Nat} {Pv : Nat → Value → Prop} {St : Nat → Shared → Prop} {R : Result → Shared → Prop}
    (W : WalksS P w A.in1 I fp wr G m Pv St) (c : Addr) (hcf : c ∉ fp) (ks : List (Addr × NestedKey)) (em : m = ks.length) (few : Few ks) (val : ∀ i v, Pv i v → ∃ p, ks[i]? = some p ∧ v = .ref p.1)
    (h0 : Heap) (key : ∀ p ∈ ks, KeyAt h0 p.2 p.1) (c0 : h0.get? c = none) (w0 : ∀ b ∈ wr, h0.get? b = none) (hu : A.in1.units + 8 < cLine) :
    ∀ (r i : Nat) (s : Shared), m - i = r → i ≤ m → St i s → (∀ b o, h0.get? b = some o → s.heap.get? b = some o) → (∃ M xs n tb, SetN P w s.heap c M xs n tb ∧ Had ks i M) →
      (∀ s' M xs n tb, Moved (c :: wr) G s s' → SetN P w s'.heap c M xs n tb → Had ks m M → (∀ b o, h0.get? b = some o → s'.heap.get? b = some o) → R (.ok (.ret .none)) s') →
      codeAny (model P w) A (.builtin "set.update.loop" ⟨[.ref c, .ref I], []⟩) R s := by
  have hcw : c ∉ wr := fun z => hcf (W.sub _ z)
  have more : ∀ b ∈ wr, b ∈ c :: wr := fun b z => List.mem_cons_of_mem c z
  have moved : ∀ {s s' : Shared}, Moved wr G s s' → (∀ b o, h0.get? b = some o → s.heap.get? b = some o) → ∀ b o, h0.get? b = some o → s'.heap.get? b = some o := fun mv k b o e => mv.heap b o (fun z => by
    rw [w0 b z] at e
    cases e) (k b o e)
  intro r
  induction r with
  | zero =>
    intro i s er le st kp ⟨M, xs, n, tb, T, g⟩ fin
    obtain rfl : i = m := by omega
    refine codeAny_builtin F.entry_set_update_loop ?_
    rw [Around.under_plainId F.plain_set_update_loop _]
    refine wpAny_bind (m := pyNext (.ref I)) (W.done s _ _ st fun s' mv => ?_)
    have kp' := moved mv kp
    have sub : ∀ p ∈ M, p ∈ ks := fun p hp => List.mem_of_mem_take (g.sub p hp)
    exact wpAny_pure (fin s' M xs n tb (mv.mono more) (T.keep (fun o e => mv.heap c o hcw e) fun p hp => (key p (sub p hp)).keep kp') g kp')
  | succ r ih =>
    intro i s er le st kp ⟨M, xs, n, tb, T, g⟩ fin
    have lt : i < m := by omega
    refine codeAny_builtin F.entry_set_update_loop ?_
    rw [Around.under_plainId F.plain_set_update_loop _]
    refine wpAny_bind (m := pyNext (.ref I)) (W.item i s _ _ lt st fun v s' pv st' mv => ?_)
    obtain ⟨p, hp, rfl⟩ := val i v pv
    have kp' := moved mv kp
    have sub : ∀ p ∈ M, p ∈ ks := fun p hp => List.mem_of_mem_take (g.sub p hp)
    have T' : SetN P w s'.heap c M xs n tb := T.keep (fun o e => mv.heap c o hcw e) fun p hp => (key p (sub p hp)).keep kp'
    have hx : KeyAt s'.heap p.2 p.1 := (key p (List.mem_of_getElem? hp)).keep kp'
    refine wpAny_bind (m := holding [Value.ref p.1] (setAdd c (.ref p.1))) (wpAny_holding ?_)
    unfold setAdd
    refine wpAny_holding ?_
    refine wpAny_bind ((nestedKind P w).pyHash hu hx ?_)
    have room : M.length + 1 ≤ 76 ∨ p.2 ∈ M.map (·.2) := by
      by_cases hm : p.2 ∈ M.map (·.2)
      · exact .inr hm
      · refine .inl ?_
        have z := few (p.2 :: M.map (·.2)) (List.nodup_cons.mpr ⟨hm, T.nd⟩) fun k hk => by
          rcases List.mem_cons.mp hk with e | z
          · rw [e]
            exact List.mem_map.mpr ⟨p, List.mem_of_getElem? hp, rfl⟩
          · obtain ⟨q, hq, rfl⟩ := List.mem_map.mp z
            exact List.mem_map.mpr ⟨q, sub q hq, rfl⟩
        simpa using z
    refine sn_add (s := { s' with toks := s'.toks + p.2.draws }) T' hx hu room fun b h' N ys n' tb' sb T2 yes no => ?_
    have g' : Had ks (i + 1) N := by
      by_cases hm : p.2 ∈ M.map (·.2)
      · rw [yes hm]
        exact g.old hp hm
      · exact g.new hp (no hm)
    have kp2 : ∀ b o, h0.get? b = some o → h'.get? b = some o := fun b o e => (sb.2 b (fun z => by
      rw [z, c0] at e
      cases e)).trans (kp' b o e)
    refine wpAny_pure ⟨plainId_quiet F.plain_set_update_loop _, ih (i + 1) _ (by omega) lt (W.frame _ s' _ _ st' (Nat.le_add_right _ _) fun b hb o e => ?_) kp2 ⟨N, ys, n', tb', T2, g'⟩ fun s2 N2 ys2 n2 tb2 mv2 T3 g3 kp3 => ?_⟩
    · rw [sb.2 b (fun z : b = c => hcf (by rw [← z]; exact hb))]
      exact e
    · refine fin s2 N2 ys2 n2 tb2 (Moved.trans W.gtrans ((mv.mono more).then_heap (Nat.le_add_right _ _) fun b o hb e => ?_) mv2) T3 g3 kp3
      rw [sb.2 b (fun z : b = c => hb (by rw [z]; exact List.mem_cons_self))]
      exact e
/-- set(xs) -/
theorem sn_call {l : Addr} {its : Array Value} (ks : List (Addr × NestedKey)) {Q : Value → Shared → Prop} (hh : A.handled = none) (hl : s.heap.IsList l its) (eit : its.toList = ks.map fun p => Value.ref p.1)
    (key : ∀ p ∈ ks, KeyAt s.heap p.2 p.1) (few : Few ks) (hu : A.units + 12 < cLine)
    (q : ∀ (h' : Heap) (tk : Nat) M xs n tb, SetN P w h' s.heap.objs.size M xs n tb → Had ks ks.length M → (∀ b o, s.heap.get? b = some o → h'.get? b = some o) → Q (.ref s.heap.objs.size) { s with heap := h', toks := tk }) :
    wpAny (model P w) A (call (.type "set") [.ref l]) Q E s := by
  have lits : its.size = ks.length := by
    have z := congrArg List.length eit
    simpa using z
  have made0 := F.called_set.made
  have sub0 := F.called_set.sub
  obtain ⟨u1, u2, mro0⟩ := F.called_set.mro
  have ty0 := F.called_set.notType
  have can0 := F.called_set.canCreate
  have chk0 := F.typeCall_set_1 (.ref l)
  refine wpAny_call (codeAny_of_tree ?_)
  show wpAny (model P w) _ (callAny (.type "set") ⟨[.ref l], []⟩) _ _ s
  refine wpAny_pure ⟨Code.quiet_builtin _ (by decide +kernel), codeAny_builtin F.entry_type_call ?_⟩
  rw [Around.under_plain (weight_type_call_type "set" [Value.ref l] []) rfl]
  repeat (any_goals (first | assumption | wp_step))
  refine codeAny_mono (code_set_led1 (.ref l) (E := E) (Q₁ := fun v z => v = .ref s.heap.objs.size ∧ z = { s with heap := s.heap.push (emptySet w) }) ⟨rfl, rfl⟩) fun r s1 hr => ?_
  cases r with
  | error e => exact hr
  | ok fl =>
    cases fl with
    | ret v =>
      obtain ⟨rfl, rfl⟩ := hr
      have g0 : (s.heap.push (emptySet w)).get? s.heap.objs.size = some (emptySet w) := Heap.get?_push_size _ rfl
      have ty1 : Shared.TypeIs { s with heap := s.heap.push (emptySet w) } (.ref s.heap.objs.size) "set" := ⟨_, g0, rfl⟩
      have in1 := F.called_set.init.lookup
      have in2 := F.called_set.init.bind (.ref s.heap.objs.size)
      repeat (any_goals (first | assumption | wp_step))
      refine codeAny_mono (codeAny_call_builtin (R := wants (fun v z => v = .none ∧ ∃ h' tk M xs n tb, z = { s with heap := h', toks := tk } ∧ SetN P w h' s.heap.objs.size M xs n tb ∧ Had ks ks.length M ∧ ∀ b o, s.heap.get? b = some o → h'.get? b = some o) E) F.called_set.init.plain F.entry_set_init (check_set_init_1 ty1 ?_)) fun r2 s2 hr2 => ?_
      · obtain ⟨⟨oc, od, oa, os⟩, go, gc, gn, gd⟩ := hl
        simp only at gc gd
        subst gc gd
        have go1 : (s.heap.push (emptySet w)).get? l = some { cls := .type "list", dict := od, data := .seq its gn, slots := os } := Heap.get?_push_of_some _ go
        have il1 : (s.heap.push (emptySet w)).IsList l its := ⟨_, go1, rfl, gn, rfl⟩
        have k1 := F.sub_list_set
        have k2 := F.sub_list_frozenset
        have k3 : (Value.type "list" == Value.type "dict") = false := by decide
        unfold Builtin.«set.__init__» noKeywords Builtin.Frozenset.updateFrom
        generalize hPI : pyIter = PI
        wp_walk
        subst hPI
        refine wpAny_pyIter_list il1 ?_
        refine wpAny_bind (wpAny_runValue ?_)
        have lt0 : l < s.heap.objs.size := Heap.lt_size go
        have sz1 : (s.heap.push (emptySet w)).objs.size = s.heap.objs.size + 1 := Heap.size_push ..
        have neI : l ≠ (s.heap.push (emptySet w)).objs.size := by
          rw [sz1]
          exact Nat.ne_of_lt (Nat.lt_succ_of_lt lt0)
        have free : ∀ b, s.heap.objs.size ≤ b → s.heap.get? b = none := fun b z => by
          cases y : s.heap.get? b with
          | none => rfl
          | some o => exact absurd (Nat.lt_of_lt_of_le (Heap.lt_size y) z) (Nat.lt_irrefl _)
        refine sn_loop ((Walks.list (A := A.in1.in1.in1) (by simp [hh]) _ l neI its).toS) s.heap.objs.size (fun z => ?_) ks lits few (fun i v y => ?_) s.heap key (free _ (Nat.le_refl _)) (fun b z => free b ?_) (by simp only [Around.in1_units]; omega) its.size 0 _ (by omega) (Nat.zero_le _)
          ⟨⟨_, Heap.get?_push_size _ rfl, rfl, rfl⟩, il1.push _⟩ (fun b o e => Heap.get?_push_of_some _ (Heap.get?_push_of_some _ e)) ⟨[], #[], 0, _, sn_fresh (Heap.get?_push_of_some _ g0), Had.zero ks⟩ fun z M xs n tb mv T g kp => ?_
        · rw [sz1] at z
          rcases List.mem_cons.mp z with y | y
          · exact absurd y (Nat.ne_of_lt (Nat.lt_succ_self _))
          · exact absurd (List.mem_singleton.mp y) (Nat.ne_of_gt lt0)
        · have e : its.toList[i]? = some v := by simpa using y
          rw [eit, List.getElem?_map] at e
          cases y2 : ks[i]? with
          | none =>
            rw [y2] at e
            cases e
          | some p =>
            rw [y2] at e
            exact ⟨p, rfl, (Option.some.inj e).symm⟩
        · rw [List.mem_singleton.mp z, sz1]
          exact Nat.le_succ _
        · obtain ⟨h', z2, z3, z4, z5⟩ := z
          have e2 : z2 = s.gens := mv.gens
          have e3 : z3 = s.drawn := mv.drawn
          have e5 : z5 = s.os := mv.os
          subst e2 e3 e5
          refine wpAny_pure ?_
          rw [lits] at g
          exact wpAny_pure ⟨rfl, h', z4, M, xs, n, tb, rfl, T, g, kp⟩
      · cases r2 with
        | error e => exact hr2
        | ok fl2 =>
          cases fl2 with
          | ret v =>
            obtain ⟨rfl, h', tk, M, xs, n, tb, rfl, T, g, kp⟩ := hr2
            repeat (any_goals (first | assumption | wp_step))
            exact q _ _ _ _ _ _ T g kp
          | _ => exact hr2.elim
    | _ => exact hr.elim
end
end FK

namespace FK
open PySem PySem.Spec PyProof.Rows L2 PySem.W
/-! ### the order of data is one -/
class Lo (α : Type) [DecidableEq α] [DatumOrd α] : Prop where
  irr : ∀ a : α, DatumOrd.lt a a = false
  tr : ∀ {a b c : α}, DatumOrd.lt a b = true → DatumOrd.lt b c = true → DatumOrd.lt a c = true
  tri : ∀ {a b : α}, DatumOrd.lt a b = false → DatumOrd.lt b a = false → a = b
theorem Lo.asym {α : Type} [DecidableEq α] [DatumOrd α] [Lo α] {a b : α} (h : DatumOrd.lt a b = true) : DatumOrd.lt b a = false := by
  cases e : DatumOrd.lt b a with
  | false => rfl
  | true =>
    have z := Lo.tr h e
    rw [Lo.irr] at z
    cases z
instance instLoInt : Lo Int where
  irr a := by
    show decide (a < a) = false
    exact decide_eq_false (Int.lt_irrefl a)
  tr {a b c} h1 h2 := by
    have h1 : a < b := of_decide_eq_true h1
    have h2 : b < c := of_decide_eq_true h2
    exact decide_eq_true (Int.lt_trans h1 h2)
  tri {a b} h1 h2 := by
    have h1 : ¬ a < b := of_decide_eq_false h1
    have h2 : ¬ b < a := of_decide_eq_false h2
    omega
instance instLoStr : Lo Str where
  irr a := by
    show decide (a.cps.toList < a.cps.toList) = false
    exact decide_eq_false (List.lt_irrefl _)
  tr {a b c} h1 h2 := by
    have h1 : a.cps.toList < b.cps.toList := of_decide_eq_true h1
    have h2 : b.cps.toList < c.cps.toList := of_decide_eq_true h2
    exact decide_eq_true (List.lt_trans h1 h2)
  tri {a b} h1 h2 := by
    have h1 : ¬ a.cps.toList < b.cps.toList := of_decide_eq_false h1
    have h2 : ¬ b.cps.toList < a.cps.toList := of_decide_eq_false h2
    exact str_ext (List.le_antisymm (List.not_lt.mp h2) (List.not_lt.mp h1))
section
variable {α β γ δ : Type} [DecidableEq α] [DatumOrd α] [Lo α] [DecidableEq β] [DatumOrd β] [Lo β] [DecidableEq γ] [DatumOrd γ] [Lo γ] [DecidableEq δ] [DatumOrd δ] [Lo δ]
theorem lt2 (a b : α × β) : DatumOrd.lt a b = if a.1 = b.1 then DatumOrd.lt a.2 b.2 else DatumOrd.lt a.1 b.1 := rfl
instance instLo2 : Lo (α × β) where
  irr a := by rw [lt2, if_pos rfl, Lo.irr]
  tr {a b c} h1 h2 := by
    rw [lt2] at h1 h2 ⊢
    by_cases e1 : a.1 = b.1
    · rw [if_pos e1] at h1
      by_cases e2 : b.1 = c.1
      · rw [if_pos e2] at h2
        rw [if_pos (e1.trans e2)]
        exact Lo.tr h1 h2
      · rw [if_neg e2] at h2
        rw [if_neg (by rw [e1]; exact e2), e1]
        exact h2
    · rw [if_neg e1] at h1
      by_cases e2 : b.1 = c.1
      · rw [if_neg (by rw [← e2]; exact e1), ← e2]
        exact h1
      · rw [if_neg e2] at h2
        have h3 := Lo.tr h1 h2
        by_cases e3 : a.1 = c.1
        · rw [e3, Lo.irr] at h3
          cases h3
        · rw [if_neg e3]
          exact h3
  tri {a b} h1 h2 := by
    rw [lt2] at h1 h2
    by_cases e : a.1 = b.1
    · rw [if_pos e] at h1
      rw [if_pos e.symm] at h2
      exact Prod.ext e (Lo.tri h1 h2)
    · rw [if_neg e] at h1
      rw [if_neg (fun z => e z.symm)] at h2
      exact absurd (Lo.tri h1 h2) e
def t3p (x : T3 α β γ) : α × (β × γ) := (x.a, x.b, x.c)
theorem t3p_inj {x y : T3 α β γ} (h : t3p x = t3p y) : x = y := by
  cases x; cases y
  cases h
  rfl
theorem lt3_2 (a b : T3 α β γ) : DatumOrd.lt a b = DatumOrd.lt (t3p a) (t3p b) := rfl
instance instLo3 : Lo (T3 α β γ) where
  irr a := by rw [lt3_2, Lo.irr]
  tr {a b c} h1 h2 := by
    rw [lt3_2] at h1 h2 ⊢
    exact Lo.tr h1 h2
  tri {a b} h1 h2 := by
    rw [lt3_2] at h1 h2
    exact t3p_inj (Lo.tri h1 h2)
def t4p (x : T4 α β γ δ) : α × (β × (γ × δ)) := (x.a, x.b, x.c, x.d)
theorem t4p_inj {x y : T4 α β γ δ} (h : t4p x = t4p y) : x = y := by
  cases x; cases y
  cases h
  rfl
theorem lt4_2 (a b : T4 α β γ δ) : DatumOrd.lt a b = DatumOrd.lt (t4p a) (t4p b) := rfl
instance instLo4 : Lo (T4 α β γ δ) where
  irr a := by rw [lt4_2, Lo.irr]
  tr {a b c} h1 h2 := by
    rw [lt4_2] at h1 h2 ⊢
    exact Lo.tr h1 h2
  tri {a b} h1 h2 := by
    rw [lt4_2] at h1 h2
    exact t4p_inj (Lo.tri h1 h2)
theorem listLt_irr : ∀ l : List α, listLt l l = false
  | [] => rfl
  | x :: l => by
    rw [listLt, if_pos rfl]
    exact listLt_irr l
theorem listLt_tr : ∀ {a b c : List α}, listLt a b = true → listLt b c = true → listLt a c = true
  | [], [], _, h, _ => by cases h
  | [], _ :: _, [], _, h => by cases h
  | [], _ :: _, _ :: _, _, _ => rfl
  | _ :: _, [], _, h, _ => by cases h
  | _ :: _, _ :: _, [], _, h => by cases h
  | x :: a, y :: b, z :: c, h1, h2 => by
    rw [listLt] at h1 h2 ⊢
    by_cases e1 : x = y
    · rw [if_pos e1] at h1
      by_cases e2 : y = z
      · rw [if_pos e2] at h2
        rw [if_pos (e1.trans e2)]
        exact listLt_tr h1 h2
      · rw [if_neg e2] at h2
        rw [if_neg (by rw [e1]; exact e2), e1]
        exact h2
    · rw [if_neg e1] at h1
      by_cases e2 : y = z
      · rw [if_neg (by rw [← e2]; exact e1), ← e2]
        exact h1
      · rw [if_neg e2] at h2
        have h3 := Lo.tr h1 h2
        by_cases e3 : x = z
        · rw [e3, Lo.irr] at h3
          cases h3
        · rw [if_neg e3]
          exact h3
theorem listLt_tri : ∀ {a b : List α}, listLt a b = false → listLt b a = false → a = b
  | [], [], _, _ => rfl
  | [], _ :: _, h, _ => by cases h
  | _ :: _, [], _, h => by cases h
  | x :: a, y :: b, h1, h2 => by
    rw [listLt] at h1 h2
    by_cases e : x = y
    · rw [if_pos e] at h1
      rw [if_pos e.symm] at h2
      rw [e, listLt_tri h1 h2]
    · rw [if_neg e] at h1
      rw [if_neg (fun z => e z.symm)] at h2
      exact absurd (Lo.tri h1 h2) e
instance instLoList : Lo (List α) where
  irr := listLt_irr
  tr := listLt_tr
  tri := listLt_tri
/-! ### sorted lists -/
/-- ascending, equal ones side by side -/
abbrev Asc (l : List α) : Prop := l.Pairwise fun a b => DatumOrd.lt b a = false
/-- ascending, all unlike -/
abbrev Rising (l : List α) : Prop := l.Pairwise fun a b => DatumOrd.lt a b = true
theorem srt_pm (l : List α) : (srt l).Perm l := List.mergeSort_perm l _
theorem lo_le_tr {a b c : α} (h1 : DatumOrd.lt b a = false) (h2 : DatumOrd.lt c b = false) : DatumOrd.lt c a = false := by
  cases e : DatumOrd.lt c a with
  | false => rfl
  | true =>
    by_cases e1 : a = b
    · rw [e1] at e
      rw [e] at h2
      cases h2
    · have h3 : DatumOrd.lt a b = true := by
        cases e2 : DatumOrd.lt a b with
        | true => rfl
        | false => exact absurd (Lo.tri e2 h1) e1
      rw [Lo.tr e h3] at h2
      cases h2
theorem srt_asc (l : List α) : Asc (srt l) := by
  have h := List.pairwise_mergeSort (le := fun a b : α => !DatumOrd.lt b a) (fun a b c h1 h2 => ?_) (fun a b => ?_) l
  · exact h.imp fun z => by simpa using z
  · simp only [Bool.not_eq_true'] at h1 h2 ⊢
    exact lo_le_tr h1 h2
  · cases e : DatumOrd.lt b a with
    | false => rfl
    | true => simp [Lo.asym e]
theorem asc_uniq : ∀ {l r : List α}, l.Perm r → Asc l → Asc r → l = r
  | [], r, p, _, _ => by rw [List.nil_perm.mp p]
  | x :: l, [], p, _, _ => absurd p.length_eq (by simp)
  | x :: l, y :: r, p, h1, h2 => by
    obtain ⟨a1, a2⟩ := List.pairwise_cons.mp h1
    obtain ⟨b1, b2⟩ := List.pairwise_cons.mp h2
    have e : x = y := by
      have hx : x ∈ y :: r := p.mem_iff.mp List.mem_cons_self
      have hy : y ∈ x :: l := p.mem_iff.mpr List.mem_cons_self
      rcases List.mem_cons.mp hx with z | z
      · exact z
      · rcases List.mem_cons.mp hy with z2 | z2
        · exact z2.symm
        · exact Lo.tri (b1 x z) (a1 y z2)
    subst e
    rw [asc_uniq (List.Perm.cons_inv p) a2 b2]
theorem srt_uniq {l r : List α} (p : l.Perm r) (h : Asc l) : l = srt r := asc_uniq (p.trans (srt_pm r).symm) h (srt_asc r)
theorem srt_perm_eq {l r : List α} (p : l.Perm r) : srt l = srt r := srt_uniq ((srt_pm l).trans p) (srt_asc l)
theorem Rising.asc {l : List α} (h : Rising l) : Asc l := h.imp fun z => Lo.asym z
theorem Rising.nodup {l : List α} (h : Rising l) : l.Nodup := h.imp fun {a b} z e => by
  rw [e, Lo.irr] at z
  cases z
theorem srt_rising {l : List α} (h : l.Nodup) : Rising (srt l) := by
  have h2 : (srt l).Nodup := (srt_pm l).nodup_iff.mpr h
  refine List.Pairwise.imp_of_mem ?_ ((srt_asc l).and h2)
  intro a b _ _ ⟨h3, h4⟩
  cases e : DatumOrd.lt a b with
  | true => rfl
  | false => exact absurd (Lo.tri e h3) h4
theorem rising_ext {l r : List α} (h1 : Rising l) (h2 : Rising r) (e : ∀ x, x ∈ l ↔ x ∈ r) : l = r :=
  asc_uniq ((List.perm_ext_iff_of_nodup h1.nodup h2.nodup).mpr e) h1.asc h2.asc
theorem mem_srt' {l : List α} {x : α} : x ∈ srt l ↔ x ∈ l := (srt_pm l).mem_iff
end
/-! ### each once -/
section
variable {α : Type} [DecidableEq α]
def dd : List α → List α
  | [] => []
  | x :: l => if x ∈ l then dd l else x :: dd l
theorem mem_dd : ∀ {l : List α} {x : α}, x ∈ dd l ↔ x ∈ l
  | [], x => Iff.rfl
  | y :: l, x => by
    rw [dd]
    by_cases h : y ∈ l
    · rw [if_pos h, mem_dd, List.mem_cons]
      exact ⟨.inr, fun z => z.elim (fun e => e ▸ h) id⟩
    · rw [if_neg h, List.mem_cons, List.mem_cons, mem_dd]
theorem nodup_dd : ∀ l : List α, (dd l).Nodup
  | [] => List.nodup_nil
  | y :: l => by
    rw [dd]
    by_cases h : y ∈ l
    · rw [if_pos h]
      exact nodup_dd l
    · rw [if_neg h]
      exact List.nodup_cons.mpr ⟨fun z => h (mem_dd.mp z), nodup_dd l⟩
theorem nodup_sub : ∀ (l r : List α), l.Nodup → (∀ x ∈ l, x ∈ r) → l.length ≤ r.length
  | [], _, _, _ => Nat.zero_le _
  | x :: l, r, nd, sub => by
    obtain ⟨a1, a2⟩ := List.nodup_cons.mp nd
    have hx : x ∈ r := sub x List.mem_cons_self
    have ih := nodup_sub l (r.erase x) a2 fun y hy => (List.mem_erase_of_ne (fun e : y = x => a1 (by rw [← e]; exact hy))).2 (sub y (List.mem_cons_of_mem _ hy))
    have e := List.length_erase_of_mem hx
    have p := List.length_pos_of_mem hx
    simp only [List.length_cons]
    omega
theorem dd_len_le {l r : List α} (h : ∀ x ∈ l, x ∈ r) : (dd l).length ≤ r.length := nodup_sub _ _ (nodup_dd l) fun x hx => h x (mem_dd.mp hx)
end
/-- sorted(set(xs)) -/
def tdy {α : Type} [DecidableEq α] [DatumOrd α] (l : List α) : Option (List α) := if (dd l).length ≤ 76 then some (srt (dd l)) else none
end FK

namespace FK
open PySem PySem.Spec PyProof.Rows L2
/-! ### keys out of values -/
class Nk (α : Type) [Py α] [DecidableEq α] where
  nk : α → NestedKey
  dp : Nat
  inj : ∀ {a b : α}, nk a = nk b → a = b
  dep : ∀ a : α, (nk a).depth ≤ dp
  at_ : ∀ {X : Cx} {pins : List (Addr × Obj)} {σ : L2.St} {H : Hp} {s : Shared}, Inv X pins σ H s → ∀ {v : V} {u : Value} {a : α}, RelV v u → rep X.K H v a → NestedIs s.heap (nk a) u
class NkR (α : Type) [Py α] : Prop where
  isr : ∀ {K : PySem.W.Frag} {R : Hp} {v : V} {a : α}, rep K R v a → ∃ p, v = .ref p
instance instNkInt : Nk Int where
  nk a := .num a
  dp := 0
  inj e := by cases e; rfl
  dep a := Nat.le_refl _
  at_ {X pins σ H s} _ {v u a} r h := by
    cases (show v = V.int a from h)
    obtain ⟨t, rfl⟩ := r
    exact .int a t
instance instNkStr : Nk Str where
  nk a := .text a
  dp := 0
  inj e := by cases e; rfl
  dep a := Nat.le_refl _
  at_ {X pins σ H s} _ {v u a} r h := by
    cases (show v = V.str a from h)
    obtain ⟨t, rfl⟩ := r
    exact .text a t
section
variable {α β γ : Type} [Py α] [DecidableEq α] [Nk α] [Dq α] [Py β] [DecidableEq β] [Nk β] [Dq β] [Py γ] [DecidableEq γ] [Nk γ] [Dq γ]
instance instNk2 : Nk (α × β) where
  nk a := .tup [Nk.nk a.1, Nk.nk a.2]
  dp := max (Nk.dp α) (Nk.dp β) + 1
  inj {a b} e := by
    injection e with e
    injection e with e1 e
    injection e with e2 _
    exact Prod.ext (Nk.inj e1) (Nk.inj e2)
  dep a := by
    have h1 := Nk.dep a.1
    have h2 := Nk.dep a.2
    simp only [NestedKey.depth, NestedKey.depthAll]
    omega
  at_ {X pins σ H s} I {v u a} r h := by
    obtain ⟨p, x0, x1, z0, z1, rfl, rfl, ⟨o, g, gc, n, gd⟩, r0, r1, q0, q1⟩ := tup2_rd I r h
    exact .tup g gc gd (.cons (Nk.at_ I r0 q0) (.cons (Nk.at_ I r1 q1) .nil))
instance instNk3 : Nk (T3 α β γ) where
  nk a := .tup [Nk.nk a.a, Nk.nk a.b, Nk.nk a.c]
  dp := max (Nk.dp α) (max (Nk.dp β) (Nk.dp γ)) + 1
  inj {a b} e := by
    injection e with e
    injection e with e1 e
    injection e with e2 e
    injection e with e3 _
    obtain ⟨a1, a2, a3⟩ := a
    obtain ⟨b1, b2, b3⟩ := b
    cases (Nk.inj e1 : a1 = b1)
    cases (Nk.inj e2 : a2 = b2)
    cases (Nk.inj e3 : a3 = b3)
    rfl
  dep a := by
    have h1 := Nk.dep a.a
    have h2 := Nk.dep a.b
    have h3 := Nk.dep a.c
    simp only [NestedKey.depth, NestedKey.depthAll]
    omega
  at_ {X pins σ H s} I {v u a} r h := by
    obtain ⟨p, x0, x1, x2, z0, z1, z2, rfl, rfl, ⟨o, g, gc, n, gd⟩, r0, r1, r2, q0, q1, q2⟩ := tup3_rd I r h
    exact .tup g gc gd (.cons (Nk.at_ I r0 q0) (.cons (Nk.at_ I r1 q1) (.cons (Nk.at_ I r2 q2) .nil)))
instance instNkR2 : NkR (α × β) := ⟨fun h => let ⟨p, _, e, _⟩ := h; ⟨p, e⟩⟩
instance instNkR3 : NkR (T3 α β γ) := ⟨fun h => let ⟨p, _, e, _⟩ := h; ⟨p, e⟩⟩
end
/-! ### lists side by side -/
open PySem.W (EachIs)
theorem each_perm {α β : Type} {R : α → β → Prop} : ∀ {us vs : List α}, us.Perm vs → ∀ {bs : List β}, EachIs R vs bs → ∃ cs, EachIs R us cs ∧ cs.Perm bs := by
  intro us vs p
  induction p with
  | nil => exact fun {bs} h => ⟨bs, h, List.Perm.refl _⟩
  | cons x p ih =>
    intro bs h
    cases h with
    | cons h1 h2 =>
      obtain ⟨cs, a1, a2⟩ := ih h2
      exact ⟨_ :: cs, .cons h1 a1, a2.cons _⟩
  | swap x y l =>
    intro bs h
    cases h with
    | cons h1 h2 =>
      cases h2 with
      | cons h2 h3 => exact ⟨_ :: _ :: _, .cons h2 (.cons h1 h3), List.Perm.swap _ _ _⟩
  | trans p1 p2 ih1 ih2 =>
    intro bs h
    obtain ⟨cs, a1, a2⟩ := ih2 h
    obtain ⟨ds, b1, b2⟩ := ih1 a1
    exact ⟨ds, b1, b2.trans a2⟩
mutual
theorem reads_there {h : Heap} : ∀ (d : PyData) (v : Value) (l : List Addr), PySem.W.alike d d = true → Reads h v d l → ∀ x ∈ l, ∃ o, h.get? x = some o
  | .none, _, _, _, r, _, hx => by cases r; cases hx
  | .bool _, _, _, _, r, _, hx => by cases r; cases hx
  | .int _, _, _, _, r, _, hx => by cases r; cases hx
  | .str _, _, _, _, r, _, hx => by cases r; cases hx
  | .list xs, _, _, al, r, x, hx => by
    cases r with
    | list h1 h2 h3 h4 =>
      rcases List.mem_cons.mp hx with z | z
      · exact ⟨_, by rw [z]; exact h1⟩
      · exact reads_all_there xs _ _ (by simpa [PySem.W.alike] using al) h4 x z
  | .tuple xs, _, _, al, r, x, hx => by
    cases r with
    | tuple h1 h2 h3 h4 => exact reads_all_there xs _ _ (by simpa [PySem.W.alike] using al) h4 x hx
  | .dict _, _, _, al, _, _, _ => absurd al (by simp [PySem.W.alike])
theorem reads_all_there {h : Heap} : ∀ (ds : List PyData) (vs : List Value) (l : List Addr), PySem.W.alikeAll ds ds = true → ReadsAll h vs ds l → ∀ x ∈ l, ∃ o, h.get? x = some o
  | [], _, _, _, r, _, hx => by cases r; cases hx
  | d :: ds, _, _, al, r, x, hx => by
    cases r with
    | cons h1 h2 =>
      rcases List.mem_append.mp hx with z | z
      · exact reads_there d _ _ (PySem.W.alike_all_cons al).1 h1 x z
      · exact reads_all_there ds _ _ (PySem.W.alike_all_cons al).2 h2 x z
end
theorem each_mono {α β : Type} {R R' : α → β → Prop} (f : ∀ a b, R a b → R' a b) : ∀ {as : List α} {bs : List β}, EachIs R as bs → EachIs R' as bs
  | _, _, .nil => .nil
  | _, _, .cons h t => .cons (f _ _ h) (each_mono f t)
theorem each_len {α β : Type} {R : α → β → Prop} : ∀ {as : List α} {bs : List β}, EachIs R as bs → as.length = bs.length
  | _, _, .nil => rfl
  | _, _, .cons h t => congrArg (· + 1) (each_len t)
section
variable {P : Program} {w : World} {A : Around} {E : Value → Shared → Prop} {s : Shared} {c : Addr} {M : List (Addr × NestedKey)} {xs : Array (Int × Value)} {n : Nat} {tb : SetTable}
/-- sorted(a set) -/
theorem sn_sorted {β : Type} {enc : β → PyData} {R : Value → β → Prop} {bs : List β} (T : SetN P w s.heap c M xs n tb) (hh : A.handled = none) (e : EachIs R (M.map fun p => Value.ref p.1) bs) (er : EachIs (fun v b => ∃ l, Reads s.heap v (enc b) l) (M.map fun p => Value.ref p.1) bs)
    (al : ∀ b b', PySem.W.alike (enc b) (enc b') = true) (so : (∀ b : β, ∃ x r, enc b = .tuple (x :: r)) ∨ ∀ b : β, enc b ≠ .none ∧ ∀ z, enc b ≠ .tuple z) (hu : ∀ b, A.units + 8 + (enc b).depth < cLine) {Q : Value → Shared → Prop}
    (q : ∀ (z : Shared) (p : Addr) (out : List Value) (k : Nat) (cs : List β), (∀ b o, s.heap.get? b = some o → z.heap.get? b = some o) → z.gens = s.gens → z.os = s.os → s.heap.objs.size ≤ p → z.heap.get? p = some (seqObj "list" (List.toArray out) k) → cs.Perm bs → EachIs R out (cs.mergeSort (PySem.W.dataLe false enc)) → out.length = bs.length → Q (.ref p) z) :
    wpAny (model P w) A (call (.builtin "sorted") [.ref c]) Q E s := by
  obtain ⟨o, g, ge, gd⟩ := T.obj
  have lx : xs.size = M.length := sn_len T.row
  have fm : M.length ≤ 76 := by
    have rm := T.room
    rcases T.tab.mok with y | y | y <;> omega
  refine Calls.call_function_entry kind_sorted plain_sorted entry_sorted (args_sorted1 _) ?_
  unfold Builtin.«sorted»
  refine wpAny_bind (m := checkCount "sorted" 1 1 _) (wpAny_pure ?_)
  refine wpAny_bind (collect_set (A := A.in1) hh ⟨o, g, ge.1, gd⟩ T.fit (by unfold scanBound; omega) T.tab.ris T.led fun s1 out k1 sz1 g1 o1 pm => ?_)
  have e0 : xs.toList.map (·.2) = M.map fun p => Value.ref p.1 := by
    rw [T.row, List.map_map]
    rfl
  rw [e0] at pm
  obtain ⟨cs, ec, pc⟩ := each_perm (R := fun v b => R v b ∧ ∃ l, Reads s.heap v (enc b) l) pm (bs := bs) (by
    clear pm q e0
    revert e er
    generalize M.map (fun p => Value.ref p.1) = us
    intro e er
    induction e with
    | nil => exact .nil
    | cons h t ih =>
      cases er with
      | cons h2 t2 => exact .cons ⟨h, h2⟩ (ih t2))
  have lo : out.length = M.length := by rw [pm.length_eq, List.length_map]
  refine wpAny_bind (wpAny_newList ?_ (by rw [sizeLine_eq]; omega))
  have gL : (s1.heap.push (seqObj "list" out.toArray 0)).get? s1.heap.objs.size = some (seqObj "list" out.toArray 0) := Heap.get?_push_size _ rfl
  have up : ∀ b u, s.heap.get? b = some u → (s1.heap.push (seqObj "list" out.toArray 0)).get? b = some u := fun b u y => Heap.get?_push_of_some _ (k1 b u y)
  refine wpAny_bind (wpAny_holding (PySem.W.list_sort_data (s := { s1 with heap := s1.heap.push (seqObj "list" out.toArray 0) }) (R := R) (enc := enc) (bs := cs) gL (each_mono (fun _ _ h => h.1) ec) (each_mono (fun v b h => ?_) ec) (.of al) ?_ ?_ (fun b _ => ?_) fun ys hl hy => ?_))
  · obtain ⟨_, l, hr⟩ := h
    refine ⟨l, Reads.keeps up hr, fun hm => ?_⟩
    obtain ⟨u, hu2⟩ := reads_there _ _ _ (al b b) hr _ hm
    exact absurd (Heap.lt_size (k1 _ _ hu2)) (Nat.lt_irrefl _)
  · exact so.elim (PySem.W.Sortable.tuples) (PySem.W.Sortable.others)
  · rw [← each_len ec, lo, sizeLine_eq]
    omega
  · have := hu b
    simp only [Around.in1_units]
    omega
  · obtain ⟨k, hk⟩ := sortedHeap_at (vs := out) (out := ys.toArray) gL
    refine wpAny_pure ⟨_, rfl, q _ s1.heap.objs.size ys k cs (fun b u y => ?_) g1 o1 sz1 hk pc hy ?_⟩
    · have lb := Heap.lt_size (k1 b u y)
      show (sortedHeap (s1.heap.push (seqObj "list" out.toArray 0)) s1.heap.objs.size out ys.toArray).get? b = some u
      rw [sortedHeap_old (Nat.ne_of_lt lb) (by rw [size_push']; exact Nat.lt_succ_of_lt lb)]
      exact up b u y
    · rw [hl, pc.length_eq]
end
section
variable {X : Cx} {R0 H0 : Hp} {Γ : List Slot} {a : Expr} {pos : Pos} {α : Type} [Py α] [DecidableEq α] [PySem.W.DatumOrd α] [Dh α] [Dso α] [Lo α] [Nk α] [NkR α]
/-- the elements as keys -/
theorem each_key {pins : List (Addr × Obj)} {σ : L2.St} {H R : Hp} {s : Shared} (I : Inv X pins σ H s) (hi : Ex R H) : ∀ {vs : List V} {us : List Value} {as : List α}, Vals vs us → AllR X.K R vs as → ∃ ks : List (Addr × NestedKey), us = ks.map (fun p => Value.ref p.1) ∧
    EachIs (fun (p : Addr × NestedKey) (x : α) => p.2 = Nk.nk x ∧ NestedIs s.heap p.2 (.ref p.1) ∧ (∃ v, RelV v (.ref p.1) ∧ rep X.K R v x) ∧ ∃ l, Reads s.heap (.ref p.1) (PySem.W.Datum.toD x) l) ks as
  | [], us, as, r, h => by
    cases r
    cases h
    exact ⟨[], rfl, .nil⟩
  | v :: vs, us, as, r, h => by
    cases r with
    | cons r1 t1 =>
      cases h with
      | cons p1 q1 =>
        obtain ⟨ks, e1, e2⟩ := each_key I hi t1 q1
        obtain ⟨d, rfl⟩ := NkR.isr p1
        cases r1
        exact ⟨(d, Nk.nk _) :: ks, by rw [e1]; rfl, .cons ⟨rfl, Nk.at_ I (v := .ref d) rfl (Py.mono hi p1), ⟨.ref d, rfl, p1⟩, Dh.hd I (v := .ref d) rfl (Py.mono hi p1)⟩ e2⟩
theorem each_get {α β : Type} {R : α → β → Prop} : ∀ {as : List α} {bs : List β}, EachIs R as bs → ∀ a ∈ as, ∃ b ∈ bs, R a b
  | _, _, .nil, a, h => by cases h
  | _, _, .cons h t, a, hm => by
    rcases List.mem_cons.mp hm with e | z
    · exact ⟨_, List.mem_cons_self, by rw [e]; exact h⟩
    · obtain ⟨b, m, r⟩ := each_get t a z
      exact ⟨b, List.mem_cons_of_mem _ m, r⟩
theorem each_back {α β : Type} {R : α → β → Prop} : ∀ {as : List α} {bs : List β}, EachIs R as bs → ∀ b ∈ bs, ∃ a ∈ as, R a b
  | _, _, .nil, a, h => by cases h
  | _, _, .cons h t, a, hm => by
    rcases List.mem_cons.mp hm with e | z
    · exact ⟨_, List.mem_cons_self, by rw [e]; exact h⟩
    · obtain ⟨b, m, r⟩ := each_back t a z
      exact ⟨b, List.mem_cons_of_mem _ m, r⟩
theorem each_pick {α β : Type} {R : α → β → Prop} {bs : List β} : ∀ {M : List α}, (∀ a ∈ M, ∃ b ∈ bs, R a b) → ∃ cs, EachIs R M cs ∧ ∀ c ∈ cs, c ∈ bs
  | [], _ => ⟨[], .nil, fun _ h => by cases h⟩
  | a :: M, h => by
    obtain ⟨b, m, r⟩ := h a List.mem_cons_self
    obtain ⟨cs, e, s⟩ := each_pick fun x hx => h x (List.mem_cons_of_mem _ hx)
    refine ⟨b :: cs, .cons r e, fun c hc => ?_⟩
    rcases List.mem_cons.mp hc with z | z
    · rw [z]
      exact m
    · exact s c z
theorem each_mapL {α β γ : Type} {R : γ → β → Prop} (f : α → γ) : ∀ {as : List α} {bs : List β}, EachIs (fun a b => R (f a) b) as bs → EachIs R (as.map f) bs
  | _, _, .nil => .nil
  | _, _, .cons h t => .cons h (each_mapL f t)
theorem each_map_eq {α β γ : Type} {R : α → β → Prop} {f : α → γ} {f2 : β → γ} (h : ∀ a b, R a b → f a = f2 b) : ∀ {as : List α} {bs : List β}, EachIs R as bs → as.map f = bs.map f2
  | _, _, .nil => rfl
  | _, _, .cons x t => by rw [List.map_cons, List.map_cons, h _ _ x, each_map_eq h t]
theorem jo_sset {p p2 pos2 : Pos} {m : Option (List α)} (hm : X.mg "sorted" = none) (hm2 : X.mg "set" = none) (hu : X.A.units + 64 < cLine) (h : JB X R0 H0 Γ a m) (hc : X.calm = true := by rfl) (hd : PySem.W.Datum.depth α ≤ 40 := by decide) (hdp : Nk.dp α ≤ 8 := by decide)
    (hg : Gl X "sorted" := by rfl) (hg2 : Gl X "set" := by rfl) (hs : starEach [a] X.env = (false, eval a X.env) :: starEach [] X.env := by rfl)
    (hs2 : starEach [.Call (.Name "set" p2) [a] [] pos2] X.env = (false, eval (.Call (.Name "set" p2) [a] [] pos2) X.env) :: starEach [] X.env := by rfl) :
    JO X R0 H0 Γ (.Call (.Name "sorted" p) [.Call (.Name "set" p2) [a] [] pos2] [] pos) (m.bind tdy) := .mk fun σ R H S z ez Q q => by
  obtain ⟨x, ex, ez⟩ := bind_some' ez
  unfold tdy at ez
  by_cases few : (dd x).length ≤ 76
  case neg =>
    rw [if_neg few] at ez
    cases ez
  rw [if_pos few] at ez
  have ez := (Option.some.inj ez).symm
  subst ez
  intro pins s I
  refine Call_ (ld_blt I hg hm PyProof.Rows.boot_sorted (PyProof.Rows.callWith_builtin1 (args_cons (Call_ (ld_blt I hg2 hm2 PyProof.Rows.boot_set (PyProof.Rows.callWith_type1 (args_cons (thn (h σ R H S x ex (fun v H1 => ∃ R1, Ext R H R1 H1 ∧ bor X.K R1 H1 v x) (fun v R1 H1 x1 r1 => ⟨R1, x1, r1⟩) pins s I) fun u s1 ⟨v, H1, I1, r1, R1, x1, b1⟩ => args_nil ?_) hs) hs rfl))) hs2) hs2 rfl))
  obtain ⟨l, o, rfl, hl, vs, rfl, av⟩ := b1
  obtain rfl : u = Value.ref l := r1
  obtain ⟨its, t1, l1, hz⟩ := I1.list (.inl hl)
  obtain ⟨ks, e1, e2⟩ := each_key (α := α) I1 x1.i t1 av
  have kfew : Few ks := fun l0 nd sub => by
    have z := nodup_sub l0 ((dd x).map Nk.nk) nd fun k hk => by
      obtain ⟨p, hp, rfl⟩ := List.mem_map.mp (sub k hk)
      obtain ⟨b, hb, hr, _⟩ := each_get e2 p hp
      rw [hr]
      exact List.mem_map.mpr ⟨b, mem_dd.mpr hb, rfl⟩
    rw [List.length_map] at z
    omega
  refine sn_call (P := X.prog) (w := X.w) ks (I1.ok.hd hc) l1.isList (by simpa using e1) (fun p hp => ?_) kfew (by omega) fun h' tk M xs n tb T g kp => ?_
  · obtain ⟨b, hb, hr, hn, _⟩ := each_get e2 p hp
    refine ⟨hn, ?_⟩
    rw [hr]
    exact Nat.le_trans (Nk.dep b) hdp
  refine args_nil ?_
  have I2 : Inv X pins σ H1 { s1 with heap := h', toks := tk } := I1.kept (t' := tk) kp
  have sub : ∀ p ∈ M, p ∈ ks := fun p hp => List.mem_of_mem_take (g.sub p hp)
  obtain ⟨bs, f1, f2⟩ := each_pick (R := fun (p : Addr × NestedKey) (x : α) => p.2 = Nk.nk x ∧ (∃ v, RelV v (.ref p.1) ∧ rep X.K R1 v x) ∧ ∃ l, Reads h' (.ref p.1) (PySem.W.Datum.toD x) l) (bs := x) (M := M) fun p hp => by
    obtain ⟨b, hb, y1, _, y3, l, y4⟩ := each_get e2 p (sub p hp)
    exact ⟨b, hb, y1, y3, l, PyProof.Rows.Reads.keeps kp y4⟩
  have bk : bs.map Nk.nk = M.map (·.2) := (each_map_eq (fun p b h => h.1) f1).symm
  have bnd : bs.Nodup := L2.nodup_of_map (f := Nk.nk) (by rw [bk]; exact T.nd)
  have bp : bs.Perm (dd x) := (List.perm_ext_iff_of_nodup bnd (nodup_dd x)).mpr fun b => by
    rw [mem_dd]
    refine ⟨f2 b, fun hb => ?_⟩
    obtain ⟨p, hp, y1, _⟩ := each_back e2 b hb
    have z := g.all p (by rw [List.take_length]; exact hp)
    rw [← bk, y1] at z
    obtain ⟨b2, m2, e3⟩ := List.mem_map.mp z
    rw [← Nk.inj e3]
    exact m2
  refine sn_sorted (s := { s1 with heap := h', toks := tk }) (R := fun u (a : α) => ∃ v, RelV v u ∧ rep X.K R1 v a) (enc := PySem.W.Datum.toD) (bs := bs) T (I1.ok.hd hc) (each_mapL _ (each_mono (fun p b h => h.2.1) f1)) (each_mapL _ (each_mono (fun p b h => h.2.2) f1)) PySem.W.DatumOrd.alike Dso.so (fun b => ?_) fun z d out k cs kz gz oz hd2 hout pc ho lo => ?_
  · have := PySem.W.Datum.depth_le b
    omega
  have es : cs.mergeSort (PySem.W.dataLe false PySem.W.Datum.toD) = srt (dd x) := by
    have e0 : cs.mergeSort (PySem.W.dataLe false PySem.W.Datum.toD) = srt cs := by
      unfold srt
      congr 1
      funext a b
      rw [PySem.W.dataLe_eq]
      show (!PySem.W.dataLt _ _) = _
      rw [PySem.W.DatumOrd.lt_eq]
    rw [e0]
    exact srt_perm_eq (pc.trans bp)
  rw [es] at ho
  obtain ⟨ws, r2, q2⟩ := rel_each ho
  have hlen : ws.length ≤ sizeLine := by
    rw [r2.length, lo, bp.length_eq, sizeLine_eq]
    omega
  have hn : H1 d = none := I2.hok.fresh hd2
  have J : Inv X pins σ (upd H1 d (.lst ws)) { ({ s1 with heap := h', toks := tk } : Shared) with heap := z.heap, gens := z.gens, drawn := z.drawn, toks := z.toks } :=
    I2.call (ch := []) (Un.laid kz hd2 hn) (I2.hok.laid kz hd2 ⟨hlen, out, k, r2, hout⟩) (by rw [gz]; exact I2.bare) (fun _ y => nomatch y)
  have e : z = { s1 with heap := z.heap, gens := z.gens, drawn := z.drawn, toks := z.toks } := by
    cases z
    cases s1
    cases oz
    rfl
  rw [e]
  exact ⟨.ref d, _, J, rfl, q d _ R1 _ (x1.trans (.own x1.i hn)) (x1.h.none hn) upd_same (x1.i.none hn) ⟨ws, rfl, q2⟩⟩
end
end FK

namespace FK
open PySem PySem.Spec PyProof.Rows L2
section
variable {X : Cx} {R0 H0 : Hp} {Γ : List Slot} {a b e : Expr} {pos : Pos}
section
variable {α : Type} [Py α] [DecidableEq α] [PySem.W.DatumOrd α] [Dh α] [Dso α] [Lo α] [Nk α] [NkR α]
theorem jo_sset_t {p p2 pos2 : Pos} {x : List α} (hm : X.mg "sorted" = none) (hm2 : X.mg "set" = none) (hu : X.A.units + 64 < cLine) (h : JB X R0 H0 Γ a (some x)) (hc : X.calm = true := by rfl) (hd : PySem.W.Datum.depth α ≤ 40 := by decide) (hdp : Nk.dp α ≤ 8 := by decide)
    (hg : Gl X "sorted" := by rfl) (hg2 : Gl X "set" := by rfl) (hs : starEach [a] X.env = (false, eval a X.env) :: starEach [] X.env := by rfl)
    (hs2 : starEach [.Call (.Name "set" p2) [a] [] pos2] X.env = (false, eval (.Call (.Name "set" p2) [a] [] pos2) X.env) :: starEach [] X.env := by rfl) :
    JO X R0 H0 Γ (.Call (.Name "sorted" p) [.Call (.Name "set" p2) [a] [] pos2] [] pos) (tdy x) := jo_sset hm hm2 hu h hc hd hdp hg hg2 hs hs2
end
section
variable {α : Type} [Py α] [DecidableEq α] [PySem.W.DatumOrd α] [Dh α] [Dq α]
/-- a < b, as Python orders data -/
abbrev dLt (x y : α) : Bool := PySem.W.DatumOrd.lt x y
variable {ma mb : Option α} {x y : α}
end
/-! ### list(t), a tuple of like things -/
section
variable {α : Type} [Py α]
theorem AllR.two {K : PySem.W.Frag} {R : Hp} {v w : V} {x y : α} (h1 : rep K R v x) (h2 : rep K R w y) : AllR K R [v, w] [x, y] := .cons h1 (.cons h2 .nil)
theorem AllR.three {K : PySem.W.Frag} {R : Hp} {v w u : V} {x y z : α} (h1 : rep K R v x) (h2 : rep K R w y) (h3 : rep K R u z) : AllR K R [v, w, u] [x, y, z] := .cons h1 (.cons h2 (.cons h3 .nil))

end
/-! ### arguments handed over frozen -/
structure Fz (α : Type) where
  val : α
instance instPyFz {α : Type} [Py α] : Py (Fz α) where
  rep := fun K R v a => rep K R v a.val
  bor := fun K R _ v a => rep K R v a.val
  mono := fun e h => Py.mono e h
  bmono := fun e _ h => Py.mono e h
  lend := fun _ h => h
end
end FK

/-! dicts of one's own, the keys tuples of ints and texts; d.get -/
namespace FK
open PySem PySem.Spec PyProof.Rows L2
class Kt (κ : Type) [Py κ] [DecidableEq κ] where
  kt : κ → List L2.Key
  inj : ∀ {a b : κ}, kt a = kt b → a = b
  bv : ∀ {K : PySem.W.Frag} {R : Hp} {v : V} {a : κ}, rep K R v a → ∃ b, v = .ref b ∧ R b = some (.tup ((kt a).map kV))
  vr : ∀ {K : PySem.W.Frag} {R : Hp} {b : Addr} {a : κ}, R b = some (.tup ((kt a).map kV)) → rep K R (.ref b) a
  br : ∀ {K : PySem.W.Frag} {R H : Hp} {v : V} {a : κ}, bor K R H v a → rep K R v a
section
variable {α β γ : Type} [Py α] [DecidableEq α] [Kq α] [Py β] [DecidableEq β] [Kq β] [Py γ] [DecidableEq γ] [Kq γ]
theorem kq_rep {K : PySem.W.Frag} {R : Hp} {v : V} {a : α} (h : rep K R v a) : v = kV (Kq.key a) := Kq.bv (Py.lend (.refl R) h)
instance instKt2 : Kt (α × β) where
  kt a := [Kq.key a.1, Kq.key a.2]
  inj {a b} e := by
    injection e with e1 e
    injection e with e2 _
    exact Prod.ext (Kq.inj e1) (Kq.inj e2)
  bv {K R v a} h := by
    obtain ⟨p, vs, rfl, hp, x, y, rfl, h1, h2⟩ := h
    rw [kq_rep h1, kq_rep h2] at hp
    exact ⟨p, rfl, hp⟩
  vr {K R b a} h := ⟨b, _, rfl, h, _, _, rfl, Kq.vr a.1, Kq.vr a.2⟩
  br h := h
instance instKt3 : Kt (T3 α β γ) where
  kt a := [Kq.key a.a, Kq.key a.b, Kq.key a.c]
  inj {a b} e := by
    injection e with e1 e
    injection e with e2 e
    injection e with e3 _
    obtain ⟨a1, a2, a3⟩ := a
    obtain ⟨b1, b2, b3⟩ := b
    cases (Kq.inj e1 : a1 = b1)
    cases (Kq.inj e2 : a2 = b2)
    cases (Kq.inj e3 : a3 = b3)
    rfl
  bv {K R v a} h := by
    obtain ⟨p, vs, rfl, hp, x, y, z, rfl, h1, h2, h3⟩ := h
    rw [kq_rep h1, kq_rep h2, kq_rep h3] at hp
    exact ⟨p, rfl, hp⟩
  vr {K R b a} h := ⟨b, _, rfl, h, _, _, _, rfl, Kq.vr a.a, Kq.vr a.b, Kq.vr a.c⟩
  br h := h
end
section
variable {κ α : Type} [Py κ] [DecidableEq κ] [Kt κ] [Py α]
inductive DT (K : PySem.W.Frag) (R : Hp) : List ((List L2.Key) × V) → List (κ × α) → Prop
  | nil : DT K R [] []
  | cons {k : κ} {v : V} {a : α} {vs : List ((List L2.Key) × V)} {l : List (κ × α)} : rep K R v a → DT K R vs l → DT K R ((Kt.kt k, v) :: vs) ((k, a) :: l)
theorem DT.mono {K : PySem.W.Frag} {R R' : Hp} (e : Ex R R') : ∀ {vs : List ((List L2.Key) × V)} {l : List (κ × α)}, DT K R vs l → DT K R' vs l
  | _, _, .nil => .nil
  | _, _, .cons h t => .cons (Py.mono e h) (t.mono e)
theorem DT.len {K : PySem.W.Frag} {R : Hp} : ∀ {vs : List ((List L2.Key) × V)} {l : List (κ × α)}, DT K R vs l → vs.length = l.length
  | _, _, .nil => rfl
  | _, _, .cons _ t => congrArg (· + 1) t.len
instance instObDcT : Ob (Dct κ α) where
  nt := fun ⟨_, h, _⟩ => by rw [h]; rfl
  ho := fun K R o d => ∃ kvs, o = .dT kvs ∧ DT K R kvs d.l
  mono := fun e ⟨kvs, h, q⟩ => ⟨kvs, h, q.mono e⟩

theorem kt_dec (a b : κ) : decide (Kt.kt a = Kt.kt b) = decide (a = b) := by
  by_cases h : a = b
  · rw [decide_eq_true h, decide_eq_true (by rw [h])]
  · rw [decide_eq_false h, decide_eq_false fun z => h (Kt.inj z)]
theorem DT.get {K : PySem.W.Frag} {R : Hp} (k : κ) : ∀ {vs : List ((List L2.Key) × V)} {l : List (κ × α)}, DT K R vs l → (dGet l k = none ∧ valV vs (Kt.kt k) = none) ∨ ∃ a v, dGet l k = some a ∧ valV vs (Kt.kt k) = some v ∧ rep K R v a
  | _, _, .nil => .inl ⟨rfl, rfl⟩
  | _, _, .cons (k := k') (v := v) (a := a) (vs := vs) (l := l) h t => by
    by_cases e : k' = k
    · subst e
      refine .inr ⟨a, v, ?_, ?_, h⟩
      · unfold dGet
        rw [List.find?_cons, decide_eq_true rfl]
        rfl
      · exact valV_pos rfl
    · have e2 : ¬ Kt.kt k' = Kt.kt k := fun z => e (Kt.inj z)
      have g1 : dGet ((k', a) :: l) k = dGet l k := by
        unfold dGet
        rw [List.find?_cons, decide_eq_false e]
      rw [g1, valV_neg (p := (Kt.kt k', v)) e2]
      exact t.get k
theorem DT.any {K : PySem.W.Frag} {R : Hp} (k : κ) : ∀ {vs : List ((List L2.Key) × V)} {l : List (κ × α)}, DT K R vs l → (vs.any fun p => decide (p.1 = Kt.kt k)) = l.any fun p => decide (p.1 = k)
  | _, _, .nil => rfl
  | _, _, .cons (k := k') h t => by
    rw [List.any_cons, List.any_cons, t.any k]
    show (decide (Kt.kt k' = Kt.kt k) || _) = _
    rw [kt_dec]
theorem DT.repl {K : PySem.W.Frag} {R : Hp} (k : κ) {v : V} {a : α} (r : rep K R v a) : ∀ {vs : List ((List L2.Key) × V)} {l : List (κ × α)}, DT K R vs l → DT K R (vs.map fun p => if p.1 = Kt.kt k then (p.1, v) else p) (l.map fun p => if p.1 = k then (p.1, a) else p)
  | _, _, .nil => .nil
  | _, _, .cons (k := k') h t => by
    rw [List.map_cons, List.map_cons]
    by_cases e : k' = k
    · rw [if_pos (show Kt.kt k' = Kt.kt k by rw [e]), if_pos e]
      exact .cons r (t.repl k r)
    · rw [if_neg (show ¬ Kt.kt k' = Kt.kt k from fun z => e (Kt.inj z)), if_neg e]
      exact .cons h (t.repl k r)
theorem DT.snoc {K : PySem.W.Frag} {R : Hp} (k : κ) {v : V} {a : α} (r : rep K R v a) : ∀ {vs : List ((List L2.Key) × V)} {l : List (κ × α)}, DT K R vs l → DT K R (vs ++ [(Kt.kt k, v)]) (l ++ [(k, a)])
  | _, _, .nil => .cons r .nil
  | _, _, .cons h t => .cons h (t.snoc k r)
theorem DT.put {K : PySem.W.Frag} {R : Hp} (k : κ) {v : V} {a : α} (r : rep K R v a) {vs : List ((List L2.Key) × V)} {l : List (κ × α)} (h : DT K R vs l) : DT K R (putK vs (Kt.kt k) v) (dPut l k a) := by
  unfold putK dPut
  rw [h.any k]
  split
  · exact h.repl k r
  · exact h.snoc k r

variable {X : Cx} {R0 H0 : Hp} {Γ : List Slot} {e a b o f : Expr} {pos : Pos} {mo : Option (Dct κ α)} {mk : Option κ} {d : Dct κ α} {k : κ}
open PySem.W (EachIs)
theorem DT.keys {K : PySem.W.Frag} {R R2 H : Hp} (i : Ex R H) : ∀ {kvs : List ((List L2.Key) × V)} {l : List (κ × α)} {xs : List ((List L2.Key) × Addr × Value)}, DT K R kvs l → KT H kvs xs → (∀ q ∈ xs, R2 q.2.1 = some (.tup (q.1.map kV))) → EachIs (fun (u : Value) (c : κ) => ∃ v, RelV v u ∧ rep K R2 v c) (xs.map fun q => Value.ref q.2.1) (l.map (·.1))
  | _, _, _, .nil, h, _ => by
    cases h
    exact .nil
  | _, _, _, .cons (k := k) _ t, h, f => by
    cases h with
    | cons p q =>
      have g := f _ List.mem_cons_self
      rw [← p.1] at g
      exact .cons ⟨.ref _, rfl, Kt.vr g⟩ (t.keys i q fun z hz => f z (List.mem_cons_of_mem _ hz))
section
variable [PySem.W.DatumOrd κ] [Dh κ] [Dso κ]
end
end
section
variable {κ α : Type} [Py κ] [DecidableEq κ] [Kq κ] [Py α] [Nn α] {X : Cx} {R0 H0 : Hp} {Γ : List Slot} {e a b o f : Expr} {pos apos : Pos} {mo : Option (Dct κ α)} {mk : Option κ} {mx : Option α} {d : Dct κ α} {k : κ} {x : α}
end
section
variable {κ α : Type} [Py κ] [DecidableEq κ] [Kt κ] [Py α] [Nn α] {X : Cx} {R0 H0 : Hp} {Γ : List Slot} {e a b o f : Expr} {pos apos : Pos} {mo : Option (Dct κ α)} {mk : Option κ} {mx : Option α} {d : Dct κ α} {k : κ} {x : α}
end
end FK

/-! things of one's own with lists of one's own in them -/
namespace FK
open PySem PySem.Spec PyProof.Rows L2
section
variable {K : PySem.W.Frag} {R H R' H' : Hp} {κ α : Type} [Py α]
inductive Kids (K : PySem.W.Frag) (R H : Hp) : List Addr → List (List α) → Prop
  | nil : Kids K R H [] []
  | cons {c : Addr} {vs : List V} {l : List α} {cs : List Addr} {ls : List (List α)} : H c = some (.lst vs) → AllR K R vs l → Kids K R H cs ls → Kids K R H (c :: cs) (l :: ls)
theorem Kids.mono (e : Ex R R') : ∀ {cs : List Addr} {ls : List (List α)}, (∀ c ∈ cs, ∀ u, H c = some u → H' c = some u) → Kids K R H cs ls → Kids K R' H' cs ls
  | _, _, _, .nil => .nil
  | _, _, f, .cons h1 h2 t => .cons (f _ List.mem_cons_self _ h1) (h2.mono e) (t.mono e fun c hc => f c (List.mem_cons_of_mem _ hc))
theorem Kids.len : ∀ {cs : List Addr} {ls : List (List α)}, Kids K R H cs ls → cs.length = ls.length
  | _, _, .nil => rfl
  | _, _, .cons _ _ t => congrArg (· + 1) t.len
theorem Kids.there : ∀ {cs : List Addr} {ls : List (List α)}, Kids K R H cs ls → ∀ c ∈ cs, ∃ u, H c = some u ∧ isT u = false
  | _, _, .nil, c, h => by cases h
  | _, _, .cons h1 _ t, c, h => by
    rcases List.mem_cons.mp h with e | z
    · exact ⟨_, by rw [e]; exact h1, rfl⟩
    · exact t.there c z
theorem Kids.get : ∀ {cs : List Addr} {ls : List (List α)} {j : Nat} {l : List α}, Kids K R H cs ls → ls[j]? = some l → ∃ c vs, cs[j]? = some c ∧ H c = some (.lst vs) ∧ AllR K R vs l
  | _, _, j, l, .nil, e => by simp at e
  | _, _, 0, l, .cons h1 h2 _, e => by
    cases Option.some.inj e
    exact ⟨_, _, rfl, h1, h2⟩
  | _, _, j + 1, l, .cons _ _ t, e => t.get (j := j) e
/-- one of them changed -/
theorem Kids.set : ∀ {cs : List Addr} {ls : List (List α)} {j : Nat} {c : Addr} {vs : List V} {l : List α}, Kids K R H cs ls → cs.Nodup → cs[j]? = some c → Ex R R' → (∀ z ∈ cs, z ≠ c → ∀ u, H z = some u → H' z = some u) → H' c = some (.lst vs) → AllR K R' vs l → Kids K R' H' cs (ls.set j l)
  | _, _, j, c, vs, l, .nil, _, e, _, _, _, _ => by simp at e
  | _, _, 0, c, vs, l, .cons _ _ t, nd, e, x, f, h, r => by
    cases Option.some.inj e
    obtain ⟨n1, n2⟩ := List.nodup_cons.mp nd
    exact .cons h r (t.mono x fun z hz => f z (List.mem_cons_of_mem _ hz) fun e => n1 (by rw [← e]; exact hz))
  | _, _, j + 1, c, vs, l, .cons (c := c0) h1 h2 t, nd, e, x, f, h, r => by
    obtain ⟨n1, n2⟩ := List.nodup_cons.mp nd
    have ne : c0 ≠ c := fun z => n1 (by rw [z]; exact List.mem_of_getElem? e)
    exact .cons (f _ List.mem_cons_self ne _ h1) (h2.mono x) (t.set n2 e x (fun z hz => f z (List.mem_cons_of_mem _ hz)) h r)
theorem Kids.all {H0 : Hp} : ∀ {cs : List Addr} {ls : List (List α)}, Kids K R H cs ls → (∀ c ∈ cs, ∀ u, H c = some u → R' c = some u) → Ex R R' → AllR K R' (cs.map V.ref) ls
  | _, _, .nil, _, _ => .nil
  | _, _, .cons h1 h2 t, f, e => .cons ⟨_, _, rfl, .inl (f _ List.mem_cons_self _ h1), _, rfl, h2.mono e⟩ (t.all (H0 := H0) (fun c hc => f c (List.mem_cons_of_mem _ hc)) e)
instance instOdLL : Od (List (List α)) where
  dh := fun K R H o ps a => o = .lst (ps.map V.ref) ∧ Kids K R H ps a
  mono := fun e f ⟨h, k⟩ => ⟨h, k.mono e f⟩
  there := fun ⟨_, k⟩ => k.there
  nt := fun ⟨h, _⟩ => by rw [h]; rfl
variable [Py κ] [DecidableEq κ] [Kq κ]
inductive KidsD (K : PySem.W.Frag) (R H : Hp) : List (L2.Key × V) → List Addr → List (κ × List α) → Prop
  | nil : KidsD K R H [] [] []
  | cons {k : κ} {c : Addr} {vs : List V} {l : List α} {kvs : List (L2.Key × V)} {cs : List Addr} {ls : List (κ × List α)} : H c = some (.lst vs) → AllR K R vs l → KidsD K R H kvs cs ls → KidsD K R H ((Kq.key k, .ref c) :: kvs) (c :: cs) ((k, l) :: ls)
theorem KidsD.mono (e : Ex R R') : ∀ {kvs : List (L2.Key × V)} {cs : List Addr} {ls : List (κ × List α)}, (∀ c ∈ cs, ∀ u, H c = some u → H' c = some u) → KidsD K R H kvs cs ls → KidsD K R' H' kvs cs ls
  | _, _, _, _, .nil => .nil
  | _, _, _, f, .cons h1 h2 t => .cons (f _ List.mem_cons_self _ h1) (h2.mono e) (t.mono e fun c hc => f c (List.mem_cons_of_mem _ hc))
theorem KidsD.len : ∀ {kvs : List (L2.Key × V)} {cs : List Addr} {ls : List (κ × List α)}, KidsD K R H kvs cs ls → kvs.length = ls.length
  | _, _, _, .nil => rfl
  | _, _, _, .cons _ _ t => congrArg (· + 1) t.len
theorem KidsD.there : ∀ {kvs : List (L2.Key × V)} {cs : List Addr} {ls : List (κ × List α)}, KidsD K R H kvs cs ls → ∀ c ∈ cs, ∃ u, H c = some u ∧ isT u = false
  | _, _, _, .nil, c, h => by cases h
  | _, _, _, .cons h1 _ t, c, h => by
    rcases List.mem_cons.mp h with e | z
    · exact ⟨_, by rw [e]; exact h1, rfl⟩
    · exact t.there c z
theorem KidsD.keys : ∀ {kvs : List (L2.Key × V)} {cs : List Addr} {ls : List (κ × List α)}, KidsD K R H kvs cs ls → kvs.map (·.1) = ls.map fun p => Kq.key p.1
  | _, _, _, .nil => rfl
  | _, _, _, .cons _ _ t => by rw [List.map_cons, List.map_cons, t.keys]
theorem dget_cons' (k k' : κ) (a : α) (l : List (κ × α)) : dGet ((k', a) :: l) k = if k' = k then some a else dGet l k := by
  unfold dGet
  rw [List.find?_cons]
  by_cases e : k' = k
  · rw [if_pos e, decide_eq_true e]
    rfl
  · rw [if_neg e, decide_eq_false e]
theorem KidsD.none (k : κ) : ∀ {kvs : List (L2.Key × V)} {cs : List Addr} {ls : List (κ × List α)}, KidsD K R H kvs cs ls → dGet ls k = none → valV kvs (Kq.key k) = none
  | _, _, _, .nil, _ => rfl
  | _, _, _, .cons (k := k') _ _ t, e => by
    rw [dget_cons'] at e
    by_cases h : k' = k
    · rw [if_pos h] at e
      cases e
    · rw [if_neg h] at e
      rw [valV_neg (fun z => h (Kq.inj z))]
      exact t.none k e
theorem map_other (k : κ) (L : List α) : ∀ {ls : List (κ × List α)}, k ∉ ls.map (·.1) → (ls.map fun p => if p.1 = k then (p.1, L) else p) = ls
  | [], _ => rfl
  | p :: ls, h => by
    rw [List.map_cons, List.mem_cons, not_or] at h
    rw [List.map_cons, if_neg (fun e => h.1 e.symm), map_other k L h.2]
/-- the kid at a key, and it changed -/
theorem KidsD.find (k : κ) : ∀ {kvs : List (L2.Key × V)} {cs : List Addr} {ls : List (κ × List α)} {L : List α}, KidsD K R H kvs cs ls → cs.Nodup → (ls.map (·.1)).Nodup → dGet ls k = some L → ∃ c vs, valV kvs (Kq.key k) = some (.ref c) ∧ c ∈ cs ∧ H c = some (.lst vs) ∧ AllR K R vs L ∧
    ∀ (R' H' : Hp) (vs' : List V) (L' : List α), Ex R R' → (∀ z ∈ cs, z ≠ c → ∀ u, H z = some u → H' z = some u) → H' c = some (.lst vs') → AllR K R' vs' L' → KidsD K R' H' kvs cs (ls.map fun p => if p.1 = k then (p.1, L') else p)
  | _, _, _, _, .nil, _, _, e => by cases e
  | _, _, _, L, .cons (k := k') (c := c0) (l := l0) (ls := ls) h1 h2 t, nd, kn, e => by
    obtain ⟨n1, n2⟩ := List.nodup_cons.mp nd
    rw [List.map_cons] at kn
    obtain ⟨m1, m2⟩ := List.nodup_cons.mp kn
    rw [dget_cons'] at e
    by_cases h : k' = k
    · rw [if_pos h] at e
      cases e
      subst h
      refine ⟨c0, _, valV_pos rfl, List.mem_cons_self, h1, h2, fun R' H' vs' L' x f h3 r3 => ?_⟩
      rw [List.map_cons, if_pos rfl, map_other _ _ m1]
      exact .cons h3 r3 (t.mono x fun z hz => f z (List.mem_cons_of_mem _ hz) fun e => n1 (by rw [← e]; exact hz))
    · rw [if_neg h] at e
      obtain ⟨c, vs, g1, g2, g3, g4, g5⟩ := t.find k n2 m2 e
      refine ⟨c, vs, ?_, List.mem_cons_of_mem _ g2, g3, g4, fun R' H' vs' L' x f h3 r3 => ?_⟩
      · rw [valV_neg (fun z => h (Kq.inj z))]
        exact g1
      · rw [List.map_cons, if_neg h]
        exact .cons (f _ List.mem_cons_self (fun e => n1 (by rw [e]; exact g2)) _ h1) (h2.mono x) (g5 R' H' vs' L' x (fun z hz => f z (List.mem_cons_of_mem _ hz)) h3 r3)
theorem KidsD.snoc (k : κ) {c : Addr} {vs : List V} {l : List α} (h : H c = some (.lst vs)) (r : AllR K R vs l) : ∀ {kvs : List (L2.Key × V)} {cs : List Addr} {ls : List (κ × List α)}, KidsD K R H kvs cs ls → KidsD K R H (kvs ++ [(Kq.key k, .ref c)]) (cs ++ [c]) (ls ++ [(k, l)])
  | _, _, _, .nil => .cons h r .nil
  | _, _, _, .cons h1 h2 t => .cons h1 h2 (t.snoc k h r)
instance instOdDL : Od (Dct κ (List α)) where
  dh := fun K R H o ps d => (d.l.map Prod.fst).Nodup ∧ ∃ kvs, o = .dK kvs ∧ KidsD K R H kvs ps d.l
  mono := fun {K R R' H H' o ps a} e f h => by
    obtain ⟨n, kvs, h, k⟩ := h
    exact ⟨n, kvs, h, k.mono e f⟩
  there := fun {K R H o ps a} h => by
    obtain ⟨_, _, _, k⟩ := h
    exact k.there
  nt := fun {K R H o ps a} h => by
    obtain ⟨_, _, h, _⟩ := h
    rw [h]
    rfl
end
/-! ### slots that are deep -/
section
variable {K : PySem.W.Frag} {R0 H0 R H R' H' : Hp} {Γ : List Slot} {σ : L2.St} {os : List Addr}
/-- a new one into a slot -/
theorem Sat.set_deep {α : Type} [Od α] {a : α} {p : Addr} {o : HO} {ps : List Addr} {i : Nat} (S : Sat K R0 H0 Γ σ R H) (hi : i < Γ.length) (ex : Ext R H R' H') (hn : ∀ c ∈ p :: ps, H c = none) (nd0 : (p :: ps).Nodup) (hp : H' p = some o) (hR : ∀ c ∈ p :: ps, R' c = none) (h : Od.dh K R' H' o ps a) : Sat K R0 H0 (Γ.set i (.deep a)) (σ.set i (some (.ref p))) R' H' := by
  have S2 := S.ext ex
  obtain ⟨⟨os, s, nd, fr⟩, e0⟩ := S
  have th := s.there
  obtain ⟨y, o1, oa, ob, h1, h2, _, h4⟩ := s.at (s := Γ[i]) (List.getElem?_eq_getElem hi)
  subst h2
  have sub : (oa ++ ob).Sublist (oa ++ (o1 ++ ob)) := List.Sublist.append (List.Sublist.refl _) (List.sublist_append_right _ _)
  refine ⟨⟨oa ++ ((p :: ps) ++ ob), h4 R' H' (.deep a) (some (.ref p)) (p :: ps) ex.r (fun z _ u q => ex.h z u q) ⟨p, o, ps, rfl, rfl, hp, h⟩, ?_, fun z hz => ?_⟩, S2.e0⟩
  · have pm : ((p :: ps) ++ (oa ++ ob)).Perm (oa ++ ((p :: ps) ++ ob)) := by
      rw [← List.append_assoc, ← List.append_assoc]
      exact List.Perm.append_right ob List.perm_append_comm
    refine pm.nodup_iff.mp (List.nodup_append.mpr ⟨nd0, nd.sublist sub, fun c hc z hz e => ?_⟩)
    subst e
    obtain ⟨u, hu, _⟩ := th c (sub.mem hz)
    rw [hn c hc] at hu
    cases hu
  · have other : z ∈ oa ++ ob → R' z = none ∧ H0 z = none := fun hz => by
      obtain ⟨u, hu, t⟩ := th z (sub.mem hz)
      exact ⟨ex.n z u t hu (fr z (sub.mem hz)).1, (fr z (sub.mem hz)).2⟩
    rcases List.mem_append.mp hz with y | y
    · exact other (List.mem_append_left _ y)
    · rcases List.mem_append.mp y with w | w
      · exact ⟨hR z w, e0.h.none (hn z w)⟩
      · exact other (List.mem_append_right _ w)
/-- some of the heap, frozen too -/
def plus (R H : Hp) (cs : List Addr) : Hp := fun a => if a ∈ cs then H a else R a
theorem plus_in {c : Addr} {cs : List Addr} (h : c ∈ cs) : plus R H cs c = H c := if_pos h
theorem plus_out {c : Addr} {cs : List Addr} (h : c ∉ cs) : plus R H cs c = R c := if_neg h
end
/-! ### new ones -/
structure JD (X : Cx) (R0 H0 : Hp) (Γ : List Slot) (e : Expr) {α : Type} [Od α] (m : Option α) : Prop where
  run : ∀ σ R H, Sat X.K R0 H0 Γ σ R H → ∀ a, m = some a → ∀ Q : VK, (∀ p o ps R' H', Ext R H R' H' → (∀ c ∈ p :: ps, H c = none) → (p :: ps).Nodup → H' p = some o → (∀ c ∈ p :: ps, R' c = none) → Od.dh X.K R' H' o ps a → Q (.ref p) H') → eSem X e σ H Q
structure JLo (X : Cx) (R0 H0 : Hp) (Γ : List Slot) (es : List Expr) {α : Type} [Py α] (m : Option (List (List α))) : Prop where
  run : ∀ σ R H, Sat X.K R0 H0 Γ σ R H → ∀ a, m = some a → ∀ Q : List V → Hp → Prop, (∀ ps R' H', Ext R H R' H' → ps.length = es.length → (∀ c ∈ ps, H c = none) → ps.Nodup → (∀ c ∈ ps, R' c = none) → Kids X.K R' H' ps a → Q (ps.map V.ref) H') → aSem X es σ H Q
section
variable {X : Cx} {R0 H0 : Hp} {Γ : List Slot} {e a b f : Expr} {es : List Expr} {pos : Pos} {α κ : Type} [Py α] [Py κ] [DecidableEq κ] [Kq κ]
theorem j1_setd (i : Nat) {x : Str} {p1 : Pos} {α : Type} [Od α] {m : Option α} (Γ' : α → List Slot) (he : JD X R0 H0 Γ e m) (hN : X.N.Nodup) (hΓ : ∀ a, Γ' a = Γ.set i (.deep a) := by intro _; rfl) (hi : X.N[i]? = some x := by rfl) (hl : i < Γ.length := by exact Nat.le_of_ble_eq_true rfl) (hx : Loc X.env.scope x := by first | exact Or.inl rfl | exact Or.inr rfl)
    (hs : swapsWith e (some (.Name x p1)) pos.line X.env = pure false := by rfl) (hf : X.fn x = true ∨ X.env.scope.names.lookup x = some .local := by first | exact .inl rfl | exact .inr rfl) : J1 X R0 H0 Γ (.Assign [.Name x p1] e pos) m fun a => .nx (Γ' a) := .mk fun σ R H S b eb D q => by
  have q : ∀ σ R' H, Ex R R' → Sat X.K R0 H0 (Γ' b) σ R' H → D.nx σ H := q
  rw [hΓ b] at q
  exact PS_to (ps_set hN hi hx eS hs hf) (he.run σ R H S b eb _ fun p o ps R' H' z nw nd hp hr r => q _ R' H' z.r (S.set_deep hl z nw nd hp hr r))
end
end FK

/-! what is deep, read and changed -/
namespace FK
open PySem PySem.Spec PyProof.Rows L2
def rExtendR : V → List V → Hp → VK → Prop := fun x vs H Q => ∃ l b xs zs, x = .ref l ∧ vs = [.ref b] ∧ H l = some (.lst xs) ∧ Rd H b (.lst zs) ∧ xs.length + zs.length ≤ sizeLine ∧ Q .non (upd H l (.lst (xs ++ zs)))
def llApp {α : Type} (x : List (List α)) (k : Int) (y : α) : Option (List (List α)) := (ixN x.length k).bind fun j => (x[j]?).bind fun l => (lApp l y).bind fun l2 => some (x.set j l2)
def llExt {α : Type} (x : List (List α)) (k : Int) (y : List α) : Option (List (List α)) := (ixN x.length k).bind fun j => (x[j]?).bind fun l => (lCat l y).bind fun l2 => some (x.set j l2)
def ddApp {κ α : Type} [DecidableEq κ] (d : Dct κ (List α)) (k : κ) (y : α) : Option (Dct κ (List α)) := (lApp ((dGet d.l k).getD []) y).bind fun l => dSet d k l
def ddExt {κ α : Type} [DecidableEq κ] (d : Dct κ (List α)) (k : κ) (y : List α) : Option (Dct κ (List α)) := (lCat ((dGet d.l k).getD []) y).bind fun l => dSet d k l
section
variable {X : Cx} {R0 H0 : Hp} {Γ : List Slot} {e a b f : Expr} {es : List Expr} {pos : Pos} {α κ : Type} [Py α] [Py κ] [DecidableEq κ] [Kq κ]
end
end FK

/-! comprehensions over a dict's values; sorted of a deep dict -/
namespace FK
open PySem PySem.Spec PyProof.Rows L2
section
variable {X : Cx} {R0 H0 : Hp} {Γ : List Slot} {e a b tg : Expr} {pos : Pos}

theorem KidsD.strs {K : PySem.W.Frag} {R H : Hp} {α : Type} [Py α] {kvs : List (L2.Key × V)} {cs : List Addr} {ls : List (Str × List α)} (h : KidsD K R H kvs cs ls) : kvs.map (·.1) = (ls.map (·.1)).map Sum.inr := by
  rw [h.keys, List.map_map]
  rfl
end
end FK

/-! what is one's own, read for a while as if handed in: its slot and those of what was handed in are pinned, so that it comes back -/
namespace FK
open PySem PySem.Spec PyProof.Rows L2
/-- a thing at a known place -/
structure Pn (α : Type) where
  v : V
  a : α
instance {α : Type} [Py α] : Py (Pn α) where
  rep K R v x := v = x.v ∧ rep K R v x.a
  bor K R H v x := v = x.v ∧ bor K R H v x.a
  mono e h := ⟨h.1, Py.mono e h.2⟩
  bmono e1 e2 h := ⟨h.1, Py.bmono e1 e2 h.2⟩
  lend e h := ⟨h.1, Py.lend e h.2⟩
/-- told by what it stands for -/
class Det (α : Type) [Py α] : Prop where
  det : ∀ {K : PySem.W.Frag} {R R' H H' : Hp} {v w : V} {a : α}, bor K R H v a → bor K R' H' w a → v = w
instance {α : Type} [Py α] : Det (Pn α) := ⟨fun h h' => h.1.trans h'.1.symm⟩
instance : Det Int := ⟨fun h h' => Eq.trans h (Eq.symm h')⟩
instance : Det Bool := ⟨fun h h' => Eq.trans h (Eq.symm h')⟩
instance : Det Str := ⟨fun h h' => Eq.trans h (Eq.symm h')⟩
def noB : Slot → Prop
  | @Slot.b _ _ _ => False
  | _ => True
/-- each slot of what was handed in is as it was -/
inductive Bk : List Slot → List Slot → Prop
  | nil : Bk [] []
  | b {Γ Γ1 : List Slot} {α : Type} [Py α] [Det α] (a : α) : Bk Γ Γ1 → Bk (.b a :: Γ) (.b a :: Γ1)
  | o {Γ Γ1 : List Slot} {s s1 : Slot} (h : noB s1 := by trivial) : Bk Γ Γ1 → Bk (s :: Γ) (s1 :: Γ1)
theorem Bk.back {K : PySem.W.Frag} {R0 H0 R1 H1 R H R' H' : Hp} : ∀ {Γ Γ1 : List Slot} {σ σ' : L2.St} {os os' : List Addr}, Bk Γ Γ1 → SlotsOk K R0 H0 R H Γ σ os → SlotsOk K R1 H1 R' H' Γ1 σ' os' → SlotsOk K R0 H0 R' H' Γ1 σ' os' := by
  intro Γ Γ1 σ σ' os os' t
  induction t generalizing σ σ' os os' with
  | nil =>
    intro h h'
    cases σ' with
    | nil => exact h'
    | cons x σ' => exact h'.elim
  | b a t ih =>
    intro h h'
    cases σ with
    | nil => exact h.elim
    | cons x σ =>
      cases σ' with
      | nil => exact h'.elim
      | cons y σ' =>
        obtain ⟨o1, o2, _, ⟨_, v, hv, r⟩, h2⟩ := h
        obtain ⟨p1, p2, e, ⟨e1, v', hv', r'⟩, h2'⟩ := h'
        subst e1
        have := Det.det r r'
        subst this
        exact ⟨[], p2, e, ⟨rfl, v, hv', r⟩, ih h2 h2'⟩
  | @o _ _ s s1 hs t ih =>
    intro h h'
    cases σ with
    | nil => exact h.elim
    | cons x σ =>
      cases σ' with
      | nil => exact h'.elim
      | cons y σ' =>
        obtain ⟨o1, o2, _, _, h2⟩ := h
        obtain ⟨p1, p2, e, h1', h2'⟩ := h'
        refine ⟨p1, p2, e, ?_, ih h2 h2'⟩
        cases s1 with
        | b a => exact hs.elim
        | any => exact h1'
        | v a => exact h1'
        | own a => exact h1'
        | deep a => exact h1'
        | dat p ps a => exact h1'
/-- the ends of a turn, slots by slots -/
inductive ORel (P : List Slot → List Slot → Prop) : Out → Out → Prop
  | nx {Γ Γ' : List Slot} : P Γ Γ' → ORel P (.nx Γ) (.nx Γ')
  | bk {Γ Γ' : List Slot} : P Γ Γ' → ORel P (.bk Γ) (.bk Γ')
  | ct {Γ Γ' : List Slot} : P Γ Γ' → ORel P (.ct Γ) (.ct Γ')
  | rt {α : Type} [Py α] (a : α) : ORel P (.rt a) (.rt a)
  | ro {α : Type} [Ob α] (a : α) : ORel P (.ro a) (.ro a)
  | rd {α : Type} [Od α] (a : α) : ORel P (.rd a) (.rd a)
  | ex (x : Xv) : ORel P (.ex x) (.ex x)
section
variable {X : Cx} {R0 H0 : Hp} {Γ : List Slot} {e a b tg : Expr} {pos : Pos} {st : Stmt} {β : Type}
def UnPin {α : Type} [Py α] (j : Nat) (v : V) (c : α) (Γ1 Γ2 : List Slot) : Prop := Γ1[j]? = some (.b (⟨v, c⟩ : Pn α)) ∧ Γ2 = Γ1.set j (.b c)
theorem Sat.pin {K : PySem.W.Frag} {R H : Hp} {σ : L2.St} {α : Type} [Py α] {c : α} {j : Nat} (S : Sat K R0 H0 Γ σ R H) (hΓ : Γ[j]? = some (.b c)) : ∃ v, Sat K R0 H0 (Γ.set j (.b (⟨v, c⟩ : Pn α))) σ R H := by
  obtain ⟨⟨os, s, nd, fr⟩, e0⟩ := S
  obtain ⟨x, o1, oa, ob, h1, h2, ⟨e1, v, hx, hr⟩, h4⟩ := s.at hΓ
  subst hx e1
  have g := h4 R H (.b (⟨v, c⟩ : Pn α)) (some v) [] (.refl R) (fun _ _ _ q => q) ⟨rfl, v, rfl, rfl, hr⟩
  rw [set_same h1] at g
  exact ⟨v, ⟨_, g, h2 ▸ nd, h2 ▸ fr⟩, e0⟩
def UnLock {α : Type} [Py α] [Ob α] (Γ : List Slot) (i : Nat) (v : V) (c : α) (Γ1 Γ2 : List Slot) : Prop := Γ1[i]? = some (.b (⟨v, c⟩ : Pn α)) ∧ Γ2 = Γ1.set i (.own c) ∧ Bk (Γ.set i .any) (Γ1.set i .any)
/-- what is handed in and what is one's own: told by the same record -/
class Lk (α : Type) [Py α] [Ob α] : Prop where
  of : ∀ {K : PySem.W.Frag} {R H : Hp} {p : Addr} {o : HO} {a : α}, H p = some o → ho K R o a → bor K R H (.ref p) a
instance {α : Type} [Py α] : Lk (List α) := ⟨fun {K R H p o a} h q => ⟨p, o, rfl, .inl h, q⟩⟩
theorem SlotsOk.base {K : PySem.W.Frag} {R0 H0 R1 H1 R H : Hp} (e1 : Ex R0 R1) (e2 : Ex H0 H1) : ∀ {Γ : List Slot} {σ : L2.St} {os : List Addr}, SlotsOk K R0 H0 R H Γ σ os → SlotsOk K R1 H1 R H Γ σ os
  | [], [], _, h => h
  | [], _ :: _, _, h => h.elim
  | _ :: _, [], _, h => h.elim
  | s :: Γ, x :: σ, os, h => by
    obtain ⟨o1, o2, e, h1, h2⟩ := h
    refine ⟨o1, o2, e, ?_, h2.base e1 e2⟩
    cases s with
    | any => exact h1
    | v a => exact h1
    | own a => exact h1
    | deep a => exact h1
    | dat p ps a => exact h1
    | b a =>
      obtain ⟨z, v, hv, r⟩ := h1
      exact ⟨z, v, hv, Py.bmono e1 e2 r⟩
theorem Sat.lend {K : PySem.W.Frag} {R H : Hp} {σ : L2.St} {α : Type} [Py α] [Ob α] [Lk α] {c : α} {i : Nat} (S : Sat K R0 H0 Γ σ R H) (hΓ : Γ[i]? = some (.own c)) : ∃ p o, H0 p = none ∧ R p = none ∧ isT o = false ∧ ho K R o c ∧ Sat K R (upd H0 p o) (Γ.set i (.b (⟨.ref p, c⟩ : Pn α))) σ R H ∧
    ∀ Γ1 σ' R' H', Sat K R (upd H0 p o) Γ1 σ' R' H' → UnLock Γ i (.ref p) c Γ1 (Γ1.set i (.own c)) → Sat K R0 H0 (Γ1.set i (.own c)) σ' R' H' := by
  obtain ⟨⟨os, s, nd, fr⟩, e0⟩ := S
  obtain ⟨x, o1, oa, ob, h1, h2, ⟨p, o, e1, hx, hp, hr⟩, h4⟩ := s.at hΓ
  subst hx e1 h2
  obtain ⟨f1, f2⟩ := fr p (List.mem_append_right _ (List.mem_append_left _ (List.mem_singleton.mpr rfl)))
  have ne : ∀ z ∈ oa ++ ([] ++ ob), z ≠ p := fun z hz y => by
    subst y
    have a1 := List.nodup_append.mp nd
    rcases List.mem_append.mp hz with y | y
    · exact a1.2.2 z y z (List.mem_append_left _ (List.mem_singleton.mpr rfl)) rfl
    · exact (List.nodup_append.mp a1.2.1).2.2 z (List.mem_singleton.mpr rfl) z y rfl
  have sl : (oa ++ ([] ++ ob)).Sublist (oa ++ ([p] ++ ob)) := List.Sublist.append (List.Sublist.refl _) (List.Sublist.append (List.nil_sublist _) (List.Sublist.refl _))
  have eN : Ex H0 (upd H0 p o) := .new f2
  have eH : Ex (upd H0 p o) H := fun z u hz => by
    by_cases y : z = p
    · rw [y, upd_same] at hz
      rw [y, hp, hz]
    · rw [upd_ne y] at hz
      exact e0.h z u hz
  have tp : isT o = false := Ob.nt hr
  refine ⟨p, o, f2, f1, tp, hr, ⟨⟨oa ++ ([] ++ ob), ?_, nd.sublist sl, fun z hz => ?_⟩, ⟨.refl R, eH, e0.i, fun _ _ _ _ q => q⟩⟩, fun Γ1 σ' R' H' S' u => ?_⟩
  · have g := h4 R H .any (some (.ref p)) [] (.refl R) (fun _ _ _ q => q) rfl
    have g := g.base e0.r eN
    rw [set_same h1] at g
    have li : i < Γ.length := by
      rcases Nat.lt_or_ge i Γ.length with z | z
      · exact z
      · rw [List.getElem?_eq_none z] at hΓ
        cases hΓ
    obtain ⟨x2, o2, pa, pb, k1, k2, k3, k4⟩ := g.at (i := i) (s := .any) (by rw [List.getElem?_set, if_pos rfl, if_pos li])
    rw [h1] at k1
    cases k1
    have k3 : o2 = [] := k3
    subst k3
    have g2 := k4 R H (.b (⟨.ref p, c⟩ : Pn α)) (some (.ref p)) [] (.refl R) (fun _ _ _ q => q) ⟨rfl, .ref p, rfl, rfl, Lk.of upd_same hr⟩
    rw [set_same h1, List.set_set, ← k2] at g2
    exact g2
  · obtain ⟨a1, a2⟩ := fr z (sl.mem hz)
    exact ⟨a1, by rw [upd_ne (ne z hz)]; exact a2⟩
  · obtain ⟨u1, _, u3⟩ := u
    obtain ⟨⟨os', s', nd', fr'⟩, e'⟩ := S'
    obtain ⟨x', o1', oa', ob', g1, g2, ⟨ge, w, hx', hw, _⟩, g4⟩ := s'.at u1
    subst ge hx' g2
    have hw : w = .ref p := hw
    subst hw
    have k := g4 R' H' .any (some (.ref p)) [] (.refl R') (fun _ _ _ q => q) rfl
    rw [set_same g1] at k
    have k0 := h4 R H .any (some (.ref p)) [] (.refl R) (fun _ _ _ q => q) rfl
    rw [set_same h1] at k0
    have kb := u3.back k0 k
    have li : i < Γ1.length := by
      rcases Nat.lt_or_ge i Γ1.length with z | z
      · exact z
      · rw [List.getElem?_eq_none z] at u1
        cases u1
    obtain ⟨x2, o2, pa, pb, q1, q2, q3, q4⟩ := kb.at (i := i) (s := .any) (by rw [List.getElem?_set, if_pos rfl, if_pos li])
    have q3 : o2 = [] := q3
    subst q3
    have rp : R' p = none := e'.n p o tp upd_same f1
    have gg := q4 R' H' (.own c) (some (.ref p)) [p] (.refl R') (fun _ _ _ q => q) ⟨p, o, rfl, rfl, e'.h p o upd_same, Ob.mono e'.r hr⟩
    rw [set_same g1, List.set_set] at gg
    have np : ∀ z ∈ pa ++ ([] ++ pb), z ≠ p := fun z hz y => by
      subst y
      rw [← q2] at hz
      have := (fr' z hz).2
      rw [upd_same] at this
      cases this
    refine ⟨⟨_, gg, ?_, fun z hz => ?_⟩, ⟨e0.r.trans e'.r, eN.trans e'.h, e'.i, fun z u t hz hn => ?_⟩⟩
    · have nn : (pa ++ ([] ++ pb)).Nodup := by rw [← q2]; exact nd'
      obtain ⟨n1, n2, n3⟩ := List.nodup_append.mp nn
      refine List.nodup_append.mpr ⟨n1, List.nodup_cons.mpr ⟨fun z => np p (List.mem_append_right _ z) rfl, n2⟩, fun a ha b hb y => ?_⟩
      rcases List.mem_cons.mp hb with h | h
      · exact np a (List.mem_append_left _ ha) (y.trans h)
      · exact n3 a ha b h y
    · by_cases y : z = p
      · rw [y]
        exact ⟨rp, f2⟩
      · have hm : z ∈ oa' ++ ([] ++ ob') := by
          rw [q2]
          rcases List.mem_append.mp hz with h | h
          · exact List.mem_append_left _ h
          · rcases List.mem_cons.mp h with h | h
            · exact absurd h y
            · exact List.mem_append_right _ h
        obtain ⟨a1, a2⟩ := fr' z hm
        rw [upd_ne y] at a2
        exact ⟨a1, a2⟩
    · by_cases y : z = p
      · rw [y]
        exact rp
      · exact e'.n z u t (by rw [upd_ne y]; exact hz) (e0.n z u t hz hn)
/-! what is pinned, read -/
/-! a, b = a list -/
def lst2 {α : Type} : List α → Option (α × α)
  | [x, y] => some (x, y)
  | _ => none
def lst3 {α : Type} : List α → Option (T3 α α α)
  | [x, y, z] => some ⟨x, y, z⟩
  | _ => none
end
end FK

/-! comprehensions of new lists, each one's own -/
namespace FK
open PySem PySem.Spec PyProof.Rows L2
theorem Kids.app {K : PySem.W.Frag} {R H : Hp} {α : Type} [Py α] {c : Addr} {vs : List V} {l : List α} : ∀ {cs : List Addr} {ls : List (List α)}, Kids K R H cs ls → H c = some (.lst vs) → AllR K R vs l → Kids K R H (cs ++ [c]) (ls ++ [l])
  | _, _, .nil, h, r => .cons h r .nil
  | _, _, .cons a b t, h, r => .cons a b (t.app h r)
section
variable {X : Cx} {R0 H0 : Hp} {Γ : List Slot} {e a b tg : Expr} {pos : Pos}
end
end FK

/-! a list of two unlike things -/
namespace FK
open PySem PySem.Spec PyProof.Rows L2
open PySem.SeqAt (EqAt RcAt RcNeAt)
structure Hl (α β : Type) where
  a : α
  b : β
  deriving DecidableEq
section
variable {α β : Type} [Py α] [Py β]
instance instObHl : Ob (Hl α β) where
  ho := fun K R o h => ∃ x y, o = .lst [x, y] ∧ rep K R x h.a ∧ rep K R y h.b
  mono := fun e ⟨x, y, h, p, q⟩ => ⟨x, y, h, Py.mono e p, Py.mono e q⟩
  nt := fun ⟨x, y, h, _⟩ => by rw [h]; rfl
variable {X : Cx} {R0 H0 : Hp} {Γ : List Slot} {e a b : Expr} {pos : Pos}
variable [Dq α] [Dq β]
theorem hl2_ext (a b : (Hl α β)) : (a = b) ↔ (a.a = b.a ∧ a.b = b.b) := by
  refine ⟨fun h => by rw [h]; exact ⟨rfl, rfl⟩, fun h => ?_⟩
  obtain ⟨h0, h1⟩ := h
  cases a
  cases b
  simp only at h0 h1
  subst h0 h1
  rfl
theorem hl2_rd {X : Cx} {pins : List (Addr × Obj)} {σ : L2.St} {H : Hp} {s : Shared} (I : Inv X pins σ H s) {v : V} {u : Value} {a : (Hl α β)} (r : RelV v u) (h : rep X.K H v a) : ∃ p x0 x1 z0 z1, v = .ref p ∧ u = .ref p ∧ PlainL s.heap p [z0, z1].toArray ∧ RelV x0 z0 ∧ RelV x1 z1 ∧ rep X.K H x0 a.a ∧ rep X.K H x1 a.b := by
  obtain ⟨p, o, rfl, hp, x0, x1, rfl, q0, q1⟩ := h
  cases r
  obtain ⟨us, t, l, _⟩ := I.list (.inl hp)
  cases t with
  | cons r0 t0 =>
  cases t0 with
  | cons r1 t1 =>
  cases t1
  exact ⟨p, _, _, _, _, rfl, rfl, l, r0, r1, q0, q1⟩
theorem hl2_rc {X : Cx} {pins : List (Addr × Obj)} {σ : L2.St} {H : Hp} {s : Shared} (I : Inv X pins σ H s) {A : Around} {v w : V} {u u' : Value} {a b : (Hl α β)} (hu : A.units + (Dq.dep α + Dq.dep β + 1) < cLine) (r1 : RelV v u) (r2 : RelV w u') (h1 : rep X.K H v a) (h2 : rep X.K H w b) : RcAt A s u u' (dec (a = b)) ∧ RcNeAt A s u u' (!dec (a = b)) := by
  obtain ⟨pm, x0m, x1m, z0m, z1m, rfl, rfl, lm, r0m, r1m, q0m, q1m⟩ := hl2_rd I r1 h1
  obtain ⟨pn, x0n, x1n, z0n, z1n, rfl, rfl, ln, r0n, r1n, q0n, q1n⟩ := hl2_rd I r2 h2
  have hu0 : A.units < cLine := by omega
  have he : ∀ j (h1 : j < [z0m, z1m].toArray.size) (h2 : j < [z0n, z1n].toArray.size), EqAt A.in1 s [z0m, z1m].toArray[j] [z0n, z1n].toArray[j] ((fun j => match j with | 0 => dec (a.a = b.a) | _ => dec (a.b = b.b) : Nat → Bool) j) := fun j h1 h2 => by
    match j, h1, h2 with
    | 0, _, _ => exact Dq.eq I (A := A.in1) (show A.units + 1 + Dq.dep α < cLine by omega) r0m r0n q0m q0n
    | 1, _, _ => exact Dq.eq I (A := A.in1) (show A.units + 1 + Dq.dep β < cLine by omega) r1m r1n q1m q1n
    | j + 2, h1, _ => exact absurd h1 (by simp)
  have e1 := RcAt.lists lm.isList ln.isList rfl hu0 he
  have e2 := RcNeAt.lists lm.isList ln.isList rfl hu0 he
  have e : ((List.range [z0m, z1m].toArray.size).all (fun j => match j with | 0 => dec (a.a = b.a) | _ => dec (a.b = b.b) : Nat → Bool)) = dec (a = b) := by
    rw [dec_iff (hl2_ext a b)]
    rw [dec_and]
    show (dec (a.a = b.a) && (dec (a.b = b.b) && true)) = _
    simp only [Bool.and_true]
  rw [e] at e1 e2
  exact ⟨e1, e2⟩
instance instDqHl : Dq (Hl α β) where
  dep := Dq.dep α + Dq.dep β + 1
  rp := fun e ⟨p, o, h, r, q⟩ => ⟨p, o, h, r, Ob.mono e q⟩
  uq := fun {X pins σ H s} I {v w u a b} r1 r2 h1 h2 => by
    obtain ⟨pm, x0m, x1m, z0m, z1m, rfl, rfl, lm, r0m, r1m, q0m, q1m⟩ := hl2_rd I r1 h1
    obtain ⟨pn, x0n, x1n, z0n, z1n, e0, e1, ln, r0n, r1n, q0n, q1n⟩ := hl2_rd I r2 h2
    cases e1
    have e := islist_uq lm ln
    injection e with e0 et
    injection et with e1 et
    subst e0 e1
    exact (hl2_ext a b).mpr ⟨Dq.uq I r0m r0n q0m q0n, Dq.uq I r1m r1n q1m q1n⟩
  eq := fun {X pins σ H s} I {A v w u u' a b} hu r1 r2 h1 h2 => by
    have k := hl2_rc I hu r1 r2 h1 h2
    obtain ⟨pm, x0m, x1m, z0m, z1m, rfl, rfl, lm, r0m, r1m, q0m, q1m⟩ := hl2_rd I r1 h1
    obtain ⟨pn, x0n, x1n, z0n, z1n, rfl, rfl, ln, r0n, r1n, q0n, q1n⟩ := hl2_rd I r2 h2
    by_cases e : pm = pn
    · subst e
      have e := islist_uq lm ln
      injection e with e0 et
      injection et with e1 et
      subst e0 e1
      rw [dec_t ((hl2_ext a b).mpr ⟨Dq.uq I r0m r0n q0m q0n, Dq.uq I r1m r1n q1m q1n⟩)]
      exact SeqAt.EqAt.same _
    · exact SeqAt.EqAt.of_refs e k.1
instance instDcHl : Dc (Hl α β) := ⟨fun {X pins σ H s} I {A v w u u' a b} hu r1 r2 h1 h2 => hl2_rc I hu r1 r2 h1 h2⟩
end
end FK

/-! deep things given back; deep things read for a while; dicts walked by their values -/
namespace FK
open PySem PySem.Spec PyProof.Rows L2
def spD {γ β : Type} [Ar γ] [Od β] (K : PySem.W.Frag) (m : γ → Option β) : Sp := fun vs H Q _ => ∃ R g b, Ex R H ∧ Ar.ok K R H vs g ∧ m g = some b ∧
  ∀ p o ps R' H', Ext R H R' H' → (∀ c ∈ p :: ps, H c = none) → (p :: ps).Nodup → H' p = some o → (∀ c ∈ p :: ps, R' c = none) → Od.dh K R' H' o ps b → Q (.ref p) H'
section
variable {X : Cx} {R0 H0 : Hp} {Γ : List Slot} {e : Expr} {es : List Expr} {rest : List Stmt} {pos p : Pos} {γ β : Type} [Ar γ]
end
section
variable {P : Program} {w : World} {K : PySem.W.Frag} {mg : Str → Option Value} {base : Heap} {x qual : Str} {st : Stmt} {f : Addr} {fd : FuncData} {N ps : List Str} {k : Nat} {γ β : Type} [Ar γ]
end
/-! ### frozen for the time of a test -/
def less (R : Hp) (cs : List Addr) : Hp := fun a => if a ∈ cs then none else R a
theorem less_in {R : Hp} {c : Addr} {cs : List Addr} (h : c ∈ cs) : less R cs c = none := if_pos h
theorem less_out {R : Hp} {c : Addr} {cs : List Addr} (h : c ∉ cs) : less R cs c = R c := if_neg h
theorem Ext.unplus {R H R' H' : Hp} {cs : List Addr} (fr : ∀ c ∈ cs, R c = none) (x : Ext (plus R H cs) H R' H') : Ext R H (less R' cs) H' := by
  refine ⟨fun a o h => ?_, x.h, fun a o h => ?_, fun a o t h n => ?_⟩
  · have z : a ∉ cs := fun z => by rw [fr a z] at h; cases h
    rw [less_out z]
    exact x.r a o (by rw [plus_out z]; exact h)
  · by_cases z : a ∈ cs
    · rw [less_in z] at h
      cases h
    · rw [less_out z] at h
      exact x.i a o h
  · by_cases z : a ∈ cs
    · exact less_in z
    · rw [less_out z]
      exact x.n a o t h (by rw [plus_out z]; exact n)
class Rl (β : Type) [Py β] : Prop where
  ind : ∀ {K : PySem.W.Frag} {R R' : Hp} {v : V} {b : β}, rep K R v b → rep K R' v b
instance : Rl Int := ⟨fun h => h⟩
instance : Rl Bool := ⟨fun h => h⟩
instance : Rl Str := ⟨fun h => h⟩
section
variable {X : Cx} {R0 H0 : Hp} {Γ : List Slot} {e : Expr} {pos : Pos} {α : Type} [Py α]
end
/-! ### a dict that is only read from now on -/
structure Kd (κ α : Type) where
  l : List (κ × α)
section
variable {κ α : Type} [Py κ] [DecidableEq κ] [Kq κ] [Py α]
instance instPyKd : Py (Kd κ α) where
  rep := fun K R v a => ∃ p od kvs, v = .ref p ∧ R p = some (.frz od (.dK kvs)) ∧ DR K R kvs a.l
  bor := fun K R H v a => ∃ p od kvs, v = .ref p ∧ H p = some (.frz od (.dK kvs)) ∧ DR K R kvs a.l
  mono := fun e ⟨p, od, kvs, h, r, q⟩ => ⟨p, od, kvs, h, e _ _ r, q.mono e⟩
  bmono := fun e e2 ⟨p, od, kvs, h, r, q⟩ => ⟨p, od, kvs, h, e2 _ _ r, q.mono e⟩
  lend := fun e ⟨p, od, kvs, h, r, q⟩ => ⟨p, od, kvs, h, e _ _ r, q⟩
theorem Sat.kd {K : PySem.W.Frag} {R0 H0 R H : Hp} {Γ : List Slot} {σ : L2.St} {i : Nat} {d : Dct κ α} (S : Sat K R0 H0 Γ σ R H) (hi : Γ[i]? = some (.own d)) : ∃ p kvs, H p = some (.dK kvs) ∧ ∀ od, Ex R (upd R p (.frz od (.dK kvs))) ∧ Sat K R0 H0 (Γ.set i (.v (⟨d.l⟩ : Kd κ α))) σ (upd R p (.frz od (.dK kvs))) (upd H p (.frz od (.dK kvs))) := by
  obtain ⟨⟨os, s, nd, fr⟩, e0⟩ := S
  obtain ⟨x, o1, oa, ob, h1, h2, ⟨p, o, e1, hx, hp, kvs, ho, hr⟩, h4⟩ := s.at hi
  subst hx e1 h2 ho
  have hm : p ∈ oa ++ ([p] ++ ob) := List.mem_append_right _ (List.mem_append_left _ (List.mem_singleton.mpr rfl))
  obtain ⟨f1, f2⟩ := fr p hm
  refine ⟨p, kvs, hp, fun od => ?_⟩
  have er : Ex R (upd R p (.frz od (.dK kvs))) := .new f1
  have hne : ∀ z ∈ oa ++ ob, z ≠ p := fun z hz hzp => by
    subst hzp
    have hc := List.nodup_append.mp nd
    rcases List.mem_append.mp hz with hz | hz
    · exact hc.2.2 z hz z (List.mem_append_left _ (List.mem_singleton.mpr rfl)) rfl
    · exact (List.nodup_append.mp hc.2.1).2.2 z (List.mem_singleton.mpr rfl) z hz rfl
  have sub : (oa ++ ([] ++ ob)).Sublist (oa ++ ([p] ++ ob)) := List.Sublist.append (List.Sublist.refl _) (List.Sublist.append (List.nil_sublist _) (List.Sublist.refl _))
  refine ⟨er, ⟨oa ++ ([] ++ ob), ?_, nd.sublist sub, fun z hz => ?_⟩, ?_⟩
  · have g := h4 (upd R p (.frz od (.dK kvs))) (upd H p (.frz od (.dK kvs))) (.v (⟨d.l⟩ : Kd κ α)) (some (.ref p)) [] er (fun z hz u hu => by rw [upd_ne (hne z hz)]; exact hu) ⟨rfl, .ref p, rfl, p, od, kvs, rfl, upd_same, hr.mono er⟩
    rw [set_same h1] at g
    exact g
  · obtain ⟨g1, g2⟩ := fr z (sub.mem hz)
    exact ⟨by rw [upd_ne (hne z hz)]; exact g1, g2⟩
  · refine ⟨e0.r.trans er, e0.h.mut f2, e0.i.up, fun z u t hz hn => ?_⟩
    rw [upd_ne (ne_of_none hz f2)]
    exact e0.n z u t hz hn
variable {X : Cx} {R0 H0 : Hp} {Γ : List Slot} {e tg : Expr} {st : List Stmt} {pos : Pos} {β : Type} {m : Option β} {out : β → Out}
theorem DR.at {K : PySem.W.Frag} {R : Hp} : ∀ {kvs : List (L2.Key × V)} {l : List (κ × α)} {i : Nat} {a : α}, DR K R kvs l → (l.map (·.2))[i]? = some a → ∃ k v, kvs[i]? = some (k, v) ∧ rep K R v a
  | _, _, i, a, .nil, h => by simp at h
  | _, _, 0, a, .cons h t, e => by
    cases Option.some.inj e
    exact ⟨_, _, rfl, h⟩
  | _, _, i + 1, a, .cons h t, e => t.at (i := i) e
end
/-! ### comprehensions of new lists, given back -/
section
variable {X : Cx} {R0 H0 : Hp} {Γ : List Slot} {e tg : Expr} {pos : Pos}
end
end FK

/-! what is deep, changed: each kid of a list of lists; a new kid -/
namespace FK
open PySem PySem.Spec PyProof.Rows L2
def kCur {α : Type} (g : List α → List α) (xs : List (List α)) (k : Nat) : List (List α) := (xs.take k).map g ++ xs.drop k
section
variable {X : Cx} {R0 H0 : Hp} {Γ : List Slot} {e a b tg : Expr} {pos : Pos} {α : Type} [Py α]
def kApp (xs : List (List α)) (a : α) : Option (List (List α)) := if (xs.all fun l => decide (l.length < 16000000)) = true then some (xs.map (· ++ [a])) else none
end
end FK

/-! sorted(d), d a dict that may be read -/
namespace FK
open PySem PySem.Spec PyProof.Rows L2
section
variable {α : Type} [Py α] {X : Cx} {R0 H0 : Hp} {Γ : List Slot} {e a b o : Expr} {pos : Pos}
def dSrt (d : Dct Str α) : Option (List Str) := if d.l.length < 64 then some (srt (d.l.map (·.1))) else none
end
end FK

/-! what may raise: values, calls, defs, statements -/
namespace FK
open PySem PySem.Spec PyProof.Rows L2
inductive Rs (α : Type) where
  | ok (a : α)
  | ex (x : Xv)
def Rs.fl {α ρ : Type} : Rs α → Fl α (Rs ρ)
  | .ok a => .nx a
  | .ex x => .rt (.ex x)
def outR {α : Type} [Py α] : Rs α → Out
  | .ok a => .rt a
  | .ex x => .ex x
def outRO {α : Type} [Ob α] : Rs α → Out
  | .ok a => .ro a
  | .ex x => .ex x
def outRD {α : Type} [Od α] : Rs α → Out
  | .ok a => .rd a
  | .ex x => .ex x
section
variable {α : Type}
end
/-- an expression that may raise: a value | a new thing | a deep thing -/
structure JX (X : Cx) (R0 H0 : Hp) (Γ : List Slot) (e : Expr) {α : Type} [Py α] (m : Option (Rs α)) : Prop where
  run : ∀ σ R H, Sat X.K R0 H0 Γ σ R H → ∀ r, m = some r → ∀ (Q : VK) (W : WX), Takes X W → (∀ a, r = .ok a → ∀ v R' H', Ext R H R' H' → rep X.K R' v a → Q v H') →
    (∀ x, r = .ex x → ∀ cls d R' H', Ext R H R' H' → XOk X.K R' cls d x → W cls d σ H') → eSem X e σ H Q
structure JXO (X : Cx) (R0 H0 : Hp) (Γ : List Slot) (e : Expr) {α : Type} [Ob α] (m : Option (Rs α)) : Prop where
  run : ∀ σ R H, Sat X.K R0 H0 Γ σ R H → ∀ r, m = some r → ∀ (Q : VK) (W : WX), Takes X W → (∀ a, r = .ok a → ∀ p o R' H', Ext R H R' H' → H p = none → H' p = some o → R' p = none → ho X.K R' o a → Q (.ref p) H') →
    (∀ x, r = .ex x → ∀ cls d R' H', Ext R H R' H' → XOk X.K R' cls d x → W cls d σ H') → eSem X e σ H Q
structure JXD (X : Cx) (R0 H0 : Hp) (Γ : List Slot) (e : Expr) {α : Type} [Od α] (m : Option (Rs α)) : Prop where
  run : ∀ σ R H, Sat X.K R0 H0 Γ σ R H → ∀ r, m = some r → ∀ (Q : VK) (W : WX), Takes X W → (∀ a, r = .ok a → ∀ p o ps R' H', Ext R H R' H' → (∀ c ∈ p :: ps, H c = none) → (p :: ps).Nodup → H' p = some o → (∀ c ∈ p :: ps, R' c = none) → Od.dh X.K R' H' o ps a → Q (.ref p) H') →
    (∀ x, r = .ex x → ∀ cls d R' H', Ext R H R' H' → XOk X.K R' cls d x → W cls d σ H') → eSem X e σ H Q
def spX {γ β : Type} [Ar γ] [Py β] (K : PySem.W.Frag) (m : γ → Option (Rs β)) : Sp := fun vs H Q E => ∃ R g r, Ex R H ∧ Ar.ok K R H vs g ∧ m g = some r ∧ (∀ a, r = .ok a → ∀ v R' H', Ext R H R' H' → rep K R' v a → Q v H') ∧
  ∀ x, r = .ex x → ∀ cls d R' H', Ext R H R' H' → XOk K R' cls d x → E cls d H'
def spXO {γ β : Type} [Ar γ] [Ob β] (K : PySem.W.Frag) (m : γ → Option (Rs β)) : Sp := fun vs H Q E => ∃ R g r, Ex R H ∧ Ar.ok K R H vs g ∧ m g = some r ∧ (∀ a, r = .ok a → ∀ p o R' H', Ext R H R' H' → H p = none → H' p = some o → R' p = none → ho K R' o a → Q (.ref p) H') ∧
  ∀ x, r = .ex x → ∀ cls d R' H', Ext R H R' H' → XOk K R' cls d x → E cls d H'
def spXD {γ β : Type} [Ar γ] [Od β] (K : PySem.W.Frag) (m : γ → Option (Rs β)) : Sp := fun vs H Q E => ∃ R g r, Ex R H ∧ Ar.ok K R H vs g ∧ m g = some r ∧ (∀ a, r = .ok a → ∀ p o ps R' H', Ext R H R' H' → (∀ c ∈ p :: ps, H c = none) → (p :: ps).Nodup → H' p = some o → (∀ c ∈ p :: ps, R' c = none) → Od.dh K R' H' o ps a → Q (.ref p) H') ∧
  ∀ x, r = .ex x → ∀ cls d R' H', Ext R H R' H' → XOk K R' cls d x → E cls d H'
section
variable {P : Program} {w : World} {K : PySem.W.Frag} {mg : Str → Option Value} {base : Heap} {x qual : Str} {st : Stmt} {f : Addr} {fd : FuncData} {N ps : List Str} {k : Nat} {γ β : Type} [Ar γ]
abbrev bodyC (P : Program) (w : World) (K : PySem.W.Frag) (mg : Str → Option Value) (base : Heap) (N : List Str) (qual : Str) (st : Stmt) (f : Addr) (cdv : Value) (A : Around) (outer : List Env) (s : Shared) (H : Hp) (E : XK) : Cx := cxOf (L2.CX P w) P w K mg base N qual (defScope st) f cdv A outer s H E
theorem takes_body {cdv : Value} {A : Around} {outer : List Env} {s : Shared} {H : Hp} {E : XK} : Takes (bodyC P w K mg base N qual st f cdv A outer s H E) (fun cls d _ H => E cls d H) := takes_of (E := E) rfl rfl rfl rfl
theorem fn_x [Py β] {m : γ → Option (Rs β)} (F : Fun K x qual st f fd) (S : FnScope N ps (defScope st)) (hl : ∀ R H vs (g : γ), Ar.ok K R H vs g → vs.length = ps.length)
    (hb : ∀ (cdv : Value) (A : Around) (outer : List Env) (s : Shared) (H R : Hp) (E : XK) (g : γ), Room k (A.deeper (envOfC qual (defScope st) s.heap.objs.size f cdv)) →
      JN (bodyC P w K mg base N qual st f cdv A outer s H E) R H (Ar.slots g ++ List.replicate (N.length - ps.length) .any) (defBody st) (m g) outR) : FnOk P w K mg base (L2.CX P w) (k + 1) f fd ps (spX K m) := by
  refine F.okX S (fun vs H Q E h => ?_) (fun cdv A outer s H vs Q E hr h => ?_)
  · obtain ⟨R, g, b, i, h, _⟩ := h
    exact hl R H vs g h
  · obtain ⟨R, g, r, i, h, e, q1, q2⟩ := h
    refine ⟨_, sS, hb cdv A outer s H R E g hr _ R H (sat_start i h (hl R H vs g h)) r e { nx := fun _ H' => Q .non H', rt := Q } (fun _ H' => Q .non H') ?_⟩
    cases r with
    | ok a => exact fun v R' H' x r => q1 a rfl v R' H' x r
    | ex xv => exact takes_body.imp fun cls d σ H' ⟨R', e, h⟩ => q2 xv rfl cls d R' H' e h
end
section
variable {X : Cx} {R0 H0 : Hp} {Γ : List Slot} {e a b : Expr} {es : List Expr} {rest : List Stmt} {pos p : Pos} {γ β : Type} [Ar γ]
theorem takes_no : Takes X (fun _ _ _ _ => False) := fun _ _ ⟨_, _, _, _, _, _, _, _, _, _, _, _, _, _, _, _, w⟩ => w.elim
theorem jx_call [Py β] {k : Nat} {x : Str} {ps : List Str} {m : γ → Option (Rs β)} {ma : Option γ} (C : Cal X.prog X.w X.K X.mg X.base (L2.CX X.prog X.w) k x ps (spX X.K m)) (hr : Room k X.A) (ha : JA X R0 H0 Γ (e :: es) ma) (hg : Gl X x := by rfl)
    (hdb : (x == ("__debug__" : Str)) = false := by decide) (he : starEach (e :: es) X.env = (false, eval e X.env) :: starEach es X.env := by rfl) (hpl : (backTo pos (starEach es X.env)).any (·.1) = false := by rfl) :
    JX X R0 H0 Γ (.Call (.Name x p) (e :: es) [] pos) (ma.bind m) := .mk fun σ R H S r er Q W tk q1 q2 => by
  obtain ⟨g, eg, er⟩ := bind_some' er
  obtain ⟨f, fd, h1, h2, h3, h4⟩ := C
  exact PE_to (pe_callS h4 hr hg h1 h2 h3 (fun σ => passAt tk σ) aS hdb he hpl) (ha σ R H S g eg _ fun vs R1 H1 x1 r1 => ⟨R1, g, r, x1.i, r1, er, fun a ea v R2 H2 x2 r2 => q1 a ea v R2 H2 (x1.trans x2) r2, fun x ex cls d R2 H2 x2 h => q2 x ex cls d R2 H2 (x1.trans x2) h⟩)
theorem jx_call_t [Py β] {k : Nat} {x : Str} {ps : List Str} {m : γ → Option (Rs β)} {g : γ} (C : Cal X.prog X.w X.K X.mg X.base (L2.CX X.prog X.w) k x ps (spX X.K m)) (hr : Room k X.A) (ha : JA X R0 H0 Γ (e :: es) (some g)) (hg : Gl X x := by rfl)
    (hdb : (x == ("__debug__" : Str)) = false := by decide) (he : starEach (e :: es) X.env = (false, eval e X.env) :: starEach es X.env := by rfl) (hpl : (backTo pos (starEach es X.env)).any (·.1) = false := by rfl) :
    JX X R0 H0 Γ (.Call (.Name x p) (e :: es) [] pos) (m g) := jx_call C hr ha hg hdb he hpl
/-- a call that raises nothing, of one argument that may raise -/
def rsB {α β : Type} (m : Option (Rs α)) (f : α → Option β) : Option (Rs β) := m.bind fun r => match r with
  | .ok a => (f a).bind fun b => some (.ok b)
  | .ex x => some (.ex x)
/-! ### statements -/
/-- where an exception goes -/
inductive XAt (Γ : List Slot) (x : Xv) : Out → Prop
  | ex : XAt Γ x (.ex x)
  | et : XAt Γ x (.et Γ x)
theorem XAt.take {σ : L2.St} {R H : Hp} {D : Ends} {x : Xv} {o : Out} (t : XAt Γ x o) (q : Req X R0 H0 R D o) (S : Sat X.K R0 H0 Γ σ R H) : ∃ W : WX, Takes X W ∧ ∀ cls d R' H', Ext R H R' H' → XOk X.K R' cls d x → W cls d σ H' := by
  cases t with
  | ex => exact ⟨_, q, fun cls d R' H' e h => ⟨R', S.e0.trans e, h⟩⟩
  | et => exact ⟨_, q, fun cls d R' H' e h => ⟨R', e.r, S.ext e, h⟩⟩
end
end FK

/-! exceptions made and raised; caught and kept -/
namespace FK
open PySem PySem.Spec PyProof.Rows L2
/-! ### made -/
def mkSem (X : Cx) (e : Expr) : L2.St → Hp → XK → Prop := fun σ H Q => ∀ pins s, Inv X pins σ H s → wpAny (model X.prog X.w) X.A (eval e X.env) (MkP X pins σ Q) X.xe s
theorem mkS {X : Cx} {e : Expr} : PMk X e (mkSem X e) := fun pins s σ H Q I h => h pins s I
theorem PMk_to {X : Cx} {e : Expr} {t : L2.St → Hp → XK → Prop} (h : PMk X e t) {σ : L2.St} {H : Hp} {Q : XK} (q : t σ H Q) : mkSem X e σ H Q := fun pins s I => h pins s σ H Q I q
structure JMk (X : Cx) (R0 H0 : Hp) (Γ : List Slot) (e : Expr) (m : Option Xv) : Prop where
  run : ∀ σ R H, Sat X.K R0 H0 Γ σ R H → ∀ x, m = some x → ∀ Q : XK, (∀ cls d R' H', Ext R H R' H' → XOk X.K R' cls d x → Q cls d H') → mkSem X e σ H Q
/-- what the written part says of an exception's class -/
structure XCls (K : PySem.W.Frag) (mg : Str → Option Value) (nm : Str) (C : Addr) : Prop where
  g : mg nm = some (.ref C)
  ns : PySem.W.nsIn K mainGlobals nm = some (some (.ref C))
  kC : PySem.W.keepIn K (.ref C) = true
  exC : PySem.W.subIn K (.ref C) (.type "BaseException") = some true
  tyC : PySem.W.typeIn K (.ref C) = some (.type "type")
/-- .. without an own __init__ -/
def XPlain (K : PySem.W.Frag) (mg : Str → Option Value) (nm : Str) : Prop := ∃ C, XCls K mg nm C ∧ PySem.W.excIn K C [.type "ValueError", .type "Exception", .type "BaseException", .type "object"] "ValueError.__new__" = true
/-- .. with one that stores its argument -/
def spI (C : Addr) (f : Str) : Sp := fun vs H Q _ => ∃ a v, vs = [.ref a, v] ∧ H a = some (exo a C none) ∧ ∀ dx, H dx = none → dx ≠ a → Q .non (upd (upd H dx (exd dx [(f, v)])) a (exo a C (some dx)))
def XInit (P : Program) (w : World) (K : PySem.W.Frag) (mg : Str → Option Value) (base : Heap) (nm f : Str) (ps : List Str) : Prop := ∃ C fI fd, XCls K mg nm C ∧ OexC K C ∧ PySem.W.findIn K (.ref C) "__init__" = some (some (.ref fI)) ∧
  PySem.W.typeIn K (.ref fI) = some (.type "function") ∧ FnOk P w K mg base CX0 1 fI fd ps (spI C f) ∧ Binds K fd ps []
class Pd (β : Type) [Py β] where
  pl : Str → β → Pl
  ok : ∀ {K : PySem.W.Frag} {R : Hp} {d : Addr} {f : Str} {v : V} {b : β}, rep K R v b → R d = some (.xd [(f, v)]) → PlOk K R (some d) (pl f b)
instance : Pd Int := ⟨.int, fun {K R d f v b} h e => ⟨d, rfl, by cases (show v = .int b from h); exact e⟩⟩
instance : Pd Str := ⟨.str, fun {K R d f v b} h e => ⟨d, rfl, by cases (show v = .str b from h); exact e⟩⟩
instance : Pd (List Str) := ⟨.txts, fun {K R d f v b} h e => ⟨d, v, rfl, e, h⟩⟩
section
variable {X : Cx} {R0 H0 : Hp} {Γ : List Slot} {e a b : Expr} {es : List Expr} {rest : List Stmt} {pos p : Pos}
theorem jn_raise {m : Option Xv} {out : Xv → Out} (h : JMk X R0 H0 Γ e m) (hc : X.calm = true := by rfl) (h2 : ∀ x, XAt Γ x (out x) := by intro _; first | exact .ex | exact .et) : JN X R0 H0 Γ (.Raise (some e) none pos :: rest) m out := .mk fun σ R H S x er D n q => by
  obtain ⟨W, tk, w⟩ := (h2 x).take q S
  exact PSs_to (pss_cons (ps_raise hc tk mkS) sS) (h.run σ R H S x er _ fun cls d R' H' e h => w cls d R' H' e h)
theorem jm_init {x f : Str} {ps : List Str} {β : Type} [Py β] [Pd β] {m : Option β} (T : XInit X.prog X.w X.K X.mg X.base x f ps) (hr : Room 2 X.A) (ha : JE X R0 H0 Γ e m) (hg : Gl X x := by rfl) (hdb : (x == ("__debug__" : Str)) = false := by decide)
    (he : starEach (e :: []) X.env = (false, eval e X.env) :: starEach [] X.env := by rfl) (hpl : (backTo pos (starEach [] X.env)).any (·.1) = false := by rfl) : JMk X R0 H0 Γ (.Call (.Name x p) [e] [] pos) (m.bind fun b => some (⟨x, Pd.pl f b⟩ : Xv)) := ⟨fun σ R H S z ez Q q => by
  obtain ⟨b, eb, ez⟩ := bind_some' ez
  cases ez
  obtain ⟨C, fI, fd, c, T, iC, tI, F, hb⟩ := T
  refine PMk_to (pmk_oex (ds := []) (dvs := []) T iC tI F hr hb .nil pass0 hg c.g (pa_cons eS pa_nil he) hdb he hpl) (ha σ R H S b eb _ fun v R1 H1 x1 r1 => ⟨show 1 ≤ 1000 by decide, fun a hn => ⟨a, v, rfl, upd_same, fun dx hdx dne => ?_⟩⟩)
  have hdx1 : H1 dx = none := by
    rw [upd_ne dne] at hdx
    exact hdx
  refine ⟨rfl, dx, [(f, v)], upd_same, by rw [upd_ne dne, upd_same], hdx1, ?_⟩
  have e1 : upd (del (upd (upd (upd H1 a (exo a C none)) dx (exd dx [(f, v)])) a (exo a C (some dx))) a) dx (.xd [(f, v)]) = upd H1 dx (.xd [(f, v)]) := by
    funext z
    by_cases hz : z = dx
    · rw [hz, upd_same, upd_same]
    · rw [upd_ne hz, upd_ne hz]
      by_cases ha : z = a
      · rw [ha, del_same, hn]
      · rw [del_ne ha, upd_ne ha, upd_ne hz, upd_ne ha]
  rw [e1]
  exact q (.ref C) (some dx) (upd R1 dx (.xd [(f, v)])) _ (x1.trans (.new x1.i hdx1)) ⟨C, c.ns, rfl, Pd.ok (Py.mono (.new (x1.i.none hdx1)) r1) upd_same⟩⟩
end
/-! ### kept -/
def Exv (a : Addr) (cls : Value) (d : Option Addr) : HO := .ext fun h => ∃ (oe : Obj) (vs : Array Value), h.get? a = some oe ∧ Zc cls d oe ∧ oe.data = .fields vs
theorem exv_ok {P : Program} {w : World} {H : Hp} {h : Heap} {a : Addr} {cls : Value} {d : Option Addr} {oe : Obj} {vs : Array Value} (e : h.get? a = some oe) (z : Zc cls d oe) (q : oe.data = .fields vs) : ObjOk P w H h a (Exv a cls d) :=
  ⟨⟨oe, vs, e, z, q⟩, ⟨oe, e⟩, fun _ _ ⟨o, v, e1, z1, d1⟩ k => ⟨o, v, k _ e1, z1, d1⟩⟩
theorem inv_track {X : Cx} {pins : List (Addr × Obj)} {σ : L2.St} {H : Hp} {s : Shared} {a : Addr} {cls : Value} {d : Option Addr} {oe : Obj} {vs : Array Value} (I : Inv X pins σ H s) (na : H a = none) (e : s.heap.get? a = some oe) (z : Zc cls d oe) (q : oe.data = .fields vs)
    (n0 : X.s_0.heap.get? a = none) (nL : a ≠ X.env.locals) (np : ∀ p ∈ X.pn ++ pins, p.1 ≠ a) : Inv X pins σ (upd H a (Exv a cls d)) s := by
  have other : ∀ {b : Addr} {o : HO}, H b = some o → b ≠ a := fun {b o} h => ne_of_none h na
  refine { I with base := { I.base with free := fun b o h n hx => ?_, tups := fun b xs h => ?_, frzs := fun b o u h => ?_, tbls := fun b ps h => ?_ }, free := ?_, freeC := fun x c h => ?_, pin := fun p hp => ?_, hok := fun b o h => ?_ }
  · have nb : b ≠ a := fun y => by
      rw [y, n0] at h
      cases h
    rw [upd_ne nb]
    exact I.base.free b o h n hx
  · have k := I.base.tups b xs h
    rw [upd_ne (other k)]
    exact k
  · have k := I.base.frzs b o u h
    rw [upd_ne (other k)]
    exact k
  · obtain ⟨more, k⟩ := I.base.tbls b ps h
    exact ⟨more, by rw [upd_ne (other k)]; exact k⟩
  · rw [upd_ne (Ne.symm nL)]
    exact I.free
  · have nc : c ≠ a := fun y => by
      obtain ⟨v, o, h1, h2⟩ := I.cell x c h
      rw [y, e] at h1
      cases h1
      rw [q] at h2
      cases h2
    rw [upd_ne nc]
    exact I.freeC x c h
  · obtain ⟨p1, p2, p3⟩ := I.pin p hp
    exact ⟨p1, by rw [upd_ne (np p hp)]; exact p2, p3⟩
  · by_cases y : b = a
    · rw [y, upd_same] at h
      cases h
      rw [y]
      exact exv_ok e z q
    · rw [upd_ne y] at h
      exact (I.hok b o h).stay (fun c v _ k => k) (fun c k => by rw [upd_ne (other k)]; exact k) fun c xs k => by rw [upd_ne (other k)]; exact k
/-- where an exception is handled, the state as it is -/
theorem inv_hot {X : Cx} {pins : List (Addr × Obj)} {σ : L2.St} {H : Hp} {s : Shared} (a : Addr) (I : Inv X pins σ H s) : Inv (X.suite a (X.pn ++ pins)) [] σ H s :=
  { I with ok := I.ok.suite a _, pin := fun p hp => I.pin p (by rw [List.append_nil] at hp; exact hp) }
theorem inv_cool {X : Cx} {pins : List (Addr × Obj)} {σ : L2.St} {H : Hp} {s : Shared} {a : Addr} (I : Inv (X.suite a (X.pn ++ pins)) [] σ H s) (ok : X.Ok) : Inv X pins σ H s :=
  { I with ok := ok, pin := fun p hp => I.pin p (by rw [List.append_nil]; exact hp) }
/-- what 'except x as n: m = n' wishes of an exception (n in slot i, m in slot j), that is always of the class -/
def wKeep (K : PySem.W.Frag) (c : Value) (i j : Nat) (D : Ends) : WX := fun cls d σ H => PySem.W.exmOne K cls c = some true ∧ ∀ a, H a = none → D.nx (((σ.set i (some (.ref a))).set j (some (.ref a))).set i none) (upd H a (Exv a cls d))
section
variable {X : Cx} {x n m : Str} {c : Value} {i j : Nat} {body : List Stmt} {np pos pos' q1 q2 q3 : Pos} {tb : WX → TS}
end
end FK

/-! a caught exception as a value: isinstance, its field; try .. except .. as e: m = e -/
namespace FK
open PySem PySem.Spec PyProof.Rows L2
instance instPyXv : Py Xv where
  rep := fun K R v x => ∃ a cls d, v = .ref a ∧ R a = some (Exv a cls d) ∧ XOk K R cls d x
  bor := fun K R _ v x => ∃ a cls d, v = .ref a ∧ R a = some (Exv a cls d) ∧ XOk K R cls d x
  mono := fun e ⟨a, cls, d, h, r, q⟩ => ⟨a, cls, d, h, e _ _ r, q.mono e⟩
  bmono := fun e _ ⟨a, cls, d, h, r, q⟩ => ⟨a, cls, d, h, e _ _ r, q.mono e⟩
  lend := fun _ h => h
instance : Flat Xv := ⟨fun h => h⟩
instance : Nn Xv := ⟨fun {K R v a} h e => by obtain ⟨p, o, _, h, _⟩ := h; rw [e] at h; cases h⟩
instance : Flat (Option Xv) := ⟨fun {K R H v a} h => by cases a <;> exact h⟩
/-- what a class must say for its caught instances to be asked -/
structure XKit (K : PySem.W.Frag) (C : Addr) : Prop where
  cl : (PySem.W.clsIn K C).isSome = true
  ga : PySem.W.findIn K (.ref C) "__getattribute__" = some (some (.builtin "BaseException.__getattribute__"))
  gg : PySem.W.findIn K (.ref C) "__getattr__" = some none
  ex : PySem.W.subIn K (.ref C) (.type "BaseException") = some true
  cc : PySem.W.findIn K (.ref C) "__class__" = some (some (.builtin "object.__class__"))
  sp : PySem.W.specialIn K (.builtin "object.__class__") "__get__" = some (some (.builtin "getset_descriptor.__get__"))
  tk : PySem.W.takesIn K (.builtin "object.__class__") = some true
  mo : PySem.W.mroIn K C (.type "object") = some true
  hd : PySem.W.hasDictIn K C = true
/-- the classes that may be caught -/
def Xs (K : PySem.W.Frag) (L : List Str) : Prop := ∀ c ∈ L, ∃ C, PySem.W.nsIn K mainGlobals c = some (some (.ref C)) ∧ XKit K C
section
variable {X : Cx} {pins : List (Addr × Obj)} {σ : L2.St} {R H : Hp} {s : Shared} {x : Xv}
end
/-! ### isinstance -/
def rIsX (K : PySem.W.Frag) : List V → Hp → VK → Prop := fun xs H Q => ∃ (a C : Addr) (d : Option Addr) (c : V) (cv : Value) (b : Bool), xs = [.ref a, c] ∧ H a = some (Exv a (.ref C) d) ∧ (d = none ∨ ∃ dd fs, d = some dd ∧ H dd = some (.xd fs)) ∧ XKit K C ∧
  (∀ u, RelV c u → u = cv) ∧ PySem.W.kitOne K (.ref C) cv = some b ∧ Q (.bl b) H
def isX (L : List Str) (tbl : Str → Bool) (o : Option Xv) : Option Bool := o.bind fun x => if x.c ∈ L then some (tbl x.c) else none
section
variable {X : Cx} {R0 H0 : Hp} {Γ : List Slot} {e a e2 : Expr} {pos p : Pos}
/-- a class of the program -/
def IsT (K : PySem.W.Frag) (mg : Str → Option Value) (L : List Str) (T : Str) (tbl : Str → Bool) : Prop := ∃ C, mg T = some (.ref C) ∧ ∀ c ∈ L, ∀ D, PySem.W.nsIn K mainGlobals c = some (some (.ref D)) → PySem.W.kitOne K (.ref D) (.ref C) = some (tbl c)
/-- a class that is built in -/
def IsB (K : PySem.W.Frag) (L : List Str) (Tn : String) (tbl : Str → Bool) : Prop := ∀ c ∈ L, ∀ D, PySem.W.nsIn K mainGlobals c = some (some (.ref D)) → PySem.W.kitOne K (.ref D) (.type Tn) = some (tbl c)
/-! ### its field -/
class Gd (β : Type) [Py β] where
  gt : Str → Pl → Option β
  ok : ∀ {K : PySem.W.Frag} {R : Hp} {d : Option Addr} {f : Str} {p : Pl} {b : β}, PlOk K R d p → gt f p = some b → ∃ dd fs v, d = some dd ∧ R dd = some (.xd fs) ∧ fs.lookup f = some v ∧ rep K R v b
theorem lk1 (f : Str) (v : V) : List.lookup f [(f, v)] = some v := by simp [List.lookup]
instance : Gd Int where
  gt f p := match p with
    | .int g i => if g = f then some i else none
    | _ => none
  ok {K R d f p b} h e := by
    cases p with
    | int g i =>
      obtain ⟨dd, h1, h2⟩ := h
      have e : (if g = f then some i else none) = some b := e
      by_cases c : g = f
      · subst c
        rw [if_pos rfl] at e
        cases e
        exact ⟨dd, _, _, h1, h2, lk1 g _, rfl⟩
      · rw [if_neg c] at e
        cases e
    | no => cases e
    | str g i => cases e
    | txts g i => cases e
instance : Gd Str where
  gt f p := match p with
    | .str g i => if g = f then some i else none
    | _ => none
  ok {K R d f p b} h e := by
    cases p with
    | str g i =>
      obtain ⟨dd, h1, h2⟩ := h
      have e : (if g = f then some i else none) = some b := e
      by_cases c : g = f
      · subst c
        rw [if_pos rfl] at e
        cases e
        exact ⟨dd, _, _, h1, h2, lk1 g _, rfl⟩
      · rw [if_neg c] at e
        cases e
    | no => cases e
    | int g i => cases e
    | txts g i => cases e
instance : Gd (List Str) where
  gt f p := match p with
    | .txts g i => if g = f then some i else none
    | _ => none
  ok {K R d f p b} h e := by
    cases p with
    | txts g i =>
      obtain ⟨dd, v, h1, h2, h3⟩ := h
      have e : (if g = f then some i else none) = some b := e
      by_cases c : g = f
      · subst c
        rw [if_pos rfl] at e
        cases e
        exact ⟨dd, _, v, h1, h2, lk1 g _, h3⟩
      · rw [if_neg c] at e
        cases e
    | no => cases e
    | int g i => cases e
    | str g i => cases e
/-- no class of L says anything of f -/
def NoF (K : PySem.W.Frag) (L : List Str) (f : Str) : Prop := ∀ c ∈ L, ∀ C, PySem.W.nsIn K mainGlobals c = some (some (.ref C)) → PySem.W.findIn K (.ref C) f = some none
def xGet {β : Type} [Py β] [Gd β] (L : List Str) (f : Str) (o : Option Xv) : Option β := o.bind fun x => if x.c ∈ L then Gd.gt f x.p else none
/-! ### try: .. except X as n: m = n -/
def keepX {α : Type} (L : List Str) : Rs α → Option (Rs α)
  | .ok a => some (.ok a)
  | .ex x => if x.c ∈ L then some (.ex x) else none
/-- an outcome that is no exception -/
inductive Tame : Out → Prop
  | nx {Γ : List Slot} : Tame (.nx Γ)
  | rt {α : Type} [Py α] {a : α} : Tame (.rt a)
  | ro {α : Type} [Ob α] {a : α} : Tame (.ro a)
  | rd {α : Type} [Od α] {a : α} : Tame (.rd a)
theorem Req.tr {D : Ends} {o : Out} {R : Hp} (t : Tame o) (q : Req X R0 H0 R D o) (pn : List (Addr × Obj)) (xe : Value → Shared → Prop) : Req (X.tr pn xe) R0 H0 R D o := by
  cases t <;> exact q
/-- the class that the clause names: all of L are of it -/
def CatchT (K : PySem.W.Frag) (mg : Str → Option Value) (L : List Str) (T : Str) : Prop := ∃ C, mg T = some (.ref C) ∧ ∀ c ∈ L, ∀ D, PySem.W.nsIn K mainGlobals c = some (some (.ref D)) → PySem.W.exmOne K (.ref D) (.ref C) = some true
end
end FK

/-! outcomes of statements that may raise; what the text's end says of the classes -/
namespace FK
open PySem PySem.Spec PyProof.Rows L2
def outN {α : Type} (Γ1 : α → List Slot) : Rs α → Out
  | .ok a => .nx (Γ1 a)
  | .ex x => .ex x
def outT {α : Type} (Γ : List Slot) (Γ1 : α → List Slot) : Rs α → Out
  | .ok a => .nx (Γ1 a)
  | .ex x => .et Γ x
def keepV {α : Type} (c0 : Option Xv) : Rs α → Option Xv
  | .ok _ => c0
  | .ex x => some x
def outK {α : Type} (Γ1 : Option Xv → List Slot) (c0 : Option Xv) (r : Rs α) : Out := .nx (Γ1 (keepV c0 r))
def clsBody : Stmt → List Stmt
  | .ClassDef _ _ _ body .. => body
  | _ => []
def rsO {α : Type} : Rs α → Option α
  | .ok a => some a
  | .ex _ => none
section
variable {X : Cx} {R0 H0 : Hp} {Γ : List Slot} {e : Expr}
/-- where it doesn't raise -/
theorem je_rs {α : Type} [Py α] {m : Option (Rs α)} (h : JX X R0 H0 Γ e m) : JE X R0 H0 Γ e (m.bind rsO) := .mk fun σ R H S a ea Q q => by
  obtain ⟨r, er, ea⟩ := bind_some' ea
  cases r with
  | ok b =>
    cases ea
    exact h.run σ R H S _ er Q _ takes_no (fun a' e' v R' H' x r => by cases e'; exact q v R' H' x r) fun x e => by cases e
  | ex x => cases ea
end
theorem plus_one {R H : Hp} {p : Addr} {o : HO} (h : H p = some o) : plus R H [p] = upd R p o := by
  funext z
  by_cases e : z = p
  · subst e
    rw [plus_in List.mem_cons_self, upd_same, h]
  · rw [plus_out (fun m => e (List.mem_singleton.mp m)), upd_ne e]
theorem Sat.melto {K : PySem.W.Frag} {R0 H0 R H : Hp} {Γ : List Slot} {σ : L2.St} {i : Nat} {α : Type} [Ob α] {a : α} (S : Sat K R0 H0 Γ σ R H) (hi : Γ[i]? = some (.own a)) : ∃ cs, (∀ c ∈ cs, R c = none) ∧ Sat K R0 H0 (Γ.set i (.v a)) σ (plus R H cs) H := by
  obtain ⟨⟨os, s, nd, fr⟩, e0⟩ := S
  obtain ⟨x, o1, oa, ob, h1, h2, ⟨p, o, e1, hx, hp, hr⟩, h4⟩ := s.at hi
  subst hx e1 h2
  have hm : p ∈ oa ++ ([p] ++ ob) := List.mem_append_right _ (List.mem_append_left _ (List.mem_singleton.mpr rfl))
  obtain ⟨f1, f2⟩ := fr p hm
  refine ⟨[p], fun c hc => by rw [List.mem_singleton.mp hc]; exact f1, ?_⟩
  rw [plus_one hp]
  have er : Ex R (upd R p o) := .new f1
  have hne : ∀ z ∈ oa ++ ob, z ≠ p := fun z hz hzp => by
    subst hzp
    have hc := List.nodup_append.mp nd
    rcases List.mem_append.mp hz with hz | hz
    · exact hc.2.2 z hz z (List.mem_append_left _ (List.mem_singleton.mpr rfl)) rfl
    · exact (List.nodup_append.mp hc.2.1).2.2 z (List.mem_singleton.mpr rfl) z hz rfl
  have sub : (oa ++ ([] ++ ob)).Sublist (oa ++ ([p] ++ ob)) := List.Sublist.append (List.Sublist.refl _) (List.Sublist.append (List.nil_sublist _) (List.Sublist.refl _))
  refine ⟨⟨oa ++ ([] ++ ob), ?_, nd.sublist sub, fun z hz => ?_⟩, e0.r.trans er, e0.h, e0.i.put hp, fun z u t hz hn => ?_⟩
  · have g := h4 (upd R p o) H (.v a) (some (.ref p)) [] er (fun z _ u hu => hu) ⟨rfl, .ref p, rfl, p, o, rfl, .inl upd_same, Ob.mono er hr⟩
    rw [set_same h1] at g
    exact g
  · obtain ⟨g1, g2⟩ := fr z (sub.mem hz)
    exact ⟨by rw [upd_ne (hne z hz)]; exact g1, g2⟩
  · rw [upd_ne (ne_of_none hz f2)]
    exact e0.n z u t hz hn
section
variable {X : Cx} {R0 H0 : Hp} {Γ : List Slot} {e : Expr}
theorem jt_melto (i : Nat) {α : Type} [Ob α] {a : α} {m : Option Bool} (h : JT X R0 H0 (Γ.set i (.v a)) e m) (hi : Γ[i]? = some (.own a) := by rfl) : JT X R0 H0 Γ e m := .mk fun σ R H S b eb Q q => by
  obtain ⟨cs, fr, S2⟩ := S.melto hi
  exact h σ _ H S2 b eb Q fun R' H' x => q _ H' (x.unplus fr)
end
theorem exm_own {K : PySem.W.Frag} {D C : Addr} (h1 : PySem.W.subIn K (.ref C) (.type "BaseException") = some true) (h2 : PySem.W.isClsIn K C = true) (h3 : PySem.W.typeIn K (.ref C) = some (.type "type")) (h4 : PySem.W.subIn K (.ref D) (.ref C) = some true) : PySem.W.exmOne K (.ref D) (.ref C) = some true := by
  have h2 : (PySem.W.clsIn K C).isSome = true := h2
  show (if (PySem.W.subIn K (.ref C) (.type "BaseException") == some true) = true then (if ((PySem.W.clsIn K C).isSome && PySem.W.typeIn K (.ref C) == some (.type "type")) = true then PySem.W.subIn K (.ref D) (.ref C) else none) else none) = some true
  rw [h1, h2, h3, if_pos (by simp), if_pos (by simp)]
  exact h4
theorem init_ok {P : Program} {w : World} {K : PySem.W.Frag} {mg : Str → Option Value} {base : Heap} {C fI : Addr} {fd : FuncData} {qual f y : Str} {st : Stmt} {p1 p2 p3 p4 : Pos} (T : OexC K C) (hno : PySem.W.findIn K (.ref C) f = some none) (F : Fun K "__init__" qual st fI fd) (S : FnScope ["self", y] ["self", y] (defScope st))
    (hb : defBody st = [.Assign [.Attribute (.Name "self" p1) f p2] (.Name y p3) p4]) (hv0 : ∀ (A : Addr) (c : Value), Vis (envOfC qual (defScope st) A fI c).scope "self") (hv1 : ∀ (A : Addr) (c : Value), Vis (envOfC qual (defScope st) A fI c).scope y) (hd1 : (y == ("__debug__" : Str)) = false) (hc1 : (y == ("__classdict__" : Str)) = false)
    (hs : ∀ (A : Addr) (c : Value), swapsWith (.Name y p3) (some (.Attribute (.Name "self" p1) f p2)) p4.line (envOfC qual (defScope st) A fI c) = pure false) : FnOk P w K mg base CX0 1 fI fd ["self", y] (spI C f) := by
  refine F.ok S (fun vs H Q E h => ?_) (fun cdv A outer s H vs Q E hr h => ?_)
  · obtain ⟨a, v, rfl, _⟩ := h
    rfl
  · obtain ⟨a, v, rfl, ha, go⟩ := h
    refine ⟨_, by rw [hb]; exact pss_cons (ps_ost (pv 0 rfl (hv0 _ _) (by decide) (by decide)) (pv 1 rfl (hv1 _ _) hd1 hc1) (hs _ _)) pss_nil, ?_⟩
    exact ⟨v, rfl, .ref a, rfl, a, C, rfl, T, hno, .inl ⟨ha, fun dx hdx hne => go dx hdx hne⟩⟩
end FK

namespace FK
open PySem PySem.Spec PyProof.Rows L2
section
variable {X : Cx} {R0 H0 : Hp} {Γ : List Slot} {pos : Pos}
end
end FK

/-! a statement that never falls through; try whose exceptions do not come; join of a tuple of three; isinstance of a tuple of classes; what may raise in a tuple -/
namespace FK
open PySem PySem.Spec PyProof.Rows L2
section
variable {X : Cx} {R0 H0 : Hp} {Γ : List Slot} {e a b o : Expr} {es : List Expr} {rest : List Stmt} {st : Stmt} {pos p : Pos} {β : Type} {out : β → Out}
theorem jn_1 {m : Option β} (h : J1 X R0 H0 Γ st m out) (hn : ∀ b, m = some b → ∀ Γ, out b ≠ .nx Γ) : JN X R0 H0 Γ (st :: rest) m out := .mk fun σ R H S b eb D n q => by
  exact PSs_to (pss_cons s1S sS) (h σ R H S b eb _ (q.nx (hn b eb)))
theorem j1_try0 {T : Str} {m : Option β} {body suite : List Stmt} {b₀ : Stmt} {np pos' : Pos} (hT : ∃ C, X.mg T = some (.ref C)) (hb : ∀ pn xe, JS (X.tr pn xe) R0 H0 Γ body m out) (ht : ∀ b, m = some b → Tame (out b)) (hs : X.stack = X.env :: X.outer := by rfl) (hf : X.env.frame = some X.env.locals := by rfl) (hgT : Gl X T := by rfl) (hdT : (T == ("__debug__" : Str)) = false := by decide) :
    J1 X R0 H0 Γ (.Try body [.ExceptHandler (some (.Name T np)) none (b₀ :: suite) pos'] [] [] pos) m out := .mk fun σ R H S b eb D q => by
  obtain ⟨C, hC⟩ := hT
  refine PS_to (ps_try_only (c := .ref C) hs hf ⟨hgT, hdT, .inl hC⟩ takes_no (tb := fun W D σ H => ∀ pn xe, Takes (X.tr pn xe) W → sSem (X.tr pn xe) body D σ H) (ts := fun _ _ _ _ _ _ => False) (fun W pn xe tk _ => ⟨fun pins s σ H D I h => h pn xe tk pins s I⟩) (fun a oe cls d pn z v => ⟨fun pins s σ H D I h => h.elim⟩)) fun pn xe tk => ?_
  exact (hb pn xe) σ R H S b eb D (Req.tr (ht b eb) q pn xe)
theorem je_joint3 {apos : Pos} {mo : Option Str} {me : Option (T3 Str Str Str)} (ho : JB X R0 H0 Γ o mo) (he : JB X R0 H0 Γ e me)
    (hs : starEach [e] X.env = [(false, eval e X.env)] := by rfl) (hbase : attributeBase o "join" X.env (eval o X.env) = eval o X.env := by rfl) (hline : (apos.endLine == pos.line) = true := by rfl) :
    JE X R0 H0 Γ (.Call (.Attribute o "join" apos) [e] [] pos) (mo.bind fun x => me.bind fun y => sJoin x [y.a, y.b, y.c]) := je_m1 F.slot_str_join F.type_str_join mt_join (fun R H w x y z i h h3 Q q => by
  unfold sJoin at h3
  by_cases g : ([y.a, y.b, y.c].map (·.length)).sum + [y.a, y.b, y.c].length * x.length ≤ 16000000
  · rw [if_pos g] at h3
    cases h3
    obtain ⟨p, vs, rfl, hp, a, b, c, rfl, ra, rb, rc⟩ := h
    have ra : a = .str y.a := ra
    have rb : b = .str y.b := rb
    have rc : c = .str y.c := rc
    subst ra rb rc
    exact ⟨x, p, [y.a, y.b, y.c], rfl, rfl, .inr (dsq (i _ _ hp)), Nat.le_trans g (by decide), q _ R H (.refl i) rfl⟩
  · rw [if_neg g] at h3
    cases h3) ho he hs hbase hline
theorem je_joint3_t {apos : Pos} {x : Str} {y : T3 Str Str Str} (ho : JB X R0 H0 Γ o (some x)) (he : JB X R0 H0 Γ e (some y))
    (hs : starEach [e] X.env = [(false, eval e X.env)] := by rfl) (hbase : attributeBase o "join" X.env (eval o X.env) = eval o X.env := by rfl) (hline : (apos.endLine == pos.line) = true := by rfl) :
    JE X R0 H0 Γ (.Call (.Attribute o "join" apos) [e] [] pos) (sJoin x [y.a, y.b, y.c]) := je_joint3 ho he hs hbase hline
end
/-! ### isinstance(e, (A, B, ..)) -/
structure Cv where
  a : Addr
instance instPyCv : Py Cv := flatPy fun c => V.ref c.a
def JC (X : Cx) (R0 H0 : Hp) (Γ : List Slot) (es : List Expr) (L : List Str) (tbl : Str → Bool) : Prop := ∃ Cs : List Addr, JLs X R0 H0 Γ es (some (Cs.map Cv.mk)) ∧
  ∀ c ∈ L, ∀ D, PySem.W.nsIn X.K mainGlobals c = some (some (.ref D)) → PySem.W.kitAny X.K (.ref D) (Cs.map Value.ref) = some (tbl c)
def rIsXT (K : PySem.W.Frag) : List V → Hp → VK → Prop := fun xs H Q => ∃ (a C : Addr) (d : Option Addr) (tp : Addr) (Cs : List Addr) (b : Bool), xs = [.ref a, .ref tp] ∧ H a = some (Exv a (.ref C) d) ∧ (d = none ∨ ∃ dd fs, d = some dd ∧ H dd = some (.xd fs)) ∧ XKit K C ∧
  SqT K H tp (Cs.map V.ref) ∧ PySem.W.kitAny K (.ref C) (Cs.map Value.ref) = some b ∧ Q (.bl b) H
section
variable {X : Cx} {R0 H0 : Hp} {Γ : List Slot} {e a b : Expr} {es : List Expr} {rest : List Stmt} {pos p : Pos}
end
/-- try: return .. except X as e: m = e -/
def Rs.fk {α : Type} : Rs α → Fl (Option Xv) α
  | .ok a => .rt a
  | .ex x => .nx (some x)
def outRT {α : Type} [Py α] (Γ : List Slot) : Rs α → Out
  | .ok a => .rt a
  | .ex x => .et Γ x
def outRK {α : Type} [Py α] (Γ1 : Option Xv → List Slot) : Rs α → Out
  | .ok a => .rt a
  | .ex x => .nx (Γ1 (some x))
end FK

/-! try .. except X as n: any suite that goes on; a value of one of two types -/
namespace FK
open PySem PySem.Spec PyProof.Rows L2
/-! ### one of two types -/
inductive Sm (α β : Type) where
  | l (a : α)
  | r (b : β)
instance instPySm {α β : Type} [Py α] [Py β] : Py (Sm α β) where
  rep := fun K R v o => match o with
    | .l a => Py.rep K R v a
    | .r b => Py.rep K R v b
  bor := fun K R H v o => match o with
    | .l a => Py.bor K R H v a
    | .r b => Py.bor K R H v b
  mono := fun {K R R' v a} e h => match a, h with
    | .l _, h => Py.mono e h
    | .r _, h => Py.mono e h
  bmono := fun {K R R' H H' v a} e e2 h => match a, h with
    | .l _, h => Py.bmono e e2 h
    | .r _, h => Py.bmono e e2 h
  lend := fun {K R H v a} e h => match a, h with
    | .l _, h => Py.lend e h
    | .r _, h => Py.lend e h
/-- told unlike: where both are of one type -/
def sNe {α β : Type} [DecidableEq α] [DecidableEq β] : Sm α β → Sm α β → Option Bool
  | .l a, .l b => some (!decide (a = b))
  | .r a, .r b => some (!decide (a = b))
  | _, _ => none
section
variable {X : Cx} {R0 H0 : Hp} {Γ : List Slot} {e a b : Expr} {pos : Pos} {α β : Type} [Py α] [Py β]
end
/-! ### the suite -/
def wHand (X : Cx) (c : Value) (i : Nat) (suite : List Stmt) (D : Ends) : WX := fun cls d σ H => PySem.W.exmOne X.K cls c = some true ∧ ∀ a pn, H a = none →
  sSem (X.suite a pn) suite { nx := fun σ6 H6 => D.nx (σ6.set i none) H6, rt := fun _ _ => False, bk := fun _ _ => False, ct := fun _ _ => False } (σ.set i (some (.ref a))) (upd H a (Exv a cls d))
section
variable {X : Cx} {x n : Str} {c : Value} {i : Nat} {body suite : List Stmt} {b₀ : Stmt} {np pos pos' : Pos} {tb : WX → TS}
theorem ps_hand (hex : X.ex = []) (hs : X.stack = X.env :: X.outer) (hf : X.env.frame = some X.env.locals) (hN : X.N.Nodup) (hi : X.N[i]? = some n) (hln : X.env.kindOf n = some .local) (hc : Names X x c) (hij : i < X.N.length)
    (hb : ∀ (W : WX) (pn : List (Addr × Obj)) (xe : Value → Shared → Prop), Takes (X.tr pn xe) W → PSs (X.tr pn xe) body (tb W)) :
    PS X (.Try body [.ExceptHandler (some (.Name x np)) (some n) (b₀ :: suite) pos'] [] [] pos) (fun D σ H => tb (wHand X c i (b₀ :: suite) D) D σ H) := by
  refine ⟨fun pins s σ H D I h => wpAny_Try_except ?_⟩
  have ok := I.ok
  have hfr : X.A.frames = some (X.env :: X.outer) := ok.frames.trans (congrArg some hs)
  refine wpAny_mono ((hb _ (X.pn ++ pins) (fun e s₁ => wpAny (model X.prog X.w) X.A (noteFrame e X.env)
    (fun _ s₂ => wpAny (model X.prog X.w) X.A (setFlight e none)
      (fun _ s₃ => wpAny (model X.prog X.w) X.A (handleBy e X.env [.ExceptHandler (some (.Name x np)) (some n) (b₀ :: suite) pos']) (SP X pins D) X.xe s₃)
      X.xe s₂) X.xe s₁) fun u s' air => ?_).run [] s σ H D (I.toTry _) h) (fun f s1 out => ?_) fun _ _ z => z
  · obtain ⟨a, B, sI, pins', σ', H', cls, d, rfl, J', nb, up, sky, na, os, ag, hm, go⟩ := air
    have J : Inv X pins σ' H' sI := J'.ofTry ok
    rw [hs] at sky
    refine Sky.land Zc.steady hfr hf sky fun h3 fl3 up3 => ?_
    have J3 : Inv X pins σ' H' { s' with heap := h3 } := J.landed nb fl3.1 (up.trans up3) os ag
    obtain ⟨oe3, vs3, he3, hz3, hd3⟩ := fl3.there
    have offFrames : a ∉ frs (X.env :: X.outer) := fun hm => by
      obtain ⟨_, o', e', hnf⟩ := fl3.2.2.1.mem hm
      rw [he3] at e'
      cases e'
      exact hnf _ hd3
    have nL : a ≠ X.env.locals := fun z => offFrames (List.mem_filterMap.mpr ⟨X.env, List.mem_cons_self, hf.trans (congrArg some z.symm)⟩)
    have fresh : ∀ o, sI.heap.get? a ≠ some o := fun o z => by
      have y := nb a o z (by rw [hs]; exact offFrames)
      rw [fl3.2.1] at y
      cases y
    have n0 : X.s_0.heap.get? a = none := by
      cases z : X.s_0.heap.get? a with
      | none => rfl
      | some o =>
        obtain ⟨o', y⟩ := J.base.there a o z (by rw [hex]; exact List.not_mem_nil)
        exact absurd y (fresh o')
    have np' : ∀ p ∈ X.pn ++ pins, p.1 ≠ a := fun p hp z => fresh p.2 (by rw [← z]; exact (J.pin p hp).1)
    refine wpAny_handleBy_cons (codeAny_handlers_test ?_) (by intro q; cases q)
    have LT : PySem.W.Looks (model X.prog X.w) h3 (typeOf (.ref a)) cls := fun A Q E s k q => wpAny_typeOf_ref (k _ _ he3) (by rw [hz3.1]; exact q)
    have LM := PySem.W.exm_one (M := model X.prog X.w) J3.kIn LT hm
    have T3 := inv_hot a J3
    have seen : ∀ {Q : Value → Shared → Prop} {E : Value → Shared → Prop}, Q c { s' with heap := h3 } → wpAny (model X.prog X.w) (X.A.mark (some (.ref a))) (eval (.Name x np) X.env) Q E { s' with heap := h3 } := fun {Q E} q => by
      obtain ⟨hg, hdbg, hm | ⟨hm, hv, hnn⟩⟩ := hc
      · exact ld_glob (X := X.suite a (X.pn ++ pins)) T3 hg hm q hdbg
      · exact ld_blt (X := X.suite a (X.pn ++ pins)) T3 hg hm hv q hnn hdbg
    refine seen (LM.here (codeAny_handlers_suite_as ?_))
    refine HandSPX.lands_againZ fl3 fun h4 fl4 up4 => ?_
    have J4 : Inv X pins σ' H' { s' with heap := h4 } := J.landed nb fl4.1 ((up.trans up3).trans up4) os ag
    obtain ⟨oe4, vs4, he4, hz4, hd4⟩ := fl4.there
    have K4 := inv_hot a (inv_track J4 na he4 hz4 hd4 n0 nL np')
    refine store_ok (X := X.suite a (X.pn ++ pins)) (v := .ref a) K4 hN hi (.inl hln) rfl (fun s5 S5 => ?_) (.inr hln)
    refine wpAny_mono (go a (X.pn ++ pins) na [] s5 S5) (fun f s6 out => ?_) fun _ _ z => False.elim z
    cases f with
    | next =>
      obtain ⟨σ6, H6, S6, z⟩ := out
      exact gone_ok (inv_cool S6 ok) hN hi hln fun s7 J7 => ⟨_, _, J7, z⟩
    | brk =>
      obtain ⟨σ6, H6, S6, z⟩ := out
      exact z.elim
    | cont =>
      obtain ⟨σ6, H6, S6, z⟩ := out
      exact z.elim
    | ret u =>
      obtain ⟨v6, σ6, H6, S6, r6, z⟩ := out
      exact z.elim
  · cases f with
    | next =>
      obtain ⟨σ', H', J', z⟩ := out
      exact wpAny_execs_nil ⟨σ', H', J'.ofTry ok, z⟩
    | brk =>
      obtain ⟨σ', H', J', z⟩ := out
      exact ⟨σ', H', J'.ofTry ok, z⟩
    | cont =>
      obtain ⟨σ', H', J', z⟩ := out
      exact ⟨σ', H', J'.ofTry ok, z⟩
    | ret u =>
      obtain ⟨v, σ', H', J', r, z⟩ := out
      exact ⟨v, σ', H', J'.ofTry ok, r, z⟩
end
def tryM {α β γ : Type} (L : List Str) (f : α → β) (g : γ → β) (mb : Option (Rs α)) (mh : Xv → Option γ) : Option β := mb.bind fun r => match r with
  | .ok a => some (f a)
  | .ex x => if x.c ∈ L then (mh x).bind fun c => some (g c) else none
section
variable {X : Cx} {R0 H0 : Hp} {Γ : List Slot} {β : Type} {out : β → Out} {pos : Pos}
end
section
variable {X : Cx} {R0 H0 : Hp} {Γ : List Slot} {e a b : Expr} {pos : Pos} {α β : Type} [Py α] [Py β] [DecidableEq α] [DecidableEq β] [Dq α] [Dc α] [Dq β] [Dc β] {ma mb : Option (Sm α β)}
end
end FK

/-! instances of the program's classes: a weight and a field, never changed once made; their methods -/
namespace FK
open PySem PySem.Spec PyProof.Rows L2
structure Ru where
  c : Str
  w : Int
  f : Str
def fsR (r : Ru) : List (Str × V) := [("weight", .int r.w), ("field", .str r.f)]
def RuAt (K : PySem.W.Frag) (R : Hp) (v : V) (r : Ru) : Prop := ∃ a C dx, v = .ref a ∧ R a = some (.ins C dx (fsR r)) ∧ PySem.W.nsIn K mainGlobals r.c = some (some (.ref C))
instance instPyRu : Py Ru where
  rep := fun K R v r => RuAt K R v r
  bor := fun K R _ v r => RuAt K R v r
  mono := fun e ⟨a, C, dx, h, q, z⟩ => ⟨a, C, dx, h, e _ _ q, z⟩
  bmono := fun e _ ⟨a, C, dx, h, q, z⟩ => ⟨a, C, dx, h, e _ _ q, z⟩
  lend := fun _ h => h
instance : Flat Ru := ⟨fun h => h⟩
instance : Nn Ru := ⟨fun {K R v a} h e => by obtain ⟨p, C, dx, h, _⟩ := h; rw [e] at h; cases h⟩
/-- what a class must say for its instances to be asked -/
structure RuC (K : PySem.W.Frag) (C : Addr) : Prop where
  cl : Cls K C
  nw : NoAttr K C "weight"
  nf : NoAttr K C "field"
  ca : PySem.W.findIn K (.ref C) "__class__" = some (some (.builtin "object.__class__"))
  sp : PySem.W.specialIn K (.builtin "object.__class__") "__get__" = some (some (.builtin "getset_descriptor.__get__"))
  tk : PySem.W.takesIn K (.builtin "object.__class__") = some true
  mo : PySem.W.mroIn K C (.type "object") = some true
def Rus (K : PySem.W.Frag) (L : List Str) : Prop := ∀ c ∈ L, ∃ C, PySem.W.nsIn K mainGlobals c = some (some (.ref C)) ∧ RuC K C
def ruG {α : Type} (L : List Str) (g : Ru → α) (r : Ru) : Option α := if r.c ∈ L then some (g r) else none
section
variable {X : Cx} {R0 H0 : Hp} {Γ : List Slot} {e a b o : Expr} {es : List Expr} {pos p apos : Pos}
end
/-! ### methods, told by the class -/
def mDis {γ β : Type} : List (Str × (Ru × γ → Option β)) → Str → Ru × γ → Option β
  | [], _, _ => none
  | (n, f) :: l, c, g => if c = n then f g else mDis l c g
def MthOk (P : Program) (w : World) (K : PySem.W.Frag) (mg : Str → Option Value) (base : Heap) (k : Nat) (m : Str) {γ β : Type} [Ar γ] [Py β] (n : Str) (mm : Ru × γ → Option β) : Prop :=
  ∃ C f fd ps, PySem.W.nsIn K mainGlobals n = some (some (.ref C)) ∧ Cls K C ∧ Meth K C m f ∧ Binds K fd ps [] ∧ FnOk P w K mg base CX0 k f fd ps (spV K mm)
section
variable {X : Cx} {R0 H0 : Hp} {Γ : List Slot} {e a b o : Expr} {es : List Expr} {pos p apos : Pos}
end
/-! ### made -/
def spRI (K : PySem.W.Frag) : Sp := fun vs H Q _ => ∃ a C dx w f, vs = [.ref a, .int w, .str f] ∧ H a = some (.ins C dx []) ∧ RuC K C ∧ Q .non (upd H a (.ins C dx [("weight", .int w), ("field", .str f)]))
def MkOk (P : Program) (w : World) (K : PySem.W.Frag) (mg : Str → Option Value) (base : Heap) (k : Nat) (c : Str) : Prop :=
  ∃ C fI fd ps, mg c = some (.ref C) ∧ PySem.W.nsIn K mainGlobals c = some (some (.ref C)) ∧ RuC K C ∧ Mk K C fI ∧ Binds K fd ps [] ∧ FnOk P w K mg base CX0 k fI fd ps (spRI K)
section
variable {X : Cx} {R0 H0 : Hp} {Γ : List Slot} {e a b o : Expr} {es : List Expr} {pos p apos : Pos}
end
end FK

/-! where a token is out: replace of written texts -/
namespace FK
open PySem PySem.Spec PyProof.Rows L2
def eSemT (X : Cx) (e : Expr) : TE := fun σ H Q => ∀ pins s, 1 ≤ s.toks → Inv X pins σ H s → wpAny (model X.prog X.w) X.A (eval e X.env) (EP X pins σ Q) X.xe s
def aSemT (X : Cx) (es : List Expr) : TA := fun σ H Q => ∀ (pos : Pos) pins s, 1 ≤ s.toks → Inv X pins σ H s → wpAny (model X.prog X.w) X.A (spliced (backTo pos (starEach es X.env))) (AP X pins σ Q) X.xe s
def sSemT (X : Cx) (st : List Stmt) : TS := fun D σ H => ∀ pins s, 1 ≤ s.toks → Inv X pins σ H s → wpAny (model X.prog X.w) X.A (execs st X.env) (SP X pins D) X.xe s
def s1SemT (X : Cx) (st : Stmt) : TS := fun D σ H => ∀ pins s, 1 ≤ s.toks → Inv X pins σ H s → wpAny (model X.prog X.w) X.A (exec st X.env) (SP X pins D) X.xe s
section
variable {X : Cx}
theorem eST {e : Expr} : PET X e (eSemT X e) := fun pins s σ H Q h0 I h => h pins s h0 I
theorem sST {st : List Stmt} : PSsT X st (sSemT X st) := fun pins s σ H D h0 I h => h pins s h0 I
theorem PET_to {e : Expr} {t : TE} (h : PET X e t) {σ : L2.St} {H : Hp} {Q : VK} (q : t σ H Q) : eSemT X e σ H Q := fun pins s h0 I => h pins s σ H Q h0 I q
theorem PSsT_to {st : List Stmt} {t : TS} (h : PSsT X st t) {σ : L2.St} {H : Hp} {D : Ends} (q : t D σ H) : sSemT X st D σ H := fun pins s h0 I => h pins s σ H D h0 I q
end
structure JEt (X : Cx) (R0 H0 : Hp) (Γ : List Slot) (e : Expr) {α : Type} [Py α] (m : Option α) : Prop where
  run : ∀ σ R H, Sat X.K R0 H0 Γ σ R H → ∀ a, m = some a → ∀ Q : VK, (∀ v R' H', Ext R H R' H' → rep X.K R' v a → Q v H') → eSemT X e σ H Q
structure JOt (X : Cx) (R0 H0 : Hp) (Γ : List Slot) (e : Expr) {α : Type} [Ob α] (m : Option α) : Prop where
  run : ∀ σ R H, Sat X.K R0 H0 Γ σ R H → ∀ a, m = some a → ∀ Q : VK, (∀ p o R' H', Ext R H R' H' → H p = none → H' p = some o → R' p = none → ho X.K R' o a → Q (.ref p) H') → eSemT X e σ H Q
structure JLt (X : Cx) (R0 H0 : Hp) (Γ : List Slot) (es : List Expr) {α : Type} [Py α] (m : Option (List α)) : Prop where
  run : ∀ σ R H, Sat X.K R0 H0 Γ σ R H → ∀ xs, m = some xs → ∀ Q : List V → Hp → Prop, (∀ vs R' H', Ext R H R' H' → vs.length = es.length → AllR X.K R' vs xs → Q vs H') → aSemT X es σ H Q
structure J1t (X : Cx) (R0 H0 : Hp) (Γ : List Slot) (st : Stmt) {β : Type} (m : Option β) (out : β → Out) : Prop where
  run : ∀ σ R H, Sat X.K R0 H0 Γ σ R H → ∀ b, m = some b → ∀ D : Ends, Req X R0 H0 R D (out b) → s1SemT X st D σ H
structure JNt (X : Cx) (R0 H0 : Hp) (Γ : List Slot) (st : List Stmt) {β : Type} (m : Option β) (out : β → Out) : Prop where
  run : ∀ σ R H, Sat X.K R0 H0 Γ σ R H → ∀ b, m = some b → ∀ (D : Ends) (n : L2.St → Hp → Prop), Req X R0 H0 R D (out b) → sSemT X st { D with nx := n } σ H
def sRepl (x y z : Str) : Option Str := if x.length + (x.length + 1) * z.length ≤ 16777216 then some (Txt.replace x y z) else none
section
variable {X : Cx} {R0 H0 : Hp} {Γ : List Slot} {e a b o : Expr} {es : List Expr} {rest : List Stmt} {st : Stmt} {pos p apos : Pos} {β : Type} {out : β → Out}
theorem jet_repl {y z : Str} {j0 j1 : Nat} {c0 c1 : Pos} {mo : Option Str} (ho : JB X R0 H0 Γ o mo) (hyz : (y == z) = false := by decide) (hbase : attributeBase o "replace" X.env (eval o X.env) = eval o X.env := by rfl) (hline : (apos.endLine == pos.line) = true := by rfl) :
    JEt X R0 H0 Γ (.Call (.Attribute o "replace" apos) [.Constant (.str y) j0 c0, .Constant (.str z) j1 c1] [] pos) (mo.bind fun x => sRepl x y z) := ⟨fun σ R H S a ea Q q => by
  obtain ⟨x, ex, ea⟩ := bind_some' ea
  unfold sRepl at ea
  by_cases hz : x.length + (x.length + 1) * z.length ≤ 16777216
  · rw [if_pos hz] at ea
    cases ea
    refine PET_to (CwR.pet_replC eS hyz (hbase := hbase) (hline := hline)) (ho σ R H S x ex _ fun v R1 H1 x1 r1 => ?_)
    exact ⟨x, r1, hz, q _ R1 H1 x1 rfl⟩
  · rw [if_neg hz] at ea
    cases ea⟩
theorem jnt_c {S : Type} {Γ1 : S → List Slot} {m1 : Option S} {m2 : S → Option β} (h1 : J1 X R0 H0 Γ st m1 fun s => .nx (Γ1 s)) (h2 : ∀ s, JNt X R0 H0 (Γ1 s) rest (m2 s) out) : JNt X R0 H0 Γ (st :: rest) (m1.bind m2) out := ⟨fun σ R H S b eb D n q => by
  obtain ⟨s, es, eb⟩ := bind_some' eb
  exact PSsT_to (psst_cons (PST.of s1S) sST) (h1 σ R H S s es _ fun σ' R' H' e' S' => (h2 s).run σ' R' H' S' b eb D n (q.mono e'))⟩
theorem jn_strc (i : Nat) {x c : Str} {j : Nat} {cpos pos' : Pos} {m2 : Str → Option β} (Γ1 : Str → List Slot) (hN : X.N.Nodup) (h : ∀ s, JNt X R0 H0 (Γ1 s) rest (m2 s) out) (hΓ : ∀ a, Γ1 a = Γ.set i (.v a) := by intro _; rfl) (hi : X.N[i]? = some x := by rfl) (hl : i < Γ.length := by exact Nat.le_of_ble_eq_true rfl) (hx : Loc X.env.scope x := by first | exact Or.inl rfl | exact Or.inr rfl)
    (hs : swapsWith (.Constant (.str c) j cpos) (some (.Name x pos')) pos.line X.env = pure false := by rfl) (hf : X.fn x = true ∨ X.env.scope.names.lookup x = some .local := by first | exact .inl rfl | exact .inr rfl) :
    JN X R0 H0 Γ (.Assign [.Name x pos'] (.Constant (.str c) j cpos) pos :: rest) ((some c).bind m2) out := .mk fun σ R H S b eb D n q => by
  refine PSs_to (pss_str hN hi hx sST hs hf) ?_
  have S2 := S.set_v (i := i) (a := c) (v := .str c) hl rfl
  rw [← hΓ] at S2
  exact (h c).run _ R H S2 b eb D n q
end
end FK

/-! a, b = b, a -/
namespace FK
open PySem PySem.Spec PyProof.Rows L2
section
variable {X : Cx} {R0 H0 : Hp} {Γ : List Slot} {a b : Expr} {pos : Pos}
theorem j1_par (i j : Nat) {x y : Str} {px py pt pt2 : Pos} {kt k2 : Nat} {α β : Type} [Py α] [Py β] {ma : Option α} {mb : Option β} (Γ' : α × β → List Slot) (ha : JE X R0 H0 Γ a ma) (hb : JE X R0 H0 Γ b mb) (hN : X.N.Nodup) (hΓ : ∀ p, Γ' p = (Γ.set i (.v p.1)).set j (.v p.2) := by intro _; rfl) (hc : X.calm = true := by rfl) (hi : X.N[i]? = some x := by rfl) (hj : X.N[j]? = some y := by rfl) (hij : i ≠ j := by decide)
    (hx : X.env.scope.names.lookup x = some .local := by rfl) (hy : X.env.scope.names.lookup y = some .local := by rfl) (hli : i < Γ.length := by exact Nat.le_of_ble_eq_true rfl) (hlj : j < Γ.length := by exact Nat.le_of_ble_eq_true rfl)
    (s1 : starEach (a :: [b]) X.env = (false, eval a X.env) :: starEach [b] X.env := by rfl) (s2 : starEach (b :: []) X.env = (false, eval b X.env) :: starEach [] X.env := by rfl)
    (hw : swappedStores [.Tuple [.Name x px, .Name y py] kt pt] (.Tuple [a, b] k2 pt2) X.env = pure (some [x, y]) := by rfl)
    (hs : swapsWithSole [.Tuple [.Name x px, .Name y py] kt pt] (.Tuple [a, b] k2 pt2) pos.line X.env = pure false := by rfl) :
    J1 X R0 H0 Γ (.Assign [.Tuple [.Name x px, .Name y py] kt pt] (.Tuple [a, b] k2 pt2) pos) (ma.bind fun u => mb.bind fun v => some (u, v)) fun p => .nx (Γ' p) := .mk fun σ R H S p ep D q => by
  obtain ⟨u, eu, ep⟩ := bind_some' ep
  obtain ⟨v, ev, ep⟩ := bind_some' ep
  cases ep
  have q : ∀ σ R' H, Ex R R' → Sat X.K R0 H0 (Γ' (u, v)) σ R' H → D.nx σ H := q
  rw [hΓ] at q
  refine PS_to (ps_par hc hN hi hj hij hx hy (pa_cons eS (pa_cons eS pa_nil s2) s1) hw hs) (ha σ R H S u eu _ fun w1 R1 H1 x1 r1 => hb σ R1 H1 (S.ext x1) v ev _ fun w2 R2 H2 x2 r2 => ⟨w1, w2, rfl, ?_⟩)
  have S1 := ((S.ext x1).ext x2).set_v (i := i) (a := u) hli (Py.mono x2.r r1)
  exact q _ R2 H2 (x1.trans x2).r (S1.set_v (i := j) (a := v) (by rw [List.length_set]; exact hlj) r2)
end
end FK

/-! a def read off a class and called; a class whose __init__ calls the one above -/
namespace FK
open PySem PySem.Spec PyProof.Rows L2 ClX
section
variable {X : Cx} {CX : CXT} {o e : Expr} {es : List Expr} {apos pos : Pos} {C f : Addr} {mc : Value} {m : Str} {fd : FuncData} {ps : List Str} {sp : Sp} {E : XK} {k : Nat} {ta : TE} {t : TA}
def tCfn (C : Addr) (sp : Sp) (E : XK) (ta : TE) (t : TA) : TE := fun σ H Q => ta σ H fun x H1 => x = .ref C ∧ t σ H1 fun vs H2 => sp vs H2 Q E
end
def RIn (P : Program) (w : World) (K : PySem.W.Frag) (mg : Str → Option Value) (base : Heap) : Prop :=
  ∃ C0 mc fR fdR, mg "Rule" = some (.ref C0) ∧ CRead K C0 mc ∧ CVal K C0 mc "__init__" (.ref fR) (.ref fR) ∧ PySem.W.keepIn K (.ref fR) = true ∧ Binds K fdR ["self", "weight", "field"] [] ∧ FnOk P w K mg base CX0 1 fR fdR ["self", "weight", "field"] (spRI K)
def spF1 (K : PySem.W.Frag) : Sp := fun vs H Q _ => ∃ a C dx w, vs = [.ref a, .int w] ∧ H a = some (.ins C dx []) ∧ RuC K C ∧ Q .non (upd H a (.ins C dx [("weight", .int w), ("field", .str "name")]))
def MkOk1 (P : Program) (w : World) (K : PySem.W.Frag) (mg : Str → Option Value) (base : Heap) (k : Nat) (c : Str) : Prop :=
  ∃ C fI fd ps, mg c = some (.ref C) ∧ PySem.W.nsIn K mainGlobals c = some (some (.ref C)) ∧ RuC K C ∧ Mk K C fI ∧ Binds K fd ps [] ∧ FnOk P w K mg base CX0 k fI fd ps (spF1 K)
section
variable {X : Cx} {R0 H0 : Hp} {Γ : List Slot} {e a b o : Expr} {es : List Expr} {pos p apos : Pos}
end
end FK

/-! str(n), int(text), l.insert(i, x), l * n, l.pop(i) -/
namespace FK
open PySem PySem.Spec PyProof.Rows L2
section
variable {X : Cx} {R0 H0 : Hp} {Γ : List Slot} {e f a b : Expr} {pos p : Pos}
def iStr (n : Int) : Option Str := if n.natAbs.log2 < 1920 then some (toString n : String) else none
def sInt (s : Str) : Option Int := if s.length ≤ 640 then PySem.intText? s else none
def lIns {α : Type} (xs : List α) (i : Int) (x : α) : Option (List α) := if xs.length < 16000000 ∧ 0 ≤ i ∧ i < 2 ^ 62 then some (xs.take i.toNat ++ [x] ++ xs.drop i.toNat) else none
def lMul {α : Type} (xs : List α) (n : Int) : Option (List α) := if -(2 ^ 62) < n ∧ n < 2 ^ 62 ∧ xs.length * n.toNat ≤ 16000000 then some (List.replicate n.toNat xs).flatten else none
end
end FK

/-! max(l, default=d) of ints, min(l) of data -/
namespace FK
open PySem PySem.Spec PyProof.Rows L2
def lMaxD (xs : List Int) (d : Int) : Int := match xs with
  | [] => d
  | y :: ys => PySem.W.maxOf y ys
def lMin {α : Type} [DecidableEq α] [PySem.W.DatumOrd α] : List α → Option α
  | [] => none
  | y :: ys => some (PySem.W.minOf y ys)
section
variable {α : Type} [Py α] [DecidableEq α] [PySem.W.DatumOrd α] [Dh α] [Dso α] {X : Cx} {R0 H0 : Hp} {Γ : List Slot} {e a : Expr} {pos p : Pos}
def rMinL (X : Cx) (α : Type) [Py α] [DecidableEq α] [PySem.W.DatumOrd α] : List V → Hp → VK → Prop := fun ws H Q => ∃ (R : Hp) (l : V) (as : List α) (a : α), ws = [l] ∧ Ex R H ∧ bor X.K R H l as ∧ lMin as = some a ∧ ∀ v, rep X.K R v a → Q v H
end
section
variable {X : Cx} {R0 H0 : Hp} {Γ : List Slot} {e a b : Expr} {pos p : Pos}
def rMaxD (X : Cx) : List V → List V → Hp → VK → Prop := fun ws zs H Q => ∃ (R : Hp) (l : V) (as : List Int) (d : Int), ws = [l] ∧ zs = [.int d] ∧ Ex R H ∧ bor X.K R H l as ∧ Q (.int (lMaxD as d)) H
end
end FK

/-! d.setdefault(k, v) alone, d one's own -/
namespace FK
open PySem PySem.Spec PyProof.Rows L2
section
variable {X : Cx}
def rSetdT : V → List V → Hp → VK → Prop := fun x xs H Q => ∃ (a : Addr) (kvs : List (List L2.Key × V)) (k : List L2.Key) (b : Addr) (z : V), x = .ref a ∧ xs = [.ref b, z] ∧ H a = some (.dT kvs) ∧ H b = some (.tup (k.map kV)) ∧ kvs.length < sizeLine ∧
  (∀ v, valV kvs k = some v → Q v H) ∧ (valV kvs k = none → Q z (upd H a (.dT (putK kvs k z))))
end
/-- setdefault -/
def dSd {κ α : Type} [DecidableEq κ] (d : Dct κ α) (k : κ) (a : α) : Option (Dct κ α) := if d.l.length < 16000000 then some (if dHas d.l k then d else ⟨dPut d.l k a⟩) else none
section
variable {κ α : Type} [Py κ] [DecidableEq κ] [Kt κ] [Py α] {X : Cx} {R0 H0 : Hp} {Γ : List Slot} {e a b : Expr} {pos : Pos} {d : Dct κ α}
end
section
variable {κ α : Type} [Py κ] [DecidableEq κ] [Kt κ] [Py α] {X : Cx} {R0 H0 : Hp} {Γ : List Slot} {a : Expr} {pos p : Pos} {mo : Option (Dct κ α)} {d : Dct κ α}
end
end FK

/-! l.count(n); l.index(x), x any data that is there -/
namespace FK
open PySem PySem.Spec PyProof.Rows L2
section
variable {X : Cx} {R0 H0 : Hp} {Γ : List Slot} {e o : Expr} {pos apos : Pos}
end
section
variable {α : Type} [Py α] [DecidableEq α] [Dq α] {X : Cx} {R0 H0 : Hp} {Γ : List Slot} {e o : Expr} {pos apos : Pos}
def lIdxQ (l : List α) (x : α) : Option Int := if l.length ≤ 16000000 then lIdx l x else none
def rIndexQ (X : Cx) (α : Type) [Py α] [DecidableEq α] : V → List V → Hp → VK → Prop := fun x xs H Q => ∃ (p : Addr) (vs : List V) (l : List α) (w : V) (y : α), x = .ref p ∧ xs = [w] ∧ SqL X.K H p vs ∧ AllR X.K H vs l ∧ rep X.K H w y ∧ y ∈ l ∧ l.length ≤ 16000000 ∧ Q (.int (l.idxOf y : Nat)) H
end
end FK

/-! sets of texts, of numbers -/
namespace FK
open PySem PySem.Spec PyProof.Rows L2
open PySem.W (EachIs)
class Sk (κ : Type) [DecidableEq κ] where
  kd : (P : Program) → (w : World) → PySem.KeyKind P w κ
  val : κ → Tok → Value
  at_ : ∀ P w k t, (kd P w).is k (val k t) = true
  scn : ∀ k t, (val k t).scannable = true
instance instSkStr : Sk Str := ⟨PySem.strKind, Value.str, fun P w k t => by
  show Value.isStrOf k (.str k t) = true
  simp [Value.isStrOf], fun _ _ => rfl⟩
instance instSkInt : Sk Int := ⟨PySem.intKind, Value.int, fun P w k t => PySem.intKind_is P w k t, fun _ _ => rfl⟩
section
variable {κ : Type} [DecidableEq κ] [Sk κ] {P : Program} {w : World}
abbrev rwS (P : Program) (w : World) (p : κ × Tok) : Int × Value := ((Sk.kd P w).hash p.1, Sk.val p.1 p.2)
abbrev vlS (p : κ × Tok) : Value := Sk.val p.1 p.2
structure SetS (P : Program) (w : World) (h : Heap) (c : Addr) (M : List (κ × Tok)) (xs : Array (Int × Value)) (n : Nat) (tb : SetTable) : Prop where
  obj : ∃ o, h.get? c = some o ∧ o.ExactSet ∧ o.data = .set xs n tb
  row : xs.toList = M.map (rwS P w)
  nd : (M.map (·.1)).Nodup
  few : xs.size < scanBound
  fit : tb.fits xs.size = true
  ris : Ris tb.place.toList
  led : w.params.followText "set-order" = true ∨ tb.led = true
variable {A : Around} {E : Value → Shared → Prop} {s : Shared} {c : Addr} {M : List (κ × Tok)} {xs : Array (Int × Value)} {n : Nat} {tb : SetTable}
theorem SetS.keep {h g : Heap} (T : SetS P w h c M xs n tb) (e : ∀ o, h.get? c = some o → g.get? c = some o) : SetS P w g c M xs n tb := by
  obtain ⟨o, a1, a2⟩ := T.obj
  exact ⟨⟨o, e o a1, a2⟩, T.row, T.nd, T.few, T.fit, T.ris, T.led⟩
structure HadS (ks : List (κ × Tok)) (i : Nat) (M : List (κ × Tok)) : Prop where
  sub : ∀ p ∈ M, p ∈ ks.take i
  all : ∀ p ∈ ks.take i, p.1 ∈ M.map (·.1)
theorem HadS.zero (ks : List (κ × Tok)) : HadS ks 0 [] := ⟨fun _ z => (by cases z), fun _ z => (by simp at z)⟩
theorem HadS.old {ks M : List (κ × Tok)} {i : Nat} {x : κ × Tok} (g : HadS ks i M) (e : ks[i]? = some x) (hm : x.1 ∈ M.map (·.1)) : HadS ks (i + 1) M := by
  constructor
  · intro p hp
    rw [take_one e]
    exact List.mem_append.mpr (.inl (g.sub p hp))
  · intro p hp
    rw [take_one e] at hp
    rcases List.mem_append.mp hp with z | z
    · exact g.all p z
    · cases List.mem_singleton.mp z
      exact hm
theorem HadS.new {ks M N : List (κ × Tok)} {i : Nat} {x : κ × Tok} (g : HadS ks i M) (e : ks[i]? = some x) (pm : N.Perm (x :: M)) : HadS ks (i + 1) N := by
  constructor
  · intro p hp
    rw [take_one e]
    rcases List.mem_cons.mp (pm.mem_iff.mp hp) with z | z
    · exact List.mem_append.mpr (.inr (List.mem_singleton.mpr z))
    · exact List.mem_append.mpr (.inl (g.sub p z))
  · intro p hp
    rw [(pm.map (·.1)).mem_iff, List.map_cons]
    rw [take_one e] at hp
    rcases List.mem_append.mp hp with z | z
    · exact List.mem_cons.mpr (.inr (g.all p z))
    · cases List.mem_singleton.mp z
      exact List.mem_cons_self
theorem HadS.len {ks M : List (κ × Tok)} {i : Nat} (g : HadS ks i M) (nd : (M.map (·.1)).Nodup) : M.length ≤ ks.length := by
  have := nodup_le (M.map (·.1)) (ks.map (·.1)) nd fun k hk => by
    obtain ⟨p, hp, rfl⟩ := List.mem_map.mp hk
    exact List.mem_map.mpr ⟨p, List.mem_of_mem_take (g.sub p hp), rfl⟩
  rw [List.length_map, List.length_map] at this
  exact this
end
/-- texts, numbers as values -/
class Sv (α : Type) [DecidableEq α] [Py α] extends Sk α where
  un : ∀ {K : PySem.W.Frag} {R : Hp} {v : V} {u : Value} {a : α}, RelV v u → rep K R v a → ∃ t, u = val a t
instance instSvStr : Sv Str := ⟨fun {K R v u a} r h => by
  cases (show v = V.str a from h)
  obtain ⟨t, rfl⟩ := r
  exact ⟨t, rfl⟩⟩
instance instSvInt : Sv Int := ⟨fun {K R v u a} r h => by
  cases (show v = V.int a from h)
  obtain ⟨t, rfl⟩ := r
  exact ⟨t, rfl⟩⟩
section
variable {X : Cx} {R0 H0 : Hp} {Γ : List Slot} {a : Expr} {pos : Pos} {α : Type} [Py α] [DecidableEq α] [PySem.W.DatumOrd α] [Dh α] [Dso α] [Lo α] [Sv α]
def tdyS (l : List α) : Option (List α) := if l.length ≤ 4000 then some (srt (dd l)) else none
/-- len(set(xs)) -/
def lenS (l : List α) : Option Int := if l.length ≤ 4000 then some ((dd l).length : Int) else none
end
end FK

/-! lists told that the caller may change: they stand where nothing stood -/
namespace FK
open PySem PySem.Spec PyProof.Rows L2
def Nw (H : Hp) (p : Addr) : Prop := H p = none
structure Nl (N : Addr → Prop) (α : Type) where
  l : List α
instance instPyFl {N : Addr → Prop} {α : Type} [Py α] : Py (Nl N α) where
  rep := fun K R v a => ∃ p vs, v = .ref p ∧ N p ∧ R p = some (.lst vs) ∧ AllR K R vs a.l
  bor := fun K R _ v a => ∃ p vs, v = .ref p ∧ N p ∧ R p = some (.lst vs) ∧ AllR K R vs a.l
  mono := fun e ⟨p, vs, h, n, r, q⟩ => ⟨p, vs, h, n, e _ _ r, q.mono e⟩
  bmono := fun e _ ⟨p, vs, h, n, r, q⟩ => ⟨p, vs, h, n, e _ _ r, q.mono e⟩
  lend := fun _ h => h
theorem fl_list {N : Addr → Prop} {α : Type} [Py α] {K : PySem.W.Frag} {R : Hp} {v : V} {a : Nl N α} (h : rep K R v a) : rep K R v a.l := by
  obtain ⟨p, vs, e, _, r, q⟩ := h
  exact ⟨p, _, e, .inl r, vs, rfl, q⟩
theorem fl_weak {N N' : Addr → Prop} {α : Type} [Py α] {K : PySem.W.Frag} {R : Hp} {v : V} {l : List α} (w : ∀ p, N p → N' p) (h : rep K R v (⟨l⟩ : Nl N α)) : rep K R v (⟨l⟩ : Nl N' α) := by
  obtain ⟨p, vs, e, n, r, q⟩ := h
  exact ⟨p, vs, e, w p n, r, q⟩
section
variable {X : Cx} {R0 H0 : Hp} {Γ : List Slot} {e a b : Expr} {es : List Expr} {st : Stmt} {rest : List Stmt} {pos p : Pos} {γ β : Type} [Ar γ]
end
section
variable {X : Cx} {R0 H0 : Hp} {Γ : List Slot} {e a b : Expr} {es : List Expr} {st : Stmt} {rest : List Stmt} {pos p : Pos} {γ β : Type} [Ar γ]
/-! ### a def that tells new lists -/
def spXF {β : Type} {β' : (Addr → Prop) → Type} [∀ N, Py (β' N)] (K : PySem.W.Frag) (up : ∀ N, β → β' N) (m : γ → Option (Rs β)) : Sp := fun vs H Q E => ∃ R g r, Ex R H ∧ Ar.ok K R H vs g ∧ m g = some r ∧ (∀ a, r = .ok a → ∀ v R' H', Ext R H R' H' → rep K R' v (up (Nw H) a) → Q v H') ∧
  ∀ x, r = .ex x → ∀ cls d R' H', Ext R H R' H' → XOk K R' cls d x → E cls d H'
def outRF {β : Type} {β' : (Addr → Prop) → Type} [∀ N, Py (β' N)] (up : ∀ N, β → β' N) (H : Hp) : Rs β → Out
  | .ok a => .rt (up (Nw H) a)
  | .ex x => .ex x
/-- what it tells holds, as of now -/
def Wk {β : Type} {β' : (Addr → Prop) → Type} [∀ N, Py (β' N)] (up : ∀ N, β → β' N) : Prop := ∀ {K : PySem.W.Frag} {R : Hp} {v : V} {a : β} {N N' : Addr → Prop}, (∀ p, N p → N' p) → rep K R v (up N a) → rep K R v (up N' a)
def rmapF {β δ : Type} (f : β → δ) : Rs β → Rs δ
  | .ok a => .ok (f a)
  | .ex x => .ex x
/-! ### the rest of a def, over what stands now -/
/-- slots over what stands now -/
inductive Now : List Slot → List Slot → Prop
  | nil : Now [] []
  | any {s : Slot} {Γ Γ' : List Slot} : Now Γ Γ' → Now (s :: Γ) (.any :: Γ')
  | v {α : Type} [Py α] {a : α} {Γ Γ' : List Slot} : Now Γ Γ' → Now (.v a :: Γ) (.b (⟨a⟩ : Fz α) :: Γ')
  | b {α : Type} [Py α] {a : α} {Γ Γ' : List Slot} : Now Γ Γ' → Now (.b a :: Γ) (.b a :: Γ')
theorem Now.slots {K : PySem.W.Frag} {R0 H0 R H : Hp} (e0 : Ext R0 H0 R H) {Γ Γ' : List Slot} (n : Now Γ Γ') : ∀ {σ : L2.St} {os : List Addr}, SlotsOk K R0 H0 R H Γ σ os → SlotsOk K R H R H Γ' σ [] := by
  induction n with
  | nil =>
    intro σ os h
    cases σ with
    | nil => exact rfl
    | cons _ _ => exact h.elim
  | any n ih =>
    intro σ os h
    cases σ with
    | nil => exact h.elim
    | cons x σ =>
      obtain ⟨o1, o2, e, h1, h2⟩ := h
      exact ⟨[], [], rfl, rfl, ih h2⟩
  | v n ih =>
    intro σ os h
    cases σ with
    | nil => exact h.elim
    | cons x σ =>
      obtain ⟨o1, o2, e, ⟨_, v, hx, hv⟩, h2⟩ := h
      exact ⟨[], [], rfl, ⟨rfl, v, hx, hv⟩, ih h2⟩
  | b n ih =>
    intro σ os h
    cases σ with
    | nil => exact h.elim
    | cons x σ =>
      obtain ⟨o1, o2, e, ⟨_, v, hx, hv⟩, h2⟩ := h
      exact ⟨[], [], rfl, ⟨rfl, v, hx, Py.bmono e0.r e0.h hv⟩, ih h2⟩
theorem Now.sat {K : PySem.W.Frag} {R0 H0 R H : Hp} {Γ Γ' : List Slot} {σ : L2.St} (n : Now Γ Γ') (S : Sat K R0 H0 Γ σ R H) : Sat K R H Γ' σ R H := by
  obtain ⟨⟨os, s, nd, fr⟩, e0⟩ := S
  exact ⟨⟨[], n.slots e0 s, List.nodup_nil, fun p hp => (List.not_mem_nil hp).elim⟩, .refl e0.i⟩
inductive IsRt : Out → Prop
  | mk {α : Type} [Py α] (a : α) : IsRt (.rt a)
/-! ### one of them is changed -/
class Scl (α : Type) [Py α] : Prop where
  sc : ∀ {K : PySem.W.Frag} {R R' : Hp} {v : V} {a : α}, rep K R v a → rep K R' v a
instance : Scl Int := ⟨fun h => h⟩
instance : Scl Str := ⟨fun h => h⟩
instance : Scl Bool := ⟨fun h => h⟩
theorem AllR.scl {α : Type} [Py α] [Scl α] {K : PySem.W.Frag} {R R' : Hp} : ∀ {vs : List V} {as : List α}, AllR K R vs as → AllR K R' vs as
  | _, _, .nil => .nil
  | _, _, .cons h t => .cons (Scl.sc h) t.scl
/-- what stays when a new list is changed -/
inductive Lv : List Slot → List Slot → Prop
  | nil : Lv [] []
  | any {s : Slot} {Γ Γ' : List Slot} : Lv Γ Γ' → Lv (s :: Γ) (.any :: Γ')
  | b {α : Type} [Py α] {a : α} {Γ Γ' : List Slot} : Lv Γ Γ' → Lv (.b a :: Γ) (.b a :: Γ')
  | v {α : Type} [Py α] [Scl α] {a : α} {Γ Γ' : List Slot} : Lv Γ Γ' → Lv (.v a :: Γ) (.v a :: Γ')
  | o {α : Type} [Py α] [Scl α] {a : List α} {Γ Γ' : List Slot} : Lv Γ Γ' → Lv (.own a :: Γ) (.own a :: Γ')
def cut1 (R : Hp) (p : Addr) : Hp := fun a => if a = p then none else R a
theorem Lv.slots {K : PySem.W.Frag} {R0 H0 R H : Hp} {p : Addr} {u : HO} {Γ Γ' : List Slot} (n : Lv Γ Γ') : ∀ {σ : L2.St} {os : List Addr}, SlotsOk K R0 H0 R H Γ σ os → (∀ a ∈ os, a ≠ p) → ∃ os', os'.Sublist os ∧ SlotsOk K R0 H0 (cut1 R p) (upd H p u) Γ' σ os' := by
  induction n with
  | nil =>
    intro σ os h hp
    cases σ with
    | nil => exact ⟨os, .refl _, h⟩
    | cons _ _ => exact h.elim
  | any n ih =>
    intro σ os h hp
    cases σ with
    | nil => exact h.elim
    | cons x σ =>
      obtain ⟨o1, o2, e, h1, h2⟩ := h
      subst e
      obtain ⟨os', sl, k⟩ := ih h2 fun a ha => hp a (List.mem_append_right _ ha)
      exact ⟨os', sl.trans (List.sublist_append_right _ _), [], os', rfl, rfl, k⟩
  | b n ih =>
    intro σ os h hp
    cases σ with
    | nil => exact h.elim
    | cons x σ =>
      obtain ⟨o1, o2, e, h1, h2⟩ := h
      subst e
      obtain ⟨os', sl, k⟩ := ih h2 fun a ha => hp a (List.mem_append_right _ ha)
      exact ⟨os', sl.trans (List.sublist_append_right _ _), [], os', rfl, ⟨rfl, h1.2⟩, k⟩
  | v n ih =>
    intro σ os h hp
    cases σ with
    | nil => exact h.elim
    | cons x σ =>
      obtain ⟨o1, o2, e, ⟨_, v, hx, hv⟩, h2⟩ := h
      subst e
      obtain ⟨os', sl, k⟩ := ih h2 fun a ha => hp a (List.mem_append_right _ ha)
      exact ⟨os', sl.trans (List.sublist_append_right _ _), [], os', rfl, ⟨rfl, v, hx, Scl.sc hv⟩, k⟩
  | o n ih =>
    intro σ os h hp
    cases σ with
    | nil => exact h.elim
    | cons x σ =>
      obtain ⟨o1, o2, e, ⟨p1, o, e1, hx, hh, ⟨vs, eo, hv⟩⟩, h2⟩ := h
      subst e
      obtain ⟨os', sl, k⟩ := ih h2 fun a ha => hp a (List.mem_append_right _ ha)
      refine ⟨o1 ++ os', (List.Sublist.refl _).append sl, o1, os', rfl, ⟨p1, o, e1, hx, ?_, vs, eo, hv.scl⟩, k⟩
      rw [upd_ne (hp p1 (List.mem_append_left _ (by rw [e1]; exact List.mem_singleton.mpr rfl)))]
      exact hh
theorem Lv.sat {K : PySem.W.Frag} {R0 H0 R H : Hp} {Γ Γ' : List Slot} {σ : L2.St} {p : Addr} {o u : HO} (n : Lv Γ Γ') (S : Sat K R0 H0 Γ σ R H) (i0 : Ex R0 H0) (hn : H0 p = none) (hp : R p = some o) : Sat K R0 H0 Γ' σ (cut1 R p) (upd H p u) := by
  obtain ⟨⟨os, s, nd, fr⟩, e0⟩ := S
  obtain ⟨os', sl, k⟩ := n.slots (p := p) (u := u) s fun a ha c => by
    rw [← c, (fr a ha).1] at hp
    cases hp
  refine ⟨⟨os', k, nd.sublist sl, fun a ha => ?_⟩, ⟨fun a v ha => ?_, fun a v ha => ?_, fun a v ha => ?_, fun a v t ha hr => ?_⟩⟩
  · obtain ⟨f1, f2⟩ := fr a (sl.mem ha)
    refine ⟨?_, f2⟩
    unfold cut1
    split
    · rfl
    · exact f1
  · have c : a ≠ p := fun c => by
      subst c
      rw [i0 a v ha] at hn
      cases hn
    unfold cut1
    rw [if_neg c]
    exact e0.r a v ha
  · have c : a ≠ p := fun c => by rw [c, hn] at ha; cases ha
    rw [upd_ne c]
    exact e0.h a v ha
  · unfold cut1 at ha
    split at ha
    · cases ha
    · rename_i c
      rw [upd_ne c]
      exact e0.i a v ha
  · unfold cut1
    split
    · rfl
    · exact e0.n a v t ha hr
abbrev upIL : ∀ N : Addr → Prop, Int × List Int → Int × Nl N Int := fun _ a => (a.1, ⟨a.2⟩)
end
end FK

/-! lists of tuples of unlike lengths, read as lists of rows of numbers -/
namespace FK
open PySem PySem.Spec PyProof.Rows L2
def tlOf2 {α : Type} (x : α × α) : Tl α := ⟨[x.1, x.2]⟩
def tlOf3 {α : Type} (x : T3 α α α) : Tl α := ⟨[x.a, x.b, x.c]⟩
theorem AllR.conv {α β : Type} [Py α] [Py β] {K : PySem.W.Frag} {R : Hp} {f : α → β} (hf : ∀ v a, rep K R v a → rep K R v (f a)) : ∀ {vs : List V} {as : List α}, AllR K R vs as → AllR K R vs (as.map f)
  | _, _, .nil => .nil
  | _, _, .cons h t => .cons (hf _ _ h) (AllR.conv hf t)
section
variable {X : Cx} {R0 H0 : Hp} {Γ : List Slot} {e a b : Expr} {es : List Expr} {st : Stmt} {rest : List Stmt} {pos p : Pos}
end
end FK

/-! new lists are emptied: what follows may count only on what stood at the start -/
namespace FK
open PySem PySem.Spec PyProof.Rows L2
/-- statements that change new lists: what follows is asked over the base alone -/
structure JSA (X : Cx) (R0 H0 : Hp) (Γ : List Slot) (st : List Stmt) {β : Type} (m : Option β) (out : β → Out) : Prop where
  run : ∀ σ R H, Sat X.K R0 H0 Γ σ R H → ∀ b, m = some b → ∀ D : Ends, Req X R0 H0 R0 D (out b) → sSem X st D σ H
/-- a list at a new place, whatever stands in it -/
structure Lx (N : Addr → Prop) where
instance instPyLx {N : Addr → Prop} : Py (Lx N) where
  rep := fun K R v _ => ∃ p vs, v = .ref p ∧ N p ∧ R p = some (.lst vs)
  bor := fun K R _ v _ => ∃ p vs, v = .ref p ∧ N p ∧ R p = some (.lst vs)
  mono := fun e ⟨p, vs, h, n, r⟩ => ⟨p, vs, h, n, e _ _ r⟩
  bmono := fun e _ ⟨p, vs, h, n, r⟩ => ⟨p, vs, h, n, e _ _ r⟩
  lend := fun _ h => h
/-- what still holds when a list is emptied -/
class Clr (α : Type) [Py α] : Prop where
  cl : ∀ {K : PySem.W.Frag} {R : Hp} {v : V} {a : α} {p : Addr} {ws : List V}, R p = some (.lst ws) → rep K R v a → rep K (upd R p (.lst [])) v a
instance {α : Type} [Py α] [Scl α] : Clr α := ⟨fun _ h => Scl.sc h⟩
theorem tup_upd {R : Hp} {p q : Addr} {ws vs us : List V} (h : R p = some (.lst ws)) (g : R q = some (.tup vs)) : upd R p (.lst us) q = some (.tup vs) := by
  have c : q ≠ p := fun c => by
    rw [c, h] at g
    cases g
  rw [upd_ne c]
  exact g
instance {α β : Type} [Py α] [Py β] [Clr α] [Clr β] : Clr (α × β) := ⟨fun hp ⟨p, vs, e, r, x, y, e2, h1, h2⟩ => ⟨p, vs, e, tup_upd hp r, x, y, e2, Clr.cl hp h1, Clr.cl hp h2⟩⟩
instance {α β γ : Type} [Py α] [Py β] [Py γ] [Clr α] [Clr β] [Clr γ] : Clr (T3 α β γ) := ⟨fun hp ⟨p, vs, e, r, x, y, z, e2, h1, h2, h3⟩ => ⟨p, vs, e, tup_upd hp r, x, y, z, e2, Clr.cl hp h1, Clr.cl hp h2, Clr.cl hp h3⟩⟩
instance {N : Addr → Prop} : Clr (Lx N) := ⟨fun {K R v a p ws} hp ⟨q, vs, e, n, r⟩ => by
  by_cases c : q = p
  · exact ⟨q, [], e, n, by rw [c, upd_same]⟩
  · exact ⟨q, vs, e, n, by rw [upd_ne c]; exact r⟩⟩
theorem AllR.clr {α : Type} [Py α] [Clr α] {K : PySem.W.Frag} {R : Hp} {p : Addr} {ws : List V} (hp : R p = some (.lst ws)) : ∀ {vs : List V} {as : List α}, AllR K R vs as → AllR K (upd R p (.lst [])) vs as
  | _, _, .nil => .nil
  | _, _, .cons h t => .cons (Clr.cl hp h) (t.clr hp)
/-- the slots that stay -/
inductive Lc : List Slot → List Slot → Prop
  | nil : Lc [] []
  | any {s : Slot} {Γ Γ' : List Slot} : Lc Γ Γ' → Lc (s :: Γ) (.any :: Γ')
  | b {α : Type} [Py α] {a : α} {Γ Γ' : List Slot} : Lc Γ Γ' → Lc (.b a :: Γ) (.b a :: Γ')
  | v {α : Type} [Py α] [Clr α] {a : α} {Γ Γ' : List Slot} : Lc Γ Γ' → Lc (.v a :: Γ) (.v a :: Γ')
  | o {α : Type} [Py α] [Clr α] {a : List α} {Γ Γ' : List Slot} : Lc Γ Γ' → Lc (.own a :: Γ) (.own a :: Γ')
theorem Lc.slots {K : PySem.W.Frag} {R0 H0 R H : Hp} {p : Addr} {ws : List V} (hp : R p = some (.lst ws)) {Γ Γ' : List Slot} (n : Lc Γ Γ') : ∀ {σ : L2.St} {os : List Addr}, SlotsOk K R0 H0 R H Γ σ os → (∀ a ∈ os, a ≠ p) → ∃ os', os'.Sublist os ∧ SlotsOk K R0 H0 (upd R p (.lst [])) (upd H p (.lst [])) Γ' σ os' := by
  induction n with
  | nil =>
    intro σ os h hn
    cases σ with
    | nil => exact ⟨os, .refl _, h⟩
    | cons _ _ => exact h.elim
  | any n ih =>
    intro σ os h hn
    cases σ with
    | nil => exact h.elim
    | cons x σ =>
      obtain ⟨o1, o2, e, h1, h2⟩ := h
      subst e
      obtain ⟨os', sl, k⟩ := ih h2 fun a ha => hn a (List.mem_append_right _ ha)
      exact ⟨os', sl.trans (List.sublist_append_right _ _), [], os', rfl, rfl, k⟩
  | b n ih =>
    intro σ os h hn
    cases σ with
    | nil => exact h.elim
    | cons x σ =>
      obtain ⟨o1, o2, e, h1, h2⟩ := h
      subst e
      obtain ⟨os', sl, k⟩ := ih h2 fun a ha => hn a (List.mem_append_right _ ha)
      exact ⟨os', sl.trans (List.sublist_append_right _ _), [], os', rfl, ⟨rfl, h1.2⟩, k⟩
  | v n ih =>
    intro σ os h hn
    cases σ with
    | nil => exact h.elim
    | cons x σ =>
      obtain ⟨o1, o2, e, ⟨_, v, hx, hv⟩, h2⟩ := h
      subst e
      obtain ⟨os', sl, k⟩ := ih h2 fun a ha => hn a (List.mem_append_right _ ha)
      exact ⟨os', sl.trans (List.sublist_append_right _ _), [], os', rfl, ⟨rfl, v, hx, Clr.cl hp hv⟩, k⟩
  | o n ih =>
    intro σ os h hn
    cases σ with
    | nil => exact h.elim
    | cons x σ =>
      obtain ⟨o1, o2, e, ⟨p1, o, e1, hx, hh, ⟨vs, eo, hv⟩⟩, h2⟩ := h
      subst e
      obtain ⟨os', sl, k⟩ := ih h2 fun a ha => hn a (List.mem_append_right _ ha)
      refine ⟨o1 ++ os', (List.Sublist.refl _).append sl, o1, os', rfl, ⟨p1, o, e1, hx, ?_, vs, eo, hv.clr hp⟩, k⟩
      rw [upd_ne (hn p1 (List.mem_append_left _ (by rw [e1]; exact List.mem_singleton.mpr rfl)))]
      exact hh
theorem Lc.sat {K : PySem.W.Frag} {R0 H0 R H : Hp} {Γ Γ' : List Slot} {σ : L2.St} {p : Addr} {ws : List V} (n : Lc Γ Γ') (S : Sat K R0 H0 Γ σ R H) (i0 : Ex R0 H0) (hn : H0 p = none) (hp : R p = some (.lst ws)) : Sat K R0 H0 Γ' σ (upd R p (.lst [])) (upd H p (.lst [])) := by
  obtain ⟨⟨os, s, nd, fr⟩, e0⟩ := S
  have hne : ∀ a ∈ os, a ≠ p := fun a ha c => by
    rw [← c, (fr a ha).1] at hp
    cases hp
  obtain ⟨os', sl, k⟩ := n.slots hp s hne
  have r0 : R0 p = none := by
    cases z : R0 p with
    | none => rfl
    | some o => rw [i0 p o z] at hn; cases hn
  refine ⟨⟨os', k, nd.sublist sl, fun a ha => ?_⟩, ⟨fun a v ha => ?_, fun a v ha => ?_, fun a v ha => ?_, fun a v t ha hr => ?_⟩⟩
  · obtain ⟨f1, f2⟩ := fr a (sl.mem ha)
    refine ⟨?_, f2⟩
    rw [upd_ne (hne a (sl.mem ha))]
    exact f1
  · have c : a ≠ p := fun c => by rw [c, r0] at ha; cases ha
    rw [upd_ne c]
    exact e0.r a v ha
  · have c : a ≠ p := fun c => by rw [c, hn] at ha; cases ha
    rw [upd_ne c]
    exact e0.h a v ha
  · by_cases c : a = p
    · rw [c, upd_same] at ha ⊢
      exact ha
    · rw [upd_ne c] at ha ⊢
      exact e0.i a v ha
  · have c : a ≠ p := fun c => by rw [c, hn] at ha; cases ha
    rw [upd_ne c]
    exact e0.n a v t ha hr
section
variable {X : Cx} {R0 H0 : Hp} {Γ : List Slot} {e a b : Expr} {es : List Expr} {st : Stmt} {rest : List Stmt} {pos p apos : Pos} {β : Type} {out : β → Out}
end
end FK

/-! a loop that empties new lists -/
namespace FK
open PySem PySem.Spec PyProof.Rows L2
structure J1A (X : Cx) (R0 H0 : Hp) (Γ : List Slot) (st : Stmt) {β : Type} (m : Option β) (out : β → Out) : Prop where
  run : ∀ σ R H, Sat X.K R0 H0 Γ σ R H → ∀ b, m = some b → ∀ D : Ends, Req X R0 H0 R0 D (out b) → s1Sem X st D σ H
/-- what is walked is no list -/
structure JIz (X : Cx) (R0 H0 : Hp) (Γ : List Slot) (tg iter : Expr) {α : Type} [Py α] (m : Option (List α)) : Prop where
  run : ∀ σ R H, Sat X.K R0 H0 Γ σ R H → ∀ xs, m = some xs → ∀ Q : It → Hp → Prop, (∀ J R' H', Ext R H R' H' → (∀ Rx, ItOk X.K H0 J xs Rx) → Q J H') → iSem X tg iter σ H Q
/-- the slots over the base, as before -/
inductive Bck : List Slot → List Slot → Prop
  | nil : Bck [] []
  | any {s : Slot} {Γ Γ' : List Slot} : Bck Γ Γ' → Bck (s :: Γ) (.any :: Γ')
  | v {α : Type} [Py α] {a : α} {Γ Γ' : List Slot} : Bck Γ Γ' → Bck (.b (⟨a⟩ : Fz α) :: Γ) (.v a :: Γ')
theorem Bck.slots {K : PySem.W.Frag} {R0 H0 Rb Hb R H : Hp} (er : Ex Rb R) {Γ Γ' : List Slot} (n : Bck Γ Γ') : ∀ {σ : L2.St} {os : List Addr}, SlotsOk K Rb Hb R H Γ σ os → SlotsOk K R0 H0 R H Γ' σ [] := by
  induction n with
  | nil =>
    intro σ os h
    cases σ with
    | nil => exact rfl
    | cons _ _ => exact h.elim
  | any n ih =>
    intro σ os h
    cases σ with
    | nil => exact h.elim
    | cons x σ =>
      obtain ⟨o1, o2, e, h1, h2⟩ := h
      exact ⟨[], [], rfl, rfl, ih h2⟩
  | v n ih =>
    rename_i α _ a Γ Γ'
    intro σ os h
    cases σ with
    | nil => exact h.elim
    | cons x σ =>
      obtain ⟨o1, o2, e, ⟨_, v, hx, hv⟩, h2⟩ := h
      exact ⟨[], [], rfl, ⟨rfl, v, hx, Py.mono (α := α) er hv⟩, ih h2⟩
theorem Bck.sat {K : PySem.W.Frag} {R0 H0 Rb Hb R H : Hp} {Γ Γ' : List Slot} {σ : L2.St} (n : Bck Γ Γ') (e : Ext R0 H0 Rb Hb) (S : Sat K Rb Hb Γ σ R H) : Sat K R0 H0 Γ' σ R H := by
  obtain ⟨⟨os, s, nd, fr⟩, e0⟩ := S
  exact ⟨⟨[], n.slots e0.r s, List.nodup_nil, fun p hp => (List.not_mem_nil hp).elim⟩, e.trans e0⟩
section
variable {X : Cx} {R0 H0 : Hp} {Γ : List Slot} {e a b tg : Expr} {es : List Expr} {st : Stmt} {rest : List Stmt} {pos p apos : Pos} {β : Type} {out : β → Out}
end
end FK

/-! what is told with new lists in it: the same values, another reading -/
namespace FK
open PySem PySem.Spec PyProof.Rows L2
/-- values whose lists may be told to stand at new places -/
class NewT (β : Type) [Py β] where
  rp : (Addr → Prop) → PySem.W.Frag → Hp → V → β → Prop
  mono : ∀ {N : Addr → Prop} {K : PySem.W.Frag} {R R' : Hp} {v : V} {a : β}, Ex R R' → rp N K R v a → rp N K R' v a
  wk : ∀ {N N' : Addr → Prop} {K : PySem.W.Frag} {R : Hp} {v : V} {a : β}, (∀ p, N p → N' p) → rp N K R v a → rp N' K R v a
  dn : ∀ {N : Addr → Prop} {K : PySem.W.Frag} {R : Hp} {v : V} {a : β}, rp N K R v a → rep K R v a
def Nu (N : Addr → Prop) (β : Type) : Type := β
instance instPyNu {N : Addr → Prop} {β : Type} [Py β] [NewT β] : Py (Nu N β) where
  rep := fun K R v a => NewT.rp (β := β) N K R v a
  bor := fun K R _ v a => NewT.rp (β := β) N K R v a
  mono := fun e h => NewT.mono (β := β) e h
  bmono := fun e _ h => NewT.mono (β := β) e h
  lend := fun _ h => h
instance instNewL {α : Type} [Py α] : NewT (List α) where
  rp := fun N K R v a => rep K R v (⟨a⟩ : Nl N α)
  mono := fun e h => Py.mono e h
  wk := fun w h => fl_weak w h
  dn := fun h => fl_list h
instance instNew3 {α β : Type} [Py α] [Py β] : NewT (T3 Int (List α) (List β)) where
  rp := fun N K R v a => rep K R v (⟨a.a, ⟨a.b⟩, ⟨a.c⟩⟩ : T3 Int (Nl N α) (Nl N β))
  mono := fun e h => Py.mono e h
  wk := fun w ⟨p, vs, e, q, x, y, z, e2, r1, r2, r3⟩ => ⟨p, vs, e, q, x, y, z, e2, r1, fl_weak w r2, fl_weak w r3⟩
  dn := fun ⟨p, vs, e, q, x, y, z, e2, r1, r2, r3⟩ => ⟨p, vs, e, q, x, y, z, e2, r1, fl_list r2, fl_list r3⟩
instance instNnNu3 {N : Addr → Prop} {α β : Type} [Py α] [Py β] : Nn (Nu N (T3 Int (List α) (List β))) := ⟨fun {K R v a} h e => by obtain ⟨p, o, h, _⟩ := h; rw [e] at h; cases h⟩
instance instNnNuL {N : Addr → Prop} {α : Type} [Py α] : Nn (Nu N (List α)) := ⟨fun {K R v a} h e => by obtain ⟨p, o, h, _⟩ := h; rw [e] at h; cases h⟩
instance {α : Type} [Py α] [Clr α] : Clr (Option α) := ⟨fun {K R v a p ws} hp h => by
  cases a with
  | none => exact h
  | some a => exact ⟨Clr.cl hp h.1, h.2⟩⟩
abbrev upNu (β : Type) : ∀ N : Addr → Prop, β → Nu N β := fun _ a => a
/-- emptied or not -/
abbrev lx3 (N : Addr → Prop) {α β : Type} (o : Option (T3 Int (List α) (List β))) : Option (T3 Int (Lx N) (Lx N)) := o.map fun a => ⟨a.a, ⟨⟩, ⟨⟩⟩
section
variable {X : Cx} {R0 H0 : Hp} {Γ : List Slot} {e a b tg : Expr} {es : List Expr} {st : Stmt} {rest : List Stmt} {pos p apos : Pos} {β γ : Type} [Ar γ] {out : β → Out}
end
end FK

/-! new lists of new lists, emptied one by one; the first of a pair that may be refused -/
namespace FK
open PySem PySem.Spec PyProof.Rows L2
section
variable {X : Cx} {R0 H0 : Hp} {Γ : List Slot} {e a b tst : Expr} {es : List Expr} {st : Stmt} {rest A : List Stmt} {pos p apos : Pos} {β : Type} {out : β → Out}
def ruU {α : Type} : Rs α → Rs Unit
  | .ok _ => .ok ()
  | .ex x => .ex x
/-- the first k emptied -/
def clrN {α : Type} (k : Nat) (xs : List (List α)) : List (List α) := (xs.take k).map (fun _ => []) ++ xs.drop k
end
end FK

/-! new lists of triples with new lists in them -/
namespace FK
open PySem PySem.Spec PyProof.Rows L2
section
variable {K : PySem.W.Frag} {R H R' H' : Hp} {α β γ : Type} [Py α] [Py β] [Py γ]
inductive KidT (K : PySem.W.Frag) (R H : Hp) : List V → List Addr → List (T3 α β (List γ)) → Prop
  | nil : KidT K R H [] [] []
  | cons {t c : Addr} {v w : V} {x : α} {y : β} {vs : List V} {l : List γ} {ts : List V} {cs : List Addr} {ls : List (T3 α β (List γ))} : R t = some (.tup [v, w, .ref c]) → rep K R v x → rep K R w y → H c = some (.lst vs) → AllR K R vs l → KidT K R H ts cs ls → KidT K R H (.ref t :: ts) (c :: cs) (⟨x, y, l⟩ :: ls)
theorem KidT.mono (e : Ex R R') : ∀ {ts : List V} {cs : List Addr} {ls : List (T3 α β (List γ))}, (∀ c ∈ cs, ∀ u, H c = some u → H' c = some u) → KidT K R H ts cs ls → KidT K R' H' ts cs ls
  | _, _, _, _, .nil => .nil
  | _, _, _, f, .cons h1 h2 h3 h4 h5 t => .cons (e _ _ h1) (Py.mono e h2) (Py.mono e h3) (f _ List.mem_cons_self _ h4) (h5.mono e) (t.mono e fun c hc => f c (List.mem_cons_of_mem _ hc))
theorem KidT.len : ∀ {ts : List V} {cs : List Addr} {ls : List (T3 α β (List γ))}, KidT K R H ts cs ls → ts.length = ls.length ∧ cs.length = ls.length
  | _, _, _, .nil => ⟨rfl, rfl⟩
  | _, _, _, .cons _ _ _ _ _ t => ⟨congrArg (· + 1) t.len.1, congrArg (· + 1) t.len.2⟩
theorem KidT.there : ∀ {ts : List V} {cs : List Addr} {ls : List (T3 α β (List γ))}, KidT K R H ts cs ls → ∀ c ∈ cs, ∃ u, H c = some u ∧ isT u = false
  | _, _, _, .nil, c, h => by cases h
  | _, _, _, .cons _ _ _ h4 _ t, c, h => by
    rcases List.mem_cons.mp h with e | z
    · exact ⟨_, by rw [e]; exact h4, rfl⟩
    · exact t.there c z
theorem KidT.get : ∀ {ts : List V} {cs : List Addr} {ls : List (T3 α β (List γ))} {j : Nat} {l : T3 α β (List γ)}, KidT K R H ts cs ls → ls[j]? = some l → ∃ t c v w vs, ts[j]? = some (.ref t) ∧ cs[j]? = some c ∧ R t = some (.tup [v, w, .ref c]) ∧ H c = some (.lst vs)
  | _, _, _, j, l, .nil, e => by simp at e
  | _, _, _, 0, l, .cons h1 h2 h3 h4 h5 _, e => ⟨_, _, _, _, _, rfl, rfl, h1, h4⟩
  | _, _, _, j + 1, l, .cons _ _ _ _ _ t, e => t.get (j := j) e
/-- one of them emptied -/
theorem KidT.set : ∀ {ts : List V} {cs : List Addr} {ls : List (T3 α β (List γ))} {j : Nat} {c : Addr} {r : T3 α β (List γ)}, KidT K R H ts cs ls → cs.Nodup → cs[j]? = some c → ls[j]? = some r → Ex R R' → (∀ z ∈ cs, z ≠ c → ∀ u, H z = some u → H' z = some u) → H' c = some (.lst []) → KidT K R' H' ts cs (ls.set j ⟨r.a, r.b, []⟩)
  | _, _, _, j, c, r, .nil, _, e, _, _, _, _ => by simp at e
  | _, _, _, 0, c, r, .cons h1 h2 h3 h4 h5 t, nd, e, e2, x, f, h => by
    cases Option.some.inj e
    cases Option.some.inj e2
    obtain ⟨n1, n2⟩ := List.nodup_cons.mp nd
    exact .cons (x _ _ h1) (Py.mono x h2) (Py.mono x h3) h .nil (t.mono x fun z hz => f z (List.mem_cons_of_mem _ hz) fun e => n1 (by rw [← e]; exact hz))
  | _, _, _, j + 1, c, r, .cons (c := c0) h1 h2 h3 h4 h5 t, nd, e, e2, x, f, h => by
    obtain ⟨n1, n2⟩ := List.nodup_cons.mp nd
    have ne : c0 ≠ c := fun z => n1 (by rw [z]; exact List.mem_of_getElem? e)
    exact .cons (x _ _ h1) (Py.mono x h2) (Py.mono x h3) (f _ List.mem_cons_self ne _ h4) (h5.mono x) (t.set n2 e e2 x (fun z hz => f z (List.mem_cons_of_mem _ hz)) h)
theorem KidT.app {t c : Addr} {v w : V} {x : α} {y : β} {vs : List V} {l : List γ} (h1 : R t = some (.tup [v, w, .ref c])) (h2 : rep K R v x) (h3 : rep K R w y) (h4 : H c = some (.lst vs)) (h5 : AllR K R vs l) : ∀ {ts : List V} {cs : List Addr} {ls : List (T3 α β (List γ))}, KidT K R H ts cs ls → KidT K R H (ts ++ [.ref t]) (cs ++ [c]) (ls ++ [⟨x, y, l⟩])
  | _, _, _, .nil => .cons h1 h2 h3 h4 h5 .nil
  | _, _, _, .cons g1 g2 g3 g4 g5 k => .cons g1 g2 g3 g4 g5 (KidT.app h1 h2 h3 h4 h5 k)
theorem KidT.all : ∀ {ts : List V} {cs : List Addr} {ls : List (T3 α β (List γ))}, KidT K R H ts cs ls → (∀ c ∈ cs, ∀ u, H c = some u → R' c = some u) → Ex R R' → AllR K R' ts ls
  | _, _, _, .nil, _, _ => .nil
  | _, _, _, .cons h1 h2 h3 h4 h5 t, f, e => .cons ⟨_, _, rfl, e _ _ h1, _, _, _, rfl, Py.mono e h2, Py.mono e h3, ⟨_, _, rfl, .inl (f _ List.mem_cons_self _ h4), _, rfl, h5.mono e⟩⟩ (t.all (fun c hc => f c (List.mem_cons_of_mem _ hc)) e)
instance instOdLT : Od (List (T3 α β (List γ))) where
  dh := fun K R H o ps a => ∃ ts, o = .lst ts ∧ KidT K R H ts ps a
  mono := fun {K R R' H H' o ps a} e f h => by
    obtain ⟨ts, h, k⟩ := h
    exact ⟨ts, h, k.mono e f⟩
  there := fun {K R H o ps a} h => by
    obtain ⟨_, _, k⟩ := h
    exact k.there
  nt := fun {K R H o ps a} h => by
    obtain ⟨_, h, _⟩ := h
    rw [h]
    rfl
end
section
variable {X : Cx} {R0 H0 : Hp} {Γ : List Slot} {e a b e3 : Expr} {es : List Expr} {st : Stmt} {rest : List Stmt} {pos p apos : Pos} {α β γ : Type} [Py α] [Py β] [Py γ]
/-- the first k emptied -/
def clrT (k : Nat) (xs : List (T3 α β (List γ))) : List (T3 α β (List γ)) := (xs.take k).map (fun r => ⟨r.a, r.b, []⟩) ++ xs.drop k
omit [Py α] [Py β] [Py γ] in
theorem clrT_all (xs : List (T3 α β (List γ))) : clrT xs.length xs = xs.map fun r => ⟨r.a, r.b, []⟩ := by
  unfold clrT
  rw [List.take_length, List.drop_length, List.append_nil]
omit [Py α] [Py β] [Py γ] in
theorem clrT_len (k : Nat) (xs : List (T3 α β (List γ))) : (clrT k xs).length = xs.length := by
  unfold clrT
  rw [List.length_append, List.length_map, List.length_take, List.length_drop]
  omega
omit [Py α] [Py β] [Py γ] in
theorem clrT_at {k : Nat} {xs : List (T3 α β (List γ))} (h : k < xs.length) : (clrT k xs)[k]? = some xs[k] := by
  unfold clrT
  rw [List.getElem?_append_right (by rw [List.length_map, List.length_take]; omega), List.length_map, List.length_take, List.getElem?_drop, show k + (k - min k xs.length) = k by omega, List.getElem?_eq_getElem h]
omit [Py α] [Py β] [Py γ] in
theorem clrT_set {k : Nat} {xs : List (T3 α β (List γ))} (h : k < xs.length) : (clrT k xs).set k ⟨xs[k].a, xs[k].b, []⟩ = clrT (k + 1) xs := by
  unfold clrT
  rw [List.set_append_right (h := by rw [List.length_map, List.length_take]; omega), List.length_map, List.length_take, show k - min k xs.length = 0 by omega, List.drop_eq_getElem_cons h, List.set_cons_zero, List.take_succ_eq_append_getElem h, List.map_append, List.append_assoc]
  rfl
end
end FK

/-! a try whose handler has no name -/
namespace FK
open PySem PySem.Spec PyProof.Rows L2
section
variable {X : Cx} {R0 H0 : Hp} {Γ : List Slot} {β : Type} {out : β → Out} {pos : Pos}
end
section
variable {X : Cx} {R0 H0 : Hp} {Γ : List Slot} {e lo : Expr} {pos : Pos}
end
end FK

/-! defs whose exceptions have no context; a suite that raises anew -/
namespace FK
open PySem PySem.Spec PyProof.Rows L2
def outRN {α : Type} [Py α] : Rs α → Out
  | .ok a => .rt a
  | .ex x => .exn x
section
variable {α : Type} [Py α]
end
section
variable {P : Program} {w : World} {K : PySem.W.Frag} {mg : Str → Option Value} {base : Heap} {x qual : Str} {st : Stmt} {f : Addr} {fd : FuncData} {N ps : List Str} {k : Nat} {γ β : Type} [Ar γ]
abbrev bodyN (P : Program) (w : World) (K : PySem.W.Frag) (mg : Str → Option Value) (base : Heap) (N : List Str) (qual : Str) (st : Stmt) (f : Addr) (cdv : Value) (A : Around) (outer : List Env) (s : Shared) (H : Hp) (E : XK) : Cx := cxOf (L2N.CX P w) P w K mg base N qual (defScope st) f cdv A outer s H E
end
/-! ### an exception made, without a context -/
def mkSemN (X : Cx) (e : Expr) : L2.St → Hp → XK → Prop := fun σ H Q => ∀ pins s, Inv X pins σ H s → wpAny (model X.prog X.w) X.A (eval e X.env) (L2N.MkP X pins σ Q) X.xe s
structure JMkN (X : Cx) (R0 H0 : Hp) (Γ : List Slot) (e : Expr) (m : Option Xv) : Prop where
  run : ∀ σ R H, Sat X.K R0 H0 Γ σ R H → ∀ x, m = some x → ∀ Q : XK, (∀ cls d R' H', Ext R H R' H' → XOk X.K R' cls d x → Q cls d H') → mkSemN X e σ H Q
section
variable {X : Cx} {e : Expr} {es : List Expr} {pos p : Pos}
end
/-- as XInit, where another exception is handled -/
def XHot (P : Program) (w : World) (K : PySem.W.Frag) (mg : Str → Option Value) (base : Heap) (nm f : Str) (ps : List Str) : Prop := ∃ C fI fd, XCls K mg nm C ∧ OexC K C ∧ PySem.W.findIn K (.ref C) "__init__" = some (some (.ref fI)) ∧
  PySem.W.typeIn K (.ref fI) = some (.type "function") ∧ L2H.FnH P w K mg base CX0 1 fI fd ps (spI C f) ∧ Binds K fd ps []
section
variable {X : Cx} {R0 H0 : Hp} {Γ : List Slot} {e : Expr} {rest : List Stmt} {pos p : Pos}
end
/-! ### a call whose exceptions have no context; raised anew -/
structure JXN (X : Cx) (R0 H0 : Hp) (Γ : List Slot) (e : Expr) {α : Type} [Py α] (m : Option (Rs α)) : Prop where
  run : ∀ σ R H, Sat X.K R0 H0 Γ σ R H → ∀ r, m = some r → ∀ (Q : VK) (W : WX), L2N.Takes X W → (∀ a, r = .ok a → ∀ v R' H', Ext R H R' H' → rep X.K R' v a → Q v H') →
    (∀ x, r = .ex x → ∀ cls d R' H', Ext R H R' H' → XOk X.K R' cls d x → W cls d σ H') → eSem X e σ H Q
def tryR {α : Type} (L : List Str) (mb : Option (Rs α)) (mx : Option Xv) : Option (Rs α) := mb.bind fun r => match r with
  | .ok a => some (.ok a)
  | .ex x => if x.c ∈ L then mx.bind fun y => some (.ex y) else none
section
variable {X : Cx} {R0 H0 : Hp} {Γ : List Slot} {e : Expr} {es : List Expr} {rest : List Stmt} {pos p : Pos} {γ β : Type} [Ar γ]
end
section
variable {X : Cx} {R0 H0 : Hp} {Γ : List Slot} {e : Expr} {pos : Pos}
end
end FK

/-! calls of defs whose exceptions have no context -/
namespace FK
open PySem PySem.Spec PyProof.Rows L2
def outNN {α : Type} (Γ1 : α → List Slot) : Rs α → Out
  | .ok a => .nx (Γ1 a)
  | .ex x => .exn x
section
variable {X : Cx} {R0 H0 : Hp} {Γ : List Slot} {e : Expr} {pos : Pos}
end
end FK

/-! the pairs of a dict whose keys are tuples -/
namespace FK
open PySem PySem.Spec PyProof.Rows L2
/-- each key's own tuple, and its value, in a new tuple -/
def ItiT (d : Addr) (o : Obj) (kvs : List (List L2.Key × V)) : It :=
  ⟨fun i H => H d = some (.frz o (.dT kvs)) ∧ i < kvs.length,
   fun i H x H' => ∃ (T : Addr) (k : List L2.Key) (v : V) (q : Addr), kvs[i]? = some (k, v) ∧ H q = some (.tup (k.map kV)) ∧ x = .ref T ∧ H T = none ∧ H' = upd H T (.tup [.ref q, v]),
   fun i H => H d = some (.frz o (.dT kvs)) ∧ kvs.length ≤ i⟩
section
variable {X : Cx} {pins : List (Addr × Obj)} {σ : L2.St} {H : Hp} {s : Shared} {d : Addr} {o : Obj}
end
section
variable {P : Program} {w : World} {K : PySem.W.Frag} {d : Addr} {o : Obj} {es : Array DictEntry} {ep : Nat}
end
def iPairs (td : TE) : TI := fun σ H R => td σ H fun x H1 => ∃ d o kvs, x = .ref d ∧ H1 d = some (.frz o (.dT kvs)) ∧ R (ItiT d o kvs) H1
/-! ### such a dict, only read from now on -/
structure Kz (κ α : Type) where
  l : List (κ × α)
abbrev Kz.d {κ α : Type} (x : Kz κ α) : Dct κ α := ⟨x.l⟩
section
variable {κ α : Type} [Py κ] [DecidableEq κ] [Kt κ] [Py α]
instance instPyKz : Py (Kz κ α) where
  rep := fun K R v a => ∃ p od kvs, v = .ref p ∧ R p = some (.frz od (.dT kvs)) ∧ DT K R kvs a.l
  bor := fun K R H v a => ∃ p od kvs, v = .ref p ∧ H p = some (.frz od (.dT kvs)) ∧ DT K R kvs a.l
  mono := fun e ⟨p, od, kvs, h, r, q⟩ => ⟨p, od, kvs, h, e _ _ r, q.mono e⟩
  bmono := fun e e2 ⟨p, od, kvs, h, r, q⟩ => ⟨p, od, kvs, h, e2 _ _ r, q.mono e⟩
  lend := fun e ⟨p, od, kvs, h, r, q⟩ => ⟨p, od, kvs, h, e _ _ r, q⟩
variable {X : Cx} {R0 H0 : Hp} {Γ : List Slot} {e tg : Expr} {st : List Stmt} {pos : Pos} {β : Type} {m : Option β} {out : β → Out}
theorem Sat.kz {K : PySem.W.Frag} {R0 H0 R H : Hp} {Γ : List Slot} {σ : L2.St} {i : Nat} {d : Dct κ α} (S : Sat K R0 H0 Γ σ R H) (hi : Γ[i]? = some (.own d)) : ∃ p kvs, H p = some (.dT kvs) ∧ ∀ od, Ex R (upd R p (.frz od (.dT kvs))) ∧ Sat K R0 H0 (Γ.set i (.v (⟨d.l⟩ : Kz κ α))) σ (upd R p (.frz od (.dT kvs))) (upd H p (.frz od (.dT kvs))) := by
  obtain ⟨⟨os, s, nd, fr⟩, e0⟩ := S
  obtain ⟨x, o1, oa, ob, h1, h2, ⟨p, o, e1, hx, hp, kvs, ho, hr⟩, h4⟩ := s.at hi
  subst hx e1 h2 ho
  have hm : p ∈ oa ++ ([p] ++ ob) := List.mem_append_right _ (List.mem_append_left _ (List.mem_singleton.mpr rfl))
  obtain ⟨f1, f2⟩ := fr p hm
  refine ⟨p, kvs, hp, fun od => ?_⟩
  have er : Ex R (upd R p (.frz od (.dT kvs))) := .new f1
  have hne : ∀ z ∈ oa ++ ob, z ≠ p := fun z hz hzp => by
    subst hzp
    have hc := List.nodup_append.mp nd
    rcases List.mem_append.mp hz with hz | hz
    · exact hc.2.2 z hz z (List.mem_append_left _ (List.mem_singleton.mpr rfl)) rfl
    · exact (List.nodup_append.mp hc.2.1).2.2 z (List.mem_singleton.mpr rfl) z hz rfl
  have sub : (oa ++ ([] ++ ob)).Sublist (oa ++ ([p] ++ ob)) := List.Sublist.append (List.Sublist.refl _) (List.Sublist.append (List.nil_sublist _) (List.Sublist.refl _))
  refine ⟨er, ⟨oa ++ ([] ++ ob), ?_, nd.sublist sub, fun z hz => ?_⟩, ?_⟩
  · have g := h4 (upd R p (.frz od (.dT kvs))) (upd H p (.frz od (.dT kvs))) (.v (⟨d.l⟩ : Kz κ α)) (some (.ref p)) [] er (fun z hz u hu => by rw [upd_ne (hne z hz)]; exact hu) ⟨rfl, .ref p, rfl, p, od, kvs, rfl, upd_same, hr.mono er⟩
    rw [set_same h1] at g
    exact g
  · obtain ⟨g1, g2⟩ := fr z (sub.mem hz)
    exact ⟨by rw [upd_ne (hne z hz)]; exact g1, g2⟩
  · refine ⟨e0.r.trans er, e0.h.mut f2, e0.i.up, fun z u t hz hn => ?_⟩
    rw [upd_ne (ne_of_none hz f2)]
    exact e0.n z u t hz hn
theorem DT.at {K : PySem.W.Frag} {R : Hp} : ∀ {kvs : List (List L2.Key × V)} {l : List (κ × α)} {i : Nat} {a : κ × α}, DT K R kvs l → l[i]? = some a → ∃ v, kvs[i]? = some (Kt.kt a.1, v) ∧ rep K R v a.2
  | _, _, i, a, .nil, h => by simp at h
  | _, _, 0, a, .cons h t, e => by
    cases Option.some.inj e
    exact ⟨_, rfl, h⟩
  | _, _, i + 1, a, .cons h t, e => t.at (i := i) e
end
end FK

/-! x.append(y.pop(e)) -/
namespace FK
open PySem PySem.Spec PyProof.Rows L2
def popApp {α : Type} (ys xs : List α) (k : Int) : Option (List α × List α) := if ys.length < 16000000 ∧ xs.length < 16000000 then (ixN ys.length k).bind fun j => ys[j]?.bind fun y => some (ys.eraseIdx j, xs ++ [y]) else none
theorem AllR.erase {α : Type} [Py α] {K : PySem.W.Frag} {R : Hp} : ∀ {vs : List V} {as : List α} (j : Nat), AllR K R vs as → AllR K R (vs.eraseIdx j) (as.eraseIdx j)
  | _, _, _, .nil => .nil
  | _, _, 0, .cons _ t => t
  | _, _, j + 1, .cons h t => .cons h (t.erase j)
section
variable {X : Cx} {R0 H0 : Hp} {Γ : List Slot} {e : Expr} {pos : Pos}
end
end FK

/-! e is True, where e may be None -/
namespace FK
open PySem PySem.Spec PyProof.Rows L2
def obV (x : V) : Option Bool → Prop
  | none => x = .non
  | some a => x = .bl a
def rIsOb : R2 := fun x y H Q => ∃ (o : Option Bool) (b : Bool), obV x o ∧ y = .bl b ∧ Q (.bl (decide (o = some b))) H
def rNotOb : R2 := fun x y H Q => ∃ (o : Option Bool) (b : Bool), obV x o ∧ y = .bl b ∧ Q (.bl (!decide (o = some b))) H
section
variable {X : Cx}
end
section
variable {X : Cx} {R0 H0 : Hp} {Γ : List Slot} {a b : Expr} {pos : Pos} {ma : Option (Option Bool)} {mb : Option Bool} {x : Option Bool} {y : Bool}
end
end FK

/-! papers: tuples within tuples -/
namespace FK
open PySem PySem.Spec PyProof.Rows L2
inductive Pap where
  | never (r : List Int)
  | rings (rows : List (List Int × Int))
  | case (i j : Int) (h q : Pap)
def papV (K : PySem.W.Frag) (R : Hp) : Pap → V → Prop
  | .never r, v => ∃ p x, v = .ref p ∧ R p = some (.tup [.str "never", x]) ∧ rep K R x r
  | .rings rows, v => ∃ p x, v = .ref p ∧ R p = some (.tup [.str "rings", x]) ∧ rep K R x rows
  | .case i j h q, v => ∃ p x y, v = .ref p ∧ R p = some (.tup [.str "case", .int i, .int j, x, y]) ∧ papV K R h x ∧ papV K R q y
theorem papV_mono {K : PySem.W.Frag} {R R' : Hp} (e : Ex R R') : ∀ {a : Pap} {v : V}, papV K R a v → papV K R' a v
  | .never r, _, ⟨p, x, h1, h2, h3⟩ => ⟨p, x, h1, e _ _ h2, Py.mono e h3⟩
  | .rings r, _, ⟨p, x, h1, h2, h3⟩ => ⟨p, x, h1, e _ _ h2, Py.mono e h3⟩
  | .case i j h q, _, ⟨p, x, y, h1, h2, h3, h4⟩ => ⟨p, x, y, h1, e _ _ h2, papV_mono e h3, papV_mono e h4⟩
instance instPyPap : Py Pap where
  rep := fun K R v a => papV K R a v
  bor := fun K R _ v a => papV K R a v
  mono := fun e h => papV_mono e h
  bmono := fun e _ h => papV_mono e h
  lend := fun _ h => h
def Pap.tag : Pap → Str
  | .never _ => "never"
  | .rings _ => "rings"
  | .case .. => "case"
def Pap.nev : Pap → Option (List Int)
  | .never r => some r
  | _ => none
def Pap.rgs : Pap → Option (List (List Int × Int))
  | .rings r => some r
  | _ => none
def Pap.i1 : Pap → Option Int
  | .case i _ _ _ => some i
  | _ => none
def Pap.i2 : Pap → Option Int
  | .case _ j _ _ => some j
  | _ => none
def Pap.s3 : Pap → Option Pap
  | .case _ _ h _ => some h
  | _ => none
def Pap.s4 : Pap → Option Pap
  | .case _ _ _ q => some q
  | _ => none
section
variable {X : Cx} {R0 H0 : Hp} {Γ : List Slot} {a : Expr} {pos p2 : Pos} {j : Nat} {m : Option Pap} {x : Pap}
end
section
variable {X : Cx} {R0 H0 : Hp} {Γ : List Slot} {a b c d e : Expr} {pos : Pos} {kk : Nat}
end
end FK

/-! dict(d): keys that are pairs of whole numbers -/
namespace FK
open PySem PySem.Spec PyProof.Rows L2
section
variable {prog : Program} {w : World} {A : Around} {E : Value → Shared → Prop} {s : Shared} {K : Type} [DecidableEq K] {knd : HeapKind prog w K}
end
/-- a pair's hash -/
def hPi (p : Int × Int) : Int := reduceHash (Builtin.Tuple.tupleHashOf [hashInt p.1, hashInt p.2])
def dCopy {α : Type} (d : Dct (Int × Int) α) : Option (Dct (Int × Int) α) := if (d.l.map fun x => hPi x.1).Nodup then some d else none
section
variable {α : Type} [Py α] {X : Cx} {R0 H0 : Hp} {Γ : List Slot} {e : Expr} {pos p : Pos} {m : Option (Dct (Int × Int) α)}
end
/-- y.pop(e), what it answers let go -/
def popAt {α : Type} (ys : List α) (k : Int) : Option (List α) := if ys.length < 16000000 then (ixN ys.length k).bind fun j => some (ys.eraseIdx j) else none
section
variable {X : Cx} {R0 H0 : Hp} {Γ : List Slot} {e : Expr} {pos : Pos}
end
instance : Flat Pap := ⟨fun h => h⟩
end FK

/-! a deep thing at a known place: changed by calls; expressions behind which it is another -/
namespace FK
open PySem PySem.Spec PyProof.Rows L2
section
variable {K : PySem.W.Frag} {R0 H0 R H R' H' : Hp} {Γ : List Slot} {σ : L2.St} {os : List Addr}
theorem Sat.get_dat {α : Type} [Od α] {a : α} {i : Nat} {p : Addr} {ps : List Addr} (S : Sat K R0 H0 Γ σ R H) (e : Γ[i]? = some (.dat p ps a)) : ∃ o, σ[i]? = some (some (.ref p)) ∧ H p = some o ∧ Od.dh K R H o ps a ∧ (p :: ps).Nodup ∧ (∀ c ∈ p :: ps, R c = none ∧ H0 c = none) ∧
    ∀ (R' H' : Hp) (o' : HO) (b : α), Ex R R' → Ex R' H' → (∀ z u, z ∉ p :: ps → H z = some u → H' z = some u) → (∀ z u, isT u = false → H z = some u → R z = none → R' z = none) →
      H' p = some o' → Od.dh K R' H' o' ps b → Sat K R0 H0 (Γ.set i (.dat p ps b)) σ R' H' := by
  obtain ⟨⟨os, s, nd, fr⟩, e0⟩ := S
  have th := s.there
  obtain ⟨x, o1, oa, ob, h1, h2, ⟨e1, hx, o, hp, hr⟩, h4⟩ := s.at e
  subst hx e1 h2
  have sub : ∀ c ∈ p :: ps, c ∈ oa ++ ((p :: ps) ++ ob) := fun c hc => List.mem_append_right _ (List.mem_append_left _ hc)
  have nd2 : (p :: ps).Nodup := (List.nodup_append.mp (List.nodup_append.mp nd).2.1).1
  have out : ∀ z ∈ oa ++ ob, z ∉ p :: ps := fun z hz hm => by
    have a1 := List.nodup_append.mp nd
    have a2 := List.nodup_append.mp a1.2.1
    rcases List.mem_append.mp hz with y | y
    · exact a1.2.2 z y z (List.mem_append_left _ hm) rfl
    · exact a2.2.2 z hm z y rfl
  refine ⟨o, h1, hp, hr, nd2, fun c hc => fr c (sub c hc), fun R' H' o' b x i keep n hp' hd' => ?_⟩
  have g := h4 R' H' (.dat p ps b) (some (.ref p)) (p :: ps) x (fun z hz u hu => keep z u (out z hz) hu) ⟨rfl, rfl, o', hp', hd'⟩
  rw [set_same h1] at g
  refine ⟨⟨_, g, nd, fun z hz => ?_⟩, e0.r.trans x, fun z u hz => ?_, i, fun z u t hz hn => n z u t (e0.h z u hz) (e0.n z u t hz hn)⟩
  · obtain ⟨u, hu, t⟩ := th z hz
    exact ⟨n z u t hu (fr z hz).1, (fr z hz).2⟩
  · have nz : z ∉ p :: ps := fun hm => by
      rw [(fr z (sub z hm)).2] at hz
      cases hz
    exact keep z u nz (e0.h z u hz)
theorem Sat.open {α : Type} [Od α] {a : α} {i : Nat} (S : Sat K R0 H0 Γ σ R H) (e : Γ[i]? = some (.deep a)) : ∃ p ps, Sat K R0 H0 (Γ.set i (.dat p ps a)) σ R H := by
  obtain ⟨⟨os, s, nd, fr⟩, e0⟩ := S
  obtain ⟨x, o1, oa, ob, h1, h2, ⟨p, o, ps, e1, hx, hp, hr⟩, h4⟩ := s.at e
  subst hx e1 h2
  have g := h4 R H (.dat p ps a) (some (.ref p)) (p :: ps) (.refl R) (fun _ _ _ q => q) ⟨rfl, rfl, o, hp, hr⟩
  rw [set_same h1] at g
  exact ⟨p, ps, ⟨_, g, nd, fr⟩, e0⟩
/-- the heap without some cells -/
def minus (H : Hp) (cs : List Addr) : Hp := fun z => if z ∈ cs then none else H z
theorem minus_in {c : Addr} {cs : List Addr} (h : c ∈ cs) : minus H cs c = none := if_pos h
theorem minus_out {c : Addr} {cs : List Addr} (h : c ∉ cs) : minus H cs c = H c := if_neg h
theorem minus_ex {cs : List Addr} : Ex (minus H cs) H := fun z u h => by
  by_cases m : z ∈ cs
  · rw [minus_in m] at h
    cases h
  · rw [minus_out m] at h
    exact h
theorem ex_minus {cs : List Addr} (i : Ex R H) (h : ∀ c ∈ cs, R c = none) : Ex R (minus H cs) := fun z u hz => by
  have m : z ∉ cs := fun m => by
    rw [h z m] at hz
    cases hz
  rw [minus_out m]
  exact i z u hz
/-- arguments that stand frozen -/
class ArF (γ : Type) [Ar γ] : Prop where
  fz : ∀ {K : PySem.W.Frag} {R H H' : Hp} {vs : List V} {g : γ}, Ar.ok K R H vs g → Ex R H' → Ar.ok K R H' vs g
instance : ArF Unit := ⟨fun h _ => h⟩
instance {α γ : Type} [Py α] [Ar γ] [Flat α] [ArF γ] : ArF (α × γ) := ⟨fun ⟨v, r, h, b, q⟩ e => ⟨v, r, h, Py.lend e (Flat.flat b), ArF.fz q e⟩⟩
instance {α : Type} [Py α] : Flat (Fz α) := ⟨fun h => h⟩
end
/-! ### expressions behind which a thing is another -/
structure JZ (X : Cx) (R0 H0 : Hp) (Γ : List Slot) (e : Expr) {δ α : Type} [Py α] (Γ' : δ → List Slot) (m : Option (δ × α)) : Prop where
  run : ∀ σ R H, Sat X.K R0 H0 Γ σ R H → ∀ r, m = some r → ∀ Q : VK, (∀ v R' H', Ex R R' → Sat X.K R0 H0 (Γ' r.1) σ R' H' → rep X.K R' v r.2 → Q v H') → eSem X e σ H Q
structure JZT (X : Cx) (R0 H0 : Hp) (Γ : List Slot) (e : Expr) {δ : Type} (Γ' : δ → List Slot) (m : Option (δ × Bool)) : Prop where
  run : ∀ σ R H, Sat X.K R0 H0 Γ σ R H → ∀ r, m = some r → ∀ Q : Bool → Hp → Prop, (∀ R' H', Ex R R' → Sat X.K R0 H0 (Γ' r.1) σ R' H' → Q r.2 H') → tSem X e σ H Q
structure JZW (X : Cx) (R0 H0 : Hp) (Γ : List Slot) (e : Expr) {δ : Type} (Γ' : δ → List Slot) (m : Option (δ × Bool)) : Prop where
  run : ∀ σ R H, Sat X.K R0 H0 Γ σ R H → ∀ r, m = some r → ∀ Q : Bool → Hp → Prop, (∀ R' H', Ex R R' → Sat X.K R0 H0 (Γ' r.1) σ R' H' → Q r.2 H') → wSem X e σ H Q
/-- nothing changed -/
def zOf {δ α : Type} (d : δ) (m : Option α) : Option (δ × α) := m.bind fun a => some (d, a)
def zB {δ α β : Type} (m : Option (δ × α)) (f : δ → α → Option (δ × β)) : Option (δ × β) := m.bind fun r => f r.1 r.2
/-- and, or -/
def zAnd {δ : Type} (m : Option (δ × Bool)) (f : δ → Option (δ × Bool)) : Option (δ × Bool) := m.bind fun r => if r.2 then f r.1 else some (r.1, false)
def zOr {δ : Type} (m : Option (δ × Bool)) (f : δ → Option (δ × Bool)) : Option (δ × Bool) := m.bind fun r => if r.2 then some (r.1, true) else f r.1
def zIf {δ β : Type} (m : Option (δ × Bool)) (f g : δ → Option β) : Option β := m.bind fun r => if r.2 then f r.1 else g r.1
section
variable {X : Cx} {R0 H0 : Hp} {Γ : List Slot} {e a b : Expr} {es : List Expr} {rest A : List Stmt} {st : Stmt} {pos : Pos} {δ : Type} {Γ' : δ → List Slot} {β : Type} {out : β → Out}
theorem jz_one {op : BoolOp} {m : Option (δ × Bool)} (h : JZ X R0 H0 Γ a Γ' m) : JZ X R0 H0 Γ (.BoolOp op [a] pos) Γ' m := .mk fun σ R H S z ez Q q => PE_to (pe_one eS) (h.run σ R H S z ez Q q)
theorem jz_and {m1 : Option (δ × Bool)} {m2 : δ → Option (δ × Bool)} (h1 : JZ X R0 H0 Γ a Γ' m1) (h2 : ∀ d, JZ X R0 H0 (Γ' d) (.BoolOp .And (b :: es) pos) Γ' (m2 d)) : JZ X R0 H0 Γ (.BoolOp .And (a :: b :: es) pos) Γ' (zAnd m1 m2) := .mk fun σ R H S z ez Q q => by
  obtain ⟨⟨d, c⟩, ec, ez⟩ := bind_some' ez
  refine PE_to (pe_and eS eS) (h1.run σ R H S _ ec _ fun v R' H' x S' r => ⟨c, r, ?_⟩)
  cases c with
  | true => exact (h2 d).run σ R' H' S' z ez Q fun v R2 H2 x2 S2 => q v R2 H2 (x.trans x2) S2
  | false =>
    cases ez
    exact q _ R' H' x S' rfl
/-- a changed one, compared with what is read behind it -/
theorem jz_cmp2 {α γ : Type} [Py α] [Py γ] {op : CmpOp} {r : R2} {ma : Option (δ × α)} {mb : δ → Option α} {f : α → α → Option γ} (ho : OpR X (compareOp op) r) (hm : behindInMarks op b = false)
    (hr : ∀ (R H : Hp) (v w : V) (x y : α) (z : γ), Ex R H → bor X.K R H v x → bor X.K R H w y → f x y = some z → ∀ Q : VK, (∀ u R' H', Ext R H R' H' → rep X.K R' u z → Q u H') → r v w H Q)
    (ha : JZ X R0 H0 Γ a Γ' ma) (hb : ∀ d, JB X R0 H0 (Γ' d) b (mb d)) : JZ X R0 H0 Γ (.Compare a [op] [b] pos) Γ' (zB ma fun d x => (mb d).bind fun y => (f x y).bind fun z => some (d, z)) := .mk fun σ R H S z ez Q q => by
  obtain ⟨⟨d, x⟩, ex, ez⟩ := bind_some' ez
  obtain ⟨y, ey, ez⟩ := bind_some' ez
  obtain ⟨z', ef, ez⟩ := bind_some' ez
  cases ez
  refine PE_to (pe_cmpR ho eS eS hm) (ha.run σ R H S _ ex _ fun v R1 H1 x1 S1 r1 => hb d σ R1 H1 S1 y ey _ fun w R2 H2 x2 r2 => ?_)
  exact hr R2 H2 v w x y z' x2.i (Py.lend x2.i (Py.mono x2.r r1)) r2 ef Q fun u R3 H3 x3 r3 => q u R3 H3 (x1.trans (x2.trans x3).r) (S1.ext (x2.trans x3)) r3
theorem jzt_cmp2 {α : Type} [Py α] {op : CmpOp} {r : R2} {ma : Option (δ × α)} {mb : δ → Option α} {f : α → α → Option Bool} (ho : OpR X (compareOp op) r) (hm : behindInMarks op b = false)
    (hr : ∀ (R H : Hp) (v w : V) (x y : α) (z : Bool), Ex R H → bor X.K R H v x → bor X.K R H w y → f x y = some z → ∀ Q : VK, (∀ u R' H', Ext R H R' H' → rep X.K R' u z → Q u H') → r v w H Q)
    (ha : JZ X R0 H0 Γ a Γ' ma) (hb : ∀ d, JB X R0 H0 (Γ' d) b (mb d)) : JZT X R0 H0 Γ (.Compare a [op] [b] pos) Γ' (zB ma fun d x => (mb d).bind fun y => (f x y).bind fun z => some (d, z)) := .mk fun σ R H S z ez Q q => by
  obtain ⟨⟨d, x⟩, ex, ez⟩ := bind_some' ez
  obtain ⟨y, ey, ez⟩ := bind_some' ez
  obtain ⟨z', ef, ez⟩ := bind_some' ez
  cases ez
  refine PT_to (pt_cmpR ho eS eS hm) (ha.run σ R H S _ ex _ fun v R1 H1 x1 S1 r1 => hb d σ R1 H1 S1 y ey _ fun w R2 H2 x2 r2 => ?_)
  refine hr R2 H2 v w x y z' x2.i (Py.lend x2.i (Py.mono x2.r r1)) r2 ef _ fun u R3 H3 x3 r3 => ?_
  exact ⟨z', r3, q R3 H3 (x1.trans (x2.trans x3).r) (S1.ext (x2.trans x3))⟩
section
variable {α : Type} [Py α] [DecidableEq α] {ma : Option (δ × α)} {mb : δ → Option α}
theorem jz_eq [Sc α] (ha : JZ X R0 H0 Γ a Γ' ma) (hb : ∀ d, JB X R0 H0 (Γ' d) b (mb d)) : JZ X R0 H0 Γ (.Compare a [.Eq] [b] pos) Γ' (zB ma fun d x => (mb d).bind fun y => some (d, decide (x = y))) := jz_cmp2 (f := fun x y => some (decide (x = y))) op_eq (nomark _) sc_eq ha hb
theorem jzt_ne [Sc α] (ha : JZ X R0 H0 Γ a Γ' ma) (hb : ∀ d, JB X R0 H0 (Γ' d) b (mb d)) : JZT X R0 H0 Γ (.Compare a [.NotEq] [b] pos) Γ' (zB ma fun d x => (mb d).bind fun y => some (d, !decide (x = y))) := jzt_cmp2 (f := fun x y => some (!decide (x = y))) op_ne (nomark _) sc_ne ha hb
end
/-! ### statements -/
theorem jn_ifz {m : Option (δ × Bool)} {m1 m2 : δ → Option β} (hc : JZT X R0 H0 Γ e Γ' m) (h1 : ∀ d, JN X R0 H0 (Γ' d) A (m1 d) out) (h2 : ∀ d, JN X R0 H0 (Γ' d) rest (m2 d) out) : JN X R0 H0 Γ (.If e A [] pos :: rest) (zIf m m1 m2) out := .mk fun σ R H S b eb D n q => by
  obtain ⟨⟨d, c⟩, ec, eb⟩ := bind_some' eb
  refine PSs_to (pss_cons (ps_if tS sS pss_nil) sS) (hc.run σ R H S _ ec _ fun R' H' x S' => ?_)
  cases c with
  | true => exact (h1 d) σ R' H' S' b eb D _ (q.mono x)
  | false => exact (h2 d) σ R' H' S' b eb D n (q.mono x)
/-- return e: what was changed is let go | told -/
theorem jn_retz {α : Type} [Py α] {m : Option (δ × α)} (h : JZ X R0 H0 Γ e Γ' m) : JN X R0 H0 Γ (.Return (some e) pos :: rest) (m.bind fun r => some r.2) fun a => .rt a := .mk fun σ R H S b eb D n q => by
  obtain ⟨r, er, eb⟩ := bind_some' eb
  cases eb
  exact PSs_to (pss_cons (ps_ret eS) sS) (h.run σ R H S r er _ fun v R' H' x S' rr => q v R' H' S'.e0 rr)
theorem jn_rets {α : Type} [Py α] {Γe : δ → List Slot} {m : Option α} (d : δ) (h : JE X R0 H0 Γ e m) (hs : Sub Γ (Γe d)) : JN X R0 H0 Γ (.Return (some e) pos :: rest) (zOf d m) fun r => .rs (Γe r.1) r.2 := .mk fun σ R H S b eb D n q => by
  obtain ⟨a, ea, eb⟩ := bind_some' eb
  cases eb
  refine PSs_to (pss_cons (ps_ret eS) sS) (h σ R H S a ea _ fun v R' H' x rr => ?_)
  obtain ⟨R2, x2, S2⟩ := hs _ _ _ _ _ _ (S.ext x)
  exact (show ∀ v σ R H, Sat X.K R0 H0 (Γe d) σ R H → rep X.K R v a → D.rt v H from q) v σ R2 H' S2 (Py.mono x2 rr)
/-- the thing's place, told -/
theorem jn_open (i : Nat) {α : Type} [Od α] {a : α} {m : Option β} (h : ∀ p ps, JN X R0 H0 (Γ.set i (.dat p ps a)) rest m out) (hΓ : Γ[i]? = some (.deep a) := by rfl) : JN X R0 H0 Γ rest m out := .mk fun σ R H S b eb D n q => by
  obtain ⟨p, ps, S'⟩ := S.open hΓ
  exact h p ps σ R H S' b eb D n q
end
end FK

/-! the desk: books by names, and rules; its methods read it, or change it -/
namespace FK
open PySem PySem.Spec PyProof.Rows L2
abbrev Bo := List (T3 Str Str Str)
structure Dk where
  b : Dct Str Bo
  r : List Ru
structure DkC (K : PySem.W.Frag) (C : Addr) : Prop where
  ns : PySem.W.nsIn K mainGlobals "Desk" = some (some (.ref C))
  cl : Cls K C
  nb : NoAttr K C "books"
  nr : NoAttr K C "rules"
abbrev fsD (q : Addr) (rv : V) : List (Str × V) := [("books", .ref q), ("rules", rv)]
theorem br_ne : ("books" : Str) ≠ ("rules" : Str) := by decide
theorem fsD_b (q : Addr) (rv : V) : (fsD q rv).lookup ("books" : Str) = some (.ref q) := by simp [fsD, List.lookup]
theorem fsD_no {m : Str} (q : Addr) (rv : V) (h1 : (m == ("books" : Str)) = false) (h2 : (m == ("rules" : Str)) = false) : (fsD q rv).lookup m = none := by simp [fsD, List.lookup, h1, h2]
instance instOdDk : Od Dk where
  dh := fun K R H o ps d => ∃ C dx q rv oq, o = .ins C dx (fsD q rv) ∧ DkC K C ∧ ps = [q] ∧ H q = some oq ∧ ho K R oq d.b ∧ rep K R rv d.r
  mono := fun e f ⟨C, dx, q, rv, oq, h1, h2, h3, h4, h5, h6⟩ => ⟨C, dx, q, rv, oq, h1, h2, h3, f q (by rw [h3]; exact List.mem_singleton.mpr rfl) oq h4, Ob.mono e h5, Py.mono e h6⟩
  there := fun ⟨C, dx, q, rv, oq, h1, h2, h3, h4, h5, h6⟩ c hc => by
    rw [h3] at hc
    cases List.mem_singleton.mp hc
    exact ⟨oq, h4, Ob.nt h5⟩
  nt := fun ⟨C, dx, q, rv, oq, h1, _⟩ => by rw [h1]; rfl
def DkAt (K : PySem.W.Frag) (R H : Hp) (v : V) (d : Dk) : Prop := ∃ p C dx q rv oq, v = .ref p ∧ H p = some (.ins C dx (fsD q rv)) ∧ DkC K C ∧ H q = some oq ∧ ho K R oq d.b ∧ rep K R rv d.r
instance instPyDk : Py Dk where
  rep := fun K R v d => DkAt K R R v d
  bor := fun K R H v d => DkAt K R H v d
  mono := fun e ⟨p, C, dx, q, rv, oq, h0, h1, h2, h4, h5, h6⟩ => ⟨p, C, dx, q, rv, oq, h0, e _ _ h1, h2, e _ _ h4, Ob.mono e h5, Py.mono e h6⟩
  bmono := fun e f ⟨p, C, dx, q, rv, oq, h0, h1, h2, h4, h5, h6⟩ => ⟨p, C, dx, q, rv, oq, h0, f _ _ h1, h2, f _ _ h4, Ob.mono e h5, Py.mono e h6⟩
  lend := fun e ⟨p, C, dx, q, rv, oq, h0, h1, h2, h4, h5, h6⟩ => ⟨p, C, dx, q, rv, oq, h0, e _ _ h1, h2, e _ _ h4, h5, h6⟩
section
variable {X : Cx} {R0 H0 : Hp} {Γ : List Slot} {e a b o : Expr} {es : List Expr} {pos p apos : Pos}
theorem jb_dat (i : Nat) {x : Str} {c : Dk} {pd : Addr} {ps : List Addr} (hΓ : Γ[i]? = some (.dat pd ps c) := by rfl) (hN : X.N[i]? = some x := by rfl) (hv : Vis X.env.scope x := by first | exact Or.inl rfl | exact Or.inr (Or.inl rfl) | exact Or.inr (Or.inr rfl)) (hd : (x == ("__debug__" : Str)) = false := by decide)
    (hcd : (x == ("__classdict__" : Str)) = false := by decide) : JB X R0 H0 Γ (.Name x pos) (some c) := .mk fun σ R H S a ea Q q => by
  cases ea
  obtain ⟨o, hs, hp, ⟨C, dx, q1, rv, oq, h1, h2, h3, h4, h5, h6⟩, _⟩ := S.get_dat hΓ
  subst h1
  exact PE_to (pv i hN hv hd hcd) ⟨.ref pd, hs, q _ R H (.refl S.i) ⟨pd, C, dx, q1, rv, oq, rfl, hp, h2, h4, h5, h6⟩⟩
theorem jb_books {m : Option Dk} (h : JB X R0 H0 Γ e m) (hb : attributeBase e "books" X.env (eval e X.env) = eval e X.env := by rfl) : JB X R0 H0 Γ (.Attribute e "books" pos) (m.bind fun d => some d.b) := .mk fun σ R H S z ez Q q => by
  obtain ⟨d, ed, ez⟩ := bind_some' ez
  cases ez
  refine PE_to (pe_fld eS hb) (h σ R H S d ed _ fun v R1 H1 x1 r1 => ?_)
  obtain ⟨pd, C, dx, q1, rv, oq, h0, h1, h2, h4, h5, h6⟩ := r1
  exact ⟨pd, C, dx, _, .ref q1, h0, h1, h2.cl, h2.nb, fsD_b _ _, q _ R1 H1 x1 ⟨q1, oq, rfl, .inl h4, h5⟩⟩
theorem jb_books_t {d : Dk} (h : JB X R0 H0 Γ e (some d)) (hb : attributeBase e "books" X.env (eval e X.env) = eval e X.env := by rfl) : JB X R0 H0 Γ (.Attribute e "books" pos) (some d.b) := jb_books h hb
end
/-! ### methods -/
def DMth (P : Program) (w : World) (K : PySem.W.Frag) (mg : Str → Option Value) (base : Heap) (CX : CXT) (k : Nat) (m : Str) (ps : List Str) (sp : Sp) : Prop :=
  ∃ C f fd, PySem.W.nsIn K mainGlobals "Desk" = some (some (.ref C)) ∧ Cls K C ∧ Meth K C m f ∧ Binds K fd ps [] ∧ FnOk P w K mg base CX k f fd ps sp
/-- o.m(e, ..) within a try: what it raises is wished for at the slots as they stand -/
def tMethS (m : Str) (sp : Sp) (E : L2.St → XK) (ta : TE) (t : TA) : TE := fun σ H Q => ta σ H fun x H1 => ∃ a C dx fs, x = .ref a ∧ H1 a = some (.ins C dx fs) ∧ fs.lookup m = none ∧ t σ H1 fun vs H2 => sp (x :: vs) H2 Q (E σ)
/-- a method that changes the desk: it stands at p, its parts at ps; H0 is the heap without it -/
def spZ {γ β : Type} [Ar γ] [Py β] (K : PySem.W.Frag) (m : Dk → γ → Option (Dk × β)) : Sp := fun vs H Q _ => ∃ p ps R H0 o d g us r, vs = .ref p :: us ∧ H p = some o ∧ Od.dh K R H o ps d ∧ (p :: ps).Nodup ∧ (∀ c ∈ p :: ps, R c = none ∧ H0 c = none) ∧
  Ex R H0 ∧ Ex H0 H ∧ Ar.ok K R H0 us g ∧ m d g = some r ∧ ∀ v R' H' o', Ext R H0 R' H' → H' p = some o' → Od.dh K R' H' o' ps r.1 → (∀ c ∈ p :: ps, R' c = none) → rep K R' v r.2 → Q v H'
section
variable {P : Program} {w : World} {K : PySem.W.Frag} {mg : Str → Option Value} {base : Heap} {x qual : Str} {st : Stmt} {f : Addr} {fd : FuncData} {N ps : List Str} {k : Nat} {γ β : Type} [Ar γ]
theorem sat_startZ {R H H0 : Hp} {us : List V} {g : γ} {p : Addr} {qs : List Addr} {o : HO} {d : Dk} (i : Ex R H0) (i2 : Ex H0 H) (hp : H p = some o) (hd : Od.dh K R H o qs d) (nd : (p :: qs).Nodup) (fr : ∀ c ∈ p :: qs, R c = none ∧ H0 c = none) (h : Ar.ok K R H0 us g) (hl : (V.ref p :: us).length = ps.length) :
    Sat K R H0 (.dat p qs d :: (Ar.slots g ++ List.replicate (N.length - ps.length) .any)) (L2.start N (.ref p :: us)) R H := by
  refine ⟨⟨p :: qs, ?_, nd, fr⟩, .refl R, i2, i.trans i2, fun _ _ _ _ h => h⟩
  unfold L2.start
  rw [hl]
  exact ⟨p :: qs, [], by simp, ⟨rfl, rfl, o, hp, hd⟩, Ar.sl h (slots_any K R H0 R H _)⟩
theorem fn_z [Py β] {m : Dk → γ → Option (Dk × β)} (Γe : Addr → List Addr → Dk → List Slot) (h0 : ∀ p qs d, (Γe p qs d)[0]? = some (.dat p qs d)) (F : Fun K x qual st f fd) (S : FnScope N ps (defScope st)) (hl : ∀ R H p us (g : γ), Ar.ok K R H us g → (V.ref p :: us).length = ps.length)
    (hb : ∀ (cdv : Value) (A : Around) (outer : List Env) (s : Shared) (H R H0 : Hp) (E : XK) (p : Addr) (qs : List Addr) (d : Dk) (g : γ), Room k (A.deeper (envOfC qual (defScope st) s.heap.objs.size f cdv)) →
      JN (bodyX P w K mg base N qual st f cdv A outer s H E) R H0 (.dat p qs d :: (Ar.slots g ++ List.replicate (N.length - ps.length) .any)) (defBody st) (m d g) fun r => .rs (Γe p qs r.1) r.2) : FnOk P w K mg base CX0 (k + 1) f fd ps (spZ K m) := by
  refine F.ok S (fun vs H Q E h => ?_) (fun cdv A outer s H vs Q E hr h => ?_)
  · obtain ⟨p, qs, R, H0, o, d, g, us, r, rfl, _, _, _, _, _, _, h, _⟩ := h
    exact hl R H0 p us g h
  · obtain ⟨p, qs, R, H0, o, d, g, us, r, rfl, hp, hd, nd, fr, i1, i2, h, e, q⟩ := h
    refine ⟨_, sS, (hb cdv A outer s H R H0 E p qs d g hr).run _ R H (sat_startZ i1 i2 hp hd nd fr h (hl R H0 p us g h)) r e { nx := fun _ H' => Q .non H', rt := Q } (fun _ H' => Q .non H') fun v σ R' H' S' rr => ?_⟩
    obtain ⟨o', _, hp', hd', _, fr', _⟩ := S'.get_dat (i := 0) (h0 _ _ _)
    exact q v R' H' o' S'.e0 hp' hd' (fun c hc => (fr' c hc).1) rr
end
section
variable {X : Cx} {R0 H0 : Hp} {Γ : List Slot} {e a b o : Expr} {es : List Expr} {rest : List Stmt} {pos p apos : Pos} {γ β : Type} [Ar γ]
theorem spz_to [Py β] [ArF γ] {m : Dk → γ → Option (Dk × β)} {i : Nat} {c : Dk} {pd : Addr} {ps : List Addr} {σ : L2.St} {R H : Hp} {us : List V} {g : γ} {r : Dk × β} {Q : VK} {E : XK} {Γ' : Dk → List Slot} (S : Sat X.K R0 H0 Γ σ R H) (hΓ : Γ[i]? = some (.dat pd ps c)) (hu : ∀ d, Γ' d = Γ.set i (.dat pd ps d)) (ra : Ar.ok X.K R H us g) (er : m c g = some r)
    (q : ∀ v R' H', Ex R R' → Sat X.K R0 H0 (Γ' r.1) σ R' H' → rep X.K R' v r.2 → Q v H') : spZ X.K m (.ref pd :: us) H Q E := by
  obtain ⟨o, hs, hp, hd, nd, fr, up⟩ := S.get_dat hΓ
  have i0 : Ex R (minus H (pd :: ps)) := ex_minus S.i fun c hc => (fr c hc).1
  refine ⟨pd, ps, R, minus H (pd :: ps), o, c, g, us, r, rfl, hp, hd, nd, fun c hc => ⟨(fr c hc).1, minus_in hc⟩, i0, minus_ex, ArF.fz ra i0, er, fun v R' H' o' x hp' hd' fr' rr => ?_⟩
  refine q v R' H' x.r ?_ rr
  rw [hu]
  refine up R' H' o' r.1 x.r x.i (fun z u nz hz => x.h z u (by rw [minus_out nz]; exact hz)) (fun z u t hz hn => ?_) hp' hd'
  by_cases mz : z ∈ pd :: ps
  · exact fr' z mz
  · exact x.n z u t (by rw [minus_out mz]; exact hz) hn
theorem jz_dmeth [Py β] [ArF γ] (i : Nat) {x : Str} {px : Pos} {k : Nat} {m : Str} {qs : List Str} {f : Dk → γ → Option (Dk × β)} {c : Dk} {pd : Addr} {ps : List Addr} {ma : Option γ} {pl : Sem Bool} (Γ' : Dk → List Slot) (D : DMth X.prog X.w X.K X.mg X.base CX0 k m qs (spZ X.K f)) (hr : Room k X.A) (ha : JA X R0 H0 Γ (e :: es) ma)
    (hΓ : Γ[i]? = some (.dat pd ps c) := by rfl) (hu : ∀ d, Γ' d = Γ.set i (.dat pd ps d) := by intro _; rfl) (hN : X.N[i]? = some x := by rfl) (hv : Vis X.env.scope x := by first | exact Or.inl rfl | exact Or.inr (Or.inl rfl) | exact Or.inr (Or.inr rfl)) (hd : (x == ("__debug__" : Str)) = false := by decide)
    (hcd : (x == ("__classdict__" : Str)) = false := by decide) (n1 : (m == ("books" : Str)) = false := by decide) (n2 : (m == ("rules" : Str)) = false := by decide)
    (hst : starEach (e :: es) X.env = (false, eval e X.env) :: starEach es X.env := by rfl) (hpl : (backTo pos (starEach es X.env)).any (·.1) = false := by rfl)
    (ht : eval (.Call (.Attribute (.Name x px) m apos) (e :: es) [] pos) X.env = (do
      let ov ← eval (.Name x px) X.env
      standAt apos.atName
      let (f, first) ← holding [ov] (getMethod ov m pl)
      callWith pos f first (backTo pos (starEach (e :: es) X.env)) (backToKw pos (keywordEach [] X.env))) := by rfl) :
    JZ X R0 H0 Γ (.Call (.Attribute (.Name x px) m apos) (e :: es) [] pos) Γ' (ma.bind fun g => f c g) := .mk fun σ R H S r er Q q => by
  obtain ⟨g, eg, er⟩ := bind_some' er
  obtain ⟨C, fa, fd, hC, cl, hm, hb, F⟩ := D
  refine PE_to (pe_meth (pv i hN hv hd hcd) cl hm F hr hb .nil pass0 aS hst hpl ht) ?_
  obtain ⟨o, hs, hp, ⟨C', dx, q1, rv, oq, h1, h2, _⟩, _⟩ := S.get_dat hΓ
  rw [h2.ns] at hC
  cases hC
  subst h1
  refine ⟨.ref pd, hs, pd, dx, _, rfl, hp, fsD_no _ _ n1 n2, ha σ R H S g eg _ fun vs R1 H1 x1 r1 => ?_⟩
  rw [List.append_nil]
  exact spz_to (S.ext x1) hΓ hu r1 er fun v R' H' x2 S2 rr => q v R' H' (x1.r.trans x2) S2 rr
/-- o.m(e, ..): read | and it may raise -/
theorem je_dmeth [Py β] {k : Nat} {m : Str} {qs : List Str} {f : Dk × γ → Option β} {mo : Option Dk} {ma : Option γ} {pl : Sem Bool} (D : DMth X.prog X.w X.K X.mg X.base CX0 k m qs (spV X.K f)) (hr : Room k X.A) (ho : JB X R0 H0 Γ o mo) (ha : JA X R0 H0 Γ (e :: es) ma) (n1 : (m == ("books" : Str)) = false := by decide) (n2 : (m == ("rules" : Str)) = false := by decide)
    (hst : starEach (e :: es) X.env = (false, eval e X.env) :: starEach es X.env := by rfl) (hpl : (backTo pos (starEach es X.env)).any (·.1) = false := by rfl)
    (ht : eval (.Call (.Attribute o m apos) (e :: es) [] pos) X.env = (do
      let ov ← eval o X.env
      standAt apos.atName
      let (f, first) ← holding [ov] (getMethod ov m pl)
      callWith pos f first (backTo pos (starEach (e :: es) X.env)) (backToKw pos (keywordEach [] X.env))) := by rfl) :
    JE X R0 H0 Γ (.Call (.Attribute o m apos) (e :: es) [] pos) (mo.bind fun d => ma.bind fun g => f (d, g)) := .mk fun σ R H S z ez Q q => by
  obtain ⟨d, ed, ez⟩ := bind_some' ez
  obtain ⟨g, eg, ez⟩ := bind_some' ez
  obtain ⟨C, fa, fd, hC, cl, hm, hb, F⟩ := D
  refine PE_to (pe_meth eS cl hm F hr hb .nil pass0 aS hst hpl ht) (ho σ R H S d ed _ fun v R1 H1 x1 r1 => ?_)
  obtain ⟨pd, C', dx, q1, rv, oq, h0, h1, h2, h4, h5, h6⟩ := r1
  subst h0
  rw [h2.ns] at hC
  cases hC
  refine ⟨pd, dx, _, rfl, h1, fsD_no _ _ n1 n2, ha σ R1 H1 (S.ext x1) g eg _ fun vs R2 H2 x2 r2 => ?_⟩
  rw [List.append_nil]
  exact ⟨R2, (d, g), z, x2.i, ⟨.ref pd, vs, rfl, Py.bmono x2.r x2.h ⟨pd, _, dx, q1, rv, oq, rfl, h1, h2, h4, h5, h6⟩, r2⟩, ez, fun v R3 H3 x3 r3 => q v R3 H3 ((x1.trans x2).trans x3) r3⟩
/-! ### it is changed -/
def dkPut (d : Dk) (k : Str) (y : Bo) : Option Dk := (dSet d.b k y).bind fun b => some { d with b := b }
theorem Sat.dk_put {i : Nat} {c : Dk} {pd : Addr} {ps : List Addr} {σ : L2.St} {R H : Hp} (S : Sat X.K R0 H0 Γ σ R H) (hΓ : Γ[i]? = some (.dat pd ps c)) : ∃ C dx q1 rv kvs, σ[i]? = some (some (.ref pd)) ∧ H pd = some (.ins C dx (fsD q1 rv)) ∧ DkC X.K C ∧ H q1 = some (.dK kvs) ∧ DR X.K R kvs c.b.l ∧
    ∀ R' H' kvs' (b' : Dct Str Bo), Ext R H R' H' → DR X.K R' kvs' b'.l → Sat X.K R0 H0 (Γ.set i (.dat pd ps { c with b := b' })) σ R' (upd H' q1 (.dK kvs')) := by
  obtain ⟨o, hs, hp, ⟨C, dx, q1, rv, oq, h1, h2, h3, h4, ⟨kvs, h5, h5'⟩, h6⟩, nd, fr, up⟩ := S.get_dat hΓ
  subst h1 h3 h5
  refine ⟨C, dx, q1, rv, kvs, hs, hp, h2, h4, h5', fun R' H' kvs' b' x hd => ?_⟩
  have hq : R' q1 = none := x.n q1 _ rfl h4 (fr q1 (by simp)).1
  have ne : pd ≠ q1 := fun e => by simp [e] at nd
  refine up R' _ (.ins C dx (fsD q1 rv)) _ x.r (fun z u hz => ?_) (fun z u nz hz => ?_) (fun z u t hz hn => x.n z u t hz hn) ?_ ⟨C, dx, q1, rv, .dK kvs', rfl, h2, rfl, upd_same, ⟨kvs', rfl, hd⟩, Py.mono x.r h6⟩
  · rw [upd_ne fun e => by rw [e, hq] at hz; cases hz]
    exact x.i z u hz
  · rw [upd_ne fun e => nz (by simp [e])]
    exact x.h z u hz
  · rw [upd_ne ne]
    exact x.h _ _ hp
theorem j1_setbook (i : Nat) {x : Str} {px pa p : Pos} {c : Dk} {pd : Addr} {ps : List Addr} {m : Option Bo} {mk : Option Str} (Γ' : Dk → List Slot) (hun : X.A.units + 64 < cLine) (h : JE X R0 H0 Γ e m) (hk : JE X R0 H0 Γ a mk) (hΓ : Γ[i]? = some (.dat pd ps c) := by rfl) (hu : ∀ d, Γ' d = Γ.set i (.dat pd ps d) := by intro _; rfl) (hN : X.N[i]? = some x := by rfl)
    (hv : Vis X.env.scope x := by first | exact Or.inl rfl | exact Or.inr (Or.inl rfl) | exact Or.inr (Or.inr rfl)) (hd : (x == ("__debug__" : Str)) = false := by decide) (hcd : (x == ("__classdict__" : Str)) = false := by decide)
    (hb : attributeBase (.Name x px) "books" X.env (eval (.Name x px) X.env) = eval (.Name x px) X.env := by rfl) (hs : swapsWith e (some (.Subscript (.Attribute (.Name x px) "books" pa) a p)) pos.line X.env = pure false := by rfl) :
    J1 X R0 H0 Γ (.Assign [.Subscript (.Attribute (.Name x px) "books" pa) a p] e pos) (m.bind fun y => mk.bind fun k => dkPut c k y) fun d => .nx (Γ' d) := .mk fun σ R H S z ez D q => by
  obtain ⟨y, ey, ez⟩ := bind_some' ez
  obtain ⟨k, ek, ez⟩ := bind_some' ez
  unfold dkPut dSet at ez
  by_cases hz : c.b.l.length < 16000000
  · rw [if_pos hz] at ez
    cases ez
    have q : ∀ σ R' H, Ex R R' → Sat X.K R0 H0 (Γ' _) σ R' H → D.nx σ H := q
    rw [hu] at q
    refine PS_to (ps_dput (by omega) (pe_fld (pv i hN hv hd hcd) hb) eS eS hs) (h σ R H S y ey _ fun v R1 H1 x1 r1 => ?_)
    obtain ⟨C, dx, q1, rv, kvs, hs', hp, h2, h4, h5, up⟩ := (S.ext x1).dk_put hΓ
    refine ⟨.ref pd, hs', pd, C, dx, _, .ref q1, rfl, hp, h2.cl, h2.nb, fsD_b _ _, hk σ R1 H1 (S.ext x1) k ek _ fun u R2 H2 x2 r2 => ?_⟩
    have r2 := Kq.bv (Py.lend x2.i r2)
    subst r2
    refine ⟨q1, _, rfl, DPut.k (x2.h _ _ h4) (by rw [h5.len, sizeLine_eq]; omega), ?_⟩
    exact q _ R2 _ (x1.trans x2).r (up R2 H2 _ ⟨dPut c.b.l k y⟩ x2 ((h5.mono x2.r).put k (Py.mono x2.r r1)))
  · rw [if_neg hz] at ez
    cases ez
end
/-! ### a new one -/
def spDI (K : PySem.W.Frag) : Sp := fun vs H Q _ => ∃ a C dx, vs = [.ref a] ∧ H a = some (.ins C dx []) ∧ DkC K C ∧ ∀ q r, H q = none → H r = none → q ≠ r → Q .non (upd (upd (upd H q (.dK [])) r (.lst [])) a (.ins C dx (fsD q (.ref r))))
def DNew (P : Program) (w : World) (K : PySem.W.Frag) (mg : Str → Option Value) (base : Heap) (k : Nat) : Prop :=
  ∃ C fI fd ps, mg "Desk" = some (.ref C) ∧ DkC K C ∧ Mk K C fI ∧ Binds K fd ps [] ∧ FnOk P w K mg base CX0 k fI fd ps (spDI K)
section
variable {X : Cx} {R0 H0 : Hp} {Γ : List Slot} {pos p : Pos}
theorem jd_desk {k : Nat} (T : DNew X.prog X.w X.K X.mg X.base k) (hr : Room (k + 1) X.A) (hg : Gl X "Desk" := by rfl) : JD X R0 H0 Γ (.Call (.Name "Desk" p) [] [] pos) (some (⟨⟨[]⟩, []⟩ : Dk)) := .mk fun σ R H S z ez Q qq => by
  cases ez
  obtain ⟨C, fI, fd, ps, hm, k1, M, hbd, F⟩ := T
  refine PE_to (pe_make0 M F hr hg hm hbd .nil pass0 (by decide)) fun x dx nx ndx ne => ?_
  refine ⟨x, C, dx, rfl, upd_same, k1, fun q r hq hr' nqr => ⟨rfl, ?_⟩⟩
  have nqx : q ≠ x := fun e => by rw [e, upd_same] at hq; cases hq
  have nrx : r ≠ x := fun e => by rw [e, upd_same] at hr'; cases hr'
  have nqd : q ≠ dx := fun e => by rw [e, upd_ne ne, upd_same] at hq; cases hq
  have nrd : r ≠ dx := fun e => by rw [e, upd_ne ne, upd_same] at hr'; cases hr'
  have hq0 : H q = none := by rwa [upd_ne nqx, upd_ne nqd] at hq
  have hr0 : H r = none := by rwa [upd_ne nrx, upd_ne nrd] at hr'
  have xr : ∀ z u, H z = some u → z ≠ x ∧ z ≠ dx ∧ z ≠ q ∧ z ≠ r := fun z u hz => ⟨fun e => (by rw [e, nx] at hz; cases hz), fun e => (by rw [e, ndx] at hz; cases hz), fun e => (by rw [e, hq0] at hz; cases hz), fun e => (by rw [e, hr0] at hz; cases hz)⟩
  have hR : ∀ z, H z = none → R z = none := fun z hz => S.i.none hz
  refine qq x (.ins C dx (fsD q (.ref r))) [q] (upd R r (.lst [])) _ ⟨.new (hR r hr0), fun z u hz => ?_, fun z u hz => ?_, fun z u t hz hn => ?_⟩ (fun c hc => ?_) (by simp [Ne.symm nqx]) upd_same (fun c hc => ?_) ⟨C, dx, q, .ref r, .dK [], rfl, k1, rfl, ?_, ⟨[], rfl, .nil⟩, ⟨r, .lst [], rfl, .inl upd_same, [], rfl, .nil⟩⟩
  · obtain ⟨a1, a2, a3, a4⟩ := xr z u hz
    rw [upd_ne a1, upd_ne a4, upd_ne a3, upd_ne a1, upd_ne a2]
    exact hz
  · by_cases e : z = r
    · subst e
      rw [upd_same] at hz
      rw [upd_ne nrx, upd_same]
      exact hz
    · rw [upd_ne e] at hz
      obtain ⟨a1, a2, a3, a4⟩ := xr z u (S.i z u hz)
      rw [upd_ne a1, upd_ne a4, upd_ne a3, upd_ne a1, upd_ne a2]
      exact S.i z u hz
  · rw [upd_ne (xr z u hz).2.2.2]
    exact hn
  · rcases List.mem_cons.mp hc with e | e
    · rw [e]
      exact nx
    · cases List.mem_singleton.mp e
      exact hq0
  · rcases List.mem_cons.mp hc with e | e
    · rw [e, upd_ne (Ne.symm nrx)]
      exact hR x nx
    · cases List.mem_singleton.mp e
      rw [upd_ne nqr]
      exact hR _ hq0
  · rw [upd_ne nqx, upd_ne nqr, upd_same]
end
theorem initD_ok {P : Program} {w : World} {K : PySem.W.Frag} {mg : Str → Option Value} {base : Heap} {fI : Addr} {fd : FuncData} {qual : Str} {st : Stmt} {p1 p2 p3 p4 q1 q2 q3 q4 : Pos} (F : Fun K "__init__" qual st fI fd) (S : FnScope ["self"] ["self"] (defScope st))
    (hb : defBody st = [.Assign [.Attribute (.Name "self" p1) "books" p2] (.Dict [] [] p3) p4, .Assign [.Attribute (.Name "self" q1) "rules" q2] (.List [] q3) q4]) (hv0 : ∀ (A : Addr) (c : Value), Vis (envOfC qual (defScope st) A fI c).scope "self")
    (hs : ∀ (A : Addr) (c : Value), swapsWith (.Dict [] [] p3) (some (.Attribute (.Name "self" p1) "books" p2)) p4.line (envOfC qual (defScope st) A fI c) = pure false) (hs2 : ∀ (A : Addr) (c : Value), swapsWith (.List [] q3) (some (.Attribute (.Name "self" q1) "rules" q2)) q4.line (envOfC qual (defScope st) A fI c) = pure false) : FnOk P w K mg base CX0 1 fI fd ["self"] (spDI K) := by
  refine F.ok S (fun vs H Q E h => ?_) (fun cdv A outer s H vs Q E hr h => ?_)
  · obtain ⟨a, C, dx, rfl, _⟩ := h
    rfl
  · obtain ⟨a, C, dx, rfl, ha, k, go⟩ := h
    refine ⟨_, by rw [hb]; exact pss_cons (ps_fld (pv 0 rfl (hv0 _ _) (by decide) (by decide)) pe_dnewK (hs _ _)) (pss_cons (ps_fld (pv 0 rfl (hv0 _ _) (by decide) (by decide)) (pe_lst pa_nil) (hs2 _ _)) pss_nil), ?_⟩
    intro q hq
    have nqa : q ≠ a := fun e => by rw [e, ha] at hq; cases hq
    refine ⟨.ref a, rfl, a, C, dx, [], rfl, by rw [upd_ne (Ne.symm nqa)]; exact ha, k.cl, k.nb, (by show 0 < 1000; decide), ?_⟩
    refine ⟨Nat.zero_le _, fun r hr2 => ?_⟩
    have nra : r ≠ a := fun e => by rw [e, upd_same] at hr2; cases hr2
    have nrq : r ≠ q := fun e => by rw [e, upd_ne nqa, upd_same] at hr2; cases hr2
    have hr0 : H r = none := by rwa [upd_ne nra, upd_ne nrq] at hr2
    refine ⟨.ref a, rfl, a, C, dx, [("books", .ref q)], rfl, by rw [upd_ne (Ne.symm nra), upd_same]; rfl, k.cl, k.nr, (by show 1 < 1000; decide), ?_⟩
    have g := go q r hq hr0 (Ne.symm nrq)
    have e : upd (upd (upd (upd H q (.dK [])) a (.ins C dx (putF ("books" : Str) (.ref q) []))) r (.lst [])) a (.ins C dx (putF ("rules" : Str) (.ref r) [("books", .ref q)])) = upd (upd (upd H q (.dK [])) r (.lst [])) a (.ins C dx (fsD q (.ref r))) := by
      have e1 : putF ("rules" : Str) (.ref r) [("books", .ref q)] = fsD q (.ref r) := by
        show (if ("books" : Str) = ("rules" : Str) then _ else _) = _
        rw [if_neg br_ne]
        rfl
      rw [e1]
      funext z
      by_cases h1 : z = a
      · rw [h1, upd_same, upd_same]
      · rw [upd_ne h1, upd_ne h1]
        by_cases h2 : z = r
        · rw [h2, upd_same, upd_same]
        · rw [upd_ne h2, upd_ne h2, upd_ne h1]
    show Q .non _
    rw [e]
    exact g
end FK

/-! a dict of the module with text keys, asked by get; a def that falls through -/
namespace FK
open PySem PySem.Spec PyProof.Rows L2
def dIn (l : List (Str × Int)) (z : Str) : Option Int := (l.find? fun p => decide (p.1 = z)).map (·.2)
theorem dIn_cons (p : Str × Int) (l : List (Str × Int)) (z : Str) : dIn (p :: l) z = if p.1 = z then some p.2 else dIn l z := by
  unfold dIn
  rw [List.find?_cons]
  by_cases h : p.1 = z
  · rw [decide_eq_true h, if_pos h]
    rfl
  · rw [decide_eq_false h, if_neg h]
def vOI : Option Int → V
  | none => .non
  | some i => .int i
/-- at d a written dict, its values whole numbers -/
def WDct (K : PySem.W.Frag) (w : World) (mg : Str → Option Value) (x : Str) (l : List (Str × Int)) : Prop :=
  ∃ d es n, mg x = some (.ref d) ∧ KDict K w d es n ∧ ∀ z, ∃ r, PySem.W.nsIn K d z = some r ∧ RelV (vOI (dIn l z)) (r.getD .none)
def keyS (e : DictEntry) : Option Str := match e.key with
  | .str x _ => some x
  | _ => none
theorem keyS_of {e : DictEntry} {x : Str} (q : keyS e = some x) : ∃ t, e.key = .str x t := by
  unfold keyS at q
  split at q
  · rename_i y t z
    cases q
    exact ⟨t, z⟩
  · cases q
theorem nokey2 {z : Str} : ∀ {es : List DictEntry} {ks : List Str}, es.map keyS = ks.map some → z ∉ ks → es.find? (·.key.isStr z) = none ∧ es.any (·.refKey) = false
  | [], _, _, _ => ⟨rfl, rfl⟩
  | e :: r, [], h, _ => by cases h
  | e :: r, k :: ks, h, hz => by
    have h1 : keyS e :: r.map keyS = some k :: ks.map some := h
    injection h1 with h2 h3
    obtain ⟨t, hk⟩ := keyS_of h2
    obtain ⟨i1, i2⟩ := nokey2 h3 fun q => hz (List.mem_cons_of_mem _ q)
    have e1 : e.key.isStr z = false := by
      rw [hk]
      show (k == z) = false
      exact beq_eq_false_iff_ne.mpr fun q => hz (by rw [q]; exact List.mem_cons_self)
    have e2 : e.refKey = false := by
      unfold DictEntry.refKey
      rw [hk]
    rw [List.find?_cons, e1, List.any_cons, e2]
    exact ⟨i1, i2⟩
theorem dIn_mem {z : Str} : ∀ l' : List (Str × Int), (l'.map (·.1)).Nodup → z ∈ l'.map (·.1) → ∃ p ∈ l', p.1 = z ∧ dIn l' z = some p.2
  | [], _, h => by cases h
  | p :: r, nd, h => by
    rw [dIn_cons]
    by_cases e : p.1 = z
    · exact ⟨p, List.mem_cons_self, e, if_pos e⟩
    · rw [if_neg e]
      rw [List.map_cons] at h nd
      rcases List.mem_cons.mp h with q | q
      · exact absurd q.symm e
      · obtain ⟨p', h1, h2⟩ := dIn_mem r (List.nodup_cons.mp nd).2 q
        exact ⟨p', List.mem_cons_of_mem _ h1, h2⟩
theorem wdct_of2 {K : PySem.W.Frag} {w : World} {mg : Str → Option Value} {x : Str} {d : Addr} {es : Array DictEntry} {n : Nat} {l : List (Str × Int)} (hm : mg x = some (.ref d)) (hl : K.lookup d = some ⟨.type "dict", none, .dict es n, #[]⟩) (hk : PySem.W.KeysLit w.params es.toList) (low : (d == sysModules) = false) (hs : es.toList.map keyS = (l.map (·.1)).map some) (hv : ∀ p ∈ l, ∃ t, PySem.W.nsIn K d p.1 = some (some (.int p.2 t))) (nd : (l.map (·.1)).Nodup) : WDct K w mg x l := by
  refine ⟨d, es, n, hm, ⟨hl, hk, low⟩, fun z => ?_⟩
  by_cases hz : z ∈ l.map (·.1)
  · obtain ⟨p, hp, e1, e2⟩ := dIn_mem l nd hz
    obtain ⟨t, ht⟩ := hv p hp
    rw [e1] at ht
    exact ⟨_, ht, by rw [e2]; exact ⟨t, rfl⟩⟩
  · refine ⟨none, ?_, ?_⟩
    · obtain ⟨i1, i2⟩ := nokey2 hs hz
      unfold PySem.W.nsIn
      rw [hl]
      dsimp only
      rw [i1]
      dsimp only
      rw [i2]
      rfl
    · have : dIn l z = none := by
        unfold dIn
        rw [List.find?_eq_none.mpr fun p hp => by
          rw [decide_eq_true_eq]
          exact fun e => hz (List.mem_map.mpr ⟨p, hp, e⟩)]
        rfl
      rw [this]
      exact rfl
section
variable {X : Cx} {R0 H0 : Hp} {Γ : List Slot} {e a b o : Expr} {es : List Expr} {rest : List Stmt} {pos p apos : Pos}
theorem pe_kget {d : Addr} {es : Array DictEntry} {n : Nat} {ty : TE} (D : KDict X.K X.w d es n) (ho : PE X o (fun σ H Q => Q (.ref d) H)) (he : PE X e ty) (m : M1 X o "get" apos e pos) :
    PE X (.Call (.Attribute o "get" apos) [e] [] pos) (fun σ H Q => ty σ H fun y H2 => ∃ z r v, y = .str z ∧ PySem.W.nsIn X.K d z = some r ∧ RelV v (r.getD .none) ∧ Q v H2) := by
  refine ⟨fun pins s σ H Q I h => ?_⟩
  refine wpAny_Call_method m.base m.few m.line PySem.F.plainAttrs_dict PySem.F.slot_dict_get PySem.F.type_dict_get (thn (ho.run pins s σ H (fun x H1 => x = .ref d ∧ H1 = H) I ⟨rfl, rfl⟩) fun u s1 ⟨x, H1, I1, rx, ex, eh⟩ => ?_)
  subst ex eh
  obtain rfl : u = Value.ref d := rx
  have hm := fun (s : Shared) (H : Hp) (I : Inv X pins σ H s) => PySem.W.mapOf_K (prog := X.prog) (w := X.w) I.kIn D.at_ D.lit
  refine ⟨(hm _ _ I1).typeIs, fun b q => ?_, ?_⟩
  · cases q
    obtain ⟨ob, _, _, h1, h2, _⟩ := hm _ _ I1
    exact ⟨ob, h1, h2.2.1⟩
  rw [m.trees]
  refine Calls.callWith_builtin rfl (Calls.evalArgs_plain (Calls.spliced_cons (thn (he.run pins s1 σ H1 _ I1 h) fun iv s2 ⟨y, H2, I2, ry, z, r, v, ey, g, rv, q2⟩ => Calls.spliced_nil ?_)))
  subst ey
  obtain ⟨t, rfl⟩ := ry
  refine call_meetsIn PySem.F.slot_dict_get (hm _ _ I2).typeIs PySem.F.entry_dict_get (PySem.F.args_dict_get_2 _ _) (meets_dict_get (PySem.strKind X.prog X.w) d (PySem.strKind_is X.prog X.w z t) D.low) ⟨_, hm _ _ I2, v, H2, I2.tok _, ?_, q2⟩
  rw [PySem.W.find_K D.at_ g]
  exact rv
theorem je_kget {x : Str} {l : List (Str × Int)} {px : Pos} {mk : Option Str} (T : WDct X.K X.w X.mg x l) (hk : JB X R0 H0 Γ a mk) (hg : Gl X x := by rfl) (hdb : (x == ("__debug__" : Str)) = false := by decide) (m : M1 X (.Name x px) "get" apos a pos := by exact ⟨rfl, rfl, rfl, rfl⟩) :
    JE X R0 H0 Γ (.Call (.Attribute (.Name x px) "get" apos) [a] [] pos) (mk.bind fun k => some (dIn l k)) := .mk fun σ R H S z ez Q q => by
  obtain ⟨k, ek, ez⟩ := bind_some' ez
  cases ez
  obtain ⟨d, es, n, hm, D, hv⟩ := T
  refine PE_to (pe_kget D (pe_glob (v := .ref d) hg hm rfl hdb) eS m) (hk σ R H S k ek _ fun v R1 H1 x1 r1 => ?_)
  obtain ⟨r, h1, h2⟩ := hv k
  refine ⟨k, r, vOI (dIn l k), r1, h1, h2, q _ R1 H1 x1 ?_⟩
  cases e : dIn l k with
  | none => exact rfl
  | some i => exact ⟨rfl, fun h => by cases h⟩
/-- None or a number, is it this number -/
theorem oi_eq {K : PySem.W.Frag} (R H : Hp) (v w : V) (x : Option Int) (y : Int) (z : Bool) (i : Ex R H) (h1 : bor K R H v x) (h2 : bor K R H w y) (h3 : some (decide (x = some y)) = some z) (Q : VK) (q : ∀ u R' H', Ext R H R' H' → rep K R' u z → Q u H') : rEq v w H Q := by
  cases h3
  have e2 : w = .int y := h2
  subst e2
  cases x with
  | none =>
    have e1 : v = .non := h1
    subst e1
    exact ⟨rfl, q _ R H (.refl i) rfl⟩
  | some x =>
    have e1 : v = .int x := h1.1
    subst e1
    refine ⟨rfl, ?_⟩
    have e : decide (V.int x = V.int y) = decide (some x = some y) := by
      by_cases h : x = y
      · rw [h, decide_eq_true rfl, decide_eq_true rfl]
      · rw [decide_eq_false fun e => h (V.int.inj e), decide_eq_false fun e => h (Option.some.inj e)]
    rw [e]
    exact q _ R H (.refl i) rfl
theorem je_eqoi {ma : Option (Option Int)} {mb : Option Int} (ha : JB X R0 H0 Γ a ma) (hb : JB X R0 H0 Γ b mb) : JE X R0 H0 Γ (.Compare a [.Eq] [b] pos) (ma.bind fun x => mb.bind fun y => some (decide (x = some y))) := je_cmp2 op_eq (nomark _) oi_eq ha hb
end
section
variable {P : Program} {w : World} {K : PySem.W.Frag} {mg : Str → Option Value} {base : Heap} {x qual : Str} {st : Stmt} {f : Addr} {fd : FuncData} {N ps : List Str} {k : Nat} {γ : Type} [Ar γ]
theorem fn_n {m : γ → Option Unit} (Γe : List Slot) (F : Fun K x qual st f fd) (S : FnScope N ps (defScope st)) (hl : ∀ R H vs (g : γ), Ar.ok K R H vs g → vs.length = ps.length)
    (hb : ∀ (cdv : Value) (A : Around) (outer : List Env) (s : Shared) (H R : Hp) (E : XK) (g : γ), Room k (A.deeper (envOfC qual (defScope st) s.heap.objs.size f cdv)) →
      JS (bodyX P w K mg base N qual st f cdv A outer s H E) R H (Ar.slots g ++ List.replicate (N.length - ps.length) .any) (defBody st) (m g) fun _ => .nx Γe) : FnOk P w K mg base CX0 (k + 1) f fd ps (spV K m) := by
  refine F.ok S (fun vs H Q E h => ?_) (fun cdv A outer s H vs Q E hr h => ?_)
  · obtain ⟨R, g, b, i, h, _⟩ := h
    exact hl R H vs g h
  · obtain ⟨R, g, b, i, h, e, q⟩ := h
    exact ⟨_, sS, (hb cdv A outer s H R E g hr).run _ R H (sat_start i h (hl R H vs g h)) b e { nx := fun _ H' => Q .non H', rt := Q } fun σ R' H' _ S' => q .non R' H' S'.e0 rfl⟩
end
theorem arz1 {α : Type} [Py α] {x1 x2 : Str} (K : PySem.W.Frag) : ∀ R H p us (g : α × Unit), Ar.ok K R H us g → (V.ref p :: us).length = [x1, x2].length := fun R H p us g ⟨v, r, h, _, q⟩ => by
  have q : r = [] := q
  rw [h, q]
  rfl
section
variable {X : Cx} {R0 H0 : Hp} {Γ : List Slot} {e : Expr} {rest : List Stmt} {pos : Pos} {β : Type} {out : β → Out}
/-- e alone -/
theorem j1_expr0 {α : Type} [Py α] {m : Option α} (h : JE X R0 H0 Γ e m) (hs : swapsWith e none pos.line X.env = pure false := by rfl) : J1 X R0 H0 Γ (.Expr e pos) (m.bind fun _ => some ()) fun _ => .nx Γ := .mk fun σ R H S b eb D q => by
  obtain ⟨a, ea, eb⟩ := bind_some' eb
  exact PS_to (ps_expr eS hs) (h σ R H S a ea _ fun v R' H' x r => (show ∀ σ R' H, Ex R R' → Sat X.K R0 H0 Γ σ R' H → D.nx σ H from q) _ R' H' x.r (S.ext x))
/-- a try whose exceptions do not come, its handler with a name -/
theorem j1_try0n (i : Nat) {T n : Str} {m : Option β} {body suite : List Stmt} {b₀ : Stmt} {np pos' : Pos} (hT : ∃ C, X.mg T = some (.ref C)) (hb : ∀ pn xe, JS (X.tr pn xe) R0 H0 Γ body m out) (ht : ∀ b, m = some b → Tame (out b)) (hN : X.N.Nodup) (hex : X.ex = [] := by rfl)
    (hs : X.stack = X.env :: X.outer := by rfl) (hf : X.env.frame = some X.env.locals := by rfl) (hi : X.N[i]? = some n := by rfl) (hln : X.env.kindOf n = some .local := by rfl) (hgT : Gl X T := by rfl) (hdT : (T == ("__debug__" : Str)) = false := by decide) (hij : i < X.N.length := by exact Nat.le_of_ble_eq_true rfl) :
    J1 X R0 H0 Γ (.Try body [.ExceptHandler (some (.Name T np)) (some n) (b₀ :: suite) pos'] [] [] pos) m out := .mk fun σ R H S b eb D q => by
  obtain ⟨C, hC⟩ := hT
  refine PS_to (ps_hand (c := .ref C) (i := i) hex hs hf hN hi hln ⟨hgT, hdT, .inl hC⟩ hij (tb := fun W D σ H => ∀ pn xe, Takes (X.tr pn xe) W → sSem (X.tr pn xe) body D σ H) fun W pn xe tk => ⟨fun pins s σ H D I h => h pn xe tk pins s I⟩) fun pn xe tk => ?_
  exact (hb pn xe) σ R H S b eb D (Req.tr (ht b eb) q pn xe)
end
section
variable {X : Cx} {R0 H0 : Hp} {Γ : List Slot} {e a b o : Expr} {rest A : List Stmt} {pos : Pos} {β : Type} {out : β → Out}
/-! ### where a token is out: ifs, and what is given back -/
theorem jnt_of {m : Option β} (h : JN X R0 H0 Γ rest m out) : JNt X R0 H0 Γ rest m out := ⟨fun σ R H S b eb D n q => PSsT_to (PSsT.of sS) (h σ R H S b eb D n q)⟩
theorem jnt_ifr {mc : Option Bool} {m1 m2 : Option β} (hc : JT X R0 H0 Γ e mc) (h1 : JNt X R0 H0 Γ A m1 out) (h2 : JNt X R0 H0 Γ rest m2 out) : JNt X R0 H0 Γ (.If e A [] pos :: rest) (ifM mc m1 m2) out := ⟨fun σ R H S b eb D n q => by
  obtain ⟨c, ec, eb⟩ := bind_some' eb
  refine PSsT_to (psst_cons (CwR.pst_if tS sST CwR.psst_nil) sST) (hc σ R H S c ec _ fun R' H' x => ?_)
  cases c with
  | true => exact h1.run σ R' H' (S.ext x) b eb D _ (q.mono x.r)
  | false => exact h2.run σ R' H' (S.ext x) b eb D n (q.mono x.r)⟩
theorem jnt_ret {α : Type} [Py α] {m : Option α} (h : JEt X R0 H0 Γ e m) : JNt X R0 H0 Γ (.Return (some e) pos :: rest) m fun a => .rt a := ⟨fun σ R H S b eb D n q =>
  PSsT_to (psst_cons (CwR.pst_ret eST) sST) (h.run σ R H S b eb _ fun v R' H' x r => q v R' H' (S.e0.trans x) r)⟩
theorem jet_cat {ma mb : Option Str} (ha : JEt X R0 H0 Γ a ma) (hb : JB X R0 H0 Γ b mb) : JEt X R0 H0 Γ (.BinOp a .Add b pos) (ma.bind fun x => mb.bind fun y => sAdd x y) := ⟨fun σ R H S z ez Q q => by
  obtain ⟨x, ex, ez⟩ := bind_some' ez
  obtain ⟨y, ey, ez⟩ := bind_some' ez
  unfold sAdd at ez
  by_cases h : x.length + y.length ≤ 16000000
  · rw [if_pos h] at ez
    cases ez
    refine PET_to (CwR.pet_op op_add_str eST (CwR.PET.of eS)) (ha.run σ R H S x ex _ fun v R1 H1 x1 r1 => hb σ R1 H1 (S.ext x1) y ey _ fun w R2 H2 x2 r2 => ?_)
    have r1 : v = .str x := r1
    have r2 : w = .str y := r2
    subst r1 r2
    exact ⟨x, y, rfl, rfl, by rw [sizeLine_eq]; omega, q _ R2 H2 (x1.trans x2) rfl⟩
  · rw [if_neg h] at ez
    cases ez⟩
end
end FK

/-! lists of three walked with three targets; a, b, c, d = a list -/
namespace FK
open PySem PySem.Spec PyProof.Rows L2
/-- a list of three -/
structure L3 (α : Type) where
  a : α
  b : α
  c : α
instance {α : Type} [Py α] : Py (L3 α) where
  rep := fun K R v x => rep K R v [x.a, x.b, x.c]
  bor := fun K R H v x => bor K R H v [x.a, x.b, x.c]
  mono := fun e h => Py.mono (α := List α) e h
  bmono := fun e f h => Py.bmono (α := List α) e f h
  lend := fun e h => Py.lend (α := List α) e h
def toL3 {α : Type} : List α → Option (L3 α)
  | [x, y, z] => some ⟨x, y, z⟩
  | _ => none
def allL3 {α : Type} : List (List α) → Option (List (L3 α))
  | [] => some []
  | l :: r => (toL3 l).bind fun x => (allL3 r).bind fun y => some (x :: y)
section
variable {X : Cx} {R0 H0 : Hp} {Γ : List Slot} {e a b tg : Expr} {pos : Pos} {α : Type} [Py α]
def lst4 {α : Type} : List α → Option (T4 α α α α)
  | [x, y, z, u] => some ⟨x, y, z, u⟩
  | _ => none
end
end FK

/-! the head by one run: what the end leans on is read off the heap behind the top -/
namespace FK
open PySem PySem.Spec PyProof.Rows L2
abbrev AlM : Type := (Bool × List He.FnV) × List (Option (List (Option (Str × Int))))
def obsM (fs : List (PySem.W.Frag → Bool)) (fn : List He.FnD) (ts : List He.Tab) (K : PySem.W.Frag) : AlM := (((fs.all fun f => f K) && fn.all fun d => (He.Fa.code d.at_ d.qual).ok K, fn.map fun d => He.fnObs K d.at_), ts.map fun t => He.dicW K (t.1 K))
def valM (fn : List He.FnD) (ts : List He.Tab) (w : World) : AlM := ((true, fn.map He.FnD.val), ts.map fun t => some (He.keysIn w.params t.2))
/-- a list of addresses, each a numeral -/
def frA {β : Type} : List Addr → (List Addr → β) → β
  | [], k => k []
  | a :: r, k => HandSHeadRun.frNat a fun a => frA r fun r => k (a :: r)
theorem frA_eq {β : Type} : ∀ (l : List Addr) (k : List Addr → β), frA l k = k l
  | [], _ => rfl
  | a :: r, k => by
    show HandSHeadRun.frNat a (fun a => frA r fun r => k (a :: r)) = _
    rw [HandSHeadRun.frNat_eq, frA_eq r]
/-- the objects at them -/
def frK {β : Type} (g : Addr → Option Obj) : List Addr → (PySem.W.Frag → β) → β
  | [], k => k []
  | a :: r, k => match g a with
    | some o => frK g r fun K => k ((a, o) :: K)
    | none => frK g r k
theorem frK_eq {β : Type} (g : Addr → Option Obj) : ∀ (l : List Addr) (k : PySem.W.Frag → β), frK g l k = k (He.frG g l)
  | [], _ => rfl
  | a :: r, k => by
    show (match g a with
      | some o => frK g r fun K => k ((a, o) :: K)
      | none => frK g r k) = k (He.frG g (a :: r))
    unfold He.frG
    rw [List.filterMap_cons]
    cases g a with
    | none => exact frK_eq g r k
    | some o => exact frK_eq g r fun K => k ((a, o) :: K)
def refsL (g : Addr → Option Obj) (l : List Addr) : List Addr := l.flatMap fun a => match g a with
  | some o => He.refsO o
  | none => []
def grow (g : Addr → Option Obj) : Nat → List Addr → List Addr
  | 0, l => l
  | n + 1, l => frA ((l ++ refsL g l).eraseDups) fun l => grow g n l
/-- the addresses that the names reach in n steps -/
def roots (g : Addr → Option Obj) (xs : List Str) : List Addr := frK g [mainGlobals] fun K => frA (xs.map (He.ga K)) fun l => l
def reach (g : Addr → Option Obj) (xs : List Str) (n : Nat) : List Addr := mainGlobals :: grow g n (roots g xs)
def obsMG (n : Nat) (xs : List Str) (fs : List (PySem.W.Frag → Bool)) (fn : List He.FnD) (ts : List He.Tab) (g : Addr → Option Obj) : AlM := frA (reach g xs n) fun l => frK g l fun K => obsM fs fn ts K
def SaysM (fs : List (PySem.W.Frag → Bool)) (fn : List He.FnD) (ts : List He.Tab) (w : World) (K : PySem.W.Frag) : Prop := obsM fs fn ts K = valM fn ts w
def hookM (n : Nat) (xs : List Str) (fs : List (PySem.W.Frag → Bool)) (fn : List He.FnD) (ts : List He.Tab) : PySem.W.Hook where
  α := AlM
  obs := fun s => obsMG n xs fs fn ts s.heap.get?
  val := fun w => valM fn ts w
  says := fun w h => ∃ K : PySem.W.Frag, K.In h ∧ SaysM fs fn ts w K
  of := fun w s e => ⟨He.frG s.heap.get? (reach s.heap.get? xs n), He.frG_in, by
    unfold SaysM
    have e2 : obsMG n xs fs fn ts s.heap.get? = valM fn ts w := e
    unfold obsMG at e2
    rw [frA_eq, frK_eq] at e2
    exact e2⟩
  keeps := fun _ _ _ ⟨K, hK, c⟩ k => ⟨K, PySem.W.Frag.In.keeps hK k, c⟩
theorem obsMG_eq {n : Nat} {xs : List Str} {fs : List (PySem.W.Frag → Bool)} {fn : List He.FnD} {ts : List He.Tab} {g : Addr → Option Obj} {s : Shared} (h : ∀ a, g a = s.heap.get? a) : obsMG n xs fs fn ts g = (hookM n xs fs fn ts).obs s := by
  have e : g = s.heap.get? := funext h
  rw [e] <;> rfl
section
variable {fs : List (PySem.W.Frag → Bool)} {fn : List He.FnD} {ts : List He.Tab} {w : World} {K : PySem.W.Frag}
theorem SaysM.fact (c : SaysM fs fn ts w K) (i : Nat) {f : PySem.W.Frag → Bool} (h : fs[i]? = some f := by rfl) : f K = true := by
  have c1 := (He.ba (show ((fs.all fun f => f K) && fn.all fun d => (He.Fa.code d.at_ d.qual).ok K) = true from congrArg (fun z : AlM => z.1.1) c)).1
  exact List.all_eq_true.mp c1 f (List.mem_of_getElem? h)
theorem SaysM.eq (c : SaysM fs fn ts w K) (i : Nat) {p : PySem.W.Frag → Prop} [D : ∀ K, Decidable (p K)] (h : fs[i]? = some (fun K => decide (p K)) := by rfl) : p K := of_decide_eq_true (c.fact i h)
theorem SaysM.def_ (c : SaysM fs fn ts w K) (i : Nat) {d : He.FnD} (h : fn[i]? = some d := by rfl) :
    ∃ oc od osl kV doc pm an cdv ct, K.lookup (He.fAd K d.at_) = some ⟨oc, od, .func (PySem.W.fnOf d.name d.qual d.params d.body d.scope .none kV doc pm an cdv ct), osl⟩ ∧ PySem.W.codeIn K cdv d.qual = true := by
  have c2 := (He.ba (show ((fs.all fun f => f K) && fn.all fun d => (He.Fa.code d.at_ d.qual).ok K) = true from congrArg (fun z : AlM => z.1.1) c)).2
  have e : fn.map (fun d => He.fnObs K d.at_) = fn.map He.FnD.val := congrArg (fun z : AlM => z.1.2) c
  have e2 : (fn.map fun d => He.fnObs K d.at_)[i]? = (fn.map He.FnD.val)[i]? := by rw [e]
  rw [List.getElem?_map, List.getElem?_map, h] at e2
  exact He.fn_ok (Option.some.inj e2) (List.all_eq_true.mp c2 d (List.mem_of_getElem? h))
theorem SaysM.tab (c : SaysM fs fn ts w K) (i : Nat) {t : He.Tab} (h : ts[i]? = some t := by rfl) : He.dicW K (t.1 K) = some (He.keysIn w.params t.2) := by
  have e : ts.map (fun t => He.dicW K (t.1 K)) = ts.map fun t => some (He.keysIn w.params t.2) := congrArg (fun z : AlM => z.2) c
  have e2 : (ts.map fun t => He.dicW K (t.1 K))[i]? = (ts.map fun t => some (He.keysIn w.params t.2))[i]? := by rw [e]
  rw [List.getElem?_map, List.getElem?_map, h] at e2
  exact Option.some.inj e2
end
/-! ### facts of other forms -/
/-- a class of exceptions, as OexC has it -/
def excB (K : PySem.W.Frag) (C : Addr) : Bool := match K.lookup C with
  | some ⟨.type t, _, .cls c, sl⟩ => decide (t = "type") && ((match c.mro with
    | v :: bm => decide (v = .ref C) && PySem.HandSPX.refsVE bm
    | [] => false) && (c.hasDict && (!c.hasDel && (match sl.toList with
    | [_, _, _, _, some (.builtin n), _] => decide (n = "ValueError.__new__")
    | _ => false))))
  | _ => false
theorem excB_ok {K : PySem.W.Frag} {C : Addr} (h : excB K C = true) : ∃ nm q N bs bm sn sub ab col dd k0 k1 k2 k3 k5, K.lookup C = some (excClassObj nm q C N bs bm true sn sub ab col dd k0 k1 k2 k3 k5 "ValueError.__new__") ∧ PySem.HandSPX.refsVE bm = true := by
  unfold excB at h
  split at h
  · rename_i t dd c sl e
    obtain ⟨h1, h⟩ := He.ba h
    obtain ⟨h2, h⟩ := He.ba h
    obtain ⟨h3, h⟩ := He.ba h
    obtain ⟨h4, h5⟩ := He.ba h
    obtain ⟨c1, c2, c3, c4, c5, c6, c7, c8, c9, c10, c11⟩ := c
    have h1 := of_decide_eq_true h1
    subst h1
    cases c3 with
    | nil => cases h2
    | cons v bm =>
      obtain ⟨a1, a2⟩ := He.ba (show (decide (v = .ref C) && PySem.HandSPX.refsVE bm) = true from h2)
      have a1 := of_decide_eq_true a1
      have h3 : c6 = true := h3
      have h4 : (!c11) = true := h4
      subst a1 h3
      have h4 : c11 = false := by
        cases c11
        · rfl
        · cases h4
      subst h4
      split at h5
      · rename_i k0 k1 k2 k3 n k5 es
        have h5 := of_decide_eq_true h5
        subst h5
        have es2 : sl = #[k0, k1, k2, k3, some (.builtin "ValueError.__new__"), k5] := by
          rw [← es]
        subst es2
        exact ⟨_, _, _, _, _, _, _, _, _, _, _, _, _, _, _, e, a2⟩
      · cases h5
  · cases h
def intB (K : PySem.W.Frag) (a : Addr) (x : Str) (i : Int) : Bool := match PySem.W.nsIn K a x with
  | some (some (.int j _)) => decide (j = i)
  | _ => false
theorem intB_ok {K : PySem.W.Frag} {a : Addr} {x : Str} {i : Int} (h : intB K a x i = true) : ∃ t, PySem.W.nsIn K a x = some (some (.int i t)) := by
  unfold intB at h
  split at h
  · rename_i j t e
    have h := of_decide_eq_true h
    subst h
    exact ⟨t, e⟩
  · cases h
theorem wtup_of {K : PySem.W.Frag} {mg : Str → Option Value} {x : Str} {l : List Str} (hm : mg x = some (.ref (He.ga K x))) (h : He.tupB K x (l.map He.Dv.str) = true) : WTup K mg x l := ⟨He.ga K x, hm, fun H => by
  have := He.tupB_ok h H
  rw [List.map_map] at this
  exact this⟩
theorem wdct_of {K : PySem.W.Frag} {w : World} {mg : Str → Option Value} {x : Str} {d : Addr} {l : List (Str × Int)} (hm : mg x = some (.ref d)) (hd : He.dicW K d = some (He.keysIn w.params (l.map (·.1)))) (hv : ∀ p ∈ l, ∃ t, PySem.W.nsIn K d p.1 = some (some (.int p.2 t))) (nd : (l.map (·.1)).Nodup) : WDct K w mg x l := by
  obtain ⟨es, n, D⟩ := He.dicW_ok hd
  have hs : es.toList.map keyS = (l.map (·.1)).map some := by
    have e : es.toList.map He.keyOf = He.keysIn w.params (l.map (·.1)) := by
      unfold He.dicW at hd
      rw [D.at_] at hd
      dsimp only at hd
      split at hd
      · exact Option.some.inj hd
      · cases hd
    have f : ∀ e : DictEntry, keyS e = (He.keyOf e).map (·.1) := fun e => by
      obtain ⟨h, k, v⟩ := e
      unfold keyS He.keyOf
      cases k <;> rfl
    have e2 : es.toList.map keyS = (es.toList.map He.keyOf).map fun o => o.map (·.1) := by
      rw [List.map_map]
      exact List.map_congr_left fun e _ => f e
    rw [e2, e]
    unfold He.keysIn
    rw [List.map_map, List.map_map, List.map_map]
    rfl
  exact wdct_of2 hm D.at_ D.lit D.low hs hv nd
end FK

namespace K51
open PySem PySem.Spec PyProof.Rows L2 FK
def topS (i : Nat) : Stmt := PySem.Challenge.pw_folk_k51_books_at_a_desk.main.body.getD i (.Pass ⟨0, 0, 0, 0⟩)
structure Txt (P : Program) (w : World) (K : PySem.W.Frag) (mg : Str → Option Value) (base : Heap) : Prop where
  ok : True
  x_NoRow : XInit P w K mg base "NoRow" "row" ["self", "row"]
  xs : Xs K [("NoRow" : Str)]
  ct_NoRow : CatchT K mg [("NoRow" : Str)] "NoRow"
  dnew : DNew P w K mg base 1
  n_all : mg "all" = none
  n_enumerate : mg "enumerate" = none
  n_len : mg "len" = none
  n_list : mg "list" = none
  n_max : mg "max" = none
  n_min : mg "min" = none
  n_reversed : mg "reversed" = none
  n_set : mg "set" = none
  n_sorted : mg "sorted" = none
  g_FIELDS : WTup K mg "FIELDS" [("name" : Str), ("former" : Str), ("way" : Str), ("day" : Str), ("mark" : Str)]
  g_BY_HAND : WTup K mg "BY_HAND" [("same" : Str), ("apart" : Str)]
  g_LETTERS : ∃ t, mg "LETTERS" = some (.str ("abcdefghijklmnopqrstuvwxyz" : Str) t)
  g_NAMES : WDct K w mg "NAMES" [(("book" : Str), 1), (("rules" : Str), 0), (("show" : Str), 1), (("pour" : Str), 4), (("groups" : Str), 1), (("loss" : Str), 1), (("told" : Str), 2)]
section
variable {P : Program} {w : World} {K : PySem.W.Frag} {mg : Str → Option Value} {base : Heap}
abbrev s__law_cell_at : Stmt := topS 97
abbrev n__law_cell_at : List Str := ["_law_script", "_law_k"]
theorem sc__law_cell_at : FnScope n__law_cell_at ["_law_script", "_law_k"] (defScope s__law_cell_at) := ⟨rfl, rfl, rfl, by decide +kernel, rfl, by decide +kernel, by decide +kernel⟩
def m__law_cell_at : Scr × Int × Unit → Option Int := fun (g : Scr × Int × Unit) => (ifM (some (decide (g.2.1 < (g.1.l.length : Int)))) (atI g.1.l g.2.1) (some (0 : Int)))
theorem ok__law_cell_at {f : Addr} {fd : FuncData} (F : Fun K "_law_cell_at" "_law_cell_at" s__law_cell_at f fd) (T : Txt P w K mg base)  : FnOk P w K mg base CX0 1 f fd ["_law_script", "_law_k"] (spV K m__law_cell_at) := by
  refine fn_v F sc__law_cell_at (ar2 K) fun cdv A outer s H R E g hr => jn_sub (Γ' := [.b g.1, .b g.2.1]) sub_rfl ?_
  exact (jn_ifr (jt_lt_t (jb_var 1) (jb_e (je_lenscr_t T.n_len (jb_var 0)))) (jn_ret (je_ixscr_t (jb_var 0) (jb_var 1) (fun _ _ => rfl))) (jn_ret je_int))
abbrev s__law_card : Stmt := topS 98
abbrev n__law_card : List Str := ["_law_cell", "_law_k", "_law_many", "_law_at"]
theorem sc__law_card : FnScope n__law_card ["_law_cell", "_law_k"] (defScope s__law_card) := ⟨rfl, rfl, rfl, by decide +kernel, rfl, by decide +kernel, by decide +kernel⟩
def m__law_card : Int × Int × Unit → Option Str := fun (g : Int × Int × Unit) => (Option.bind (some ((1 : Int) + (g.1 % 12))) fun (many_1 : Int) => (Option.bind (imod (g.1 / 12) many_1) fun (at_2 : Int) => (Option.bind (Option.bind (sMul ("q" : Str) at_2) fun (t3 : Str) => Option.bind (sAt ("abcdefghij" : Str) g.2.1) fun (t4 : Str) => (sAdd t3 t4)) fun (t5 : Str) => Option.bind (sMul ("q" : Str) ((many_1 - (1 : Int)) - at_2)) fun (t6 : Str) => (sAdd t5 t6))))
theorem ok__law_card {f : Addr} {fd : FuncData} (F : Fun K "_law_card" "_law_card" s__law_card f fd) (T : Txt P w K mg base)  : FnOk P w K mg base CX0 1 f fd ["_law_cell", "_law_k"] (spV K m__law_card) := by
  refine fn_v F sc__law_card (ar2 K) fun cdv A outer s H R E g hr => jn_sub (Γ' := [.b g.1, .b g.2.1, .any, .any]) sub_rfl ?_
  exact (jn_c (Γ1 := fun (many_1 : Int) => [.b g.1, .b g.2.1, .v many_1, .any]) (j1_set 2 (fun (many_1 : Int) => [.b g.1, .b g.2.1, .v many_1, .any]) (je_add_t (jb_e je_int) (jb_e (je_modc_t (jb_var 0)))) sc__law_card.nd) (fun many_1 => (jn_c (Γ1 := fun (at_2 : Int) => [.b g.1, .b g.2.1, .v many_1, .v at_2]) (j1_set 3 (fun (at_2 : Int) => [.b g.1, .b g.2.1, .v many_1, .v at_2]) (je_mod_t (jb_e (je_fdivc_t (jb_var 0))) (jb_e (je_var 2))) sc__law_card.nd) (fun at_2 => (jn_ret (je_cat (jb_e (je_cat (jb_e (je_muls_t (jb_e je_str) (jb_e (je_var 3)))) (jb_e (je_ixs_t (jb_e je_str) (jb_var 1) (fun _ _ => rfl))))) (jb_e (je_muls_t (jb_e je_str) (jb_e (je_sub_t (jb_e (je_sub_t (jb_e (je_var 2)) (jb_e je_int))) (jb_e (je_var 3))))))))))))
abbrev s__law_great : Stmt := topS 100
abbrev n__law_great : List Str := ["_law_sign", "_law_at"]
theorem sc__law_great : FnScope n__law_great ["_law_sign"] (defScope s__law_great) := ⟨rfl, rfl, rfl, by decide +kernel, rfl, by decide +kernel, by decide +kernel⟩
def m__law_great : Str × Unit → Option Str := fun (g : Str × Unit) => (Option.bind (some (Txt.find ("abcdefghijklmnopqrstuvwxyz" : Str) g.1)) fun (at_1 : Int) => (ifM (some (decide (at_1 < (0 : Int)))) (some g.1) (sAt ("ABCDEFGHIJKLMNOPQRSTUVWXYZ" : Str) at_1)))
theorem ok__law_great {f : Addr} {fd : FuncData} (F : Fun K "_law_great" "_law_great" s__law_great f fd) (T : Txt P w K mg base)  : FnOk P w K mg base CX0 1 f fd ["_law_sign"] (spV K m__law_great) := by
  refine fn_v F sc__law_great (ar1 K) fun cdv A outer s H R E g hr => jn_sub (Γ' := [.b g.1, .any]) sub_rfl ?_
  exact (jn_c (Γ1 := fun (at_1 : Int) => [.b g.1, .v at_1]) (j1_set 1 (fun (at_1 : Int) => [.b g.1, .v at_1]) (je_find_t (jb_e je_str) (jb_var 0)) sc__law_great.nd) (fun at_1 => (jn_ifr (jt_lt_t (jb_e (je_var 1)) (jb_e je_int)) (jn_ret (je_f (jb_var 0))) (jn_ret (je_ixs_t (jb_e je_str) (jb_e (je_var 1)) (fun _ _ => rfl))))))
abbrev s__law_text : Stmt := topS 99
abbrev n__law_text : List Str := ["_law_shape", "_law_cell", "_law_base", "_law_turned", "_law_sign", "_law_at", "_law_way"]
theorem sc__law_text : FnScope n__law_text ["_law_shape", "_law_cell"] (defScope s__law_text) := ⟨rfl, rfl, rfl, by decide +kernel, rfl, by decide +kernel, by decide +kernel⟩
def b__law_text_1 (g : (Int × Int × Unit)) (s3 : Str) (x4 : Str) : (Option Str) := (Option.bind (some (Txt.find ("abcdefghi" : Str) x4)) fun (at_5 : Int) => (Option.bind (ifM (some (decide ((0 : Int) ≤ at_5))) (Option.bind (sAt ("abcdefghijklmnopqrstuvwxyz" : Str) ((at_5 + (g.1 / 144)) % 26)) fun (sign_7 : Str) => (some sign_7)) (some x4)) fun (s6 : Str) => (Option.bind (sAdd s3 s6) fun (turned_8 : Str) => (some turned_8))))
def m__law_text : Int × Int × Unit → Option Str := fun (g : Int × Int × Unit) => (Option.bind (atI [("a" : Str), ("be" : Str), ("cab" : Str), ("dea fic" : Str)] (g.2.1 % 4)) fun (base_1 : Str) => (Option.bind (some ("" : Str)) fun (turned_2 : Str) => (Option.bind (Option.bind (some (sgn base_1)) fun (xs9 : List Str) => forS (S := Str) (b__law_text_1 g) xs9 turned_2) fun (s10 : Str) => (Option.bind (some ((g.2.1 / 4) % 8)) fun (way_11 : Int) => (ifM (some (decide (way_11 = (1 : Int)))) (Option.bind (some ("" : Str)) fun (t14 : Str) => Option.bind (Option.bind (some (sgn s10)) fun (xs13 : List Str) => lcG (fun (x12 : Str) => (some true)) (fun (x12 : Str) => (m__law_great (x12, ()))) xs13) fun (t15 : (List Str)) => (sJoin t14 t15)) (ifM (some (decide (way_11 = (2 : Int)))) (sAdd s10 ("." : Str)) (ifM (some (decide (way_11 = (3 : Int)))) (Option.bind (some ("#" : Str)) fun (t16 : Str) => Option.bind (sCut s10 (some (1 : Int)) none) fun (t17 : Str) => (sAdd t16 t17)) (ifM (some (decide (way_11 = (4 : Int)))) (sAdd s10 (" (x)" : Str)) (ifM (some (decide (way_11 = (5 : Int)))) (Option.bind (Option.bind (some s10) fun (t18 : Str) => sRepl t18 (" " : Str) ("   " : Str)) fun (t19 : Str) => Option.bind (some (" y" : Str)) fun (t20 : Str) => sAdd t19 t20) (ifM (some (decide (way_11 = (6 : Int)))) (Option.bind (Option.bind (Option.bind (sAt s10 (0 : Int)) fun (t21 : Str) => Option.bind (some ()) fun (t22 : Unit) => some (t21, t22)) m__law_great) fun (t23 : Str) => Option.bind (sCut s10 (some (1 : Int)) none) fun (t24 : Str) => (sAdd t23 t24)) (some s10)))))))))))
theorem ok__law_text {f : Addr} {fd : FuncData} (F : Fun K "_law_text" "_law_text" s__law_text f fd) (T : Txt P w K mg base) (c__law_great : Cal P w K mg base CX0 1 "_law_great" ["_law_sign"] (spV K m__law_great)) : FnOk P w K mg base CX0 2 f fd ["_law_shape", "_law_cell"] (spV K m__law_text) := by
  refine fn_v F sc__law_text (ar2 K) fun cdv A outer s H R E g hr => jn_sub (Γ' := [.b g.1, .b g.2.1, .any, .any, .any, .any, .any]) sub_rfl ?_
  exact (jn_c (Γ1 := fun (base_1 : Str) => [.b g.1, .b g.2.1, .v base_1, .any, .any, .any, .any]) (j1_set 2 (fun (base_1 : Str) => [.b g.1, .b g.2.1, .v base_1, .any, .any, .any, .any]) (je_ixl_t (jb_o (jo_lst (ll_cons_t je_str (ll_cons_t je_str (ll_cons_t je_str (ll_cons_t je_str ll_nil)))))) (jb_e (je_modc_t (jb_var 1))) (fun _ _ => rfl)) sc__law_text.nd) (fun base_1 => (jn_strc 3 (fun (turned_2 : Str) => [.b g.1, .b g.2.1, .v base_1, .v turned_2, .any, .any, .any]) sc__law_text.nd (fun turned_2 => (jnt_c (Γ1 := fun (s10 : Str) => [.b g.1, .b g.2.1, .v base_1, .v s10, .any, .any, .any]) (j1_for (S := Str) turned_2 (fun (s3 : Str) => [.b g.1, .b g.2.1, .v base_1, .v s3, .any, .any, .any]) (fun (s3 : Str) (x4 : Str) => [.b g.1, .b g.2.1, .v base_1, .v s3, .v x4, .any, .any]) PassesOwn.never rfl sub_rfl (ji_str_t (je_var 2)) (fun s3 => jg_name 4 sc__law_text.nd) (fun s3 x4 => (js_c (Γ1 := fun (at_5 : Int) => [.b g.1, .b g.2.1, .v base_1, .v s3, .v x4, .v at_5, .any]) (j1_set 5 (fun (at_5 : Int) => [.b g.1, .b g.2.1, .v base_1, .v s3, .v x4, .v at_5, .any]) (je_find_t (jb_e je_str) (jb_e (je_var 4))) sc__law_text.nd) (fun at_5 => (js_c (Γ1 := fun (s6 : Str) => [.b g.1, .b g.2.1, .v base_1, .v s3, .v s6, .v at_5, .any]) (j1_if (jt_ge_t (jb_e (je_var 5)) (jb_e je_int)) (js_c (Γ1 := fun (sign_7 : Str) => [.b g.1, .b g.2.1, .v base_1, .v s3, .v sign_7, .v at_5, .any]) (j1_set 4 (fun (sign_7 : Str) => [.b g.1, .b g.2.1, .v base_1, .v s3, .v sign_7, .v at_5, .any]) (je_ixs_t (jb_e je_str) (jb_e (je_modc_t (jb_e (je_add_t (jb_e (je_var 5)) (jb_e (je_fdivc_t (jb_var 0))))))) (fun _ _ => rfl)) sc__law_text.nd) (fun sign_7 => (js_nil sub_rfl))) (js_nil sub_rfl)) (fun s6 => (js_c (Γ1 := fun (turned_8 : Str) => [.b g.1, .b g.2.1, .v base_1, .v turned_8, .v s6, .v at_5, .any]) (j1_set 3 (fun (turned_8 : Str) => [.b g.1, .b g.2.1, .v base_1, .v turned_8, .v s6, .v at_5, .any]) (je_cat_t (jb_e (je_var 3)) (jb_e (je_var 4))) sc__law_text.nd) (fun turned_8 => (js_nil (sub_drop 4 (h := (sub_drop 5 (h := sub_rfl))))))))))))) (fun s10 => (jnt_c (Γ1 := fun (way_11 : Int) => [.b g.1, .b g.2.1, .v base_1, .v s10, .any, .any, .v way_11]) (j1_set 6 (fun (way_11 : Int) => [.b g.1, .b g.2.1, .v base_1, .v s10, .any, .any, .v way_11]) (je_modc_t (jb_e (je_fdivc_t (jb_var 1)))) sc__law_text.nd) (fun way_11 => (jnt_ifr (jt_eq_t (jb_e (je_var 6)) (jb_e je_int)) (jnt_of (jn_ret (je_join (jb_e je_str) (jb_o (jo_lc (own := [("_law_sign", 4)]) (ts := [4]) [.b g.1, .b g.2.1, .v base_1, .v s10, .any, .any, .v way_11] (fun (x12 : Str) => [.b g.1, .b g.2.1, .v base_1, .v s10, .v x12, .any, .v way_11]) rfl sc__law_text.nd (ji_str_t (je_var 3)) (blkOk_by (N := n__law_text) (sc := defScope s__law_text) (by decide +kernel)) rfl (fun q => jg_name 4 sc__law_text.nd) (fun q x12 => jts_nil) (fun q x12 => (je_call_t c__law_great (hr.mono (by decide)) (ja_cons_t (jb_e (je_var 4)) ja_nil)))))))) (jnt_ifr (jt_eq_t (jb_e (je_var 6)) (jb_e je_int)) (jnt_of (jn_ret (je_cat_t (jb_e (je_var 3)) (jb_e je_str)))) (jnt_ifr (jt_eq_t (jb_e (je_var 6)) (jb_e je_int)) (jnt_of (jn_ret (je_cat (jb_e je_str) (jb_e (je_cuts_t (jb_e (je_var 3)) (jp_some_t (jb_e je_int)) jp_none))))) (jnt_ifr (jt_eq_t (jb_e (je_var 6)) (jb_e je_int)) (jnt_of (jn_ret (je_cat_t (jb_e (je_var 3)) (jb_e je_str)))) (jnt_ifr (jt_eq_t (jb_e (je_var 6)) (jb_e je_int)) (jnt_ret (jet_cat (mb := (some (" y" : Str))) (jet_repl (mo := (some s10)) (jb_e (je_var 3))) (jb_e je_str))) (jnt_of (jn_ifr (jt_eq_t (jb_e (je_var 6)) (jb_e je_int)) (jn_ret (je_cat (jb_e (je_call c__law_great (hr.mono (by decide)) (ja_cons (jb_e (je_ixs_t (jb_e (je_var 3)) (jb_e je_int) (fun _ _ => rfl))) ja_nil))) (jb_e (je_cuts_t (jb_e (je_var 3)) (jp_some_t (jb_e je_int)) jp_none)))) (jn_ret (je_var 3)))))))))))))))))
abbrev s__law_fact : Stmt := topS 101
abbrev n__law_fact : List Str := ["_law_shape", "_law_many", "_law_cell", "_law_i", "_law_way", "_law_j", "_law_field"]
theorem sc__law_fact : FnScope n__law_fact ["_law_shape", "_law_many", "_law_cell"] (defScope s__law_fact) := ⟨rfl, rfl, rfl, by decide +kernel, rfl, by decide +kernel, by decide +kernel⟩
def m__law_fact : Int × Int × Int × Unit → Option (T3 Str Str Str) := fun (g : Int × Int × Int × Unit) => (Option.bind (imod g.2.2.1 g.2.1) fun (i_1 : Int) => (Option.bind (some ((g.2.2.1 / 10) % 8)) fun (way_2 : Int) => (ifM (bAnd (some (decide ((5 : Int) < way_2))) (some (decide ((1 : Int) < g.2.1)))) (Option.bind (Option.bind (Option.bind (some (i_1 + (1 : Int))) fun (t4 : Int) => Option.bind (imod (g.2.2.1 / 80) (g.2.1 - (1 : Int))) fun (t5 : Int) => some (t4 + t5)) fun (t6 : Int) => Option.bind (some g.2.1) fun (t7 : Int) => (imod t6 t7)) fun (j_3 : Int) => (Option.bind (atI [("same" : Str), ("apart" : Str)] ((g.2.2.1 / 800) % 2)) fun (field_8 : Str) => (Option.bind (m__law_card (g.1, ((imin2 i_1 j_3), ()))) fun (t9 : Str) => Option.bind (some field_8) fun (t10 : Str) => Option.bind (m__law_card (g.1, ((imax2 i_1 j_3), ()))) fun (t11 : Str) => some (⟨t9, t10, t11⟩ : (T3 Str Str Str))))) (Option.bind (atI [("name" : Str), ("former" : Str), ("way" : Str), ("day" : Str), ("mark" : Str), ("name" : Str)] (way_2 % 6)) fun (field_12 : Str) => (Option.bind (m__law_card (g.1, (i_1, ()))) fun (t13 : Str) => Option.bind (some field_12) fun (t14 : Str) => Option.bind (m__law_text (g.1, ((g.2.2.1 / 80), ()))) fun (t15 : Str) => some (⟨t13, t14, t15⟩ : (T3 Str Str Str)))))))
theorem ok__law_fact {f : Addr} {fd : FuncData} (F : Fun K "_law_fact" "_law_fact" s__law_fact f fd) (T : Txt P w K mg base) (c__law_card : Cal P w K mg base CX0 1 "_law_card" ["_law_cell", "_law_k"] (spV K m__law_card)) (c__law_text : Cal P w K mg base CX0 2 "_law_text" ["_law_shape", "_law_cell"] (spV K m__law_text)) : FnOk P w K mg base CX0 3 f fd ["_law_shape", "_law_many", "_law_cell"] (spV K m__law_fact) := by
  refine fn_v F sc__law_fact (ar3 K) fun cdv A outer s H R E g hr => jn_sub (Γ' := [.b g.1, .b g.2.1, .b g.2.2.1, .any, .any, .any, .any]) sub_rfl ?_
  exact (jn_c (Γ1 := fun (i_1 : Int) => [.b g.1, .b g.2.1, .b g.2.2.1, .v i_1, .any, .any, .any]) (j1_set 3 (fun (i_1 : Int) => [.b g.1, .b g.2.1, .b g.2.2.1, .v i_1, .any, .any, .any]) (je_mod_t (jb_var 2) (jb_var 1)) sc__law_fact.nd) (fun i_1 => (jn_c (Γ1 := fun (way_2 : Int) => [.b g.1, .b g.2.1, .b g.2.2.1, .v i_1, .v way_2, .any, .any]) (j1_set 4 (fun (way_2 : Int) => [.b g.1, .b g.2.1, .b g.2.2.1, .v i_1, .v way_2, .any, .any]) (je_modc_t (jb_e (je_fdivc_t (jb_var 2)))) sc__law_fact.nd) (fun way_2 => (jn_ifr (jt_w (jw_and (jt_gt_t (jb_e (je_var 4)) (jb_e je_int)) (jw_and1 (jt_gt_t (jb_var 1) (jb_e je_int))))) (jn_c (Γ1 := fun (j_3 : Int) => [.b g.1, .b g.2.1, .b g.2.2.1, .v i_1, .v way_2, .v j_3, .any]) (j1_set 5 (fun (j_3 : Int) => [.b g.1, .b g.2.1, .b g.2.2.1, .v i_1, .v way_2, .v j_3, .any]) (je_mod (jb_e (je_add (jb_e (je_add_t (jb_e (je_var 3)) (jb_e je_int))) (jb_e (je_mod_t (jb_e (je_fdivc_t (jb_var 2))) (jb_e (je_sub_t (jb_var 1) (jb_e je_int))))))) (jb_var 1)) sc__law_fact.nd) (fun j_3 => (jn_c (Γ1 := fun (field_8 : Str) => [.b g.1, .b g.2.1, .b g.2.2.1, .v i_1, .v way_2, .v j_3, .v field_8]) (j1_set 6 (fun (field_8 : Str) => [.b g.1, .b g.2.1, .b g.2.2.1, .v i_1, .v way_2, .v j_3, .v field_8]) (je_ixl_t (jb_o (jo_lst (ll_cons_t je_str (ll_cons_t je_str ll_nil)))) (jb_e (je_modc_t (jb_e (je_fdivc_t (jb_var 2))))) (fun _ _ => rfl)) sc__law_fact.nd) (fun field_8 => (jn_ret (je_tup3 (je_call_t c__law_card (hr.mono (by decide)) (ja_cons_t (jb_var 0) (ja_cons_t (jb_e (je_min2_t T.n_min (jb_e (je_var 3)) (jb_e (je_var 5)))) ja_nil))) (je_var 6) (je_call_t c__law_card (hr.mono (by decide)) (ja_cons_t (jb_var 0) (ja_cons_t (jb_e (je_max2_t T.n_max (jb_e (je_var 3)) (jb_e (je_var 5)))) ja_nil))))))))) (jn_c (Γ1 := fun (field_12 : Str) => [.b g.1, .b g.2.1, .b g.2.2.1, .v i_1, .v way_2, .any, .v field_12]) (j1_set 6 (fun (field_12 : Str) => [.b g.1, .b g.2.1, .b g.2.2.1, .v i_1, .v way_2, .any, .v field_12]) (je_ixl_t (jb_o (jo_lst (ll_cons_t je_str (ll_cons_t je_str (ll_cons_t je_str (ll_cons_t je_str (ll_cons_t je_str (ll_cons_t je_str ll_nil)))))))) (jb_e (je_modc_t (jb_e (je_var 4)))) (fun _ _ => rfl)) sc__law_fact.nd) (fun field_12 => (jn_ret (je_tup3 (je_call_t c__law_card (hr.mono (by decide)) (ja_cons_t (jb_var 0) (ja_cons_t (jb_e (je_var 3)) ja_nil))) (je_var 6) (je_call_t c__law_text (hr.mono (by decide)) (ja_cons_t (jb_var 0) (ja_cons_t (jb_e (je_fdivc_t (jb_var 2))) ja_nil))))))))))))
abbrev s_is_card : Stmt := topS 52
abbrev n_is_card : List Str := ["word", "letter"]
theorem sc_is_card : FnScope n_is_card ["word"] (defScope s_is_card) := ⟨rfl, rfl, rfl, by decide +kernel, rfl, by decide +kernel, by decide +kernel⟩
def m_is_card : Str × Unit → Option Bool := fun (g : Str × Unit) => (bAnd (Option.bind (some (1 : Int)) fun (t1 : Int) => Option.bind (sLen g.1) fun (t2 : Int) => if (decide (t1 ≤ t2)) = true then Option.bind (some (12 : Int)) fun (t3 : Int) => some (decide (t2 ≤ t3)) else some false) (Option.bind (Option.bind (some (sgn g.1)) fun (xs5 : List Str) => lcG (fun (x4 : Str) => (some true)) (fun (x4 : Str) => (some (sIn x4 ("abcdefghijklmnopqrstuvwxyz" : Str)))) xs5) fun (t6 : (List Bool)) => some (t6.all id)))
theorem ok_is_card {f : Addr} {fd : FuncData} (F : Fun K "is_card" "is_card" s_is_card f fd) (T : Txt P w K mg base)  : FnOk P w K mg base CX0 1 f fd ["word"] (spV K m_is_card) := by
  refine fn_v F sc_is_card (ar1 K) fun cdv A outer s H R E g hr => jn_sub (Γ' := [.b g.1, .any]) sub_rfl ?_
  exact (jn_ret (je_and (jb_e (je_chlele (jb_e je_int) (jb_e (je_lens_t T.n_len (jb_var 0))) (jb_e je_int))) (je_one (jb_e (je_all T.n_all (jb_o (jo_lc (own := [("letter", 1)]) (ts := [1]) [.b g.1, .any] (fun (x4 : Str) => [.b g.1, .v x4]) rfl sc_is_card.nd (ji_str_t (je_f (jb_var 0))) (blkOk_by (N := n_is_card) (sc := defScope s_is_card) (by decide +kernel)) rfl (fun q => jg_name 1 sc_is_card.nd) (fun q x4 => jts_nil) (fun q x4 => (je_ins_t (jb_e (je_var 1)) (jb_e (je_glob T.g_LETTERS.choose_spec)))))))))))
abbrev s_order_of : Stmt := topS 88
abbrev n_order_of : List Str := ["row", "words", "names", "fits", "name"]
theorem sc_order_of : FnScope n_order_of ["row"] (defScope s_order_of) := ⟨rfl, rfl, rfl, by decide +kernel, rfl, by decide +kernel, by decide +kernel⟩
def m_order_of : Str × Unit → Option (List Str) := fun (g : Str × Unit) => (Option.bind (sSplit g.1 (" " : Str)) fun (words_1 : (List Str)) => (Option.bind (some (cutA words_1 (some (1 : Int)) none)) fun (names_2 : (List Str)) => (Option.bind (ifM (Option.bind (atI words_1 (0 : Int)) fun (t3 : Str) => Option.bind (some (⟨[("hold" : Str), ("part" : Str), ("free" : Str)]⟩ : (Tl Str))) fun (t4 : (Tl Str)) => some (decide (t3 ∈ t4.l))) (Option.bind (some (decide ((names_2.length : Int) = (3 : Int)))) fun (fits_6 : Bool) => (some (fits_6, names_2))) (ifM (Option.bind (atI words_1 (0 : Int)) fun (t7 : Str) => Option.bind (some ("right" : Str)) fun (t8 : Str) => some (decide (t7 = t8))) (Option.bind (bAnd (some (decide ((names_2.length : Int) = (3 : Int)))) (Option.bind (atI names_2 (2 : Int)) fun (t10 : Str) => Option.bind (some (⟨[("name" : Str), ("former" : Str), ("way" : Str), ("day" : Str), ("mark" : Str)]⟩ : Tl Str)) fun (t11 : (Tl Str)) => some (decide (t10 ∈ t11.l)))) fun (fits_9 : Bool) => (Option.bind (some (cutA names_2 none (some (2 : Int)))) fun (names_12 : (List Str)) => (some (fits_9, names_12)))) (Option.bind (Option.bind (Option.bind (atI words_1 (0 : Int)) fun (t14 : Str) => some (dIn [(("book" : Str), 1), (("rules" : Str), 0), (("show" : Str), 1), (("pour" : Str), 4), (("groups" : Str), 1), (("loss" : Str), 1), (("told" : Str), 2)] t14)) fun (t15 : (Option Int)) => Option.bind (some (names_2.length : Int)) fun (t16 : Int) => some (decide (t15 = some t16))) fun (fits_13 : Bool) => (some (fits_13, names_2))))) fun (s5 : (Bool × (List Str))) => (ifM (bOr (some (!s5.1)) (Option.bind (Option.bind (Option.bind (some s5.2) fun (xs18 : List Str) => lcG (fun (x17 : Str) => (some true)) (fun (x17 : Str) => (m_is_card (x17, ()))) xs18) fun (t19 : (List Bool)) => some (t19.all id)) fun (t20 : Bool) => some (!t20))) (none : Option (List Str)) (some words_1)))))
theorem ok_order_of {f : Addr} {fd : FuncData} (F : Fun K "order_of" "order_of" s_order_of f fd) (T : Txt P w K mg base) (c_is_card : Cal P w K mg base CX0 1 "is_card" ["word"] (spV K m_is_card)) : FnOk P w K mg base CX0 3 f fd ["row"] (spO K m_order_of) := by
  refine fn_o F sc_order_of (ar1 K) fun cdv A outer s H R E g hr => jn_sub (Γ' := [.b g.1, .any, .any, .any, .any]) sub_rfl ?_
  exact (jn_c (Γ1 := fun (words_1 : (List Str)) => [.b g.1, .own words_1, .any, .any, .any]) (j1_seto 1 (fun (words_1 : (List Str)) => [.b g.1, .own words_1, .any, .any, .any]) (jo_split_t (jb_var 0) (jb_e je_str)) sc_order_of.nd) (fun words_1 => (jn_c (Γ1 := fun (names_2 : (List Str)) => [.b g.1, .own words_1, .own names_2, .any, .any]) (j1_seto 2 (fun (names_2 : (List Str)) => [.b g.1, .own words_1, .own names_2, .any, .any]) (jo_cutl_t (jb_own 1) (jp_some_t (jb_e je_int)) jp_none) sc_order_of.nd) (fun names_2 => (jn_c (Γ1 := fun (s5 : (Bool × (List Str))) => [.b g.1, .own words_1, .own s5.2, .v s5.1, .any]) (j1_if (jt_inu hr.units (jb_e (je_ixl_t (jb_own 1) (jb_e je_int) (fun _ _ => rfl))) (jb_e (je_tl_t (ll_cons_t je_str (ll_cons_t je_str (ll_cons_t je_str ll_nil)))))) (js_c (Γ1 := fun (fits_6 : Bool) => [.b g.1, .own words_1, .own names_2, .v fits_6, .any]) (j1_set 3 (fun (fits_6 : Bool) => [.b g.1, .own words_1, .own names_2, .v fits_6, .any]) (je_eq_t (jb_e (je_lenl_t T.n_len (jb_own 2))) (jb_e je_int)) sc_order_of.nd) (fun fits_6 => (js_nil sub_rfl))) (js_last (j1_if (jt_eq (jb_e (je_ixl_t (jb_own 1) (jb_e je_int) (fun _ _ => rfl))) (jb_e je_str)) (js_c (Γ1 := fun (fits_9 : Bool) => [.b g.1, .own words_1, .own names_2, .v fits_9, .any]) (j1_set 3 (fun (fits_9 : Bool) => [.b g.1, .own words_1, .own names_2, .v fits_9, .any]) (je_and (jb_e (je_eq_t (jb_e (je_lenl_t T.n_len (jb_own 2))) (jb_e je_int))) (je_one (jb_e (je_inu hr.units (jb_e (je_ixl_t (jb_own 2) (jb_e je_int) (fun _ _ => rfl))) (jb_e (je_wtup T.g_FIELDS)))))) sc_order_of.nd) (fun fits_9 => (js_c (Γ1 := fun (names_12 : (List Str)) => [.b g.1, .own words_1, .own names_12, .v fits_9, .any]) (j1_seto 2 (fun (names_12 : (List Str)) => [.b g.1, .own words_1, .own names_12, .v fits_9, .any]) (jo_cutl_t (jb_own 2) jp_none (jp_some_t (jb_e je_int))) sc_order_of.nd) (fun names_12 => (js_nil sub_rfl))))) (js_c (Γ1 := fun (fits_13 : Bool) => [.b g.1, .own words_1, .own names_2, .v fits_13, .any]) (j1_set 3 (fun (fits_13 : Bool) => [.b g.1, .own words_1, .own names_2, .v fits_13, .any]) (je_eqoi (jb_e (je_kget T.g_NAMES (jb_e (je_ixl_t (jb_own 1) (jb_e je_int) (fun _ _ => rfl))))) (jb_e (je_lenl_t T.n_len (jb_own 2)))) sc_order_of.nd) (fun fits_13 => (js_nil sub_rfl)))))) (fun s5 => (jn_ifr (jt_w (jw_or (jt_not_t (jt_e (jb_e (je_var 3)))) (jw_or1 (jt_not (jt_melto 2 (jt_e (jb_e (je_all T.n_all (jb_o (jo_lc (own := [("name", 4)]) (ts := [4]) [.b g.1, .own words_1, .v s5.2, .v s5.1, .any] (fun (x17 : Str) => [.b g.1, .own words_1, .v s5.2, .v s5.1, .v x17]) rfl sc_order_of.nd (ji_list (je_var 2)) (blkOk_by (N := n_order_of) (sc := defScope s_order_of) (by decide +kernel)) rfl (fun q => jg_name 4 sc_order_of.nd) (fun q x17 => jts_nil) (fun q x17 => (je_call_t c_is_card (hr.mono (by decide)) (ja_cons_t (jb_e (je_var 4)) ja_nil))))))))))))) jn_never (jn_retv 1))))))))
abbrev s_is_passed_by : Stmt := topS 54
abbrev n_is_passed_by : List Str := ["row"]
theorem sc_is_passed_by : FnScope n_is_passed_by ["row"] (defScope s_is_passed_by) := ⟨rfl, rfl, rfl, by decide +kernel, rfl, by decide +kernel, by decide +kernel⟩
def m_is_passed_by : Str × Unit → Option Bool := fun (g : Str × Unit) => (bOr (Option.bind (sStrip g.1 (" " : Str)) fun (t1 : Str) => Option.bind (some ("" : Str)) fun (t2 : Str) => some (decide (t1 = t2))) (some (Txt.startswith g.1 ("#" : Str))))
theorem ok_is_passed_by {f : Addr} {fd : FuncData} (F : Fun K "is_passed_by" "is_passed_by" s_is_passed_by f fd) (T : Txt P w K mg base)  : FnOk P w K mg base CX0 1 f fd ["row"] (spV K m_is_passed_by) := by
  refine fn_v F sc_is_passed_by (ar1 K) fun cdv A outer s H R E g hr => jn_sub (Γ' := [.b g.1]) sub_rfl ?_
  exact (jn_ret (je_or (jb_e (je_eq (jb_e (je_strip_t (jb_var 0) (jb_e je_str))) (jb_e je_str))) (je_one (jb_e (je_startswith_t (jb_var 0) (jb_e je_str))))))
abbrev s_is_text : Stmt := topS 53
abbrev n_is_text : List Str := ["text"]
theorem sc_is_text : FnScope n_is_text ["text"] (defScope s_is_text) := ⟨rfl, rfl, rfl, by decide +kernel, rfl, by decide +kernel, by decide +kernel⟩
def m_is_text : Str × Unit → Option Bool := fun (g : Str × Unit) => (bAnd (Option.bind (some (1 : Int)) fun (t1 : Int) => Option.bind (sLen g.1) fun (t2 : Int) => if (decide (t1 ≤ t2)) = true then Option.bind (some (40 : Int)) fun (t3 : Int) => some (decide (t2 ≤ t3)) else some false) (bAnd (Option.bind (sAt g.1 (0 : Int)) fun (t4 : Str) => Option.bind (some (" " : Str)) fun (t5 : Str) => some (!decide (t4 = t5))) (Option.bind (sAt g.1 (-(1 : Int))) fun (t6 : Str) => Option.bind (some (" " : Str)) fun (t7 : Str) => some (!decide (t6 = t7)))))
theorem ok_is_text {f : Addr} {fd : FuncData} (F : Fun K "is_text" "is_text" s_is_text f fd) (T : Txt P w K mg base)  : FnOk P w K mg base CX0 1 f fd ["text"] (spV K m_is_text) := by
  refine fn_v F sc_is_text (ar1 K) fun cdv A outer s H R E g hr => jn_sub (Γ' := [.b g.1]) sub_rfl ?_
  exact (jn_ret (je_and (jb_e (je_chlele (jb_e je_int) (jb_e (je_lens_t T.n_len (jb_var 0))) (jb_e je_int))) (je_and (jb_e (je_ne (jb_e (je_ixs_t (jb_var 0) (jb_e je_int) (fun _ _ => rfl))) (jb_e je_str))) (je_one (jb_e (je_ne (jb_e (je_ixs_t (jb_var 0) (jb_e (je_neg_t (jb_e je_int))) (fun _ _ => rfl))) (jb_e je_str)))))))
abbrev s_fact_of : Stmt := topS 55
abbrev n_fact_of : List Str := ["row", "card", "blank", "rest", "field", "other", "text"]
theorem sc_fact_of : FnScope n_fact_of ["row"] (defScope s_fact_of) := ⟨rfl, rfl, rfl, by decide +kernel, rfl, by decide +kernel, by decide +kernel⟩
def m_fact_of : Str × Unit → Option (Rs (T3 Str Str Str)) := fun (g : Str × Unit) => (Option.bind (sPart g.1 (" " : Str)) fun (p1 : (T3 Str Str Str)) => (Option.bind (sPart p1.c (" " : Str)) fun (p5 : (T3 Str Str Str)) => (ifM (Option.bind (m_is_card (p1.a, ())) fun (t9 : Bool) => some (!t9)) (Option.bind (Option.bind (some (1 : Int)) fun (t10 : Int) => some (⟨("NoRow" : Str), Pd.pl ("row" : Str) t10⟩ : Xv)) fun (t11 : Xv) => some (Rs.ex t11 : (Rs (T3 Str Str Str)))) (ifM (bAnd (some (decide (p5.a ∈ (⟨[("name" : Str), ("former" : Str), ("way" : Str), ("day" : Str), ("mark" : Str)]⟩ : Tl Str).l))) (m_is_text (p5.c, ()))) (some (Rs.ok (⟨p1.a, p5.a, p5.c⟩ : (T3 Str Str Str)))) (ifM (bAnd (some (decide (p5.a ∈ (⟨[("same" : Str), ("apart" : Str)]⟩ : Tl Str).l))) (bAnd (m_is_card (p5.c, ())) (some (!decide (p5.c = p1.a))))) (some (Rs.ok (⟨(smin p1.a p5.c), p5.a, (smax p1.a p5.c)⟩ : (T3 Str Str Str)))) (Option.bind (Option.bind (some (1 : Int)) fun (t14 : Int) => some (⟨("NoRow" : Str), Pd.pl ("row" : Str) t14⟩ : Xv)) fun (t15 : Xv) => some (Rs.ex t15 : (Rs (T3 Str Str Str)))))))))
theorem ok_fact_of {f : Addr} {fd : FuncData} (F : Fun K "fact_of" "fact_of" s_fact_of f fd) (T : Txt P w K mg base) (c_is_card : Cal P w K mg base CX0 1 "is_card" ["word"] (spV K m_is_card)) (c_is_text : Cal P w K mg base CX0 1 "is_text" ["text"] (spV K m_is_text)) : FnOk P w K mg base (L2.CX P w) 3 f fd ["row"] (spX K m_fact_of) := by
  refine fn_x F sc_fact_of (ar1 K) fun cdv A outer s H R E g hr => jn_sub (Γ' := [.b g.1, .any, .any, .any, .any, .any, .any]) sub_rfl ?_
  exact (jn_c (Γ1 := fun (p1 : (T3 Str Str Str)) => [.b g.1, .v p1.a, .v p1.b, .v p1.c, .any, .any, .any]) (j1_asg (je_part_t (jb_var 0) (jb_e je_str)) (jg_3 (u1 := fun (u2 : Str) => [.b g.1, .v u2, .any, .any, .any, .any, .any]) (u2 := fun (u2 : Str) (u3 : Str) => [.b g.1, .v u2, .v u3, .any, .any, .any, .any]) rfl (jg_name 1 sc_fact_of.nd) (fun u2 => jg_name 2 sc_fact_of.nd) (fun u2 u3 => jg_name 3 sc_fact_of.nd))) (fun p1 => (jn_c (Γ1 := fun (p5 : (T3 Str Str Str)) => [.b g.1, .v p1.a, .v p1.b, .v p1.c, .v p5.a, .v p5.b, .v p5.c]) (j1_asg (je_part_t (jb_e (je_var 3)) (jb_e je_str)) (jg_3 (u1 := fun (u6 : Str) => [.b g.1, .v p1.a, .v p1.b, .v p1.c, .v u6, .any, .any]) (u2 := fun (u6 : Str) (u7 : Str) => [.b g.1, .v p1.a, .v p1.b, .v p1.c, .v u6, .v u7, .any]) rfl (jg_name 4 sc_fact_of.nd) (fun u6 => jg_name 5 sc_fact_of.nd) (fun u6 u7 => jg_name 6 sc_fact_of.nd))) (fun p5 => (jn_ifr (jt_not (jt_e (jb_e (je_call_t c_is_card (hr.mono (by decide)) (ja_cons_t (jb_e (je_var 1)) ja_nil))))) (jn_map (out' := outR) Rs.ex (jn_raise (out := fun x => .ex x) (jm_init (m := some (1 : Int)) T.x_NoRow (hr.mono (by decide)) je_int))) (jn_ifr (jt_w (jw_and (jt_inu_t hr.units (jb_e (je_var 4)) (jb_e (je_wtup T.g_FIELDS))) (jw_and1 (jt_e (jb_e (je_call_t c_is_text (hr.mono (by decide)) (ja_cons_t (jb_e (je_var 6)) ja_nil))))))) (jn_map_t (out' := outR) Rs.ok (jn_ret (je_tup3_t (je_var 1) (je_var 4) (je_var 6)))) (jn_ifr (jt_w (jw_and (jt_inu_t hr.units (jb_e (je_var 4)) (jb_e (je_wtup T.g_BY_HAND))) (jw_and (jt_e (jb_e (je_call_t c_is_card (hr.mono (by decide)) (ja_cons_t (jb_e (je_var 6)) ja_nil)))) (jw_and1 (jt_ne_t (jb_e (je_var 6)) (jb_e (je_var 1))))))) (jn_map_t (out' := outR) Rs.ok (jn_ret (je_tup3_t (je_mins_t T.n_min (jb_e (je_var 1)) (jb_e (je_var 6))) (je_var 4) (je_maxs_t T.n_max (jb_e (je_var 1)) (jb_e (je_var 6)))))) (jn_map (out' := outR) Rs.ex (jn_raise (out := fun x => .ex x) (jm_init (m := some (1 : Int)) T.x_NoRow (hr.mono (by decide)) je_int))))))))))
abbrev s_fact_at : Stmt := topS 56
abbrev n_fact_at : List Str := ["row", "number"]
theorem sc_fact_at : FnScope n_fact_at ["row", "number"] (defScope s_fact_at) := ⟨rfl, rfl, rfl, by decide +kernel, rfl, by decide +kernel, by decide +kernel⟩
def m_fact_at : Str × Int × Unit → Option (T3 Str Str Str) := fun (g : Str × Int × Unit) => (Option.bind (m_fact_of (g.1, ())) rsO)
theorem ok_fact_at {f : Addr} {fd : FuncData} (F : Fun K "fact_at" "fact_at" s_fact_at f fd) (T : Txt P w K mg base) (c_fact_of : Cal P w K mg base (L2.CX P w) 3 "fact_of" ["row"] (spX K m_fact_of)) : FnOk P w K mg base CX0 4 f fd ["row", "number"] (spV K m_fact_at) := by
  refine fn_v F sc_fact_at (ar2 K) fun cdv A outer s H R E g hr => jn_sub (Γ' := [.b g.1, .b g.2.1]) sub_rfl ?_
  exact (jn_1 (j1_try0 (m := (Option.bind (m_fact_of (g.1, ())) rsO)) (out := fun a => .rt a) ⟨T.ct_NoRow.choose, T.ct_NoRow.choose_spec.1⟩ (fun pn xe => js_n (jn_ret (je_rs (jx_call_t c_fact_of (hr.mono (by decide)) (ja_cons_t (jb_var 0) ja_nil))))) (fun _ _ => .rt)) (fun _ _ _ h => by cases h))
abbrev s_tidy : Stmt := topS 11
abbrev n_tidy : List Str := ["facts"]
theorem sc_tidy : FnScope n_tidy ["facts"] (defScope s_tidy) := ⟨rfl, rfl, rfl, by decide +kernel, rfl, by decide +kernel, by decide +kernel⟩
def m_tidy : (List (T3 Str Str Str)) × Unit → Option (List (T3 Str Str Str)) := fun (g : (List (T3 Str Str Str)) × Unit) => (tdy g.1)
theorem ok_tidy {f : Addr} {fd : FuncData} (F : Fun K "tidy" "tidy" s_tidy f fd) (T : Txt P w K mg base)  : FnOk P w K mg base CX0 1 f fd ["facts"] (spO K m_tidy) := by
  refine fn_o F sc_tidy (ar1 K) fun cdv A outer s H R E g hr => jn_sub (Γ' := [.b g.1]) sub_rfl ?_
  exact (jn_reto (jo_sset_t T.n_sorted T.n_set hr.units (jb_var 0)))
abbrev s_read_book : Stmt := topS 57
abbrev n_read_book : List Str := ["text", "facts", "at", "row"]
theorem sc_read_book : FnScope n_read_book ["text"] (defScope s_read_book) := ⟨rfl, rfl, rfl, by decide +kernel, rfl, by decide +kernel, by decide +kernel⟩
def b_read_book_1  (s2 : (List (T3 Str Str Str))) (x4 : (Int × Str)) : (Option (List (T3 Str Str Str))) := (ifM (Option.bind (m_is_passed_by (x4.2, ())) fun (t7 : Bool) => some (!t7)) (Option.bind (Option.bind (m_fact_at (x4.2, ((x4.1 + (1 : Int)), ()))) fun (t9 : (T3 Str Str Str)) => (lApp s2 t9)) fun (facts_8 : (List (T3 Str Str Str))) => (some facts_8)) (some s2))
def m_read_book : Str × Unit → Option (List (T3 Str Str Str)) := fun (g : Str × Unit) => (Option.bind (some ([] : (List (T3 Str Str Str)))) fun (facts_1 : (List (T3 Str Str Str))) => (Option.bind (Option.bind (Option.bind (sSplit g.1 ("\n" : Str)) fun (t3 : (List Str)) => some (enumL t3)) fun (xs10 : List (Int × Str)) => forS (S := (List (T3 Str Str Str))) (b_read_book_1) xs10 facts_1) fun (s11 : (List (T3 Str Str Str))) => (m_tidy (s11, ()))))
theorem ok_read_book {f : Addr} {fd : FuncData} (F : Fun K "read_book" "read_book" s_read_book f fd) (T : Txt P w K mg base) (c_is_passed_by : Cal P w K mg base CX0 1 "is_passed_by" ["row"] (spV K m_is_passed_by)) (c_fact_at : Cal P w K mg base CX0 4 "fact_at" ["row", "number"] (spV K m_fact_at)) (c_tidy : Cal P w K mg base CX0 1 "tidy" ["facts"] (spO K m_tidy)) : FnOk P w K mg base CX0 5 f fd ["text"] (spO K m_read_book) := by
  refine fn_o F sc_read_book (ar1 K) fun cdv A outer s H R E g hr => jn_sub (Γ' := [.b g.1, .any, .any, .any]) sub_rfl ?_
  exact (jn_c (Γ1 := fun (facts_1 : (List (T3 Str Str Str))) => [.b g.1, .own facts_1, .any, .any]) (j1_seto 1 (fun (facts_1 : (List (T3 Str Str Str))) => [.b g.1, .own facts_1, .any, .any]) jo_nil sc_read_book.nd) (fun facts_1 => (jn_c (Γ1 := fun (s11 : (List (T3 Str Str Str))) => [.b g.1, .own s11, .any, .any]) (j1_for (S := (List (T3 Str Str Str))) facts_1 (fun (s2 : (List (T3 Str Str Str))) => [.b g.1, .own s2, .any, .any]) (fun (s2 : (List (T3 Str Str Str))) (x4 : (Int × Str)) => [.b g.1, .own s2, .v x4.1, .v x4.2]) PassesOwn.never rfl sub_rfl (ji_enum T.n_enumerate (jl_e (je_o (jo_split_t (jb_var 0) (jb_e je_str))))) (fun s2 => jg_2 (u1 := fun (u5 : Int) => [.b g.1, .own s2, .v u5, .any]) rfl (jg_name 2 sc_read_book.nd) (fun u5 => jg_name 3 sc_read_book.nd)) (fun s2 x4 => (js_last (j1_if (jt_not (jt_e (jb_e (je_call_t c_is_passed_by (hr.mono (by decide)) (ja_cons_t (jb_e (je_var 3)) ja_nil))))) (js_c (Γ1 := fun (facts_8 : (List (T3 Str Str Str))) => [.b g.1, .own facts_8, .v x4.1, .v x4.2]) (j1_app 1 (fun (facts_8 : (List (T3 Str Str Str))) => [.b g.1, .own facts_8, .v x4.1, .v x4.2]) (je_call_t c_fact_at (hr.mono (by decide)) (ja_cons_t (jb_e (je_var 3)) (ja_cons_t (jb_e (je_add_t (jb_e (je_var 2)) (jb_e je_int))) ja_nil)))) (fun facts_8 => (js_nil (sub_drop 2 (h := (sub_drop 3 (h := sub_rfl))))))) (js_nil (sub_drop 2 (h := (sub_drop 3 (h := sub_rfl))))))))) (fun s11 => (jn_reto (jo_call_t c_tidy (hr.mono (by decide)) (ja_cons_t (jb_own 1) ja_nil)))))))
abbrev s_book_by : Stmt := topS 90
abbrev n_book_by : List Str := ["rows", "e"]
theorem sc_book_by : FnScope n_book_by ["rows"] (defScope s_book_by) := ⟨rfl, rfl, rfl, by decide +kernel, rfl, by decide +kernel, by decide +kernel⟩
def m_book_by : (List Str) × Unit → Option (List (T3 Str Str Str)) := fun (g : (List Str) × Unit) => (Option.bind (Option.bind (sJoin ("\n" : Str) g.1) fun (t1 : Str) => Option.bind (some ()) fun (t2 : Unit) => some (t1, t2)) m_read_book)
theorem ok_book_by {f : Addr} {fd : FuncData} (F : Fun K "book_by" "book_by" s_book_by f fd) (T : Txt P w K mg base) (c_read_book : Cal P w K mg base CX0 5 "read_book" ["text"] (spO K m_read_book)) : FnOk P w K mg base CX0 6 f fd ["rows"] (spO K m_book_by) := by
  refine fn_o F sc_book_by (ar1 K) fun cdv A outer s H R E g hr => jn_sub (Γ' := [.b g.1, .any]) sub_rfl ?_
  exact (jn_1 (j1_try0n 1 (m := (Option.bind (Option.bind (sJoin ("\n" : Str) g.1) fun (t1 : Str) => Option.bind (some ()) fun (t2 : Unit) => some (t1, t2)) m_read_book)) (out := fun a => .ro a) ⟨T.ct_NoRow.choose, T.ct_NoRow.choose_spec.1⟩ (fun pn xe => js_n (jn_reto (jo_call c_read_book (hr.mono (by decide)) (ja_cons (jb_e (je_join_t (jb_e je_str) (jb_var 0))) ja_nil)))) (fun _ _ => .ro) sc_book_by.nd) (fun _ _ _ h => by cases h))
abbrev s_need_no_rows : Stmt := topS 89
abbrev n_need_no_rows : List Str := ["rows", "first", "at", "row"]
theorem sc_need_no_rows : FnScope n_need_no_rows ["rows", "first"] (defScope s_need_no_rows) := ⟨rfl, rfl, rfl, by decide +kernel, rfl, by decide +kernel, by decide +kernel⟩
def b_need_no_rows_1  (s1 : Unit) (x2 : (Int × Str)) : (Option Unit) := (ifM (Option.bind (sStrip x2.2 (" " : Str)) fun (t5 : Str) => Option.bind (some ("" : Str)) fun (t6 : Str) => some (!decide (t5 = t6))) (none : Option Unit) (some ()))
def m_need_no_rows : (List Str) × Int × Unit → Option Unit := fun (g : (List Str) × Int × Unit) => (Option.bind (Option.bind (some (enumL g.1)) fun (xs7 : List (Int × Str)) => forS (S := Unit) (b_need_no_rows_1) xs7 ()) fun (s8 : Unit) => (some ()))
theorem ok_need_no_rows {f : Addr} {fd : FuncData} (F : Fun K "need_no_rows" "need_no_rows" s_need_no_rows f fd) (T : Txt P w K mg base)  : FnOk P w K mg base CX0 3 f fd ["rows", "first"] (spV K m_need_no_rows) := by
  refine fn_n [.any, .any, .any, .any] F sc_need_no_rows (ar2 K) fun cdv A outer s H R E g hr => js_sub (Γ' := [.b g.1, .b g.2.1, .any, .any]) sub_rfl ?_
  exact (js_c (Γ1 := fun (s8 : Unit) => [.b g.1, .b g.2.1, .any, .any]) (j1_for (S := Unit) () (fun (s1 : Unit) => [.b g.1, .b g.2.1, .any, .any]) (fun (s1 : Unit) (x2 : (Int × Str)) => [.b g.1, .b g.2.1, .v x2.1, .v x2.2]) PassesOwn.never rfl sub_rfl (ji_enum_t T.n_enumerate (jl_b 0)) (fun s1 => jg_2 (u1 := fun (u3 : Int) => [.b g.1, .b g.2.1, .v u3, .any]) rfl (jg_name 2 sc_need_no_rows.nd) (fun u3 => jg_name 3 sc_need_no_rows.nd)) (fun s1 x2 => (js_ifr (jt_ne (jb_e (je_strip_t (jb_e (je_var 3)) (jb_e je_str))) (jb_e je_str)) jn_never (js_nil (sub_drop 2 (h := (sub_drop 3 (h := sub_rfl)))))))) (fun s8 => (js_nil (sub_drop 0 (h := (sub_drop 1 (h := sub_rfl)))))))
abbrev s_Desk__book_of : Stmt := (clsBody (topS 95)).getD 1 (.Pass ⟨0, 0, 0, 0⟩)
abbrev n_Desk__book_of : List Str := ["self", "name"]
theorem sc_Desk__book_of : FnScope n_Desk__book_of ["self", "name"] (defScope s_Desk__book_of) := ⟨rfl, rfl, rfl, by decide +kernel, rfl, by decide +kernel, by decide +kernel⟩
def m_Desk__book_of : Dk × Str × Unit → Option (List (T3 Str Str Str)) := fun (g : Dk × Str × Unit) => (ifM (some (!dHas g.1.b.l g.2.1)) (none : Option (List (T3 Str Str Str))) (dGet g.1.b.l g.2.1))
theorem ok_Desk__book_of {f : Addr} {fd : FuncData} (F : Fun K "book_of" "Desk.book_of" s_Desk__book_of f fd) (T : Txt P w K mg base)  : FnOk P w K mg base CX0 3 f fd ["self", "name"] (spV K m_Desk__book_of) := by
  refine fn_v F sc_Desk__book_of (ar2 K) fun cdv A outer s H R E g hr => jn_sub (Γ' := [.b g.1, .b g.2.1]) sub_rfl ?_
  exact (jn_ifr (jt_nind_t hr.units (jb_var 1) (jb_books_t (jb_var 0))) jn_never (jn_ret (je_dget_t hr.units (jb_books_t (jb_var 0)) (jb_var 1) (fun _ _ => rfl))))
abbrev s_show_book : Stmt := topS 58
abbrev n_show_book : List Str := ["book", "fact"]
theorem sc_show_book : FnScope n_show_book ["book"] (defScope s_show_book) := ⟨rfl, rfl, rfl, by decide +kernel, rfl, by decide +kernel, by decide +kernel⟩
def b_show_book_1  (x1 : (T3 Str Str Str)) : (Option Str) := (sJoin (" " : Str) [x1.a, x1.b, x1.c])
def m_show_book : (List (T3 Str Str Str)) × Unit → Option Str := fun (g : (List (T3 Str Str Str)) × Unit) => (Option.bind (some ("\n" : Str)) fun (t3 : Str) => Option.bind (Option.bind (some g.1) fun (xs2 : List (T3 Str Str Str)) => lcG (fun (x1 : (T3 Str Str Str)) => (some true)) (b_show_book_1) xs2) fun (t4 : (List Str)) => (sJoin t3 t4))
theorem ok_show_book {f : Addr} {fd : FuncData} (F : Fun K "show_book" "show_book" s_show_book f fd) (T : Txt P w K mg base)  : FnOk P w K mg base CX0 1 f fd ["book"] (spV K m_show_book) := by
  refine fn_v F sc_show_book (ar1 K) fun cdv A outer s H R E g hr => jn_sub (Γ' := [.b g.1, .any]) sub_rfl ?_
  exact (jn_ret (je_join (jb_e je_str) (jb_o (jo_lc (own := [("fact", 1)]) (ts := [1]) [.b g.1, .any] (fun (x1 : (T3 Str Str Str)) => [.b g.1, .v x1]) rfl sc_show_book.nd (ji_param 0) (blkOk_by (N := n_show_book) (sc := defScope s_show_book) (by decide +kernel)) rfl (fun q => jg_name 1 sc_show_book.nd) (fun q x1 => jts_nil) (fun q x1 => (je_joint3_t (jb_e je_str) (jb_e (je_var 1))))))))
abbrev s_Desk__asked : Stmt := (clsBody (topS 95)).getD 2 (.Pass ⟨0, 0, 0, 0⟩)
abbrev n_Desk__asked : List Str := ["self", "words", "book", "group"]
theorem sc_Desk__asked : FnScope n_Desk__asked ["self", "words", "book"] (defScope s_Desk__asked) := ⟨rfl, rfl, rfl, by decide +kernel, rfl, by decide +kernel, by decide +kernel⟩
def m_Desk__asked : Dk × (List Str) × (List (T3 Str Str Str)) × Unit → Option Str := fun (g : Dk × (List Str) × (List (T3 Str Str Str)) × Unit) => (ifM (Option.bind (atI g.2.1 (0 : Int)) fun (t1 : Str) => Option.bind (some ("show" : Str)) fun (t2 : Str) => some (decide (t1 = t2))) (m_show_book (g.2.2.1, ())) (ifM (Option.bind (atI g.2.1 (0 : Int)) fun (t3 : Str) => Option.bind (some ("groups" : Str)) fun (t4 : Str) => some (decide (t3 = t4))) (none : Option Str) (ifM (Option.bind (atI g.2.1 (0 : Int)) fun (t5 : Str) => Option.bind (some ("loss" : Str)) fun (t6 : Str) => some (decide (t5 = t6))) (none : Option Str) (none : Option Str))))
theorem ok_Desk__asked {f : Addr} {fd : FuncData} (F : Fun K "asked" "Desk.asked" s_Desk__asked f fd) (T : Txt P w K mg base) (c_show_book : Cal P w K mg base CX0 1 "show_book" ["book"] (spV K m_show_book)) : FnOk P w K mg base CX0 2 f fd ["self", "words", "book"] (spV K m_Desk__asked) := by
  refine fn_v F sc_Desk__asked (ar3 K) fun cdv A outer s H R E g hr => jn_sub (Γ' := [.b g.1, .b g.2.1, .b g.2.2.1, .any]) sub_rfl ?_
  exact (jn_ifr (jt_eq (jb_e (je_ixl_t (jb_var 1) (jb_e je_int) (fun _ _ => rfl))) (jb_e je_str)) (jn_ret (je_call_t c_show_book (hr.mono (by decide)) (ja_cons_t (jb_var 2) ja_nil))) (jn_ifr (jt_eq (jb_e (je_ixl_t (jb_var 1) (jb_e je_int) (fun _ _ => rfl))) (jb_e je_str)) jn_never (jn_ifr (jt_eq (jb_e (je_ixl_t (jb_var 1) (jb_e je_int) (fun _ _ => rfl))) (jb_e je_str)) jn_never jn_never)))
abbrev s_Desk__say : Stmt := (clsBody (topS 95)).getD 6 (.Pass ⟨0, 0, 0, 0⟩)
abbrev n_Desk__say : List Str := ["self", "text", "rows", "words", "book"]
theorem sc_Desk__say : FnScope n_Desk__say ["self", "text"] (defScope s_Desk__say) := ⟨rfl, rfl, rfl, by decide +kernel, rfl, by decide +kernel, by decide +kernel⟩
def m_Desk__say (d : Dk) (g : Str × Unit) : Option (Dk × Str) := (Option.bind (sSplit g.1 ("\n" : Str)) fun (rows_1 : (List Str)) => (Option.bind (Option.bind (Option.bind (atI rows_1 (0 : Int)) fun (t3 : Str) => Option.bind (some ()) fun (t4 : Unit) => some (t3, t4)) m_order_of) fun (words_2 : (List Str)) => (ifM (Option.bind (atI words_2 (0 : Int)) fun (t5 : Str) => Option.bind (some ("book" : Str)) fun (t6 : Str) => some (decide (t5 = t6))) (Option.bind (Option.bind (m_book_by ((cutA rows_1 (some (1 : Int)) none), ())) fun (t8 : (List (T3 Str Str Str))) => Option.bind (atI words_2 (1 : Int)) fun (t9 : Str) => dkPut d t9 t8) fun (d7 : Dk) => (zOf d7 (some ("ok" : Str)))) (ifM (Option.bind (atI words_2 (0 : Int)) fun (t10 : Str) => Option.bind (some ("rules" : Str)) fun (t11 : Str) => some (decide (t10 = t11))) (none : Option (Dk × Str)) (ifM (Option.bind (atI words_2 (0 : Int)) fun (t12 : Str) => Option.bind (some ("right" : Str)) fun (t13 : Str) => some (decide (t12 = t13))) (none : Option (Dk × Str)) (Option.bind (Option.bind (m_need_no_rows ((cutA rows_1 (some (1 : Int)) none), ((2 : Int), ()))) fun (_ : Unit) => some ()) fun (t14 : Unit) => (ifM (Option.bind (atI words_2 (0 : Int)) fun (t15 : Str) => Option.bind (some ("pour" : Str)) fun (t16 : Str) => some (decide (t15 = t16))) (none : Option (Dk × Str)) (Option.bind (Option.bind (some d) fun (t20 : Dk) => Option.bind (Option.bind (atI words_2 (1 : Int)) fun (t18 : Str) => Option.bind (some ()) fun (t19 : Unit) => some (t18, t19)) fun (t21 : (Str × Unit)) => m_Desk__book_of (t20, t21)) fun (book_17 : (List (T3 Str Str Str))) => (ifM (Option.bind (atI words_2 (0 : Int)) fun (t22 : Str) => Option.bind (some (⟨[("hold" : Str), ("part" : Str), ("free" : Str)]⟩ : (Tl Str))) fun (t23 : (Tl Str)) => some (decide (t22 ∈ t23.l))) (none : Option (Dk × Str)) (zOf d (Option.bind (some d) fun (t24 : Dk) => Option.bind (some (words_2, (book_17, ()))) fun (t25 : ((List Str) × (List (T3 Str Str Str)) × Unit)) => m_Desk__asked (t24, t25))))))))))))
theorem ok_Desk__say {f : Addr} {fd : FuncData} (F : Fun K "say" "Desk.say" s_Desk__say f fd) (T : Txt P w K mg base) (c_order_of : Cal P w K mg base CX0 3 "order_of" ["row"] (spO K m_order_of)) (c_book_by : Cal P w K mg base CX0 6 "book_by" ["rows"] (spO K m_book_by)) (c_need_no_rows : Cal P w K mg base CX0 3 "need_no_rows" ["rows", "first"] (spV K m_need_no_rows)) (dm_book_of : DMth P w K mg base CX0 3 "book_of" ["self", "name"] (spV K m_Desk__book_of)) (dm_asked : DMth P w K mg base CX0 2 "asked" ["self", "words", "book"] (spV K m_Desk__asked)) : FnOk P w K mg base CX0 7 f fd ["self", "text"] (spZ K m_Desk__say) := by
  refine fn_z (fun pD qD d => [.dat pD qD d, .any, .any, .any, .any]) (fun _ _ _ => rfl) F sc_Desk__say (arz1 K) fun cdv A outer s H R H0 E pD qD d g hr => jn_sub (Γ' := [.dat pD qD d, .b g.1, .any, .any, .any]) sub_rfl ?_
  exact (jn_c (Γ1 := fun (rows_1 : (List Str)) => [.dat pD qD d, .b g.1, .own rows_1, .any, .any]) (j1_seto 2 (fun (rows_1 : (List Str)) => [.dat pD qD d, .b g.1, .own rows_1, .any, .any]) (jo_split_t (jb_var 1) (jb_e je_str)) sc_Desk__say.nd) (fun rows_1 => (jn_c (Γ1 := fun (words_2 : (List Str)) => [.dat pD qD d, .b g.1, .own rows_1, .own words_2, .any]) (j1_seto 3 (fun (words_2 : (List Str)) => [.dat pD qD d, .b g.1, .own rows_1, .own words_2, .any]) (jo_call c_order_of (hr.mono (by decide)) (ja_cons (jb_e (je_ixl_t (jb_own 2) (jb_e je_int) (fun _ _ => rfl))) ja_nil)) sc_Desk__say.nd) (fun words_2 => (jn_ifr (jt_eq (jb_e (je_ixl_t (jb_own 3) (jb_e je_int) (fun _ _ => rfl))) (jb_e je_str)) (jn_c (Γ1 := fun (d7 : Dk) => [.dat pD qD d7, .b g.1, .own rows_1, .own words_2, .any]) (j1_setbook 0 (m := (m_book_by ((cutA rows_1 (some (1 : Int)) none), ()))) (mk := (atI words_2 (1 : Int))) (fun (d7 : Dk) => [.dat pD qD d7, .b g.1, .own rows_1, .own words_2, .any]) hr.units (je_o (jo_call_t c_book_by (hr.mono (by decide)) (ja_cons_t (jb_o (jo_cutl_t (jb_own 2) (jp_some_t (jb_e je_int)) jp_none)) ja_nil))) (je_ixl_t (jb_own 3) (jb_e je_int) (fun _ _ => rfl))) (fun d7 => (jn_rets (Γe := fun (dz : Dk) => [.dat pD qD dz, .any, .any, .any, .any]) (m := (some ("ok" : Str))) d7 je_str (sub_drop 1 (h := (sub_drop 2 (h := (sub_drop 3 (h := sub_rfl))))))))) (jn_ifr (jt_eq (jb_e (je_ixl_t (jb_own 3) (jb_e je_int) (fun _ _ => rfl))) (jb_e je_str)) jn_never (jn_ifr (jt_eq (jb_e (je_ixl_t (jb_own 3) (jb_e je_int) (fun _ _ => rfl))) (jb_e je_str)) jn_never (jn_c (Γ1 := fun (t14 : Unit) => [.dat pD qD d, .b g.1, .own rows_1, .own words_2, .any]) (j1_expr0 (m := (m_need_no_rows ((cutA rows_1 (some (1 : Int)) none), ((2 : Int), ())))) (je_call_t c_need_no_rows (hr.mono (by decide)) (ja_cons_t (jb_o (jo_cutl_t (jb_own 2) (jp_some_t (jb_e je_int)) jp_none)) (ja_cons_t (jb_e je_int) ja_nil)))) (fun t14 => (jn_ifr (jt_eq (jb_e (je_ixl_t (jb_own 3) (jb_e je_int) (fun _ _ => rfl))) (jb_e je_str)) jn_never (jn_c (Γ1 := fun (book_17 : (List (T3 Str Str Str))) => [.dat pD qD d, .b g.1, .own rows_1, .own words_2, .v book_17]) (j1_set 4 (fun (book_17 : (List (T3 Str Str Str))) => [.dat pD qD d, .b g.1, .own rows_1, .own words_2, .v book_17]) (je_dmeth (mo := (some d)) (ma := (Option.bind (atI words_2 (1 : Int)) fun (t18 : Str) => Option.bind (some ()) fun (t19 : Unit) => some (t18, t19))) dm_book_of (hr.mono (by decide)) (jb_dat 0) (ja_cons (jb_e (je_ixl_t (jb_own 3) (jb_e je_int) (fun _ _ => rfl))) ja_nil)) sc_Desk__say.nd) (fun book_17 => (jn_ifr (jt_inu hr.units (jb_e (je_ixl_t (jb_own 3) (jb_e je_int) (fun _ _ => rfl))) (jb_e (je_tl_t (ll_cons_t je_str (ll_cons_t je_str (ll_cons_t je_str ll_nil)))))) jn_never (jn_rets (Γe := fun (dz : Dk) => [.dat pD qD dz, .any, .any, .any, .any]) (m := (Option.bind (some d) fun (t24 : Dk) => Option.bind (some (words_2, (book_17, ()))) fun (t25 : ((List Str) × (List (T3 Str Str Str)) × Unit)) => m_Desk__asked (t24, t25))) d (je_dmeth (mo := (some d)) (ma := (some (words_2, (book_17, ())))) dm_asked (hr.mono (by decide)) (jb_dat 0) (ja_cons_t (jb_own 3) (ja_cons_t (jb_e (je_var 4)) ja_nil))) (sub_drop 1 (h := (sub_drop 2 (h := (sub_drop 3 (h := (sub_drop 4 (h := sub_rfl))))))))))))))))))))))
abbrev s__law_rows : Stmt := topS 103
abbrev n__law_rows : List Str := ["_law_facts", "_law_cell", "_law_rows_here", "_law_at", "_law_fact_here", "_law_one", "_law_field", "_law_other"]
theorem sc__law_rows : FnScope n__law_rows ["_law_facts", "_law_cell"] (defScope s__law_rows) := ⟨rfl, rfl, rfl, by decide +kernel, rfl, by decide +kernel, by decide +kernel⟩
def b__law_rows_1 (g : ((List (T3 Str Str Str)) × Int × Unit)) (s2 : (List Str)) (x3 : (Int × (T3 Str Str Str))) : (Option (List Str)) := (Option.bind (some x3.2) fun (p6 : (T3 Str Str Str)) => (Option.bind (ifM (bAnd (some (decide (p6.b ∈ (⟨[("same" : Str), ("apart" : Str)]⟩ : (Tl Str)).l))) (some (decide (((g.2.1 + x3.1) % 2) = (1 : Int))))) (Option.bind (some (p6.c, p6.a)) fun (p11 : (Str × Str)) => (some (p11.1, p11.2))) (some (p6.a, p6.c))) fun (s10 : (Str × Str)) => (Option.bind (Option.bind (Option.bind (Option.bind (Option.bind (sAdd s10.1 (" " : Str)) fun (t12 : Str) => Option.bind (some p6.b) fun (t13 : Str) => (sAdd t12 t13)) fun (t14 : Str) => Option.bind (some (" " : Str)) fun (t15 : Str) => (sAdd t14 t15)) fun (t16 : Str) => Option.bind (some s10.2) fun (t17 : Str) => (sAdd t16 t17)) fun (t19 : Str) => (lApp s2 t19)) fun (rows_here_18 : (List Str)) => (ifM (some (decide (((g.2.1 + x3.1) % 5) = (3 : Int)))) (Option.bind (Option.bind (atI [("" : Str), ("  " : Str), ("# bo" : Str), ("#" : Str)] (((g.2.1 / 5) + x3.1) % 4)) fun (t21 : Str) => (lApp rows_here_18 t21)) fun (rows_here_20 : (List Str)) => (some rows_here_20)) (some rows_here_18)))))
def m__law_rows : (List (T3 Str Str Str)) × Int × Unit → Option Str := fun (g : (List (T3 Str Str Str)) × Int × Unit) => (Option.bind (some ([] : (List Str))) fun (rows_here_1 : (List Str)) => (Option.bind (Option.bind (some (enumL g.1)) fun (xs22 : List (Int × (T3 Str Str Str))) => forS (S := (List Str)) (b__law_rows_1 g) xs22 rows_here_1) fun (s23 : (List Str)) => (sJoin ("\n" : Str) s23)))
theorem ok__law_rows {f : Addr} {fd : FuncData} (F : Fun K "_law_rows" "_law_rows" s__law_rows f fd) (T : Txt P w K mg base)  : FnOk P w K mg base CX0 1 f fd ["_law_facts", "_law_cell"] (spV K m__law_rows) := by
  refine fn_v F sc__law_rows (ar2 K) fun cdv A outer s H R E g hr => jn_sub (Γ' := [.b g.1, .b g.2.1, .any, .any, .any, .any, .any, .any]) sub_rfl ?_
  exact (jn_c (Γ1 := fun (rows_here_1 : (List Str)) => [.b g.1, .b g.2.1, .own rows_here_1, .any, .any, .any, .any, .any]) (j1_seto 2 (fun (rows_here_1 : (List Str)) => [.b g.1, .b g.2.1, .own rows_here_1, .any, .any, .any, .any, .any]) jo_nil sc__law_rows.nd) (fun rows_here_1 => (jn_c (Γ1 := fun (s23 : (List Str)) => [.b g.1, .b g.2.1, .own s23, .any, .any, .any, .any, .any]) (j1_for (S := (List Str)) rows_here_1 (fun (s2 : (List Str)) => [.b g.1, .b g.2.1, .own s2, .any, .any, .any, .any, .any]) (fun (s2 : (List Str)) (x3 : (Int × (T3 Str Str Str))) => [.b g.1, .b g.2.1, .own s2, .v x3.1, .v x3.2, .any, .any, .any]) PassesOwn.never rfl sub_rfl (ji_enum_t T.n_enumerate (jl_b 0)) (fun s2 => jg_2 (u1 := fun (u4 : Int) => [.b g.1, .b g.2.1, .own s2, .v u4, .any, .any, .any, .any]) rfl (jg_name 3 sc__law_rows.nd) (fun u4 => jg_name 4 sc__law_rows.nd)) (fun s2 x3 => (js_c (Γ1 := fun (p6 : (T3 Str Str Str)) => [.b g.1, .b g.2.1, .own s2, .v x3.1, .v x3.2, .v p6.a, .v p6.b, .v p6.c]) (j1_asg (je_var 4) (jg_3 (u1 := fun (u7 : Str) => [.b g.1, .b g.2.1, .own s2, .v x3.1, .v x3.2, .v u7, .any, .any]) (u2 := fun (u7 : Str) (u8 : Str) => [.b g.1, .b g.2.1, .own s2, .v x3.1, .v x3.2, .v u7, .v u8, .any]) rfl (jg_name 5 sc__law_rows.nd) (fun u7 => jg_name 6 sc__law_rows.nd) (fun u7 u8 => jg_name 7 sc__law_rows.nd))) (fun p6 => (js_c (Γ1 := fun (s10 : (Str × Str)) => [.b g.1, .b g.2.1, .own s2, .v x3.1, .v x3.2, .v s10.1, .v p6.b, .v s10.2]) (j1_if (jt_w (jw_and (jt_inu_t hr.units (jb_e (je_var 6)) (jb_e (je_tl_t (ll_cons_t je_str (ll_cons_t je_str ll_nil))))) (jw_and1 (jt_eq_t (jb_e (je_modc_t (jb_e (je_add_t (jb_var 1) (jb_e (je_var 3)))))) (jb_e je_int))))) (js_c (Γ1 := fun (p11 : (Str × Str)) => [.b g.1, .b g.2.1, .own s2, .v x3.1, .v x3.2, .v p11.1, .v p6.b, .v p11.2]) (j1_par 5 7 (ma := (some p6.c)) (mb := (some p6.a)) (fun (p11 : (Str × Str)) => [.b g.1, .b g.2.1, .own s2, .v x3.1, .v x3.2, .v p11.1, .v p6.b, .v p11.2]) (je_var 7) (je_var 5) sc__law_rows.nd) (fun p11 => (js_nil sub_rfl))) (js_nil sub_rfl)) (fun s10 => (js_c (Γ1 := fun (rows_here_18 : (List Str)) => [.b g.1, .b g.2.1, .own rows_here_18, .v x3.1, .v x3.2, .v s10.1, .v p6.b, .v s10.2]) (j1_app 2 (fun (rows_here_18 : (List Str)) => [.b g.1, .b g.2.1, .own rows_here_18, .v x3.1, .v x3.2, .v s10.1, .v p6.b, .v s10.2]) (je_cat (jb_e (je_cat (jb_e (je_cat (jb_e (je_cat_t (jb_e (je_var 5)) (jb_e je_str))) (jb_e (je_var 6)))) (jb_e je_str))) (jb_e (je_var 7)))) (fun rows_here_18 => (js_last (j1_if (jt_eq_t (jb_e (je_modc_t (jb_e (je_add_t (jb_var 1) (jb_e (je_var 3)))))) (jb_e je_int)) (js_c (Γ1 := fun (rows_here_20 : (List Str)) => [.b g.1, .b g.2.1, .own rows_here_20, .v x3.1, .v x3.2, .v s10.1, .v p6.b, .v s10.2]) (j1_app 2 (fun (rows_here_20 : (List Str)) => [.b g.1, .b g.2.1, .own rows_here_20, .v x3.1, .v x3.2, .v s10.1, .v p6.b, .v s10.2]) (je_ixl_t (jb_o (jo_lst (ll_cons_t je_str (ll_cons_t je_str (ll_cons_t je_str (ll_cons_t je_str ll_nil)))))) (jb_e (je_modc_t (jb_e (je_add_t (jb_e (je_fdivc_t (jb_var 1))) (jb_e (je_var 3)))))) (fun _ _ => rfl))) (fun rows_here_20 => (js_nil (sub_drop 3 (h := (sub_drop 4 (h := (sub_drop 5 (h := (sub_drop 6 (h := (sub_drop 7 (h := sub_rfl))))))))))))) (js_nil (sub_drop 3 (h := (sub_drop 4 (h := (sub_drop 5 (h := (sub_drop 6 (h := (sub_drop 7 (h := sub_rfl))))))))))))))))))))) (fun s23 => (jn_ret (je_join_t (jb_e je_str) (jb_own 2)))))))
abbrev s__law_shown : Stmt := topS 104
abbrev n__law_shown : List Str := ["_law_book_here", "_law_card_here", "_law_field", "_law_text_here"]
theorem sc__law_shown : FnScope n__law_shown ["_law_book_here"] (defScope s__law_shown) := ⟨rfl, rfl, rfl, by decide +kernel, rfl, by decide +kernel, by decide +kernel⟩
def b__law_shown_1  (x1 : (T3 Str Str Str)) : (Option Str) := (Option.bind (Option.bind (Option.bind (sAdd x1.a (" " : Str)) fun (t5 : Str) => Option.bind (some x1.b) fun (t6 : Str) => (sAdd t5 t6)) fun (t7 : Str) => Option.bind (some (" " : Str)) fun (t8 : Str) => (sAdd t7 t8)) fun (t9 : Str) => Option.bind (some x1.c) fun (t10 : Str) => (sAdd t9 t10))
def m__law_shown : (List (T3 Str Str Str)) × Unit → Option Str := fun (g : (List (T3 Str Str Str)) × Unit) => (Option.bind (some ("\n" : Str)) fun (t12 : Str) => Option.bind (Option.bind (some g.1) fun (xs11 : List (T3 Str Str Str)) => lcG (fun (x1 : (T3 Str Str Str)) => (some true)) (b__law_shown_1) xs11) fun (t13 : (List Str)) => (sJoin t12 t13))
theorem ok__law_shown {f : Addr} {fd : FuncData} (F : Fun K "_law_shown" "_law_shown" s__law_shown f fd) (T : Txt P w K mg base)  : FnOk P w K mg base CX0 1 f fd ["_law_book_here"] (spV K m__law_shown) := by
  refine fn_v F sc__law_shown (ar1 K) fun cdv A outer s H R E g hr => jn_sub (Γ' := [.b g.1, .any, .any, .any]) sub_rfl ?_
  exact (jn_ret (je_join (jb_e je_str) (jb_o (jo_lc (own := [("_law_card_here", 1), ("_law_field", 2), ("_law_text_here", 3)]) (ts := [1, 2, 3]) [.b g.1, .any, .any, .any] (fun (x1 : (T3 Str Str Str)) => [.b g.1, .v x1.a, .v x1.b, .v x1.c]) rfl sc__law_shown.nd (ji_param 0) (blkOk_by (N := n__law_shown) (sc := defScope s__law_shown) (by decide +kernel)) rfl (fun q => jg_3 (u1 := fun (u2 : Str) => [.b g.1, .v u2, .any, .any]) (u2 := fun (u2 : Str) (u3 : Str) => [.b g.1, .v u2, .v u3, .any]) rfl (jg_name 1 sc__law_shown.nd) (fun u2 => jg_name 2 sc__law_shown.nd) (fun u2 u3 => jg_name 3 sc__law_shown.nd)) (fun q x1 => jts_nil) (fun q x1 => (je_cat (jb_e (je_cat (jb_e (je_cat (jb_e (je_cat_t (jb_e (je_var 1)) (jb_e je_str))) (jb_e (je_var 2)))) (jb_e je_str))) (jb_e (je_var 3))))))))
abbrev s__law_book : Stmt := topS 102
abbrev n__law_book : List Str := ["_law_facts", "_law_book_here", "_law_fact_here"]
theorem sc__law_book : FnScope n__law_book ["_law_facts"] (defScope s__law_book) := ⟨rfl, rfl, rfl, by decide +kernel, rfl, by decide +kernel, by decide +kernel⟩
def b__law_book_1  (s2 : (List (T3 Str Str Str))) (x3 : (T3 Str Str Str)) : (Option (List (T3 Str Str Str))) := (ifM (bOr (some (decide ((s2.length : Int) = (0 : Int)))) (Option.bind (atI s2 (-(1 : Int))) fun (t4 : (T3 Str Str Str)) => Option.bind (some x3) fun (t5 : (T3 Str Str Str)) => some (!decide (t4 = t5)))) (Option.bind (Option.bind (some x3) fun (t7 : (T3 Str Str Str)) => (lApp s2 t7)) fun (book_here_6 : (List (T3 Str Str Str))) => (some book_here_6)) (some s2))
def m__law_book : (List (T3 Str Str Str)) × Unit → Option (List (T3 Str Str Str)) := fun (g : (List (T3 Str Str Str)) × Unit) => (Option.bind (some ([] : (List (T3 Str Str Str)))) fun (book_here_1 : (List (T3 Str Str Str))) => (Option.bind (Option.bind (sSort g.1) fun (xs8 : List (T3 Str Str Str)) => forS (S := (List (T3 Str Str Str))) (b__law_book_1) xs8 book_here_1) fun (s9 : (List (T3 Str Str Str))) => (some s9)))
theorem ok__law_book {f : Addr} {fd : FuncData} (F : Fun K "_law_book" "_law_book" s__law_book f fd) (T : Txt P w K mg base)  : FnOk P w K mg base CX0 1 f fd ["_law_facts"] (spO K m__law_book) := by
  refine fn_o F sc__law_book (ar1 K) fun cdv A outer s H R E g hr => jn_sub (Γ' := [.b g.1, .any, .any]) sub_rfl ?_
  exact (jn_c (Γ1 := fun (book_here_1 : (List (T3 Str Str Str))) => [.b g.1, .own book_here_1, .any]) (j1_seto 1 (fun (book_here_1 : (List (T3 Str Str Str))) => [.b g.1, .own book_here_1, .any]) jo_nil sc__law_book.nd) (fun book_here_1 => (jn_c (Γ1 := fun (s9 : (List (T3 Str Str Str))) => [.b g.1, .own s9, .any]) (j1_for (S := (List (T3 Str Str Str))) book_here_1 (fun (s2 : (List (T3 Str Str Str))) => [.b g.1, .own s2, .any]) (fun (s2 : (List (T3 Str Str Str))) (x3 : (T3 Str Str Str)) => [.b g.1, .own s2, .v x3]) PassesOwn.never rfl sub_rfl (ji_list (je_o (jo_srt_t T.n_sorted hr.units (jb_var 0)))) (fun s2 => jg_name 2 sc__law_book.nd) (fun s2 x3 => (js_last (j1_if (jt_w (jw_or (jt_eq_t (jb_e (je_lenl_t T.n_len (jb_own 1))) (jb_e je_int)) (jw_or1 (jt_ned hr.units (jb_e (je_ixl_t (jb_own 1) (jb_e (je_neg_t (jb_e je_int))) (fun _ _ => rfl))) (jb_e (je_var 2)))))) (js_c (Γ1 := fun (book_here_6 : (List (T3 Str Str Str))) => [.b g.1, .own book_here_6, .v x3]) (j1_app 1 (fun (book_here_6 : (List (T3 Str Str Str))) => [.b g.1, .own book_here_6, .v x3]) (je_var 2)) (fun book_here_6 => (js_nil (sub_drop 2 (h := sub_rfl))))) (js_nil (sub_drop 2 (h := sub_rfl))))))) (fun s9 => (jn_retv 1)))))
abbrev s_law : Stmt := topS 105
abbrev n_law : List Str := ["_law_script", "_law_shape", "_law_many", "_law_facts", "_law_few", "_law_one", "_law_other", "_law_desk", "_law_cell"]
theorem sc_law : FnScope n_law ["_law_script"] (defScope s_law) := ⟨rfl, rfl, rfl, by decide +kernel, rfl, by decide +kernel, by decide +kernel⟩
def m_law : Scr × Unit → Option Bool := fun (g : Scr × Unit) => (Option.bind (m__law_cell_at (g.1, ((0 : Int), ()))) fun (shape_1 : Int) => (Option.bind (Option.bind (some (1 : Int)) fun (t4 : Int) => Option.bind (Option.bind (m__law_cell_at (g.1, ((1 : Int), ()))) fun (t3 : Int) => some (t3 % 6)) fun (t5 : Int) => some (t4 + t5)) fun (many_2 : Int) => (Option.bind (Option.bind (some (cutA g.1.l (some (2 : Int)) (some (42 : Int)))) fun (xs8 : List Int) => lcG (fun (x7 : Int) => (some true)) (fun (x7 : Int) => (m__law_fact (shape_1, (many_2, (x7, ()))))) xs8) fun (facts_6 : (List (T3 Str Str Str))) => (Option.bind (Option.bind (some facts_6) fun (t13 : (List (T3 Str Str Str))) => Option.bind (some none) fun (t14 : Option Int) => Option.bind (Option.bind (Option.bind (Option.bind (m__law_cell_at (g.1, ((1 : Int), ()))) fun (t10 : Int) => some (t10 / 6)) fun (t11 : Int) => Option.bind (some ((facts_6.length : Int) + (1 : Int))) fun (t12 : Int) => (imod t11 t12)) fun (z : Int) => some (some z)) fun (t15 : Option Int) => some (cutA t13 t14 t15)) fun (few_9 : (List (T3 Str Str Str))) => (Option.bind (m__law_card ((shape_1 / 7), ((1 : Int), ()))) fun (one_16 : Str) => (Option.bind (m__law_card ((shape_1 / 7), ((2 : Int), ()))) fun (other_17 : Str) => (Option.bind (some (⟨⟨[]⟩, []⟩ : Dk)) fun (d18 : Dk) => (zIf (zB (Option.bind (Option.bind (Option.bind (Option.bind (sAdd ("book " : Str) one_16) fun (t22 : Str) => Option.bind (some ("\n" : Str)) fun (t23 : Str) => (sAdd t22 t23)) fun (t29 : Str) => Option.bind (Option.bind (Option.bind (some few_9) fun (t27 : (List (T3 Str Str Str))) => Option.bind (Option.bind (Option.bind (m__law_cell_at (g.1, ((1 : Int), ()))) fun (t24 : Int) => some (t24 / 60)) fun (t25 : Int) => Option.bind (some ()) fun (t26 : Unit) => some (t25, t26)) fun (t28 : (Int × Unit)) => some (t27, t28)) m__law_rows) fun (t30 : Str) => (sAdd t29 t30)) fun (t31 : Str) => Option.bind (some ()) fun (t32 : Unit) => some (t31, t32)) fun (t33 : (Str × Unit)) => m_Desk__say d18 t33) fun (d34 : Dk) (t35 : Str) => Option.bind (some ("ok" : Str)) fun (t36 : Str) => some (d34, !decide (t35 = t36))) (fun (d37 : Dk) => (some false)) (fun (d37 : Dk) => (zIf (zB (Option.bind (Option.bind (Option.bind (Option.bind (sAdd ("book " : Str) other_17) fun (t41 : Str) => Option.bind (some ("\n" : Str)) fun (t42 : Str) => (sAdd t41 t42)) fun (t48 : Str) => Option.bind (Option.bind (Option.bind (some (List.reverse facts_6)) fun (t46 : (List (T3 Str Str Str))) => Option.bind (Option.bind (Option.bind (m__law_cell_at (g.1, ((1 : Int), ()))) fun (t43 : Int) => some (t43 / 120)) fun (t44 : Int) => Option.bind (some ()) fun (t45 : Unit) => some (t44, t45)) fun (t47 : (Int × Unit)) => some (t46, t47)) m__law_rows) fun (t49 : Str) => (sAdd t48 t49)) fun (t50 : Str) => Option.bind (some ()) fun (t51 : Unit) => some (t50, t51)) fun (t52 : (Str × Unit)) => m_Desk__say d37 t52) fun (d53 : Dk) (t54 : Str) => Option.bind (some ("ok" : Str)) fun (t55 : Str) => some (d53, !decide (t54 = t55))) (fun (d56 : Dk) => (some false)) (fun (d56 : Dk) => (zIf (zB (Option.bind (Option.bind (sAdd ("show " : Str) one_16) fun (t60 : Str) => Option.bind (some ()) fun (t61 : Unit) => some (t60, t61)) fun (t62 : (Str × Unit)) => m_Desk__say d56 t62) fun (d63 : Dk) (t64 : Str) => Option.bind (Option.bind (Option.bind (m__law_book (few_9, ())) fun (t66 : (List (T3 Str Str Str))) => Option.bind (some ()) fun (t67 : Unit) => some (t66, t67)) m__law_shown) fun (t65 : Str) => some (d63, !decide (t64 = t65))) (fun (d68 : Dk) => (some false)) (fun (d68 : Dk) => (zIf (zB (Option.bind (Option.bind (Option.bind (sAdd ("show " : Str) other_17) fun (t72 : Str) => Option.bind (some ("\n  " : Str)) fun (t73 : Str) => (sAdd t72 t73)) fun (t74 : Str) => Option.bind (some ()) fun (t75 : Unit) => some (t74, t75)) fun (t76 : (Str × Unit)) => m_Desk__say d68 t76) fun (d77 : Dk) (t78 : Str) => Option.bind (Option.bind (Option.bind (m__law_book (facts_6, ())) fun (t80 : (List (T3 Str Str Str))) => Option.bind (some ()) fun (t81 : Unit) => some (t80, t81)) m__law_shown) fun (t79 : Str) => some (d77, !decide (t78 = t79))) (fun (d82 : Dk) => (some false)) (fun (d82 : Dk) => (zIf (zB (Option.bind (Option.bind (Option.bind (Option.bind (sAdd ("book " : Str) one_16) fun (t86 : Str) => Option.bind (some ("\n" : Str)) fun (t87 : Str) => (sAdd t86 t87)) fun (t88 : Str) => Option.bind (m__law_rows (facts_6, ((3 : Int), ()))) fun (t89 : Str) => (sAdd t88 t89)) fun (t90 : Str) => Option.bind (some ()) fun (t91 : Unit) => some (t90, t91)) fun (t92 : (Str × Unit)) => m_Desk__say d82 t92) fun (d93 : Dk) (t94 : Str) => Option.bind (some ("ok" : Str)) fun (t95 : Str) => some (d93, !decide (t94 = t95))) (fun (d96 : Dk) => (some false)) (fun (d96 : Dk) => (zIf (zB (Option.bind (Option.bind (sAdd ("show " : Str) one_16) fun (t100 : Str) => Option.bind (some ()) fun (t101 : Unit) => some (t100, t101)) fun (t102 : (Str × Unit)) => m_Desk__say d96 t102) fun (d103 : Dk) (t104 : Str) => Option.bind (Option.bind (Option.bind (m__law_book (facts_6, ())) fun (t106 : (List (T3 Str Str Str))) => Option.bind (some ()) fun (t107 : Unit) => some (t106, t107)) m__law_shown) fun (t105 : Str) => some (d103, !decide (t104 = t105))) (fun (d108 : Dk) => (some false)) (fun (d108 : Dk) => (Option.bind (zAnd (zB (Option.bind (Option.bind (sAdd ("book " : Str) other_17) fun (t112 : Str) => Option.bind (some ()) fun (t113 : Unit) => some (t112, t113)) fun (t114 : (Str × Unit)) => m_Desk__say d108 t114) fun (d115 : Dk) (t116 : Str) => Option.bind (some ("ok" : Str)) fun (t117 : Str) => some (d115, decide (t116 = t117))) (fun (d118 : Dk) => (zB (Option.bind (Option.bind (sAdd ("show " : Str) other_17) fun (t121 : Str) => Option.bind (some ()) fun (t122 : Unit) => some (t121, t122)) fun (t123 : (Str × Unit)) => m_Desk__say d118 t123) fun (d124 : Dk) (t125 : Str) => Option.bind (some ("" : Str)) fun (t126 : Str) => some (d124, decide (t125 = t126))))) fun (t127 : (Dk × Bool)) => some t127.2))))))))))))))))))))
theorem ok_law {f : Addr} {fd : FuncData} (F : Fun K "law" "law" s_law f fd) (T : Txt P w K mg base) (c__law_cell_at : Cal P w K mg base CX0 1 "_law_cell_at" ["_law_script", "_law_k"] (spV K m__law_cell_at)) (c__law_fact : Cal P w K mg base CX0 3 "_law_fact" ["_law_shape", "_law_many", "_law_cell"] (spV K m__law_fact)) (c__law_card : Cal P w K mg base CX0 1 "_law_card" ["_law_cell", "_law_k"] (spV K m__law_card)) (c__law_rows : Cal P w K mg base CX0 1 "_law_rows" ["_law_facts", "_law_cell"] (spV K m__law_rows)) (c__law_book : Cal P w K mg base CX0 1 "_law_book" ["_law_facts"] (spO K m__law_book)) (c__law_shown : Cal P w K mg base CX0 1 "_law_shown" ["_law_book_here"] (spV K m__law_shown)) (dm_say : DMth P w K mg base CX0 7 "say" ["self", "text"] (spZ K m_Desk__say)) : FnOk P w K mg base CX0 8 f fd ["_law_script"] (spV K m_law) := by
  refine fn_v F sc_law (ar1 K) fun cdv A outer s H R E g hr => jn_sub (Γ' := [.b g.1, .any, .any, .any, .any, .any, .any, .any, .any]) sub_rfl ?_
  exact (jn_c (Γ1 := fun (shape_1 : Int) => [.b g.1, .v shape_1, .any, .any, .any, .any, .any, .any, .any]) (j1_set 1 (fun (shape_1 : Int) => [.b g.1, .v shape_1, .any, .any, .any, .any, .any, .any, .any]) (je_call_t c__law_cell_at (hr.mono (by decide)) (ja_cons_t (jb_var 0) (ja_cons_t (jb_e je_int) ja_nil))) sc_law.nd) (fun shape_1 => (jn_c (Γ1 := fun (many_2 : Int) => [.b g.1, .v shape_1, .v many_2, .any, .any, .any, .any, .any, .any]) (j1_set 2 (fun (many_2 : Int) => [.b g.1, .v shape_1, .v many_2, .any, .any, .any, .any, .any, .any]) (je_add (jb_e je_int) (jb_e (je_modc (jb_e (je_call_t c__law_cell_at (hr.mono (by decide)) (ja_cons_t (jb_var 0) (ja_cons_t (jb_e je_int) ja_nil))))))) sc_law.nd) (fun many_2 => (jn_c (Γ1 := fun (facts_6 : (List (T3 Str Str Str))) => [.b g.1, .v shape_1, .v many_2, .own facts_6, .any, .any, .any, .any, .any]) (j1_setlc 3 (fun (facts_6 : (List (T3 Str Str Str))) => [.b g.1, .v shape_1, .v many_2, .own facts_6, .any, .any, .any, .any, .any]) (own := [("_law_cell", 8)]) (ts := [8]) [.b g.1, .v shape_1, .v many_2, .any, .any, .any, .any, .any, .any] (fun (x7 : Int) => [.b g.1, .v shape_1, .v many_2, .any, .any, .any, .any, .any, .v x7]) rfl sc_law.nd (ji_list (je_o (jo_cutscr_t (jb_var 0) (jp_some_t (jb_e je_int)) (jp_some_t (jb_e je_int))))) (blkOk_by (N := n_law) (sc := defScope s_law) (by decide +kernel)) rfl (fun q => jg_name 8 sc_law.nd) (fun q x7 => jts_nil) (fun q x7 => (je_call_t c__law_fact (hr.mono (by decide)) (ja_cons_t (jb_e (je_var 1)) (ja_cons_t (jb_e (je_var 2)) (ja_cons_t (jb_e (je_var 8)) ja_nil)))))) (fun facts_6 => (jn_c (Γ1 := fun (few_9 : (List (T3 Str Str Str))) => [.b g.1, .v shape_1, .v many_2, .own facts_6, .own few_9, .any, .any, .any, .any]) (j1_seto 4 (fun (few_9 : (List (T3 Str Str Str))) => [.b g.1, .v shape_1, .v many_2, .own facts_6, .own few_9, .any, .any, .any, .any]) (jo_cutl (jb_own 3) jp_none (jp_some (jb_e (je_mod (jb_e (je_fdivc (jb_e (je_call_t c__law_cell_at (hr.mono (by decide)) (ja_cons_t (jb_var 0) (ja_cons_t (jb_e je_int) ja_nil)))))) (jb_e (je_add_t (jb_e (je_lenl_t T.n_len (jb_own 3))) (jb_e je_int))))))) sc_law.nd) (fun few_9 => (jn_c (Γ1 := fun (one_16 : Str) => [.b g.1, .v shape_1, .v many_2, .own facts_6, .own few_9, .v one_16, .any, .any, .any]) (j1_set 5 (fun (one_16 : Str) => [.b g.1, .v shape_1, .v many_2, .own facts_6, .own few_9, .v one_16, .any, .any, .any]) (je_call_t c__law_card (hr.mono (by decide)) (ja_cons_t (jb_e (je_fdivc_t (jb_e (je_var 1)))) (ja_cons_t (jb_e je_int) ja_nil))) sc_law.nd) (fun one_16 => (jn_c (Γ1 := fun (other_17 : Str) => [.b g.1, .v shape_1, .v many_2, .own facts_6, .own few_9, .v one_16, .v other_17, .any, .any]) (j1_set 6 (fun (other_17 : Str) => [.b g.1, .v shape_1, .v many_2, .own facts_6, .own few_9, .v one_16, .v other_17, .any, .any]) (je_call_t c__law_card (hr.mono (by decide)) (ja_cons_t (jb_e (je_fdivc_t (jb_e (je_var 1)))) (ja_cons_t (jb_e je_int) ja_nil))) sc_law.nd) (fun other_17 => (jn_c (Γ1 := fun (d18 : Dk) => [.b g.1, .v shape_1, .v many_2, .own facts_6, .own few_9, .v one_16, .v other_17, .deep d18, .any]) (j1_setd 7 (fun (d18 : Dk) => [.b g.1, .v shape_1, .v many_2, .own facts_6, .own few_9, .v one_16, .v other_17, .deep d18, .any]) (jd_desk T.dnew (hr.mono (by decide))) sc_law.nd) (fun d18 => (jn_open 7 (fun pD qD => (jn_ifz (Γ' := (fun (d133 : Dk) => [.b g.1, .v shape_1, .v many_2, .own facts_6, .own few_9, .v one_16, .v other_17, .dat pD qD d133, .any])) (jzt_ne (mb := fun d34 => (some ("ok" : Str))) (jz_dmeth 7 (ma := (Option.bind (Option.bind (Option.bind (sAdd ("book " : Str) one_16) fun (t22 : Str) => Option.bind (some ("\n" : Str)) fun (t23 : Str) => (sAdd t22 t23)) fun (t29 : Str) => Option.bind (Option.bind (Option.bind (some few_9) fun (t27 : (List (T3 Str Str Str))) => Option.bind (Option.bind (Option.bind (m__law_cell_at (g.1, ((1 : Int), ()))) fun (t24 : Int) => some (t24 / 60)) fun (t25 : Int) => Option.bind (some ()) fun (t26 : Unit) => some (t25, t26)) fun (t28 : (Int × Unit)) => some (t27, t28)) m__law_rows) fun (t30 : Str) => (sAdd t29 t30)) fun (t31 : Str) => Option.bind (some ()) fun (t32 : Unit) => some (t31, t32))) (fun (d21 : Dk) => [.b g.1, .v shape_1, .v many_2, .own facts_6, .own few_9, .v one_16, .v other_17, .dat pD qD d21, .any]) dm_say (hr.mono (by decide)) (ja_cons (jb_e (je_cat (jb_e (je_cat (jb_e (je_cat_t (jb_e je_str) (jb_e (je_var 5)))) (jb_e je_str))) (jb_e (je_call c__law_rows (hr.mono (by decide)) (ja_cons (jb_own 4) (ja_cons (jb_e (je_fdivc (jb_e (je_call_t c__law_cell_at (hr.mono (by decide)) (ja_cons_t (jb_var 0) (ja_cons_t (jb_e je_int) ja_nil)))))) ja_nil)))))) ja_nil)) (fun d34 => (jb_e je_str))) (fun d37 => (jn_ret je_bl)) (fun d37 => (jn_ifz (Γ' := (fun (d132 : Dk) => [.b g.1, .v shape_1, .v many_2, .own facts_6, .own few_9, .v one_16, .v other_17, .dat pD qD d132, .any])) (jzt_ne (mb := fun d53 => (some ("ok" : Str))) (jz_dmeth 7 (ma := (Option.bind (Option.bind (Option.bind (sAdd ("book " : Str) other_17) fun (t41 : Str) => Option.bind (some ("\n" : Str)) fun (t42 : Str) => (sAdd t41 t42)) fun (t48 : Str) => Option.bind (Option.bind (Option.bind (some (List.reverse facts_6)) fun (t46 : (List (T3 Str Str Str))) => Option.bind (Option.bind (Option.bind (m__law_cell_at (g.1, ((1 : Int), ()))) fun (t43 : Int) => some (t43 / 120)) fun (t44 : Int) => Option.bind (some ()) fun (t45 : Unit) => some (t44, t45)) fun (t47 : (Int × Unit)) => some (t46, t47)) m__law_rows) fun (t49 : Str) => (sAdd t48 t49)) fun (t50 : Str) => Option.bind (some ()) fun (t51 : Unit) => some (t50, t51))) (fun (d40 : Dk) => [.b g.1, .v shape_1, .v many_2, .own facts_6, .own few_9, .v one_16, .v other_17, .dat pD qD d40, .any]) dm_say (hr.mono (by decide)) (ja_cons (jb_e (je_cat (jb_e (je_cat (jb_e (je_cat_t (jb_e je_str) (jb_e (je_var 6)))) (jb_e je_str))) (jb_e (je_call c__law_rows (hr.mono (by decide)) (ja_cons (jb_o (jo_lrev_t T.n_list T.n_reversed (jb_own 3))) (ja_cons (jb_e (je_fdivc (jb_e (je_call_t c__law_cell_at (hr.mono (by decide)) (ja_cons_t (jb_var 0) (ja_cons_t (jb_e je_int) ja_nil)))))) ja_nil)))))) ja_nil)) (fun d53 => (jb_e je_str))) (fun d56 => (jn_ret je_bl)) (fun d56 => (jn_ifz (Γ' := (fun (d131 : Dk) => [.b g.1, .v shape_1, .v many_2, .own facts_6, .own few_9, .v one_16, .v other_17, .dat pD qD d131, .any])) (jzt_ne (mb := fun d63 => (Option.bind (Option.bind (m__law_book (few_9, ())) fun (t66 : (List (T3 Str Str Str))) => Option.bind (some ()) fun (t67 : Unit) => some (t66, t67)) m__law_shown)) (jz_dmeth 7 (ma := (Option.bind (sAdd ("show " : Str) one_16) fun (t60 : Str) => Option.bind (some ()) fun (t61 : Unit) => some (t60, t61))) (fun (d59 : Dk) => [.b g.1, .v shape_1, .v many_2, .own facts_6, .own few_9, .v one_16, .v other_17, .dat pD qD d59, .any]) dm_say (hr.mono (by decide)) (ja_cons (jb_e (je_cat_t (jb_e je_str) (jb_e (je_var 5)))) ja_nil)) (fun d63 => (jb_e (je_call c__law_shown (hr.mono (by decide)) (ja_cons (jb_o (jo_call_t c__law_book (hr.mono (by decide)) (ja_cons_t (jb_own 4) ja_nil))) ja_nil))))) (fun d68 => (jn_ret je_bl)) (fun d68 => (jn_ifz (Γ' := (fun (d130 : Dk) => [.b g.1, .v shape_1, .v many_2, .own facts_6, .own few_9, .v one_16, .v other_17, .dat pD qD d130, .any])) (jzt_ne (mb := fun d77 => (Option.bind (Option.bind (m__law_book (facts_6, ())) fun (t80 : (List (T3 Str Str Str))) => Option.bind (some ()) fun (t81 : Unit) => some (t80, t81)) m__law_shown)) (jz_dmeth 7 (ma := (Option.bind (Option.bind (sAdd ("show " : Str) other_17) fun (t72 : Str) => Option.bind (some ("\n  " : Str)) fun (t73 : Str) => (sAdd t72 t73)) fun (t74 : Str) => Option.bind (some ()) fun (t75 : Unit) => some (t74, t75))) (fun (d71 : Dk) => [.b g.1, .v shape_1, .v many_2, .own facts_6, .own few_9, .v one_16, .v other_17, .dat pD qD d71, .any]) dm_say (hr.mono (by decide)) (ja_cons (jb_e (je_cat (jb_e (je_cat_t (jb_e je_str) (jb_e (je_var 6)))) (jb_e je_str))) ja_nil)) (fun d77 => (jb_e (je_call c__law_shown (hr.mono (by decide)) (ja_cons (jb_o (jo_call_t c__law_book (hr.mono (by decide)) (ja_cons_t (jb_own 3) ja_nil))) ja_nil))))) (fun d82 => (jn_ret je_bl)) (fun d82 => (jn_ifz (Γ' := (fun (d129 : Dk) => [.b g.1, .v shape_1, .v many_2, .own facts_6, .own few_9, .v one_16, .v other_17, .dat pD qD d129, .any])) (jzt_ne (mb := fun d93 => (some ("ok" : Str))) (jz_dmeth 7 (ma := (Option.bind (Option.bind (Option.bind (sAdd ("book " : Str) one_16) fun (t86 : Str) => Option.bind (some ("\n" : Str)) fun (t87 : Str) => (sAdd t86 t87)) fun (t88 : Str) => Option.bind (m__law_rows (facts_6, ((3 : Int), ()))) fun (t89 : Str) => (sAdd t88 t89)) fun (t90 : Str) => Option.bind (some ()) fun (t91 : Unit) => some (t90, t91))) (fun (d85 : Dk) => [.b g.1, .v shape_1, .v many_2, .own facts_6, .own few_9, .v one_16, .v other_17, .dat pD qD d85, .any]) dm_say (hr.mono (by decide)) (ja_cons (jb_e (je_cat (jb_e (je_cat (jb_e (je_cat_t (jb_e je_str) (jb_e (je_var 5)))) (jb_e je_str))) (jb_e (je_call_t c__law_rows (hr.mono (by decide)) (ja_cons_t (jb_own 3) (ja_cons_t (jb_e je_int) ja_nil)))))) ja_nil)) (fun d93 => (jb_e je_str))) (fun d96 => (jn_ret je_bl)) (fun d96 => (jn_ifz (Γ' := (fun (d128 : Dk) => [.b g.1, .v shape_1, .v many_2, .own facts_6, .own few_9, .v one_16, .v other_17, .dat pD qD d128, .any])) (jzt_ne (mb := fun d103 => (Option.bind (Option.bind (m__law_book (facts_6, ())) fun (t106 : (List (T3 Str Str Str))) => Option.bind (some ()) fun (t107 : Unit) => some (t106, t107)) m__law_shown)) (jz_dmeth 7 (ma := (Option.bind (sAdd ("show " : Str) one_16) fun (t100 : Str) => Option.bind (some ()) fun (t101 : Unit) => some (t100, t101))) (fun (d99 : Dk) => [.b g.1, .v shape_1, .v many_2, .own facts_6, .own few_9, .v one_16, .v other_17, .dat pD qD d99, .any]) dm_say (hr.mono (by decide)) (ja_cons (jb_e (je_cat_t (jb_e je_str) (jb_e (je_var 5)))) ja_nil)) (fun d103 => (jb_e (je_call c__law_shown (hr.mono (by decide)) (ja_cons (jb_o (jo_call_t c__law_book (hr.mono (by decide)) (ja_cons_t (jb_own 3) ja_nil))) ja_nil))))) (fun d108 => (jn_ret je_bl)) (fun d108 => (jn_retz (jz_and (jz_eq (mb := fun d115 => (some ("ok" : Str))) (jz_dmeth 7 (ma := (Option.bind (sAdd ("book " : Str) other_17) fun (t112 : Str) => Option.bind (some ()) fun (t113 : Unit) => some (t112, t113))) (fun (d111 : Dk) => [.b g.1, .v shape_1, .v many_2, .own facts_6, .own few_9, .v one_16, .v other_17, .dat pD qD d111, .any]) dm_say (hr.mono (by decide)) (ja_cons (jb_e (je_cat_t (jb_e je_str) (jb_e (je_var 6)))) ja_nil)) (fun d115 => (jb_e je_str))) (fun d118 => (jz_one (jz_eq (mb := fun d124 => (some ("" : Str))) (jz_dmeth 7 (ma := (Option.bind (sAdd ("show " : Str) other_17) fun (t121 : Str) => Option.bind (some ()) fun (t122 : Unit) => some (t121, t122))) (fun (d120 : Dk) => [.b g.1, .v shape_1, .v many_2, .own facts_6, .own few_9, .v one_16, .v other_17, .dat pD qD d120, .any]) dm_say (hr.mono (by decide)) (ja_cons (jb_e (je_cat_t (jb_e je_str) (jb_e (je_var 6)))) ja_nil)) (fun d124 => (jb_e je_str)))))))))))))))))))))))))))))))))))
end
abbrev si_NoRow : Stmt := (clsBody (topS 2)).getD 0 (.Pass ⟨0, 0, 0, 0⟩)
abbrev si_Desk : Stmt := (clsBody (topS 95)).getD 0 (.Pass ⟨0, 0, 0, 0⟩)
theorem all_mk {l : PySem.W.OpenLaw} {w : World} {K : PySem.W.Frag} {h : Heap} {mg : Str → Option Value} {fa : Addr} (X : K.In h) (G : h.Ns mainGlobals mg) (hfa : mg "law" = some (.ref fa))
    {f1 : Addr} {od1 an1 : Option Addr} {sl1 : Array (Option Value)} {oc1 kV1 dc1 pm1 cd1 ct1 : Value} (a1 : PySem.W.nsIn K mainGlobals "_law_cell_at" = some (some (.ref f1))) (l1 : K.lookup f1 = some ⟨oc1, od1, .func (PySem.W.fnOf "_law_cell_at" "_law_cell_at" (defArgs s__law_cell_at) (defBody s__law_cell_at) (defScope s__law_cell_at) .none kV1 dc1 pm1 an1 cd1 ct1), sl1⟩) (c1 : PySem.W.codeIn K cd1 "_law_cell_at" = true) (k1 : PySem.W.keepIn K (.ref f1) = true)
    {f2 : Addr} {od2 an2 : Option Addr} {sl2 : Array (Option Value)} {oc2 kV2 dc2 pm2 cd2 ct2 : Value} (a2 : PySem.W.nsIn K mainGlobals "_law_card" = some (some (.ref f2))) (l2 : K.lookup f2 = some ⟨oc2, od2, .func (PySem.W.fnOf "_law_card" "_law_card" (defArgs s__law_card) (defBody s__law_card) (defScope s__law_card) .none kV2 dc2 pm2 an2 cd2 ct2), sl2⟩) (c2 : PySem.W.codeIn K cd2 "_law_card" = true) (k2 : PySem.W.keepIn K (.ref f2) = true)
    {f3 : Addr} {od3 an3 : Option Addr} {sl3 : Array (Option Value)} {oc3 kV3 dc3 pm3 cd3 ct3 : Value} (a3 : PySem.W.nsIn K mainGlobals "_law_great" = some (some (.ref f3))) (l3 : K.lookup f3 = some ⟨oc3, od3, .func (PySem.W.fnOf "_law_great" "_law_great" (defArgs s__law_great) (defBody s__law_great) (defScope s__law_great) .none kV3 dc3 pm3 an3 cd3 ct3), sl3⟩) (c3 : PySem.W.codeIn K cd3 "_law_great" = true) (k3 : PySem.W.keepIn K (.ref f3) = true)
    {f4 : Addr} {od4 an4 : Option Addr} {sl4 : Array (Option Value)} {oc4 kV4 dc4 pm4 cd4 ct4 : Value} (a4 : PySem.W.nsIn K mainGlobals "_law_text" = some (some (.ref f4))) (l4 : K.lookup f4 = some ⟨oc4, od4, .func (PySem.W.fnOf "_law_text" "_law_text" (defArgs s__law_text) (defBody s__law_text) (defScope s__law_text) .none kV4 dc4 pm4 an4 cd4 ct4), sl4⟩) (c4 : PySem.W.codeIn K cd4 "_law_text" = true) (k4 : PySem.W.keepIn K (.ref f4) = true)
    {f5 : Addr} {od5 an5 : Option Addr} {sl5 : Array (Option Value)} {oc5 kV5 dc5 pm5 cd5 ct5 : Value} (a5 : PySem.W.nsIn K mainGlobals "_law_fact" = some (some (.ref f5))) (l5 : K.lookup f5 = some ⟨oc5, od5, .func (PySem.W.fnOf "_law_fact" "_law_fact" (defArgs s__law_fact) (defBody s__law_fact) (defScope s__law_fact) .none kV5 dc5 pm5 an5 cd5 ct5), sl5⟩) (c5 : PySem.W.codeIn K cd5 "_law_fact" = true) (k5 : PySem.W.keepIn K (.ref f5) = true)
    {f6 : Addr} {od6 an6 : Option Addr} {sl6 : Array (Option Value)} {oc6 kV6 dc6 pm6 cd6 ct6 : Value} (a6 : PySem.W.nsIn K mainGlobals "is_card" = some (some (.ref f6))) (l6 : K.lookup f6 = some ⟨oc6, od6, .func (PySem.W.fnOf "is_card" "is_card" (defArgs s_is_card) (defBody s_is_card) (defScope s_is_card) .none kV6 dc6 pm6 an6 cd6 ct6), sl6⟩) (c6 : PySem.W.codeIn K cd6 "is_card" = true) (k6 : PySem.W.keepIn K (.ref f6) = true)
    {f7 : Addr} {od7 an7 : Option Addr} {sl7 : Array (Option Value)} {oc7 kV7 dc7 pm7 cd7 ct7 : Value} (a7 : PySem.W.nsIn K mainGlobals "order_of" = some (some (.ref f7))) (l7 : K.lookup f7 = some ⟨oc7, od7, .func (PySem.W.fnOf "order_of" "order_of" (defArgs s_order_of) (defBody s_order_of) (defScope s_order_of) .none kV7 dc7 pm7 an7 cd7 ct7), sl7⟩) (c7 : PySem.W.codeIn K cd7 "order_of" = true) (k7 : PySem.W.keepIn K (.ref f7) = true)
    {f8 : Addr} {od8 an8 : Option Addr} {sl8 : Array (Option Value)} {oc8 kV8 dc8 pm8 cd8 ct8 : Value} (a8 : PySem.W.nsIn K mainGlobals "is_passed_by" = some (some (.ref f8))) (l8 : K.lookup f8 = some ⟨oc8, od8, .func (PySem.W.fnOf "is_passed_by" "is_passed_by" (defArgs s_is_passed_by) (defBody s_is_passed_by) (defScope s_is_passed_by) .none kV8 dc8 pm8 an8 cd8 ct8), sl8⟩) (c8 : PySem.W.codeIn K cd8 "is_passed_by" = true) (k8 : PySem.W.keepIn K (.ref f8) = true)
    {f9 : Addr} {od9 an9 : Option Addr} {sl9 : Array (Option Value)} {oc9 kV9 dc9 pm9 cd9 ct9 : Value} (a9 : PySem.W.nsIn K mainGlobals "is_text" = some (some (.ref f9))) (l9 : K.lookup f9 = some ⟨oc9, od9, .func (PySem.W.fnOf "is_text" "is_text" (defArgs s_is_text) (defBody s_is_text) (defScope s_is_text) .none kV9 dc9 pm9 an9 cd9 ct9), sl9⟩) (c9 : PySem.W.codeIn K cd9 "is_text" = true) (k9 : PySem.W.keepIn K (.ref f9) = true)
    {f10 : Addr} {od10 an10 : Option Addr} {sl10 : Array (Option Value)} {oc10 kV10 dc10 pm10 cd10 ct10 : Value} (a10 : PySem.W.nsIn K mainGlobals "fact_of" = some (some (.ref f10))) (l10 : K.lookup f10 = some ⟨oc10, od10, .func (PySem.W.fnOf "fact_of" "fact_of" (defArgs s_fact_of) (defBody s_fact_of) (defScope s_fact_of) .none kV10 dc10 pm10 an10 cd10 ct10), sl10⟩) (c10 : PySem.W.codeIn K cd10 "fact_of" = true) (k10 : PySem.W.keepIn K (.ref f10) = true)
    {f11 : Addr} {od11 an11 : Option Addr} {sl11 : Array (Option Value)} {oc11 kV11 dc11 pm11 cd11 ct11 : Value} (a11 : PySem.W.nsIn K mainGlobals "fact_at" = some (some (.ref f11))) (l11 : K.lookup f11 = some ⟨oc11, od11, .func (PySem.W.fnOf "fact_at" "fact_at" (defArgs s_fact_at) (defBody s_fact_at) (defScope s_fact_at) .none kV11 dc11 pm11 an11 cd11 ct11), sl11⟩) (c11 : PySem.W.codeIn K cd11 "fact_at" = true) (k11 : PySem.W.keepIn K (.ref f11) = true)
    {f12 : Addr} {od12 an12 : Option Addr} {sl12 : Array (Option Value)} {oc12 kV12 dc12 pm12 cd12 ct12 : Value} (a12 : PySem.W.nsIn K mainGlobals "tidy" = some (some (.ref f12))) (l12 : K.lookup f12 = some ⟨oc12, od12, .func (PySem.W.fnOf "tidy" "tidy" (defArgs s_tidy) (defBody s_tidy) (defScope s_tidy) .none kV12 dc12 pm12 an12 cd12 ct12), sl12⟩) (c12 : PySem.W.codeIn K cd12 "tidy" = true) (k12 : PySem.W.keepIn K (.ref f12) = true)
    {f13 : Addr} {od13 an13 : Option Addr} {sl13 : Array (Option Value)} {oc13 kV13 dc13 pm13 cd13 ct13 : Value} (a13 : PySem.W.nsIn K mainGlobals "read_book" = some (some (.ref f13))) (l13 : K.lookup f13 = some ⟨oc13, od13, .func (PySem.W.fnOf "read_book" "read_book" (defArgs s_read_book) (defBody s_read_book) (defScope s_read_book) .none kV13 dc13 pm13 an13 cd13 ct13), sl13⟩) (c13 : PySem.W.codeIn K cd13 "read_book" = true) (k13 : PySem.W.keepIn K (.ref f13) = true)
    {f14 : Addr} {od14 an14 : Option Addr} {sl14 : Array (Option Value)} {oc14 kV14 dc14 pm14 cd14 ct14 : Value} (a14 : PySem.W.nsIn K mainGlobals "book_by" = some (some (.ref f14))) (l14 : K.lookup f14 = some ⟨oc14, od14, .func (PySem.W.fnOf "book_by" "book_by" (defArgs s_book_by) (defBody s_book_by) (defScope s_book_by) .none kV14 dc14 pm14 an14 cd14 ct14), sl14⟩) (c14 : PySem.W.codeIn K cd14 "book_by" = true) (k14 : PySem.W.keepIn K (.ref f14) = true)
    {f15 : Addr} {od15 an15 : Option Addr} {sl15 : Array (Option Value)} {oc15 kV15 dc15 pm15 cd15 ct15 : Value} (a15 : PySem.W.nsIn K mainGlobals "need_no_rows" = some (some (.ref f15))) (l15 : K.lookup f15 = some ⟨oc15, od15, .func (PySem.W.fnOf "need_no_rows" "need_no_rows" (defArgs s_need_no_rows) (defBody s_need_no_rows) (defScope s_need_no_rows) .none kV15 dc15 pm15 an15 cd15 ct15), sl15⟩) (c15 : PySem.W.codeIn K cd15 "need_no_rows" = true) (k15 : PySem.W.keepIn K (.ref f15) = true)
    {f16 : Addr} {od16 an16 : Option Addr} {sl16 : Array (Option Value)} {oc16 kV16 dc16 pm16 cd16 ct16 : Value} (l16 : K.lookup f16 = some ⟨oc16, od16, .func (PySem.W.fnOf "book_of" "Desk.book_of" (defArgs s_Desk__book_of) (defBody s_Desk__book_of) (defScope s_Desk__book_of) .none kV16 dc16 pm16 an16 cd16 ct16), sl16⟩) (c16 : PySem.W.codeIn K cd16 "Desk.book_of" = true) (k16 : PySem.W.keepIn K (.ref f16) = true)
    {f17 : Addr} {od17 an17 : Option Addr} {sl17 : Array (Option Value)} {oc17 kV17 dc17 pm17 cd17 ct17 : Value} (a17 : PySem.W.nsIn K mainGlobals "show_book" = some (some (.ref f17))) (l17 : K.lookup f17 = some ⟨oc17, od17, .func (PySem.W.fnOf "show_book" "show_book" (defArgs s_show_book) (defBody s_show_book) (defScope s_show_book) .none kV17 dc17 pm17 an17 cd17 ct17), sl17⟩) (c17 : PySem.W.codeIn K cd17 "show_book" = true) (k17 : PySem.W.keepIn K (.ref f17) = true)
    {f18 : Addr} {od18 an18 : Option Addr} {sl18 : Array (Option Value)} {oc18 kV18 dc18 pm18 cd18 ct18 : Value} (l18 : K.lookup f18 = some ⟨oc18, od18, .func (PySem.W.fnOf "asked" "Desk.asked" (defArgs s_Desk__asked) (defBody s_Desk__asked) (defScope s_Desk__asked) .none kV18 dc18 pm18 an18 cd18 ct18), sl18⟩) (c18 : PySem.W.codeIn K cd18 "Desk.asked" = true) (k18 : PySem.W.keepIn K (.ref f18) = true)
    {f19 : Addr} {od19 an19 : Option Addr} {sl19 : Array (Option Value)} {oc19 kV19 dc19 pm19 cd19 ct19 : Value} (l19 : K.lookup f19 = some ⟨oc19, od19, .func (PySem.W.fnOf "say" "Desk.say" (defArgs s_Desk__say) (defBody s_Desk__say) (defScope s_Desk__say) .none kV19 dc19 pm19 an19 cd19 ct19), sl19⟩) (c19 : PySem.W.codeIn K cd19 "Desk.say" = true) (k19 : PySem.W.keepIn K (.ref f19) = true)
    {f20 : Addr} {od20 an20 : Option Addr} {sl20 : Array (Option Value)} {oc20 kV20 dc20 pm20 cd20 ct20 : Value} (a20 : PySem.W.nsIn K mainGlobals "_law_rows" = some (some (.ref f20))) (l20 : K.lookup f20 = some ⟨oc20, od20, .func (PySem.W.fnOf "_law_rows" "_law_rows" (defArgs s__law_rows) (defBody s__law_rows) (defScope s__law_rows) .none kV20 dc20 pm20 an20 cd20 ct20), sl20⟩) (c20 : PySem.W.codeIn K cd20 "_law_rows" = true) (k20 : PySem.W.keepIn K (.ref f20) = true)
    {f21 : Addr} {od21 an21 : Option Addr} {sl21 : Array (Option Value)} {oc21 kV21 dc21 pm21 cd21 ct21 : Value} (a21 : PySem.W.nsIn K mainGlobals "_law_shown" = some (some (.ref f21))) (l21 : K.lookup f21 = some ⟨oc21, od21, .func (PySem.W.fnOf "_law_shown" "_law_shown" (defArgs s__law_shown) (defBody s__law_shown) (defScope s__law_shown) .none kV21 dc21 pm21 an21 cd21 ct21), sl21⟩) (c21 : PySem.W.codeIn K cd21 "_law_shown" = true) (k21 : PySem.W.keepIn K (.ref f21) = true)
    {f22 : Addr} {od22 an22 : Option Addr} {sl22 : Array (Option Value)} {oc22 kV22 dc22 pm22 cd22 ct22 : Value} (a22 : PySem.W.nsIn K mainGlobals "_law_book" = some (some (.ref f22))) (l22 : K.lookup f22 = some ⟨oc22, od22, .func (PySem.W.fnOf "_law_book" "_law_book" (defArgs s__law_book) (defBody s__law_book) (defScope s__law_book) .none kV22 dc22 pm22 an22 cd22 ct22), sl22⟩) (c22 : PySem.W.codeIn K cd22 "_law_book" = true) (k22 : PySem.W.keepIn K (.ref f22) = true)
    {f23 : Addr} {od23 an23 : Option Addr} {sl23 : Array (Option Value)} {oc23 kV23 dc23 pm23 cd23 ct23 : Value} (a23 : PySem.W.nsIn K mainGlobals "law" = some (some (.ref f23))) (l23 : K.lookup f23 = some ⟨oc23, od23, .func (PySem.W.fnOf "law" "law" (defArgs s_law) (defBody s_law) (defScope s_law) .none kV23 dc23 pm23 an23 cd23 ct23), sl23⟩) (c23 : PySem.W.codeIn K cd23 "law" = true) (k23 : PySem.W.keepIn K (.ref f23) = true)
    {I_Desk : Addr} {iod_Desk ian_Desk : Option Addr} {isl_Desk : Array (Option Value)} {ioc_Desk ikv_Desk idc_Desk ipm_Desk icd_Desk ict_Desk : Value}
    {A_Desk : Addr}
    (ns_Desk : PySem.W.nsIn K mainGlobals "Desk" = some (some (.ref A_Desk)))
    {A_NoRow : Addr}
    (ns_NoRow : PySem.W.nsIn K mainGlobals "NoRow" = some (some (.ref A_NoRow)))
    {A_FolkError : Addr}
    (ns_FolkError : PySem.W.nsIn K mainGlobals "FolkError" = some (some (.ref A_FolkError)))
    (kp_NoRow : PySem.W.keepIn K (.ref A_NoRow) = true)
    (eb_NoRow : PySem.W.subIn K (.ref A_NoRow) (.type "BaseException") = some true)
    (ty_NoRow : PySem.W.typeIn K (.ref A_NoRow) = some (.type "type"))
    {I_NoRow : Addr} {iod_NoRow ian_NoRow : Option Addr} {isl_NoRow : Array (Option Value)} {ioc_NoRow ikv_NoRow idc_NoRow ipm_NoRow icd_NoRow ict_NoRow : Value}
    (xl_NoRow : ∃ nm q N bs bm sn sub ab col dd k0 k1 k2 k3 k5, K.lookup A_NoRow = some (excClassObj nm q A_NoRow N bs bm true sn sub ab col dd k0 k1 k2 k3 k5 "ValueError.__new__") ∧ PySem.HandSPX.refsVE bm = true)
    (sa_NoRow : PySem.W.findIn K (.ref A_NoRow) "__setattr__" = some (some (.builtin "object.__setattr__")))
    (ii_NoRow : PySem.W.findIn K (.ref A_NoRow) "__init__" = some (some (.ref I_NoRow)))
    (it_NoRow : PySem.W.typeIn K (.ref I_NoRow) = some (.type "function"))
    (il_NoRow : K.lookup I_NoRow = some ⟨ioc_NoRow, iod_NoRow, .func (PySem.W.fnOf "__init__" "NoRow.__init__" (defArgs si_NoRow) (defBody si_NoRow) (defScope si_NoRow) .none ikv_NoRow idc_NoRow ipm_NoRow ian_NoRow icd_NoRow ict_NoRow), isl_NoRow⟩)
    (ic_NoRow : PySem.W.codeIn K icd_NoRow "NoRow.__init__" = true)
    (ik_NoRow : PySem.W.keepIn K (.ref I_NoRow) = true)
    (no_NoRow : PySem.W.findIn K (.ref A_NoRow) "row" = some none)
    (oc_sp : PySem.W.specialIn K (.builtin "object.__class__") "__get__" = some (some (.builtin "getset_descriptor.__get__")))
    (oc_tk : PySem.W.takesIn K (.builtin "object.__class__") = some true)
    (ka_NoRow : PySem.W.isClsIn K A_NoRow = true)
    (kb_NoRow : PySem.W.findIn K (.ref A_NoRow) "__getattribute__" = some (some (.builtin "BaseException.__getattribute__")))
    (kc_NoRow : PySem.W.findIn K (.ref A_NoRow) "__getattr__" = some none)
    (kd_NoRow : PySem.W.findIn K (.ref A_NoRow) "__class__" = some (some (.builtin "object.__class__")))
    (ke_NoRow : PySem.W.mroIn K A_NoRow (.type "object") = some true)
    (kf_NoRow : PySem.W.hasDictIn K A_NoRow = true)
    (k_NoRow_NoRow : PySem.W.subIn K (.ref A_NoRow) (.ref A_NoRow) = some true)
    (se_NoRow : PySem.W.subIn K (.ref A_NoRow) (.ref A_NoRow) = some true)
    (kp_Desk : PySem.W.keepIn K (.ref A_Desk) = true)
    (rg_Desk : PySem.W.plainGet K A_Desk Str.empty = true)
    (rh_Desk : PySem.W.hasDictIn K A_Desk = true)
    (ro_Desk : PySem.W.plainOver K A_Desk = true)
    (ra_Desk : PySem.W.findIn K (.ref A_Desk) "__setattr__" = some (some (.builtin "object.__setattr__")))
    (db_Desk : PySem.W.findIn K (.ref A_Desk) "books" = some none)
    (dr_Desk : PySem.W.findIn K (.ref A_Desk) "rules" = some none)
    (rk_Desk : PySem.W.makesIn K A_Desk = true)
    (ii_Desk : PySem.W.findIn K (.ref A_Desk) "__init__" = some (some (.ref I_Desk)))
    (fi_Desk : PySem.W.isFn K (.ref I_Desk) = true)
    (il_Desk : K.lookup I_Desk = some ⟨ioc_Desk, iod_Desk, .func (PySem.W.fnOf "__init__" "Desk.__init__" (defArgs si_Desk) (defBody si_Desk) (defScope si_Desk) .none ikv_Desk idc_Desk ipm_Desk ian_Desk icd_Desk ict_Desk), isl_Desk⟩)
    (ic_Desk : PySem.W.codeIn K icd_Desk "Desk.__init__" = true)
    (ik_Desk : PySem.W.keepIn K (.ref I_Desk) = true)
    (mf_Desk_book_of : PySem.W.findIn K (.ref A_Desk) "book_of" = some (some (.ref f16)))
    (mi_Desk__book_of : PySem.W.isFn K (.ref f16) = true)
    (mf_Desk_asked : PySem.W.findIn K (.ref A_Desk) "asked" = some (some (.ref f18)))
    (mi_Desk__asked : PySem.W.isFn K (.ref f18) = true)
    (mf_Desk_say : PySem.W.findIn K (.ref A_Desk) "say" = some (some (.ref f19)))
    (mi_Desk__say : PySem.W.isFn K (.ref f19) = true)
    (z1 : PySem.W.nsIn K mainGlobals "all" = some none)
    (z2 : PySem.W.nsIn K mainGlobals "enumerate" = some none)
    (z3 : PySem.W.nsIn K mainGlobals "len" = some none)
    (z4 : PySem.W.nsIn K mainGlobals "list" = some none)
    (z5 : PySem.W.nsIn K mainGlobals "max" = some none)
    (z6 : PySem.W.nsIn K mainGlobals "min" = some none)
    (z7 : PySem.W.nsIn K mainGlobals "reversed" = some none)
    (z8 : PySem.W.nsIn K mainGlobals "set" = some none)
    (z9 : PySem.W.nsIn K mainGlobals "sorted" = some none)
    (y1 : WTup K mg "FIELDS" [("name" : Str), ("former" : Str), ("way" : Str), ("day" : Str), ("mark" : Str)])
    (y2 : WTup K mg "BY_HAND" [("same" : Str), ("apart" : Str)])
    (y3 : ∃ t, mg "LETTERS" = some (.str ("abcdefghijklmnopqrstuvwxyz" : Str) t))
    (y4 : WDct K w mg "NAMES" [(("book" : Str), 1), (("rules" : Str), 0), (("show" : Str), 1), (("pour" : Str), 4), (("groups" : Str), 1), (("loss" : Str), 1), (("told" : Str), 2)])
    : ∃ fd : FuncData, (∀ (s : Shared) (v : Value), BindsTo s fd ⟨[v], []⟩ [("_law_script", v)]) ∧ ∀ base : Heap, K.In base → base.Ns mainGlobals mg → FnOk l.prog w K mg base CX0 8 fa fd ["_law_script"] (spV K m_law) := by
  have e := hfa.symm.trans (PySem.W.mg_of X G a23)
  cases e
  have F1 := fun_mk (st := s__law_cell_at) l1 c1 k1
  have F2 := fun_mk (st := s__law_card) l2 c2 k2
  have F3 := fun_mk (st := s__law_great) l3 c3 k3
  have F4 := fun_mk (st := s__law_text) l4 c4 k4
  have F5 := fun_mk (st := s__law_fact) l5 c5 k5
  have F6 := fun_mk (st := s_is_card) l6 c6 k6
  have F7 := fun_mk (st := s_order_of) l7 c7 k7
  have F8 := fun_mk (st := s_is_passed_by) l8 c8 k8
  have F9 := fun_mk (st := s_is_text) l9 c9 k9
  have F10 := fun_mk (st := s_fact_of) l10 c10 k10
  have F11 := fun_mk (st := s_fact_at) l11 c11 k11
  have F12 := fun_mk (st := s_tidy) l12 c12 k12
  have F13 := fun_mk (st := s_read_book) l13 c13 k13
  have F14 := fun_mk (st := s_book_by) l14 c14 k14
  have F15 := fun_mk (st := s_need_no_rows) l15 c15 k15
  have F16 := fun_mk (st := s_Desk__book_of) l16 c16 k16
  have F17 := fun_mk (st := s_show_book) l17 c17 k17
  have F18 := fun_mk (st := s_Desk__asked) l18 c18 k18
  have F19 := fun_mk (st := s_Desk__say) l19 c19 k19
  have F20 := fun_mk (st := s__law_rows) l20 c20 k20
  have F21 := fun_mk (st := s__law_shown) l21 c21 k21
  have F22 := fun_mk (st := s__law_book) l22 c22 k22
  have F23 := fun_mk (st := s_law) l23 c23 k23
  refine ⟨PySem.W.fnOf "law" "law" (defArgs s_law) (defBody s_law) (defScope s_law) .none kV23 dc23 pm23 an23 cd23 ct23, fun s v => .of_eq rfl, fun base _ _ => ?_⟩
  have T : Txt l.prog w K mg base := ⟨trivial, ⟨A_NoRow, I_NoRow, _, ⟨PySem.W.mg_of X G ns_NoRow, ns_NoRow, kp_NoRow, eb_NoRow, ty_NoRow⟩, ⟨xl_NoRow, sa_NoRow, eb_NoRow, ty_NoRow, kp_NoRow⟩, ii_NoRow, it_NoRow, init_ok ⟨xl_NoRow, sa_NoRow, eb_NoRow, ty_NoRow, kp_NoRow⟩ no_NoRow (fun_mk (st := si_NoRow) il_NoRow ic_NoRow ik_NoRow) ⟨rfl, rfl, rfl, by decide +kernel, rfl, by decide +kernel, by decide +kernel⟩ rfl (fun _ _ => by first | exact Or.inl rfl | exact Or.inr (Or.inl rfl) | exact Or.inr (Or.inr rfl)) (fun _ _ => by first | exact Or.inl rfl | exact Or.inr (Or.inl rfl) | exact Or.inr (Or.inr rfl)) (by decide) (by decide) (fun _ _ => rfl), (fun_mk (st := si_NoRow) il_NoRow ic_NoRow ik_NoRow).binds (ps := ["self", "row"]) fun _ _ _ _ _ _ us hl => match us, hl with | [_, _], _ => rfl⟩, (List.forall_mem_cons.mpr ⟨⟨A_NoRow, ns_NoRow, ⟨ka_NoRow, kb_NoRow, kc_NoRow, eb_NoRow, kd_NoRow, oc_sp, oc_tk, ke_NoRow, kf_NoRow⟩⟩, fun _ h => nomatch h⟩), ⟨A_NoRow, PySem.W.mg_of X G ns_NoRow, (List.forall_mem_cons.mpr ⟨(fun D hD => by cases ns_NoRow.symm.trans hD; exact exm_own eb_NoRow ka_NoRow ty_NoRow k_NoRow_NoRow), fun _ h => nomatch h⟩)⟩, ⟨A_Desk, I_Desk, _, _, PySem.W.mg_of X G ns_Desk, ⟨ns_Desk, ⟨rg_Desk, rh_Desk, ro_Desk, ra_Desk⟩, db_Desk, dr_Desk⟩, ⟨rk_Desk, ii_Desk, fi_Desk, kp_Desk⟩, (fun_mk (st := si_Desk) il_Desk ic_Desk ik_Desk).binds (ps := ["self"]) fun _ _ _ _ _ _ us hl => match us, hl with | [_], _ => rfl, initD_ok (fun_mk (st := si_Desk) il_Desk ic_Desk ik_Desk) ⟨rfl, rfl, rfl, by decide +kernel, rfl, by decide +kernel, by decide +kernel⟩ rfl (fun _ _ => by first | exact Or.inl rfl | exact Or.inr (Or.inl rfl) | exact Or.inr (Or.inr rfl)) (fun _ _ => rfl) (fun _ _ => rfl)⟩, PySem.W.mg_none_of X G z1, PySem.W.mg_none_of X G z2, PySem.W.mg_none_of X G z3, PySem.W.mg_none_of X G z4, PySem.W.mg_none_of X G z5, PySem.W.mg_none_of X G z6, PySem.W.mg_none_of X G z7, PySem.W.mg_none_of X G z8, PySem.W.mg_none_of X G z9, y1, y2, y3, y4⟩
  have C1 : Cal l.prog w K mg base CX0 1 "_law_cell_at" ["_law_script", "_law_k"] (spV K m__law_cell_at) := ⟨f1, _, PySem.W.mg_of X G a1, k1, F1.binds (ps := ["_law_script", "_law_k"]) fun _ _ _ _ _ _ us hl => match us, hl with | [_, _], _ => rfl, ok__law_cell_at F1 T ⟩
  have C2 : Cal l.prog w K mg base CX0 1 "_law_card" ["_law_cell", "_law_k"] (spV K m__law_card) := ⟨f2, _, PySem.W.mg_of X G a2, k2, F2.binds (ps := ["_law_cell", "_law_k"]) fun _ _ _ _ _ _ us hl => match us, hl with | [_, _], _ => rfl, ok__law_card F2 T ⟩
  have C3 : Cal l.prog w K mg base CX0 1 "_law_great" ["_law_sign"] (spV K m__law_great) := ⟨f3, _, PySem.W.mg_of X G a3, k3, F3.binds (ps := ["_law_sign"]) fun _ _ _ _ _ _ us hl => match us, hl with | [_], _ => rfl, ok__law_great F3 T ⟩
  have C4 : Cal l.prog w K mg base CX0 2 "_law_text" ["_law_shape", "_law_cell"] (spV K m__law_text) := ⟨f4, _, PySem.W.mg_of X G a4, k4, F4.binds (ps := ["_law_shape", "_law_cell"]) fun _ _ _ _ _ _ us hl => match us, hl with | [_, _], _ => rfl, ok__law_text F4 T C3⟩
  have C5 : Cal l.prog w K mg base CX0 3 "_law_fact" ["_law_shape", "_law_many", "_law_cell"] (spV K m__law_fact) := ⟨f5, _, PySem.W.mg_of X G a5, k5, F5.binds (ps := ["_law_shape", "_law_many", "_law_cell"]) fun _ _ _ _ _ _ us hl => match us, hl with | [_, _, _], _ => rfl, ok__law_fact F5 T C2 C4⟩
  have C6 : Cal l.prog w K mg base CX0 1 "is_card" ["word"] (spV K m_is_card) := ⟨f6, _, PySem.W.mg_of X G a6, k6, F6.binds (ps := ["word"]) fun _ _ _ _ _ _ us hl => match us, hl with | [_], _ => rfl, ok_is_card F6 T ⟩
  have C7 : Cal l.prog w K mg base CX0 3 "order_of" ["row"] (spO K m_order_of) := ⟨f7, _, PySem.W.mg_of X G a7, k7, F7.binds (ps := ["row"]) fun _ _ _ _ _ _ us hl => match us, hl with | [_], _ => rfl, ok_order_of F7 T C6⟩
  have C8 : Cal l.prog w K mg base CX0 1 "is_passed_by" ["row"] (spV K m_is_passed_by) := ⟨f8, _, PySem.W.mg_of X G a8, k8, F8.binds (ps := ["row"]) fun _ _ _ _ _ _ us hl => match us, hl with | [_], _ => rfl, ok_is_passed_by F8 T ⟩
  have C9 : Cal l.prog w K mg base CX0 1 "is_text" ["text"] (spV K m_is_text) := ⟨f9, _, PySem.W.mg_of X G a9, k9, F9.binds (ps := ["text"]) fun _ _ _ _ _ _ us hl => match us, hl with | [_], _ => rfl, ok_is_text F9 T ⟩
  have C10 : Cal l.prog w K mg base (L2.CX l.prog w) 3 "fact_of" ["row"] (spX K m_fact_of) := ⟨f10, _, PySem.W.mg_of X G a10, k10, F10.binds (ps := ["row"]) fun _ _ _ _ _ _ us hl => match us, hl with | [_], _ => rfl, ok_fact_of F10 T C6 C9⟩
  have C11 : Cal l.prog w K mg base CX0 4 "fact_at" ["row", "number"] (spV K m_fact_at) := ⟨f11, _, PySem.W.mg_of X G a11, k11, F11.binds (ps := ["row", "number"]) fun _ _ _ _ _ _ us hl => match us, hl with | [_, _], _ => rfl, ok_fact_at F11 T C10⟩
  have C12 : Cal l.prog w K mg base CX0 1 "tidy" ["facts"] (spO K m_tidy) := ⟨f12, _, PySem.W.mg_of X G a12, k12, F12.binds (ps := ["facts"]) fun _ _ _ _ _ _ us hl => match us, hl with | [_], _ => rfl, ok_tidy F12 T ⟩
  have C13 : Cal l.prog w K mg base CX0 5 "read_book" ["text"] (spO K m_read_book) := ⟨f13, _, PySem.W.mg_of X G a13, k13, F13.binds (ps := ["text"]) fun _ _ _ _ _ _ us hl => match us, hl with | [_], _ => rfl, ok_read_book F13 T C8 C11 C12⟩
  have C14 : Cal l.prog w K mg base CX0 6 "book_by" ["rows"] (spO K m_book_by) := ⟨f14, _, PySem.W.mg_of X G a14, k14, F14.binds (ps := ["rows"]) fun _ _ _ _ _ _ us hl => match us, hl with | [_], _ => rfl, ok_book_by F14 T C13⟩
  have C15 : Cal l.prog w K mg base CX0 3 "need_no_rows" ["rows", "first"] (spV K m_need_no_rows) := ⟨f15, _, PySem.W.mg_of X G a15, k15, F15.binds (ps := ["rows", "first"]) fun _ _ _ _ _ _ us hl => match us, hl with | [_, _], _ => rfl, ok_need_no_rows F15 T ⟩
  have DM_book_of : DMth l.prog w K mg base CX0 3 "book_of" ["self", "name"] (spV K m_Desk__book_of) := ⟨A_Desk, f16, _, ns_Desk, ⟨rg_Desk, rh_Desk, ro_Desk, ra_Desk⟩, ⟨mf_Desk_book_of, mi_Desk__book_of, k16⟩, F16.binds (ps := ["self", "name"]) fun _ _ _ _ _ _ us hl => match us, hl with | [_, _], _ => rfl, ok_Desk__book_of F16 T ⟩
  have C17 : Cal l.prog w K mg base CX0 1 "show_book" ["book"] (spV K m_show_book) := ⟨f17, _, PySem.W.mg_of X G a17, k17, F17.binds (ps := ["book"]) fun _ _ _ _ _ _ us hl => match us, hl with | [_], _ => rfl, ok_show_book F17 T ⟩
  have DM_asked : DMth l.prog w K mg base CX0 2 "asked" ["self", "words", "book"] (spV K m_Desk__asked) := ⟨A_Desk, f18, _, ns_Desk, ⟨rg_Desk, rh_Desk, ro_Desk, ra_Desk⟩, ⟨mf_Desk_asked, mi_Desk__asked, k18⟩, F18.binds (ps := ["self", "words", "book"]) fun _ _ _ _ _ _ us hl => match us, hl with | [_, _, _], _ => rfl, ok_Desk__asked F18 T C17⟩
  have DM_say : DMth l.prog w K mg base CX0 7 "say" ["self", "text"] (spZ K m_Desk__say) := ⟨A_Desk, f19, _, ns_Desk, ⟨rg_Desk, rh_Desk, ro_Desk, ra_Desk⟩, ⟨mf_Desk_say, mi_Desk__say, k19⟩, F19.binds (ps := ["self", "text"]) fun _ _ _ _ _ _ us hl => match us, hl with | [_, _], _ => rfl, ok_Desk__say F19 T C7 C14 C15 DM_book_of DM_asked⟩
  have C20 : Cal l.prog w K mg base CX0 1 "_law_rows" ["_law_facts", "_law_cell"] (spV K m__law_rows) := ⟨f20, _, PySem.W.mg_of X G a20, k20, F20.binds (ps := ["_law_facts", "_law_cell"]) fun _ _ _ _ _ _ us hl => match us, hl with | [_, _], _ => rfl, ok__law_rows F20 T ⟩
  have C21 : Cal l.prog w K mg base CX0 1 "_law_shown" ["_law_book_here"] (spV K m__law_shown) := ⟨f21, _, PySem.W.mg_of X G a21, k21, F21.binds (ps := ["_law_book_here"]) fun _ _ _ _ _ _ us hl => match us, hl with | [_], _ => rfl, ok__law_shown F21 T ⟩
  have C22 : Cal l.prog w K mg base CX0 1 "_law_book" ["_law_facts"] (spO K m__law_book) := ⟨f22, _, PySem.W.mg_of X G a22, k22, F22.binds (ps := ["_law_facts"]) fun _ _ _ _ _ _ us hl => match us, hl with | [_], _ => rfl, ok__law_book F22 T ⟩
  exact ok_law F23 T C1 C5 C2 C20 C22 C21 DM_say
end K51

/-! texts as lists of signs; put put -/
namespace MS
open PySem PySem.Builtin PySem.Builtin.Str PySem.StrLaws TL L2 FK
abbrev c1 (c : Nat) : Str := ⟨#[c]⟩
abbrev mks (l : List Nat) : Str := ⟨l.toArray⟩
theorem tl_mks (l : List Nat) : tl (mks l) = l := rfl
theorem mks_tl (x : Str) : mks (tl x) = x := mk_tl x
theorem mks_inj {a b : List Nat} : mks a = mks b ↔ a = b := ⟨fun h => by have := congrArg tl h; exact this, fun h => by rw [h]⟩
theorem len_mks (l : List Nat) : (mks l).length = l.length := by rw [len_tl]
theorem sgn_tl (x : Str) : sgn x = (tl x).map c1 := rfl
theorem app_mks (a b : List Nat) : mks a ++ mks b = mks (a ++ b) := ext_tl (by rw [tl_append])
theorem pre1 (c : Nat) (l : List Nat) (i : Nat) : pre [c] (l.drop i) = true ↔ l[i]? = some c := by
  unfold pre
  cases h : l.drop i with
  | nil =>
    have hl : l.length ≤ i := List.drop_eq_nil_iff.mp h
    rw [List.getElem?_eq_none hl]
    simp
  | cons d r =>
    have hi : i < l.length := by
      by_cases hi : i < l.length
      · exact hi
      · rw [List.drop_eq_nil_iff.mpr (by omega)] at h
        cases h
    rw [List.drop_eq_getElem_cons hi] at h
    injection h with h1 h2
    rw [List.getElem?_eq_getElem hi, h1]
    simp
/-- where a sign stands first, -1 if nowhere -/
def fpos (c : Nat) (l : List Nat) : Int := if c ∈ l then (l.idxOf c : Int) else -1
theorem idx_first {c : Nat} : ∀ {l : List Nat} {i : Nat}, l[i]? = some c → (∀ k, k < i → l[k]? ≠ some c) → l.idxOf c = i
  | [], i, h, _ => by simp at h
  | d :: r, 0, h, _ => by
    have e : d = c := Option.some.inj h
    rw [e, List.idxOf_cons_self]
  | d :: r, i + 1, h, hn => by
    have hd : d ≠ c := fun e => hn 0 (Nat.succ_pos i) (by rw [e]; rfl)
    have hb : (d == c) = false := by simpa using hd
    rw [List.idxOf_cons, hb, cond_false, idx_first (l := r) (i := i) h fun k hk => hn (k + 1) (Nat.succ_lt_succ hk)]
theorem find1 (x : Str) (c : Nat) : Txt.find x (c1 c) = fpos c (tl x) := by
  have hy : tl (c1 c) ≠ [] := by
    show [c] ≠ []
    simp
  have hat : ∀ i, At x (c1 c) x.length i ↔ (tl x)[i]? = some c := fun i => (at_iff hy i).trans (pre1 c (tl x) i)
  unfold Txt.find fpos
  rcases occ_head x (c1 c) 1 (Nat.le_refl 1) with ⟨h, hn⟩ | ⟨i, r, h, hi, hk⟩
  · rw [h]
    have : c ∉ tl x := fun hm => by
      obtain ⟨i, hi, e⟩ := List.mem_iff_getElem.mp hm
      exact hn i ((hat i).mpr (by rw [List.getElem?_eq_getElem hi, e]))
    rw [if_neg this]
  · rw [h]
    have e := (hat i).mp hi
    have : c ∈ tl x := List.mem_of_getElem? e
    rw [if_pos this, idx_first e fun k hk' z => hk k hk' ((hat k).mpr z)]
abbrev GREAT : Str := "ABCDEFGHIJKLMNOPQRSTUVWXYZ"
abbrev SMALL : Str := "abcdefghijklmnopqrstuvwxyz"
theorem tl_great : tl GREAT = List.range' 65 26 := by decide +kernel
theorem tl_small : tl SMALL = List.range' 97 26 := by decide +kernel
theorem idx_range (s n : Nat) : ∀ c, s ≤ c → c < s + n → (List.range' s n).idxOf c = c - s := by
  intro c h1 h2
  refine idx_first ?_ fun k hk => ?_
  · rw [List.getElem?_range' (by omega)]
    congr 1
    omega
  · rw [List.getElem?_range' (by omega)]
    intro e
    have := Option.some.inj e
    omega
theorem mem_range (s n c : Nat) : c ∈ List.range' s n ↔ s ≤ c ∧ c < s + n := by
  rw [List.mem_range'_1]
theorem fpos_range {s n c : Nat} (h1 : s ≤ c) (h2 : c < s + n) : fpos c (List.range' s n) = ((c - s : Nat) : Int) := by
  unfold fpos
  rw [if_pos ((mem_range s n c).mpr ⟨h1, h2⟩), idx_range s n c h1 h2]
theorem fpos_no {s n c : Nat} (h : ¬ (s ≤ c ∧ c < s + n)) : fpos c (List.range' s n) = -1 := by
  unfold fpos
  rw [if_neg fun z => h ((mem_range s n c).mp z)]
theorem atI_nat' {α : Type} (l : List α) (k : Nat) (h : k < l.length) : atI l (k : Int) = some l[k] := by
  unfold atI ixN
  rw [if_pos (by omega), if_pos (by omega)]
  show l[(k : Int).toNat]? = _
  rw [Int.toNat_natCast, List.getElem?_eq_getElem h]
theorem sAt_nat (x : Str) (k : Nat) (h : k < (tl x).length) (hz : x.length ≤ 16000000) : sAt x (k : Int) = some (c1 (tl x)[k]) := by
  unfold sAt
  rw [if_pos hz, atI_nat' _ k h]
  rfl
/-- a great letter's small one -/
def low (c : Nat) : Nat := if 65 ≤ c ∧ c < 91 then c + 32 else c
theorem low_eq (c : Nat) : ((some (Txt.find GREAT (c1 c))).bind fun (a : Int) => ifM (some (decide (a < 0))) (some (c1 c)) (sAt SMALL a)) = some (c1 (low c)) := by
  show (if decide (Txt.find GREAT (c1 c) < 0) = true then some (c1 c) else sAt SMALL (Txt.find GREAT (c1 c))) = _
  rw [find1, tl_great]
  unfold low
  by_cases h : 65 ≤ c ∧ c < 91
  · rw [if_pos h, fpos_range h.1 (by omega), if_neg (by simp)]
    have hl : (tl SMALL).length = 26 := by rw [tl_small, List.length_range']
    have hk : c - 65 < (tl SMALL).length := by rw [hl]; omega
    rw [sAt_nat SMALL (c - 65) hk (by rw [len_tl, hl]; decide)]
    congr 2
    have : (tl SMALL)[c - 65]? = some (c + 32) := by
      rw [tl_small, List.getElem?_range' (by omega)]
      congr 1
      omega
    rw [List.getElem?_eq_getElem hk] at this
    exact Option.some.inj this
  · rw [if_neg h, fpos_no (by omega)]
    rfl
/-! ### words -/
def wd (cur : List Nat) : List Nat → List (List Nat)
  | [] => if cur = [] then [] else [cur]
  | c :: r => if c = 32 then (if cur = [] then wd [] r else cur :: wd [] r) else wd (cur ++ [c]) r
theorem spl_wd : ∀ (l cur : List Nat), (spl [32] 0 cur l).filter (fun w => !decide (w = [])) = wd cur l
  | [], cur => by
    unfold wd
    rw [spl_nil]
    by_cases h : cur = []
    · rw [if_pos h, h]
      rfl
    · rw [if_neg h, List.filter_cons, if_pos (by simp [h])]
      rfl
  | c :: r, cur => by
    unfold wd
    by_cases hc : c = 32
    · rw [if_pos hc]
      have hp : pre [32] (c :: r) = true := by
        rw [hc]
        exact (pre1 32 (32 :: r) 0).mpr rfl
      rw [spl_hit hp]
      show List.filter _ (cur :: spl [32] 0 [] r) = _
      rw [List.filter_cons, spl_wd r []]
      by_cases h : cur = []
      · rw [if_pos h, if_neg (by simp [h])]
      · rw [if_neg h, if_pos (by simp [h])]
    · rw [if_neg hc]
      have hp : pre [32] (c :: r) = false := by
        cases e : pre [32] (c :: r) with
        | false => rfl
        | true =>
          have := (pre1 32 (c :: r) 0).mp e
          exact absurd (Option.some.inj this) hc
      rw [spl_miss hp, spl_wd r (cur ++ [c])]
/-- words: not empty, without blanks -/
def Wds (W : List (List Nat)) : Prop := ∀ w ∈ W, w ≠ [] ∧ 32 ∉ w
/-- put put -/
def put (l : List Nat) : List Nat := (joinL [32] (wd [] l)).map low
theorem join_len : ∀ W : List (List Nat), (joinL [32] W).length ≤ (W.map (·.length)).sum + W.length
  | [] => Nat.le_refl _
  | [p] => by
    show p.length ≤ p.length + 0 + 1
    omega
  | p :: q :: r => by
    show (p ++ ([32] ++ joinL [32] (q :: r))).length ≤ (p.length + ((q :: r).map (·.length)).sum) + ((q :: r).length + 1)
    have := join_len (q :: r)
    rw [List.length_append, List.length_append, List.length_singleton]
    omega
theorem wd_len : ∀ (l cur : List Nat), ((wd cur l).map (·.length)).sum + (wd cur l).length ≤ l.length + cur.length + 1
  | [], cur => by
    unfold wd
    by_cases h : cur = []
    · rw [if_pos h]
      show 0 + 0 ≤ _
      omega
    · rw [if_neg h]
      show (cur.length + 0) + 1 ≤ 0 + cur.length + 1
      omega
  | c :: r, cur => by
    unfold wd
    by_cases hc : c = 32
    · rw [if_pos hc]
      have := wd_len r []
      by_cases h : cur = []
      · rw [if_pos h, h]
        rw [List.length_cons]
        simp only [List.length_nil] at this ⊢
        omega
      · rw [if_neg h]
        show (cur.length + ((wd [] r).map (·.length)).sum) + ((wd [] r).length + 1) ≤ (r.length + 1) + cur.length + 1
        simp only [List.length_nil] at this
        omega
    · rw [if_neg hc]
      have := wd_len r (cur ++ [c])
      rw [List.length_append, List.length_singleton] at this
      rw [List.length_cons]
      omega
theorem put_len (l : List Nat) : (put l).length ≤ l.length + 1 := by
  unfold put
  rw [List.length_map]
  have := join_len (wd [] l)
  have := wd_len l []
  simp only [List.length_nil] at this
  omega
/-! ### the law's own way: sign by sign -/
def pstep (a : List Nat) (c : Nat) : List Nat := if c ≠ 32 ∨ (a ≠ [] ∧ a.getLast? ≠ some 32) then a ++ [low c] else a
def pstrip (a : List Nat) : List Nat := if a.getLast? = some 32 then a.dropLast else a
/-- what the walk has behind some words D and a word begun -/
def stateOf (D : List (List Nat)) (cur : List Nat) : List Nat :=
  if cur = [] then (if D = [] then [] else (joinL [32] D).map low ++ [32]) else (joinL [32] (D ++ [cur])).map low
end MS

namespace MS
open PySem PySem.StrLaws TL L2 FK
/-! ### loops without a stop -/
theorem forS_exr {S : Type} {f : S → Int → Option S} (P : Nat → S → Prop) (a : Int) : ∀ (n : Nat) (s : S), (∀ k s, k < n → P k s → ∃ s', f s (a + (k : Nat)) = some s' ∧ P (k + 1) s') → P 0 s → ∃ s', forS f (rng a n) s = some s' ∧ P n s' := by
  have key : ∀ (m : Nat) (k : Nat) (n : Nat) (s : S), k + m = n → (∀ k s, k < n → P k s → ∃ s', f s (a + (k : Nat)) = some s' ∧ P (k + 1) s') → P k s → ∃ s', forS f ((List.range' k m).map fun (k : Nat) => a + (k : Int)) s = some s' ∧ P n s' := by
    intro m
    induction m with
    | zero => intro k n s e _ h; rw [Nat.add_zero] at e; subst e; exact ⟨s, rfl, h⟩
    | succ m ih =>
      intro k n s e st h
      obtain ⟨s1, e1, h1⟩ := st k s (by omega) h
      obtain ⟨s2, e2, h2⟩ := ih (k + 1) n s1 (by omega) st h1
      refine ⟨s2, ?_, h2⟩
      show (f s (a + (k : Nat))).bind (forS f _) = _
      rw [e1]
      exact e2
  intro n s st h
  have := key n 0 n s (by omega) st h
  rw [← List.range_eq_range'] at this
  exact this
theorem add_mks (a b : List Nat) (h : a.length + b.length ≤ 16000000) : sAdd (mks a) (mks b) = some (mks (a ++ b)) := by
  unfold sAdd
  rw [if_pos (by rw [len_mks, len_mks]; exact h), app_mks]
/-! ### plain_of -/
theorem lc_map {α β : Type} {f : α → Option β} {g : α → β} : ∀ xs : List α, (∀ x ∈ xs, f x = some (g x)) → lcM (fun _ => some true) f xs = some (xs.map g)
  | [], _ => rfl
  | x :: r, h => by
    show ((f x).bind fun y => (lcM (fun _ => some true) f r).bind fun ys => some (y :: ys)) = _
    rw [h x List.mem_cons_self, lc_map r fun y hy => h y (List.mem_cons_of_mem _ hy)]
    rfl
theorem lc_filter {α : Type} {t : α → Bool} : ∀ xs : List α, lcM (fun x => some (t x)) (fun x => some x) xs = some (xs.filter t)
  | [] => rfl
  | x :: r => by
    show (if t x = true then (some x).bind fun y => (lcM (fun x => some (t x)) (fun x => some x) r).bind fun ys => some (y :: ys) else lcM (fun x => some (t x)) (fun x => some x) r) = _
    rw [lc_filter r, List.filter_cons]
    cases t x <;> rfl
theorem split_blank (x : Str) (hz : x.length ≤ 15000000) : sSplit x (" " : Str) = some (Txt.split x (" " : Str)) := if_pos ⟨rfl, hz⟩
theorem split_words (x : Str) : ((Txt.split x (" " : Str)).filter fun w => !decide (w = ("" : Str))).map tl = wd [] (tl x) := by
  have h := split_spl x (" " : Str) (by decide +kernel) (kind_ok (by decide +kernel))
  have e : tl (" " : Str) = [32] := by decide +kernel
  rw [e] at h
  rw [← spl_wd, ← h, List.filter_map]
  congr 1
  refine List.filter_congr fun w _ => ?_
  show (!decide (w = ("" : Str))) = !decide (tl w = [])
  congr 1
  refine decide_eq_decide.mpr ⟨fun z => by rw [z]; rfl, fun z => ext_tl z⟩
theorem split_len (x : Str) : (Txt.split x (" " : Str)).length ≤ x.length + 2 := PyProof.Rows.split_le x _
theorem map_len (ys : List Str) : ys.map (·.length) = (ys.map tl).map (·.length) := by
  rw [List.map_map]
  exact List.map_congr_left fun y _ => len_tl y
theorem join_signs (l : List Nat) : Txt.join ("" : Str) (l.map c1) = mks l := by
  rw [join_eq]
  refine ext_tl ?_
  rw [tl_join]
  show joinL [] ((l.map c1).map tl) = l
  rw [List.map_map]
  have : ∀ l : List Nat, joinL [] (l.map (tl ∘ c1)) = l := by
    intro l
    induction l with
    | nil => rfl
    | cons c r ih =>
      cases r with
      | nil => rfl
      | cons d r =>
        show [c] ++ ([] ++ joinL [] ((d :: r).map (tl ∘ c1))) = c :: d :: r
        rw [ih]
        rfl
  exact this l
theorem sum_ones (l : List Nat) : ((l.map c1).map (·.length)).sum = l.length := by
  induction l with
  | nil => rfl
  | cons c r ih =>
    show (c1 c).length + ((r.map c1).map (·.length)).sum = r.length + 1
    rw [ih]
    show 1 + r.length = _
    omega
def gPlain (sm : Str × Unit → Option Str) (x : Str) : Option Str := (Option.bind (Option.bind (sSplit x (" " : Str)) fun (xs3 : List Str) => lcG (fun (x2 : Str) => (some (!decide (x2 = ("" : Str))))) (fun (x2 : Str) => (some x2)) xs3) fun (words_1 : (List Str)) => (Option.bind (some ("" : Str)) fun (t7 : Str) => Option.bind (Option.bind (Option.bind (sJoin (" " : Str) words_1) fun (t4 : Str) => some (sgn t4)) fun (xs6 : List Str) => lcG (fun (x5 : Str) => (some true)) (fun (x5 : Str) => (sm (x5, ()))) xs6) fun (t8 : (List Str)) => (sJoin t7 t8)))
theorem plain_gen {sm : Str × Unit → Option Str} (hsm : ∀ c, sm (c1 c, ()) = some (c1 (low c))) (l : List Nat) (hl : l.length ≤ 500000) : gPlain sm (mks l) = some (mks (put l)) := by
  unfold gPlain
  rw [split_blank _ (by rw [len_mks]; omega)]
  have hlen := split_len (mks l)
  rw [len_mks] at hlen
  have hw := split_words (mks l)
  generalize hY : (Txt.split (mks l) (" " : Str)).filter (fun w => !decide (w = ("" : Str))) = Y at hw
  have hj : sJoin (" " : Str) Y = some (Txt.join (" " : Str) Y) := by
    refine if_pos ?_
    have h1 := wd_len l []
    rw [map_len, hw]
    have h2 : Y.length = (wd [] (tl (mks l))).length := by rw [← hw, List.length_map]
    rw [h2]
    show ((wd [] l).map (·.length)).sum + (wd [] l).length * 1 ≤ 16000000
    simp only [List.length_nil] at h1
    omega
  have ej : tl (Txt.join (" " : Str) Y) = joinL [32] (wd [] l) := by
    rw [join_eq, tl_join, hw]
    rfl
  show Option.bind (Option.bind (some (Txt.split (mks l) (" " : Str))) fun (xs3 : List Str) => lcG _ _ xs3) _ = _
  show Option.bind (lcG (fun (x2 : Str) => some (!decide (x2 = ("" : Str)))) (fun (x2 : Str) => some x2) (Txt.split (mks l) (" " : Str))) _ = _
  have e1 : lcG (fun (x2 : Str) => some (!decide (x2 = ("" : Str)))) (fun (x2 : Str) => some x2) (Txt.split (mks l) (" " : Str)) = some Y := by
    unfold lcG
    rw [if_pos (by omega), lc_filter, hY]
  rw [e1]
  show Option.bind (Option.bind (Option.bind (sJoin (" " : Str) Y) fun (t4 : Str) => some (sgn t4)) fun (xs6 : List Str) => lcG (fun (_ : Str) => some true) (fun (x5 : Str) => sm (x5, ())) xs6) (fun (t8 : List Str) => sJoin ("" : Str) t8) = _
  rw [hj]
  show Option.bind (lcG (fun (_ : Str) => some true) (fun (x5 : Str) => sm (x5, ())) (sgn (Txt.join (" " : Str) Y))) (fun (t8 : List Str) => sJoin ("" : Str) t8) = _
  have e2 : lcG (fun (_ : Str) => some true) (fun (x5 : Str) => sm (x5, ())) (sgn (Txt.join (" " : Str) Y)) = some ((put l).map c1) := by
    unfold lcG
    have hs : sgn (Txt.join (" " : Str) Y) = (joinL [32] (wd [] l)).map c1 := by rw [sgn_tl, ej]
    have hb := put_len l
    rw [hs, if_pos (by rw [List.length_map]; unfold put at hb; rw [List.length_map] at hb; omega), lc_map (g := fun x => c1 (low (x.cps.getD 0 0)))]
    · congr 1
      unfold put
      rw [List.map_map, List.map_map]
      exact List.map_congr_left fun c _ => rfl
    · intro x hx
      obtain ⟨c, _, e⟩ := List.mem_map.mp hx
      subst e
      exact hsm c
  rw [e2]
  show sJoin ("" : Str) ((put l).map c1) = _
  unfold sJoin
  have hb := put_len l
  rw [if_pos, join_signs]
  rw [sum_ones]
  show (put l).length + _ * 0 ≤ _
  omega
/-! ### the law's own -/
theorem last_sign (a : List Nat) (h : a ≠ []) (hz : a.length ≤ 16000000) : sAt (mks a) (-1) = some (c1 (a.getLast h)) := by
  unfold sAt
  rw [if_pos (by rw [len_mks]; exact hz)]
  show ((atI a (-1)).bind fun c => some (c1 c)) = _
  have : atI a (-1) = some (a.getLast h) := by
    conv => lhs; rw [← List.dropLast_concat_getLast h]
    exact atI_last _ _
  rw [this]
  rfl
theorem c1_eq (a b : Nat) : (c1 a = c1 b) ↔ a = b := ⟨fun h => by have := congrArg tl h; exact List.singleton_inj.mp this, fun h => by rw [h]⟩
theorem blank : (" " : Str) = c1 32 := by decide
def gLawPlain (sm : Str × Unit → Option Str) (x : Str) : Option Str := (Option.bind (some ("" : Str)) fun (plain_here_1 : Str) => (Option.bind (Option.bind (some (sgn x)) fun (xs9 : List Str) => forS (S := Str) (fun (s2 : Str) (x3 : Str) => (ifM (bOr (some (!decide (x3 = (" " : Str)))) (bAnd (some (!decide (s2 = ("" : Str)))) (Option.bind (sAt s2 (-(1 : Int))) fun (t4 : Str) => Option.bind (some (" " : Str)) fun (t5 : Str) => some (!decide (t4 = t5))))) (Option.bind (Option.bind (some s2) fun (t7 : Str) => Option.bind (sm (x3, ())) fun (t8 : Str) => (sAdd t7 t8)) fun (plain_here_6 : Str) => (some plain_here_6)) (some s2))) xs9 plain_here_1) fun (s10 : Str) => (ifM (bAnd (some (!decide (s10 = ("" : Str)))) (Option.bind (sAt s10 (-(1 : Int))) fun (t11 : Str) => Option.bind (some (" " : Str)) fun (t12 : Str) => some (decide (t11 = t12)))) (sCut s10 none (some (-(1 : Int)))) (some s10))))
/-! ### the law's text -/
def gSign (x : Int) : Option Str := (Option.bind (some (" !\"#$&'()*+,-./0123456789:;<=>?@ABCDEFGHIJKLMNOPQRSTUVWXYZ[\\]^_`" : Str)) fun (some_1 : Str) => (Option.bind (sAdd some_1 ("abcdefghijklmnopqrstuvwxyz{|}~" : Str)) fun (some_2 : Str) => (sAt some_2 (x % 94))))
theorem cut_len {α : Type} (xs : List α) (lo hi : Option Int) : (cutA xs lo hi).length ≤ xs.length := by
  unfold cutA
  rw [List.length_take, List.length_drop]
  omega
/-- texts of one sign -/
def Sgs (ss : List Str) : Prop := ∀ s ∈ ss, ∃ c, s = c1 c
theorem sgs_map : ∀ {ss : List Str}, Sgs ss → ∃ l : List Nat, ss = l.map c1 ∧ l.length = ss.length
  | [], _ => ⟨[], rfl, rfl⟩
  | s :: r, h => by
    obtain ⟨c, hc⟩ := h s List.mem_cons_self
    obtain ⟨l, e, hl⟩ := sgs_map (ss := r) fun x hx => h x (List.mem_cons_of_mem _ hx)
    exact ⟨c :: l, by rw [hc, e]; rfl, by rw [List.length_cons, List.length_cons, hl]⟩
theorem sgs_join {ss : List Str} (h : Sgs ss) (hz : ss.length ≤ 1000000) : ∃ l : List Nat, sJoin ("" : Str) ss = some (mks l) ∧ l.length = ss.length := by
  obtain ⟨l, rfl, hl⟩ := sgs_map h
  refine ⟨l, ?_, hl⟩
  unfold sJoin
  rw [if_pos, join_signs]
  rw [sum_ones]
  show l.length + _ * 0 ≤ _
  omega
theorem app_eq {α : Type} (xs : List α) (x : α) (h : xs.length < 16000000) : lApp xs x = some (xs ++ [x]) := if_pos h
theorem cutS_mks (l : List Nat) (lo hi : Option Int) : cutS (mks l) lo hi = mks (cutA l lo hi) := by
  refine ext_tl ?_
  unfold cutA
  show _ = (l.drop (HT.sIx l.length 0 lo)).take (HT.sIx l.length l.length hi - HT.sIx l.length 0 lo)
  rw [← len_mks]
  rfl
theorem cut_mks (l : List Nat) (lo hi : Option Int) (h : l.length ≤ 16000000) : sCut (mks l) lo hi = some (mks (cutA l lo hi)) := by
  unfold sCut
  rw [if_pos (by rw [len_mks]; exact h), cutS_mks]
theorem six (n d : Nat) (z : Int) (h : 0 ≤ z) : HT.sIx n d (some z) = min z.toNat n := by
  show (if z < 0 then (z + (n : Int)).toNat else min z.toNat n) = _
  rw [if_neg (by omega)]
theorem cut_mid {α : Type} (xs : List α) (y z : Int) (hy : 0 ≤ y) (h : 0 ≤ z) : (cutA xs (some y) (some z)).length ≤ (z - y).toNat := by
  unfold cutA
  rw [List.length_take, List.length_drop, six _ _ z h, six _ _ y hy]
  omega
theorem bs {α β : Type} (x : α) (f : α → Option β) : Option.bind (some x) f = f x := Option.bind_some x f
theorem and2 (p q : Prop) [Decidable p] [Decidable q] : bAnd (some (decide p)) (some (decide q)) = some (decide (p ∧ q)) := by
  by_cases hp : p
  · by_cases hq : q
    · rw [decide_eq_true hp, decide_eq_true hq, decide_eq_true (And.intro hp hq)]
      rfl
    · rw [decide_eq_true hp, decide_eq_false hq, decide_eq_false (fun z : p ∧ q => hq z.2)]
      rfl
  · rw [decide_eq_false hp, decide_eq_false (fun z : p ∧ q => hp z.1)]
    rfl
end MS

namespace MS
open PySem PySem.StrLaws TL L2 FK
/-! ### loops by places -/
theorem forS_at {S α : Type} {f : S → α → Option S} (g : Nat → S) : ∀ (xs : List α) (i : Nat), (∀ k (hk : k < xs.length), f (g (i + k)) xs[k] = some (g (i + k + 1))) → forS f xs (g i) = some (g (i + xs.length))
  | [], i, _ => rfl
  | x :: r, i, h => by
    show (f (g i) x).bind (forS f r) = _
    have h0 := h 0 (Nat.succ_pos _)
    rw [Nat.add_zero] at h0
    rw [show f (g i) x = some (g (i + 1)) from h0]
    show forS f r (g (i + 1)) = _
    rw [forS_at g r (i + 1) fun k hk => by
      have := h (k + 1) (Nat.succ_lt_succ hk)
      rw [show i + 1 + k = i + (k + 1) by omega]
      exact this, List.length_cons, show i + 1 + r.length = i + (r.length + 1) by omega]
theorem rng_len (a : Int) (n : Nat) : (rng a n).length = n := by
  unfold rng
  rw [List.length_map, List.length_range]
theorem forS_rng {S : Type} {f : S → Int → Option S} (g : Nat → S) (a : Int) (n : Nat) (h : ∀ k, k < n → f (g k) (a + (k : Nat)) = some (g (k + 1))) : forS f (rng a n) (g 0) = some (g n) := by
  have := forS_at (f := f) g (rng a n) 0 fun k hk => by
    rw [rng_len] at hk
    rw [Nat.zero_add]
    have e : (rng a n)[k]'(by rw [rng_len]; exact hk) = a + (k : Nat) := by
      unfold rng
      rw [List.getElem_map, List.getElem_range]
    rw [e]
    exact h k hk
  rw [Nat.zero_add, rng_len] at this
  exact this
theorem at_map {α : Type} (f : Nat → α) (n k : Nat) (h : k < n) : atI ((List.range n).map f) (k : Int) = some (f k) := by
  rw [atI_nat' _ k (by rw [List.length_map, List.length_range]; exact h), List.getElem_map, List.getElem_range]
theorem at_map' {α : Type} (f : Nat → α) (n k : Nat) (z : Int) (hz : z = k) (h : k < n) : atI ((List.range n).map f) z = some (f k) := by
  rw [hz]
  exact at_map f n k h
theorem map_snoc {α : Type} (f : Nat → α) (n : Nat) : (List.range n).map f ++ [f n] = (List.range (n + 1)).map f := by
  rw [List.range_succ, List.map_append]
  rfl
theorem range1_nat (n : Nat) (h : n ≤ 16000000) : range1 (n : Int) = some (rng 0 n) := by
  unfold range1
  rw [if_pos (by omega), Int.toNat_natCast]
theorem sLen_mks (l : List Nat) (h : l.length ≤ 16000000) : sLen (mks l) = some (l.length : Int) := by
  unfold sLen
  rw [len_mks, if_pos h]
theorem sAt_mks (l : List Nat) (k : Nat) (h : k < l.length) (hz : l.length ≤ 16000000) : sAt (mks l) (k : Int) = some (c1 l[k]) := sAt_nat (mks l) k h (by rw [len_mks]; exact hz)
/-! ### the distance of two lists of signs -/
def ne1 (a b : Nat) : Nat := if a = b then 0 else 1
def lev : List Nat → List Nat → Nat
  | [], b => b.length
  | _ :: x, [] => x.length + 1
  | a :: x, b :: y => min (lev x y + ne1 a b) (min (lev x (b :: y) + 1) (lev (a :: x) y + 1))
termination_by a b => a.length + b.length
theorem lev_nil (b : List Nat) : lev [] b = b.length := by rw [lev]
theorem lev_nil2 (a : List Nat) : lev a [] = a.length := by
  cases a with
  | nil => rw [lev]
  | cons x r => rw [lev, List.length_cons]
theorem lev_cons (a b : Nat) (x y : List Nat) : lev (a :: x) (b :: y) = min (lev x y + ne1 a b) (min (lev x (b :: y) + 1) (lev (a :: x) y + 1)) := by rw [lev]
inductive Ed : List Nat → List Nat → Nat → Prop
  | nil : Ed [] [] 0
  | keep {x y : List Nat} {n : Nat} (a : Nat) : Ed x y n → Ed (a :: x) (a :: y) n
  | turn {x y : List Nat} {n : Nat} (a b : Nat) : Ed x y n → Ed (a :: x) (b :: y) (n + 1)
  | cut {x y : List Nat} {n : Nat} (a : Nat) : Ed x y n → Ed (a :: x) y (n + 1)
  | put {x y : List Nat} {n : Nat} (b : Nat) : Ed x y n → Ed x (b :: y) (n + 1)
theorem ed_cuts : ∀ x : List Nat, Ed x [] x.length
  | [] => .nil
  | a :: x => .cut a (ed_cuts x)
theorem ed_puts : ∀ x : List Nat, Ed [] x x.length
  | [] => .nil
  | a :: x => .put a (ed_puts x)
theorem lev_ed : ∀ (x y : List Nat), Ed x y (lev x y)
  | [], y => by rw [lev_nil]; exact ed_puts y
  | a :: x, [] => by rw [lev_nil2]; exact ed_cuts (a :: x)
  | a :: x, b :: y => by
    rw [lev_cons]
    have h1 := lev_ed x y
    have h2 := lev_ed x (b :: y)
    have h3 := lev_ed (a :: x) y
    have e1 : Ed (a :: x) (b :: y) (lev x y + ne1 a b) := by
      unfold ne1
      by_cases h : a = b
      · rw [if_pos h, h]
        exact .keep b h1
      · rw [if_neg h]
        exact .turn a b h1
    rcases Nat.le_total (lev x y + ne1 a b) (min (lev x (b :: y) + 1) (lev (a :: x) y + 1)) with h | h
    · rw [Nat.min_eq_left h]
      exact e1
    · rw [Nat.min_eq_right h]
      rcases Nat.le_total (lev x (b :: y) + 1) (lev (a :: x) y + 1) with h | h
      · rw [Nat.min_eq_left h]
        exact .cut a h2
      · rw [Nat.min_eq_right h]
        exact .put b h3
termination_by x y => x.length + y.length
theorem lev_le {x y : List Nat} {n : Nat} (h : Ed x y n) : lev x y ≤ n := by
  induction h with
  | nil => rw [lev_nil]; exact Nat.le_refl _
  | keep a _ ih =>
    rw [lev_cons]
    unfold ne1
    rw [if_pos rfl]
    omega
  | turn a b _ ih =>
    rw [lev_cons]
    unfold ne1
    split <;> omega
  | @cut x y n a _ ih =>
    cases y with
    | nil => rw [lev_nil2] at ih ⊢; rw [List.length_cons]; omega
    | cons b y => rw [lev_cons]; omega
  | @put x y n b _ ih =>
    cases x with
    | nil => rw [lev_nil] at ih ⊢; rw [List.length_cons]; omega
    | cons a x => rw [lev_cons]; omega
theorem Ed.app {x y u v : List Nat} {n m : Nat} (h : Ed x y n) (k : Ed u v m) : Ed (x ++ u) (y ++ v) (n + m) := by
  induction h with
  | nil => rw [Nat.zero_add]; exact k
  | keep a _ ih => exact .keep a ih
  | @turn x y n a b _ ih => rw [show n + 1 + m = n + m + 1 by omega]; exact .turn a b ih
  | @cut x y n a _ ih => rw [show n + 1 + m = n + m + 1 by omega]; exact .cut a ih
  | @put x y n b _ ih => rw [show n + 1 + m = n + m + 1 by omega]; exact .put b ih
theorem Ed.rev {x y : List Nat} {n : Nat} (h : Ed x y n) : Ed x.reverse y.reverse n := by
  induction h with
  | nil => exact .nil
  | keep a _ ih => rw [List.reverse_cons, List.reverse_cons]; exact ih.app (.keep a .nil)
  | turn a b _ ih => rw [List.reverse_cons, List.reverse_cons]; exact ih.app (.turn a b .nil)
  | cut a _ ih => rw [List.reverse_cons]; have := ih.app (.cut a .nil); rw [List.append_nil] at this; exact this
  | put b _ ih => rw [List.reverse_cons]; have := ih.app (.put b .nil); rw [List.append_nil] at this; exact this
theorem Ed.symm {x y : List Nat} {n : Nat} (h : Ed x y n) : Ed y x n := by
  induction h with
  | nil => exact .nil
  | keep a _ ih => exact .keep a ih
  | turn a b _ ih => exact .turn b a ih
  | cut a _ ih => exact .put a ih
  | put b _ ih => exact .cut b ih
theorem lev_rev (x y : List Nat) : lev x.reverse y.reverse = lev x y := by
  have h1 := lev_le (lev_ed x y).rev
  have h2 := lev_le (lev_ed x.reverse y.reverse).rev
  rw [List.reverse_reverse, List.reverse_reverse] at h2
  omega
theorem lev_symm (x y : List Nat) : lev x y = lev y x := by
  have h1 := lev_le (lev_ed x y).symm
  have h2 := lev_le (lev_ed y x).symm
  omega
theorem Ed.zero {x y : List Nat} {n : Nat} (h : Ed x y n) : n = 0 → x = y := by
  induction h with
  | nil => intro _; rfl
  | keep a _ ih => intro e; rw [ih e]
  | turn a b _ ih => intro e; omega
  | cut a _ ih => intro e; omega
  | put b _ ih => intro e; omega
theorem ed_self : ∀ x : List Nat, Ed x x 0
  | [] => .nil
  | a :: x => .keep a (ed_self x)
theorem lev_zero (x y : List Nat) : lev x y = 0 ↔ x = y := by
  refine ⟨(lev_ed x y).zero, fun e => ?_⟩
  have := lev_le (ed_self x)
  rw [← e]
  omega
theorem Ed.le_len {x y : List Nat} {n : Nat} (h : Ed x y n) : x.length ≤ y.length + n ∧ y.length ≤ x.length + n := by
  induction h with
  | nil => simp
  | keep a _ ih => rw [List.length_cons, List.length_cons]; omega
  | turn a b _ ih => rw [List.length_cons, List.length_cons]; omega
  | cut a _ ih => rw [List.length_cons]; omega
  | put b _ ih => rw [List.length_cons]; omega
/-- a way and a way behind it -/
theorem Ed.trans : ∀ {y x z : List Nat} {n m : Nat}, Ed x y n → Ed y z m → ∃ k, k ≤ n + m ∧ Ed x z k := by
  intro y x z n m h
  induction h generalizing z m with
  | nil => intro k; exact ⟨m, by omega, k⟩
  | @cut x y n a _ ih => intro k; obtain ⟨j, hj, e⟩ := ih k; exact ⟨j + 1, by omega, .cut a e⟩
  | @keep x y n a h0 ih =>
    intro k
    generalize hw : a :: y = w at k
    induction k with
    | nil => cases hw
    | @keep y' z n' b k' _ => injection hw with e1 e2; subst e1; subst e2; obtain ⟨j, hj, e⟩ := ih k'; exact ⟨j, by omega, .keep a e⟩
    | @turn y' z n' b c k' _ => injection hw with e1 e2; subst e1; subst e2; obtain ⟨j, hj, e⟩ := ih k'; exact ⟨j + 1, by omega, .turn a c e⟩
    | @cut y' z n' b k' _ => injection hw with e1 e2; subst e1; subst e2; obtain ⟨j, hj, e⟩ := ih k'; exact ⟨j + 1, by omega, .cut a e⟩
    | @put y' z n' b k' ih2 => obtain ⟨j, hj, e⟩ := ih2 hw; exact ⟨j + 1, by omega, .put b e⟩
  | @turn x y n a c h0 ih =>
    intro k
    generalize hw : c :: y = w at k
    induction k with
    | nil => cases hw
    | @keep y' z n' b k' _ => injection hw with e1 e2; subst e1; subst e2; obtain ⟨j, hj, e⟩ := ih k'; exact ⟨j + 1, by omega, .turn a c e⟩
    | @turn y' z n' b d k' _ => injection hw with e1 e2; subst e1; subst e2; obtain ⟨j, hj, e⟩ := ih k'; exact ⟨j + 1, by omega, .turn a d e⟩
    | @cut y' z n' b k' _ => injection hw with e1 e2; subst e1; subst e2; obtain ⟨j, hj, e⟩ := ih k'; exact ⟨j + 1, by omega, .cut a e⟩
    | @put y' z n' b k' ih2 => obtain ⟨j, hj, e⟩ := ih2 hw; exact ⟨j + 1, by omega, .put b e⟩
  | @put x y n c h0 ih =>
    intro k
    generalize hw : c :: y = w at k
    induction k with
    | nil => cases hw
    | @keep y' z n' b k' _ => injection hw with e1 e2; subst e1; subst e2; obtain ⟨j, hj, e⟩ := ih k'; exact ⟨j + 1, by omega, .put c e⟩
    | @turn y' z n' b d k' _ => injection hw with e1 e2; subst e1; subst e2; obtain ⟨j, hj, e⟩ := ih k'; exact ⟨j + 1, by omega, .put d e⟩
    | @cut y' z n' b k' _ => injection hw with e1 e2; subst e1; subst e2; obtain ⟨j, hj, e⟩ := ih k'; exact ⟨j, by omega, e⟩
    | @put y' z n' b k' ih2 => obtain ⟨j, hj, e⟩ := ih2 hw; exact ⟨j + 1, by omega, .put b e⟩
theorem lev_tri (x y z : List Nat) : lev x z ≤ lev x y + lev y z := by
  obtain ⟨k, hk, e⟩ := (lev_ed x y).trans (lev_ed y z)
  have := lev_le e
  omega
/-! ### reckoned from the heads -/
def fw (a b : List Nat) (i j : Nat) : Nat := lev (a.take i).reverse (b.take j).reverse
def bw (a b : List Nat) (i j : Nat) : Nat := lev (a.drop i) (b.drop j)
theorem take_rev (a : List Nat) (i : Nat) (h : i < a.length) : (a.take (i + 1)).reverse = a[i] :: (a.take i).reverse := by
  rw [List.take_succ_eq_append_getElem h, List.reverse_append]
  rfl
theorem fw_step (a b : List Nat) (i j : Nat) (hi : i < a.length) (hj : j < b.length) : fw a b (i + 1) (j + 1) = min (fw a b i j + ne1 a[i] b[j]) (min (fw a b i (j + 1) + 1) (fw a b (i + 1) j + 1)) := by
  unfold fw
  rw [take_rev a i hi, take_rev b j hj, lev_cons]
theorem fw_0 (a b : List Nat) (j : Nat) (hj : j ≤ b.length) : fw a b 0 j = j := by
  unfold fw
  rw [List.take_zero, List.reverse_nil, lev_nil, List.length_reverse, List.length_take]
  omega
theorem fw_1 (a b : List Nat) (i : Nat) (hi : i ≤ a.length) : fw a b i 0 = i := by
  unfold fw
  rw [List.take_zero, List.reverse_nil, lev_nil2, List.length_reverse, List.length_take]
  omega
theorem fw_all (a b : List Nat) : fw a b a.length b.length = lev a b := by
  unfold fw
  rw [List.take_length, List.take_length, lev_rev]
theorem min3_nat (x y z : Nat) : imin3 (x : Int) (y : Int) (z : Int) = ((min x (min y z) : Nat) : Int) := by
  unfold imin3 imin2
  split <;> split <;> omega
theorem ne_bint (a b : Nat) : bint (!decide (c1 a = c1 b)) = (ne1 a b : Int) := by
  unfold ne1
  by_cases h : a = b
  · rw [if_pos h, decide_eq_true ((c1_eq a b).mpr h)]
    rfl
  · rw [if_neg h, decide_eq_false fun z => h ((c1_eq a b).mp z)]
    rfl
/-! ### whiles -/
theorem whileS_run {S : Type} {c : S → Option Bool} {f : S → Option S} (g : Nat → S) : ∀ (n i N : Nat), n < N → (∀ k, i ≤ k → k < i + n → c (g k) = some true ∧ f (g k) = some (g (k + 1))) → c (g (i + n)) = some false → whileS c f N (g i) = some (g (i + n))
  | 0, i, N + 1, _, _, h => by
    show (c (g i)).bind _ = _
    rw [show c (g i) = some false from h]
    rfl
  | n + 1, i, N + 1, hn, st, h => by
    obtain ⟨h1, h2⟩ := st i (Nat.le_refl i) (by omega)
    show (c (g i)).bind _ = _
    rw [h1]
    show (f (g i)).bind (whileS c f N) = _
    rw [h2]
    show whileS c f N (g (i + 1)) = _
    rw [show i + (n + 1) = i + 1 + n by omega] at h ⊢
    exact whileS_run g n (i + 1) N (by omega) (fun k hk hk2 => st k (by omega) (by omega)) h
  | n, i, 0, hn, _, _ => absurd hn (by omega)
theorem cut_from {α : Type} (l : List α) (p : Nat) : cutA l (some (p : Int)) none = l.drop p := by
  unfold cutA
  rw [six _ _ _ (by omega), show HT.sIx l.length l.length none = l.length from rfl, Int.toNat_natCast]
  by_cases h : p ≤ l.length
  · rw [Nat.min_eq_left h, List.take_of_length_le (by rw [List.length_drop]; omega)]
  · rw [Nat.min_eq_right (by omega), List.drop_eq_nil_of_le (Nat.le_refl l.length), List.drop_eq_nil_of_le (show l.length ≤ p by omega), List.take_nil]
theorem cut_upto {α : Type} (l : List α) (p : Nat) : cutA l none (some (p : Int)) = l.take p := by
  unfold cutA
  rw [six _ _ _ (by omega), show HT.sIx l.length 0 none = 0 from rfl, Int.toNat_natCast, List.drop_zero, Nat.sub_zero]
  by_cases h : p ≤ l.length
  · rw [Nat.min_eq_left h]
  · rw [Nat.min_eq_right (by omega), List.take_length, List.take_of_length_le (by omega)]
/-! ### at most one change -/
def cpl : List Nat → List Nat → Nat
  | a :: x, b :: y => if a = b then cpl x y + 1 else 0
  | _, _ => 0
theorem lev_head (c : Nat) (x y : List Nat) : lev (c :: x) (c :: y) = lev x y := by
  have h1 := lev_le (.keep c (lev_ed x y))
  have hx : lev x (c :: x) ≤ 1 := lev_le (.put c (ed_self x))
  have t1 := lev_tri x (c :: x) (c :: y)
  have e1 : ne1 c c = 0 := by unfold ne1; rw [if_pos rfl]
  have h2 := lev_cons c c x y
  rw [e1, Nat.add_zero] at h2
  have a1 : lev x y ≤ lev x (c :: y) + 1 := by
    have := lev_tri x (c :: y) y
    have := lev_le (.cut c (ed_self y))
    omega
  have a2 : lev x y ≤ lev (c :: x) y + 1 := by
    have := lev_tri x (c :: x) y
    omega
  omega
theorem lev_cpl : ∀ (x y : List Nat), lev (x.drop (cpl x y)) (y.drop (cpl x y)) = lev x y
  | [], y => by rfl
  | a :: x, [] => by rfl
  | a :: x, b :: y => by
    unfold cpl
    by_cases h : a = b
    · rw [if_pos h, List.drop_succ_cons, List.drop_succ_cons, lev_cpl x y, h, lev_head]
    · rw [if_neg h]
      rfl
theorem cpl_le : ∀ (x y : List Nat), cpl x y ≤ x.length ∧ cpl x y ≤ y.length
  | [], y => by unfold cpl; simp
  | a :: x, [] => by unfold cpl; simp
  | a :: x, b :: y => by
    have := cpl_le x y
    unfold cpl
    split
    · rw [List.length_cons, List.length_cons]
      omega
    · simp
theorem cpl_same : ∀ (x y : List Nat) (k : Nat), k < cpl x y → x[k]? = y[k]?
  | [], y, k, h => by unfold cpl at h; omega
  | a :: x, [], k, h => by unfold cpl at h; omega
  | a :: x, b :: y, k, h => by
    unfold cpl at h
    split at h
    · cases k with
      | zero => rename_i e; show some a = some b; rw [e]
      | succ k => exact cpl_same x y k (by omega)
    · omega
theorem cpl_end : ∀ (x y : List Nat), cpl x y < x.length → cpl x y < y.length → x[cpl x y]? ≠ y[cpl x y]?
  | [], y, h, _ => by simp at h
  | a :: x, [], _, h => by simp at h
  | a :: x, b :: y, h, h2 => by
    unfold cpl at h h2 ⊢
    by_cases e : a = b
    · rw [if_pos e] at h h2 ⊢
      rw [List.length_cons] at h h2
      exact cpl_end x y (by omega) (by omega)
    · rw [if_neg e] at h h2 ⊢
      show some a ≠ some b
      exact fun z => e (Option.some.inj z)
/-- the same, or the same but for a first sign -/
def oneOff (x y : List Nat) : Prop := x = y ∨ x.drop 1 = y ∨ x = y.drop 1 ∨ x.drop 1 = y.drop 1
theorem oneOff_iff (x y : List Nat) (h : x[0]? ≠ y[0]? ∨ x = [] ∨ y = []) : oneOff x y ↔ lev x y ≤ 1 := by
  unfold oneOff
  cases x with
  | nil =>
    rw [lev_nil]
    cases y with
    | nil => simp
    | cons b y =>
      cases y with
      | nil => simp
      | cons c y => simp
  | cons a x =>
    cases y with
    | nil =>
      rw [lev_nil2]
      cases x with
      | nil => simp
      | cons c x => simp
    | cons b y =>
      have hab : a ≠ b := by
        rcases h with h | h | h
        · intro e
          exact h (by rw [e]; rfl)
        · cases h
        · cases h
      rw [lev_cons]
      have e1 : ne1 a b = 1 := by unfold ne1; rw [if_neg hab]
      rw [e1]
      have z1 := lev_zero x y
      have z2 := lev_zero x (b :: y)
      have z3 := lev_zero (a :: x) y
      constructor
      · rintro (e | e | e | e)
        · injection e with e
          exact absurd e hab
        · have := z2.mpr e
          omega
        · have := z3.mpr e
          omega
        · have := z1.mpr e
          omega
      · intro hle
        by_cases q1 : lev x y = 0
        · exact .inr (.inr (.inr (z1.mp q1)))
        · by_cases q2 : lev x (b :: y) = 0
          · exact .inr (.inl (z2.mp q2))
          · by_cases q3 : lev (a :: x) y = 0
            · exact .inr (.inr (.inl (z3.mp q3)))
            · omega
theorem near_iff (x y : List Nat) : oneOff (x.drop (cpl x y)) (y.drop (cpl x y)) ↔ lev x y ≤ 1 := by
  rw [oneOff_iff, lev_cpl]
  have hl := cpl_le x y
  by_cases h1 : cpl x y < x.length
  · by_cases h2 : cpl x y < y.length
    · refine .inl ?_
      rw [List.getElem?_drop, List.getElem?_drop, Nat.add_zero]
      exact cpl_end x y h1 h2
    · exact .inr (.inr (List.drop_eq_nil_of_le (by omega)))
  · exact .inr (.inl (List.drop_eq_nil_of_le (by omega)))
end MS

namespace MS
open PySem PySem.StrLaws TL L2 FK
/-! ### the rows of distances (the program's def) -/
def rowF (a b : List Nat) (i n : Nat) : List Int := (List.range n).map fun j => (fw a b i j : Int)
def gRow1 (s7 : (List (List Int))) (x9 : Int) (g : (Str × Str × Unit)) (s11 : (List Int)) (x13 : Int) : (Option (List Int)) := (Option.bind (Option.bind (Option.bind (atI s7 x9) fun (t15 : (List Int)) => Option.bind (some x13) fun (t16 : Int) => (atI t15 t16)) fun (t20 : Int) => Option.bind (Option.bind (Option.bind (sAt g.1 x9) fun (t17 : Str) => Option.bind (sAt g.2.1 x13) fun (t18 : Str) => some (!decide (t17 = t18))) fun (t19 : Bool) => some (bint t19)) fun (t21 : Int) => some (t20 + t21)) fun (turn_14 : Int) => (Option.bind (Option.bind (Option.bind (some turn_14) fun (t28 : Int) => Option.bind (Option.bind (Option.bind (atI s7 x9) fun (t22 : (List Int)) => Option.bind (some (x13 + (1 : Int))) fun (t23 : Int) => (atI t22 t23)) fun (t24 : Int) => Option.bind (some (1 : Int)) fun (t25 : Int) => some (t24 + t25)) fun (t29 : Int) => Option.bind (Option.bind (atI s11 x13) fun (t26 : Int) => Option.bind (some (1 : Int)) fun (t27 : Int) => some (t26 + t27)) fun (t30 : Int) => some (imin3 t28 t29 t30)) fun (t32 : Int) => (lApp s11 t32)) fun (row_31 : (List Int)) => (some row_31)))
def gRow2 (g : (Str × Str × Unit)) (s7 : (List (List Int))) (x9 : Int) : (Option (List (List Int))) := (Option.bind (some [(x9 + (1 : Int))]) fun (row_10 : (List Int)) => (Option.bind (Option.bind (Option.bind (sLen g.2.1) fun (t12 : Int) => (range1 t12)) fun (xs33 : List Int) => forS (S := (List Int)) (gRow1 s7 x9 g) xs33 row_10) fun (s34 : (List Int)) => (Option.bind (Option.bind (some s34) fun (t36 : (List Int)) => (lApp s7 t36)) fun (rows_35 : (List (List Int))) => (some rows_35))))
def gRows : Str × Str × Unit → Option (List (List Int)) := fun (g : Str × Str × Unit) => (Option.bind (Option.bind (Option.bind (Option.bind (sLen g.2.1) fun (t2 : Int) => Option.bind (some (1 : Int)) fun (t3 : Int) => some (t2 + t3)) fun (t4 : Int) => (lrange1 t4)) fun (t5 : (List Int)) => Option.bind (some ([] : List (List Int))) fun (t6 : List (List Int)) => some (t5 :: t6)) fun (rows_1 : (List (List Int))) => (Option.bind (Option.bind (Option.bind (sLen g.1) fun (t8 : Int) => (range1 t8)) fun (xs37 : List Int) => forS (S := (List (List Int))) (gRow2 g) xs37 rows_1) fun (s38 : (List (List Int))) => (some s38)))
def gDist : Str × Str × Unit → Option Int := fun (g : Str × Str × Unit) => (Option.bind (Option.bind (gRows (g.1, (g.2.1, ()))) fun (t1 : (List (List Int))) => Option.bind (sLen g.1) fun (t2 : Int) => (atI t1 t2)) fun (t3 : (List Int)) => Option.bind (sLen g.2.1) fun (t4 : Int) => (atI t3 t4))
def rowsF (a b : List Nat) (n : Nat) : List (List Int) := (List.range n).map fun i => rowF a b i (b.length + 1)
theorem row1_eq (a b : List Nat) (i j : Nat) (hi : i < a.length) (hj : j < b.length) (ha : a.length ≤ 10000) (hb : b.length ≤ 10000) :
    gRow1 (rowsF a b (i + 1)) (i : Int) (mks a, (mks b, ())) (rowF a b (i + 1) (j + 1)) (0 + (j : Nat)) = some (rowF a b (i + 1) (j + 1 + 1)) := by
  unfold gRow1
  rw [Int.zero_add]
  have e1 : atI (rowsF a b (i + 1)) (i : Int) = some (rowF a b i (b.length + 1)) := at_map _ _ i (by omega)
  have e2 : atI (rowF a b i (b.length + 1)) (j : Int) = some (fw a b i j : Int) := at_map _ _ j (by omega)
  have e3 : atI (rowF a b i (b.length + 1)) ((j : Int) + 1) = some (fw a b i (j + 1) : Int) := at_map' _ _ (j + 1) _ (by omega) (by omega)
  have e4 : atI (rowF a b (i + 1) (j + 1)) (j : Int) = some (fw a b (i + 1) j : Int) := at_map _ _ j (by omega)
  rw [e1]
  show Option.bind (Option.bind (atI (rowF a b i (b.length + 1)) (j : Int)) fun (t20 : Int) => Option.bind (Option.bind (Option.bind (sAt (mks a) (i : Int)) fun (t17 : Str) => Option.bind (sAt (mks b) (j : Int)) fun (t18 : Str) => some (!decide (t17 = t18))) fun (t19 : Bool) => some (bint t19)) fun (t21 : Int) => some (t20 + t21)) (fun (turn_14 : Int) => Option.bind (Option.bind (Option.bind (Option.bind (atI (rowF a b i (b.length + 1)) ((j : Int) + 1)) fun (t24 : Int) => some (t24 + 1)) fun (t29 : Int) => Option.bind (Option.bind (atI (rowF a b (i + 1) (j + 1)) (j : Int)) fun (t26 : Int) => some (t26 + 1)) fun (t30 : Int) => some (imin3 turn_14 t29 t30)) fun (t32 : Int) => lApp (rowF a b (i + 1) (j + 1)) t32) fun z => some z) = _
  rw [e2, e3, e4, sAt_mks a i hi (by omega), sAt_mks b j hj (by omega)]
  show Option.bind (lApp (rowF a b (i + 1) (j + 1)) (imin3 ((fw a b i j : Int) + bint (!decide (c1 a[i] = c1 b[j]))) ((fw a b i (j + 1) : Int) + 1) ((fw a b (i + 1) j : Int) + 1))) (fun z => some z) = _
  rw [ne_bint]
  have e5 : imin3 ((fw a b i j : Int) + (ne1 a[i] b[j] : Int)) ((fw a b i (j + 1) : Int) + 1) ((fw a b (i + 1) j : Int) + 1) = (fw a b (i + 1) (j + 1) : Int) := by
    rw [fw_step a b i j hi hj]
    exact min3_nat _ _ _
  rw [e5, app_eq _ _ (by unfold rowF; rw [List.length_map, List.length_range]; omega)]
  exact congrArg some (map_snoc _ (j + 1))
theorem row2_eq (a b : List Nat) (i : Nat) (hi : i < a.length) (ha : a.length ≤ 10000) (hb : b.length ≤ 10000) :
    gRow2 (mks a, (mks b, ())) (rowsF a b (i + 1)) (0 + (i : Nat)) = some (rowsF a b (i + 1 + 1)) := by
  unfold gRow2
  have e0 : [(i : Int) + 1] = rowF a b (i + 1) (0 + 1) := by
    show _ = [(fw a b (i + 1) 0 : Int)]
    rw [fw_1 a b (i + 1) (by omega)]
    rfl
  have e : forS (gRow1 (rowsF a b (i + 1)) (i : Int) (mks a, (mks b, ()))) (rng 0 b.length) (rowF a b (i + 1) (0 + 1)) = some (rowF a b (i + 1) (b.length + 1)) :=
    forS_rng (fun j => rowF a b (i + 1) (j + 1)) 0 b.length fun j hj => row1_eq a b i j hi hj ha hb
  have e2 := app_eq (rowsF a b (i + 1)) (rowF a b (i + 1) (b.length + 1)) (by unfold rowsF; rw [List.length_map, List.length_range]; omega)
  simp only [bs, Int.zero_add, sLen_mks b (by omega), range1_nat b.length (by omega), e0, e, e2]
  exact congrArg some (map_snoc (fun i => rowF a b i (b.length + 1)) (i + 1))
theorem rows_gen (a b : List Nat) (ha : a.length ≤ 10000) (hb : b.length ≤ 10000) : gRows (mks a, (mks b, ())) = some (rowsF a b (a.length + 1)) := by
  unfold gRows
  have e1 : lrange1 ((b.length : Int) + 1) = some (rowF a b 0 (b.length + 1)) := by
    unfold lrange1
    rw [if_pos (by omega), show ((b.length : Int) + 1).toNat = b.length + 1 by omega]
    congr 1
    unfold rng rowF
    refine List.map_congr_left fun j hj => ?_
    rw [fw_0 a b j (by have := List.mem_range.mp hj; omega)]
    omega
  have e : forS (gRow2 (mks a, (mks b, ()))) (rng 0 a.length) (rowsF a b (0 + 1)) = some (rowsF a b (a.length + 1)) := forS_rng (fun i => rowsF a b (i + 1)) 0 a.length fun i hi => row2_eq a b i hi ha hb
  have e0 : [rowF a b 0 (b.length + 1)] = rowsF a b (0 + 1) := rfl
  simp only [bs, sLen_mks b (by omega), sLen_mks a (by omega), e1, range1_nat a.length (by omega), e0, e]
theorem dist_gen (a b : List Nat) (ha : a.length ≤ 10000) (hb : b.length ≤ 10000) : gDist (mks a, (mks b, ())) = some (lev a b : Int) := by
  unfold gDist
  show Option.bind (Option.bind (gRows (mks a, (mks b, ()))) fun (t1 : List (List Int)) => Option.bind (sLen (mks a)) fun (t2 : Int) => atI t1 t2) (fun (t3 : List Int) => Option.bind (sLen (mks b)) fun (t4 : Int) => atI t3 t4) = _
  rw [rows_gen a b ha hb, sLen_mks a (by omega), sLen_mks b (by omega)]
  show Option.bind (atI (rowsF a b (a.length + 1)) (a.length : Int)) (fun (t3 : List Int) => atI t3 (b.length : Int)) = _
  rw [show atI (rowsF a b (a.length + 1)) (a.length : Int) = some (rowF a b a.length (b.length + 1)) from at_map _ _ a.length (by omega)]
  show atI (rowF a b a.length (b.length + 1)) (b.length : Int) = _
  rw [show atI (rowF a b a.length (b.length + 1)) (b.length : Int) = some (fw a b a.length b.length : Int) from at_map _ _ b.length (by omega), fw_all]
end MS

/-! that a mirror comes to a value, and what holds of it -/
namespace MS
open PySem PySem.StrLaws TL L2 FK
theorem bsr {α : Type} (m : Option α) : Option.bind m (fun z => some z) = m := by cases m <;> rfl
def Ok {α : Type} (m : Option α) (Q : α → Prop) : Prop := ∃ a, m = some a ∧ Q a
section
variable {α β γ : Type} {m : Option α} {f : α → Option β} {P : α → Prop} {Q : β → Prop} {x y : Option β}
theorem Ok.bind (h : Ok m P) (k : ∀ a, P a → Ok (f a) Q) : Ok (m.bind f) Q := by
  obtain ⟨a, rfl, p⟩ := h
  exact k a p
theorem Ok.ret {a : α} (h : P a) : Ok (some a) P := ⟨a, rfl, h⟩
theorem Ok.mono {P' : α → Prop} (h : Ok m P) (k : ∀ a, P a → P' a) : Ok m P' := by
  obtain ⟨a, e, p⟩ := h
  exact ⟨a, e, k a p⟩
theorem Ok.any (h : Ok m P) : Ok m fun _ => True := h.mono fun _ _ => trivial
theorem Ok.ifs {b : Bool} (h1 : b = true → Ok x Q) (h2 : b = false → Ok y Q) : Ok (ifM (some b) x y) Q := by
  cases b
  · exact h2 rfl
  · exact h1 rfl
theorem Ok.ifd {c : Prop} [Decidable c] (h1 : c → Ok x Q) (h2 : ¬ c → Ok y Q) : Ok (ifM (some (decide c)) x y) Q := .ifs (fun e => h1 (of_decide_eq_true e)) fun e => h2 (of_decide_eq_false e)
theorem Ok.ifm {c : Option Bool} {R : Bool → Prop} (hc : Ok c R) (h1 : R true → Ok x Q) (h2 : R false → Ok y Q) : Ok (ifM c x y) Q := by
  obtain ⟨b, rfl, r⟩ := hc
  cases b
  · exact h2 r
  · exact h1 r
theorem Ok.and {a b : Option Bool} {R S : Bool → Prop} (ha : Ok a R) (hb : R true → Ok b S) : Ok (bAnd a b) fun _ => True := by
  obtain ⟨k, rfl, r⟩ := ha
  cases k
  · exact ⟨false, rfl, trivial⟩
  · exact (hb r).any
theorem Ok.or {a b : Option Bool} {R S : Bool → Prop} (ha : Ok a R) (hb : R false → Ok b S) : Ok (bOr a b) fun _ => True := by
  obtain ⟨k, rfl, r⟩ := ha
  cases k
  · exact (hb r).any
  · exact ⟨true, rfl, trivial⟩
theorem Ok.eq {a : α} (e : m = some a) : Ok m fun z => z = a := ⟨a, e, rfl⟩
end
theorem okAt {α : Type} {l : List α} {i : Int} (h0 : 0 ≤ i) (h1 : i < l.length) : Ok (atI l i) fun x => x ∈ l := by
  obtain ⟨j, rfl⟩ := Int.eq_ofNat_of_zero_le h0
  exact ⟨_, atI_nat' l j (by omega), List.getElem_mem _⟩
theorem okMod {x y : Int} (h : 0 < y) : Ok (imod x y) fun z => z = x % y ∧ 0 ≤ z ∧ z < y := ⟨x % y, if_pos h, rfl, Int.emod_nonneg _ (by omega), Int.emod_lt_of_pos _ h⟩
theorem okApp {α : Type} {l : List α} {x : α} (h : l.length < 16000000) : Ok (lApp l x) fun z => z = l ++ [x] := ⟨_, app_eq l x h, rfl⟩
theorem okAdd {x y : Str} (h : x.length + y.length ≤ 16000000) : Ok (sAdd x y) fun z => z = x ++ y ∧ z.length = x.length + y.length := ⟨_, if_pos h, rfl, by
  rw [← mks_tl x, ← mks_tl y, app_mks, len_mks, len_mks, len_mks, List.length_append]⟩
theorem okCut {x : Str} {lo hi : Option Int} (h : x.length ≤ 16000000) : Ok (sCut x lo hi) fun z => z = cutS x lo hi ∧ z.length ≤ x.length := ⟨_, if_pos h, rfl, by
  rw [← mks_tl x, cutS_mks, len_mks, len_mks]
  exact cut_len _ _ _⟩
theorem okSAt {x : Str} {i : Int} (h0 : 0 ≤ i) (h1 : i < x.length) (hz : x.length ≤ 16000000) : Ok (sAt x i) fun z => ∃ c, c ∈ tl x ∧ z = c1 c := by
  obtain ⟨j, rfl⟩ := Int.eq_ofNat_of_zero_le h0
  exact ⟨_, sAt_nat x j (by rw [← len_tl]; omega) hz, _, List.getElem_mem _, rfl⟩
theorem okMul {x y : Int} (h : (-(2 ^ 64) < x ∧ x < 2 ^ 64) ∨ (-(2 ^ 64) < y ∧ y < 2 ^ 64)) : Ok (imul x y) fun z => z = x * y := ⟨_, if_pos h, rfl⟩
theorem okSort {α : Type} [DecidableEq α] [PySem.W.DatumOrd α] {x : List α} (h : x.length ≤ 16000000) : Ok (sSort x) fun z => z = srt x := ⟨_, if_pos h, rfl⟩
theorem mem_srt {α : Type} [DecidableEq α] [PySem.W.DatumOrd α] {x : List α} {a : α} : a ∈ srt x ↔ a ∈ x := List.mem_mergeSort
theorem len_srt {α : Type} [DecidableEq α] [PySem.W.DatumOrd α] (x : List α) : (srt x).length = x.length := List.length_mergeSort x
theorem sum_le {l : List Nat} {k : Nat} (h : ∀ x ∈ l, x ≤ k) : l.sum ≤ l.length * k := by
  induction l with
  | nil => exact Nat.zero_le _
  | cons a r ih =>
    rw [List.sum_cons, List.length_cons, Nat.succ_mul]
    have := h a List.mem_cons_self
    have := ih fun x hx => h x (List.mem_cons_of_mem _ hx)
    omega
theorem join_len_str (x : Str) (ys : List Str) : (Txt.join x ys).length ≤ (ys.map (·.length)).sum + ys.length * x.length := by
  have key : ∀ (s : List Nat) (L : List (List Nat)), (joinL s L).length ≤ (L.map (·.length)).sum + L.length * s.length := by
    intro s L
    induction L with
    | nil => exact Nat.zero_le _
    | cons p r ih =>
      cases r with
      | nil =>
        show p.length ≤ _
        simp
      | cons q r =>
        show (p ++ (s ++ joinL s (q :: r))).length ≤ _
        rw [List.length_append, List.length_append, List.map_cons, List.sum_cons, List.length_cons, Nat.succ_mul]
        omega
  have := key (tl x) (ys.map tl)
  rw [join_eq, len_tl, tl_join]
  rw [List.map_map, List.length_map] at this
  have e : (ys.map ((·.length) ∘ tl)) = ys.map (·.length) := List.map_congr_left fun y _ => (len_tl y).symm
  rw [e, ← len_tl x] at this
  exact this
theorem okJoin {x : Str} {ys : List Str} {k : Nat} (hy : ∀ y ∈ ys, y.length ≤ k) (h : ys.length * (k + x.length) ≤ 16000000) : Ok (sJoin x ys) fun z => z = Txt.join x ys ∧ z.length ≤ ys.length * (k + x.length) := by
  have h1 : (ys.map (·.length)).sum ≤ ys.length * k := by
    have := sum_le (l := ys.map (·.length)) (k := k) fun n hn => by
      obtain ⟨y, hm, rfl⟩ := List.mem_map.mp hn
      exact hy y hm
    rw [List.length_map] at this
    exact this
  have h2 := join_len_str x ys
  rw [Nat.mul_add] at h ⊢
  exact ⟨_, if_pos (by omega), rfl, by omega⟩
/-- all of them -/
theorem okMap {α β : Type} {f : α → Option β} {xs : List α} {Q : β → Prop} (hz : xs.length < 1000000) (hf : ∀ x ∈ xs, Ok (f x) Q) : Ok (lcG (fun _ => some true) f xs) fun ys => ys.length = xs.length ∧ ∀ y ∈ ys, Q y := by
  unfold lcG
  rw [if_pos hz]
  clear hz
  induction xs with
  | nil => exact ⟨[], rfl, rfl, fun y hy => (List.not_mem_nil hy).elim⟩
  | cons x r ih =>
    obtain ⟨ys, ey, hl, hq⟩ := ih fun z hz => hf z (List.mem_cons_of_mem _ hz)
    obtain ⟨y, ef, q⟩ := hf x List.mem_cons_self
    show Ok ((f x).bind fun y => (lcM (fun _ => some true) f r).bind fun ys => some (y :: ys)) _
    rw [ef, ey]
    refine ⟨y :: ys, rfl, by rw [List.length_cons, List.length_cons]; omega, fun z hz => ?_⟩
    rcases List.mem_cons.mp hz with rfl | hz
    · exact q
    · exact hq z hz
theorem lc_filterMap {α β : Type} {t : α → Bool} {g : α → β} : ∀ xs : List α, lcM (fun x => some (t x)) (fun x => some (g x)) xs = some ((xs.filter t).map g)
  | [] => rfl
  | x :: r => by
    show (if t x = true then (some (g x)).bind fun y => (lcM (fun x => some (t x)) (fun x => some (g x)) r).bind fun ys => some (y :: ys) else lcM (fun x => some (t x)) (fun x => some (g x)) r) = _
    rw [lc_filterMap r, List.filter_cons]
    cases t x <;> rfl
theorem okSel {α β : Type} {t : α → Bool} {g : α → β} {xs : List α} (hz : xs.length < 1000000) : lcG (fun x => some (t x)) (fun x => some (g x)) xs = some ((xs.filter t).map g) := by
  unfold lcG
  rw [if_pos hz, lc_filterMap]
theorem okForR {S : Type} {f : S → Int → Option S} (P : Nat → S → Prop) {n : Nat} {s : S} (h0 : P 0 s) (st : ∀ k s, k < n → P k s → Ok (f s (k : Int)) (P (k + 1))) : Ok (forS f (rng 0 n) s) (P n) :=
  forS_exr (f := f) P 0 n s (fun k s hk hp => by rw [Int.zero_add]; exact st k s hk hp) h0
end MS

/-! loops by what was walked -/
namespace MS
open PySem PySem.StrLaws TL L2 FK
/-- a walk that goes on: P of the part walked and the state -/
theorem okForP {S α : Type} {f : S → α → Option S} (P : List α → S → Prop) : ∀ {xs : List α} {pre : List α} {s : S}, P pre s → (∀ p x q s, pre ++ xs = p ++ x :: q → pre.length ≤ p.length → P p s → Ok (f s x) (P (p ++ [x]))) → Ok (forS f xs s) (P (pre ++ xs))
  | [], pre, s, h, _ => ⟨s, rfl, by rw [List.append_nil]; exact h⟩
  | x :: r, pre, s, h, st => by
    obtain ⟨s1, e1, h1⟩ := st pre x r s rfl (Nat.le_refl _) h
    obtain ⟨s2, e2, h2⟩ := okForP P (xs := r) h1 fun p y q s e hl hp => st p y q s (by rw [← e, List.append_assoc]; rfl) (by rw [List.length_append] at hl; omega) hp
    rw [List.append_assoc] at h2
    refine ⟨s2, ?_, h2⟩
    show (f s x).bind _ = _
    rw [e1]
    exact e2
theorem okForL {S α : Type} {f : S → α → Option S} (P : List α → S → Prop) {xs : List α} {s : S} (h : P [] s) (st : ∀ p x q s, xs = p ++ x :: q → P p s → Ok (f s x) (P (p ++ [x]))) : Ok (forS f xs s) (P xs) :=
  okForP P (pre := []) h fun p x q s e _ hp => st p x q s e hp
/-- what a walk that may leave comes to -/
def Left {S ρ : Type} (A : S → Prop) (B : ρ → Prop) : Fl S ρ → Prop
  | .nx s => A s
  | .ct s => A s
  | .bk s => A s
  | .rt v => B v
/-- what a turn comes to: on, out, or back -/
def Turn {S ρ : Type} (N : S → Prop) (K : S → Prop) (B : ρ → Prop) : Fl S ρ → Prop
  | .nx s => N s
  | .ct s => N s
  | .bk s => K s
  | .rt v => B v
theorem or_t (x : Option Bool) : bOr (some true) x = some true := by unfold bOr; rw [bs]; exact if_pos rfl
theorem or_f (x : Option Bool) : bOr (some false) x = x := by unfold bOr; rw [bs]; exact if_neg Bool.false_ne_true
theorem and_t (x : Option Bool) : bAnd (some true) x = x := by unfold bAnd; rw [bs]; exact if_pos rfl
theorem and_f (x : Option Bool) : bAnd (some false) x = some false := by unfold bAnd; rw [bs]; exact if_neg Bool.false_ne_true
theorem if_t {β : Type} (x y : Option β) : ifM (some true) x y = x := by unfold ifM; rw [bs]; exact if_pos rfl
theorem if_f {β : Type} (x y : Option β) : ifM (some false) x y = y := by unfold ifM; rw [bs]; exact if_neg Bool.false_ne_true
theorem nt : (!true) = false := by decide
theorem nf : (!false) = true := by decide
theorem lc_mp {α β : Type} {xs : List α} {f : α → Option β} {g : α → β} (h : xs.length < 1000000) (e : ∀ x ∈ xs, f x = some (g x)) : lcG (fun _ => some true) f xs = some (xs.map g) := by
  unfold lcG
  rw [if_pos h, lc_map _ e]
theorem sLt_lt (x y : Str) : sLt x y = PySem.W.DatumOrd.lt x y := rfl
theorem sLt_ne {x y : Str} (h : sLt x y = true) : x ≠ y := fun e => by
  rw [e, sLt_lt, Lo.irr] at h
  cases h
theorem okEq {α : Type} {m : Option α} {a : α} (h : Ok m fun z => z = a) : m = some a := by
  obtain ⟨z, e, rfl⟩ := h
  exact e
end MS

namespace G
open PySem PySem.StrLaws TL L2 FK MS
def m__law_cell_at : Scr × Int × Unit → Option Int := fun (g : Scr × Int × Unit) => (ifM (some (decide (g.2.1 < (g.1.l.length : Int)))) (atI g.1.l g.2.1) (some (0 : Int)))
def b__law_stream_1  (s3 : (Int × (List Int))) (x4 : Int) : (Option (Int × (List Int))) := (Option.bind (Option.bind (Option.bind (Option.bind (imul s3.1 s3.1) fun (t6 : Int) => Option.bind (imul (69621 : Int) s3.1) fun (t7 : Int) => some (t6 + t7)) fun (t8 : Int) => Option.bind (some x4) fun (t9 : Int) => some (t8 + t9)) fun (t10 : Int) => some (t10 % 4294967311)) fun (number_5 : Int) => (Option.bind (Option.bind (some number_5) fun (t12 : Int) => (lApp s3.2 t12)) fun (found_11 : (List Int)) => (some (number_5, found_11))))
def m__law_stream : Int × Int × Unit → Option (List Int) := fun (g : Int × Int × Unit) => (Option.bind (some ([] : (List Int))) fun (found_1 : (List Int)) => (Option.bind (some ((g.1 % 4294967311) + (48271 : Int))) fun (number_2 : Int) => (Option.bind (Option.bind (range1 (g.2.1 + (1 : Int))) fun (xs13 : List Int) => forS (S := (Int × (List Int))) (b__law_stream_1) xs13 (number_2, found_1)) fun (s14 : (Int × (List Int))) => (some (cutA s14.2 (some (1 : Int)) none)))))
def b__law_cards_1 (letters_1 : Str) (draws_2 : (List Int)) (at_7 : Int) (base_10 : Str) (g : (Int × Int × Unit)) (size_3 : Int) (s16 : (List Str)) (x17 : Int) : (Option (List Str)) := (Option.bind (Option.bind (some letters_1) fun (t22 : Str) => Option.bind (Option.bind (Option.bind (atI draws_2 ((2 : Int) + at_7)) fun (t19 : Int) => Option.bind (imul (7 : Int) x17) fun (t20 : Int) => some (t19 + t20)) fun (t21 : Int) => some (t21 % 26)) fun (t23 : Int) => (sAt t22 t23)) fun (sign_18 : Str) => (Option.bind (Option.bind (Option.bind (sCut base_10 none (some at_7)) fun (t25 : Str) => Option.bind (some sign_18) fun (t26 : Str) => (sAdd t25 t26)) fun (t27 : Str) => Option.bind (sCut base_10 (some (at_7 + (1 : Int))) none) fun (t28 : Str) => (sAdd t27 t28)) fun (name_24 : Str) => (Option.bind (ifM (bAnd (Option.bind (Option.bind (Option.bind (atI draws_2 (0 : Int)) fun (t29 : Int) => some (t29 / 12)) fun (t30 : Int) => some (t30 % 2)) fun (t31 : Int) => Option.bind (some (1 : Int)) fun (t32 : Int) => some (decide (t31 = t32))) (some (decide (g.2.1 ≤ size_3)))) (Option.bind (sCut base_10 none (some (size_3 - x17))) fun (name_34 : Str) => (some name_34)) (some name_24)) fun (s33 : Str) => (Option.bind (Option.bind (some s33) fun (t36 : Str) => (lApp s16 t36)) fun (cards_here_35 : (List Str)) => (some cards_here_35)))))
def b__law_cards_2 (letters_1 : Str) (x11 : Int) : (Option Str) := (sAt letters_1 (x11 % 26))
def m__law_cards : Int × Int × Unit → Option (List Str) := fun (g : Int × Int × Unit) => (Option.bind (some ("abcdefghijklmnopqrstuvwxyz" : Str)) fun (letters_1 : Str) => (Option.bind (m__law_stream (g.1, ((14 : Int), ()))) fun (draws_2 : (List Int)) => (Option.bind (Option.bind (some (1 : Int)) fun (t5 : Int) => Option.bind (Option.bind (atI draws_2 (0 : Int)) fun (t4 : Int) => some (t4 % 12)) fun (t6 : Int) => some (t5 + t6)) fun (size_3 : Int) => (Option.bind (Option.bind (atI draws_2 (1 : Int)) fun (t8 : Int) => Option.bind (some size_3) fun (t9 : Int) => (imod t8 t9)) fun (at_7 : Int) => (Option.bind (Option.bind (some ("" : Str)) fun (t13 : Str) => Option.bind (Option.bind (some (cutA draws_2 (some (2 : Int)) (some ((2 : Int) + size_3)))) fun (xs12 : List Int) => lcG (fun (x11 : Int) => (some true)) (b__law_cards_2 letters_1) xs12) fun (t14 : (List Str)) => (sJoin t13 t14)) fun (base_10 : Str) => (Option.bind (some ([] : (List Str))) fun (cards_here_15 : (List Str)) => (Option.bind (Option.bind (range1 g.2.1) fun (xs37 : List Int) => forS (S := (List Str)) (b__law_cards_1 letters_1 draws_2 at_7 base_10 g size_3) xs37 cards_here_15) fun (s38 : (List Str)) => (some s38))))))))
def b_texts_of_1 (g : ((List (T3 Str Str Str)) × Str × Str × Unit)) (x1 : (T3 Str Str Str)) : (Option Bool) := (bAnd (some (decide (x1.a = g.2.1))) (some (decide (x1.b = g.2.2.1))))
def m_texts_of : (List (T3 Str Str Str)) × Str × Str × Unit → Option (List Str) := fun (g : (List (T3 Str Str Str)) × Str × Str × Unit) => (Option.bind (Option.bind (some g.1) fun (xs5 : List (T3 Str Str Str)) => lcG (b_texts_of_1 g) (fun (x1 : (T3 Str Str Str)) => (some x1.c)) xs5) fun (t6 : (List Str)) => (sSort t6))
def b_neighbours_1 (g : ((List (T3 Int Int Int)) × (List (Int × Int)) × Int × Unit)) (s2 : (List Int)) (x3 : (T3 Int Int Int)) : (Option (List Int)) := (ifM (bAnd (some (decide ((0 : Int) < x3.c))) (some (!lMem (x3.a, x3.b) g.2.1))) (Option.bind (ifM (some (decide (x3.a = g.2.2.1))) (Option.bind (Option.bind (some x3.b) fun (t9 : Int) => (lApp s2 t9)) fun (near_8 : (List Int)) => (some near_8)) (some s2)) fun (s7 : (List Int)) => (ifM (some (decide (x3.b = g.2.2.1))) (Option.bind (Option.bind (some x3.a) fun (t11 : Int) => (lApp s7 t11)) fun (near_10 : (List Int)) => (some near_10)) (some s7))) (some s2))
def m_neighbours : (List (T3 Int Int Int)) × (List (Int × Int)) × Int × Unit → Option (List Int) := fun (g : (List (T3 Int Int Int)) × (List (Int × Int)) × Int × Unit) => (Option.bind (some ([] : (List Int))) fun (near_1 : (List Int)) => (Option.bind (Option.bind (some g.1) fun (xs12 : List (T3 Int Int Int)) => forS (S := (List Int)) (b_neighbours_1 g) xs12 near_1) fun (s13 : (List Int)) => (some s13)))
def b_part_from_1  (s4 : (List Int)) (x11 : Int) : (Option (List Int)) := (ifM (some (!decide (x11 ∈ s4))) (Option.bind (Option.bind (some x11) fun (t13 : Int) => (lApp s4 t13)) fun (part_12 : (List Int)) => (some part_12)) (some s4))
def b_part_from_2 (g : ((List (T3 Int Int Int)) × (List (Int × Int)) × Int × Unit)) (s3 : ((List Int) × Int)) : (Option ((List Int) × Int)) := (Option.bind (Option.bind (Option.bind (Option.bind (some g.1) fun (t9 : (List (T3 Int Int Int))) => Option.bind (Option.bind (some g.2.1) fun (t7 : (List (Int × Int))) => Option.bind (Option.bind (atI s3.1 s3.2) fun (t5 : Int) => Option.bind (some ()) fun (t6 : Unit) => some (t5, t6)) fun (t8 : (Int × Unit)) => some (t7, t8)) fun (t10 : ((List (Int × Int)) × (Int × Unit))) => some (t9, t10)) m_neighbours) fun (xs14 : List Int) => forS (S := (List Int)) (b_part_from_1) xs14 s3.1) fun (s15 : (List Int)) => (Option.bind (some (s3.2 + (1 : Int))) fun (at_16 : Int) => (some (s15, at_16))))
def b_part_from_3  (s3 : ((List Int) × Int)) : (Option Bool) := (some (decide (s3.2 < (s3.1.length : Int))))
def m_part_from : (List (T3 Int Int Int)) × (List (Int × Int)) × Int × Unit → Option (List Int) := fun (g : (List (T3 Int Int Int)) × (List (Int × Int)) × Int × Unit) => (Option.bind (some [g.2.2.1]) fun (part_1 : (List Int)) => (Option.bind (some (0 : Int)) fun (at_2 : Int) => (Option.bind (whileS (S := ((List Int) × Int)) (b_part_from_3) (b_part_from_2 g) 1000000 (part_1, at_2)) fun (s17 : ((List Int) × Int)) => (sSort s17.1))))
def b_parts_of_1  (s6 : (Dct Int Bool)) (x7 : Int) : (Option (Dct Int Bool)) := (Option.bind (Option.bind (some true) fun (t9 : Bool) => Option.bind (some x7) fun (t10 : Int) => (dSet s6 t10 t9)) fun (seen_8 : (Dct Int Bool)) => (some seen_8))
def b_parts_of_2 (g : (Int × (List (T3 Int Int Int)) × (List (Int × Int)) × Unit)) (s3 : ((Dct Int Bool) × (List (List Int)))) (x4 : Int) : (Option ((Dct Int Bool) × (List (List Int)))) := (ifM (some (!dHas s3.1.l x4)) (Option.bind (m_part_from (g.2.1, (g.2.2.1, (x4, ())))) fun (part_5 : (List Int)) => (Option.bind (Option.bind (some part_5) fun (xs11 : List Int) => forS (S := (Dct Int Bool)) (b_parts_of_1) xs11 s3.1) fun (s12 : (Dct Int Bool)) => (Option.bind (Option.bind (some part_5) fun (t14 : (List Int)) => (lApp s3.2 t14)) fun (parts_13 : (List (List Int))) => (some (s12, parts_13))))) (some (s3.1, s3.2)))
def m_parts_of : Int × (List (T3 Int Int Int)) × (List (Int × Int)) × Unit → Option (List (List Int)) := fun (g : Int × (List (T3 Int Int Int)) × (List (Int × Int)) × Unit) => (Option.bind (some ([] : (List (List Int)))) fun (parts_1 : (List (List Int))) => (Option.bind (some (⟨[]⟩ : (Dct Int Bool))) fun (seen_2 : (Dct Int Bool)) => (Option.bind (Option.bind (range1 g.1) fun (xs15 : List Int) => forS (S := ((Dct Int Bool) × (List (List Int)))) (b_parts_of_2 g) xs15 (seen_2, parts_1)) fun (s16 : ((Dct Int Bool) × (List (List Int)))) => (some s16.2))))
def b_case_of_1 (s10 : (Dct Int Int)) (x21 : (Int × Int)) : (Option (Int × Int)) := (Option.bind (dGet s10.l x21.1) fun (t24 : Int) => Option.bind (dGet s10.l x21.2) fun (t25 : Int) => some (t24, t25))
def b_case_of_2 (s10 : (Dct Int Int)) (x21 : (Int × Int)) : (Option Bool) := (bAnd (some (dHas s10.l x21.1)) (some (dHas s10.l x21.2)))
def b_case_of_3 (s10 : (Dct Int Int)) (x12 : (T3 Int Int Int)) : (Option (T3 Int Int Int)) := (Option.bind (dGet s10.l x12.a) fun (t16 : Int) => Option.bind (dGet s10.l x12.b) fun (t17 : Int) => Option.bind (some x12.c) fun (t18 : Int) => some (⟨t16, t17, t18⟩ : (T3 Int Int Int)))
def b_case_of_4 (s10 : (Dct Int Int)) (x12 : (T3 Int Int Int)) : (Option Bool) := (bAnd (some (dHas s10.l x12.a)) (some (dHas s10.l x12.b)))
def b_case_of_5  (s2 : (Dct Int Int)) (x3 : (Int × Int)) : (Option (Dct Int Int)) := (Option.bind (Option.bind (some x3.1) fun (t7 : Int) => Option.bind (some x3.2) fun (t8 : Int) => (dSet s2 t8 t7)) fun (places_6 : (Dct Int Int)) => (some places_6))
def m_case_of : (List Int) × (List (T3 Int Int Int)) × (List (Int × Int)) × Unit → Option (T3 Int (List (T3 Int Int Int)) (List (Int × Int))) := fun (g : (List Int) × (List (T3 Int Int Int)) × (List (Int × Int)) × Unit) => (Option.bind (some (⟨[]⟩ : (Dct Int Int))) fun (places_1 : (Dct Int Int)) => (Option.bind (Option.bind (some (enumL g.1)) fun (xs9 : List (Int × Int)) => forS (S := (Dct Int Int)) (b_case_of_5) xs9 places_1) fun (s10 : (Dct Int Int)) => (Option.bind (Option.bind (some g.2.1) fun (xs19 : List (T3 Int Int Int)) => lcG (b_case_of_4 s10) (b_case_of_3 s10) xs19) fun (some_11 : (List (T3 Int Int Int))) => (Option.bind (Option.bind (some g.2.2.1) fun (xs26 : List (Int × Int)) => lcG (b_case_of_2 s10) (b_case_of_1 s10) xs26) fun (few_20 : (List (Int × Int))) => (some (⟨(g.1.length : Int), some_11, few_20⟩ : (T3 Int (List (T3 Int Int Int)) (List (Int × Int)))))))))
def m__law_weight : Int × Unit → Option Int := fun (g : Int × Unit) => (Option.bind (some ((1 : Int) + ((g.1 / 16) % 4))) fun (weight_here_1 : Int) => (Option.bind (ifM (some (decide (((g.1 / 8) % 2) = (1 : Int)))) (Option.bind (some ((1 : Int) + ((g.1 / 16) % (1000000000000000000000000000000 : Int)))) fun (weight_here_3 : Int) => (some weight_here_3)) (some weight_here_1)) fun (s2 : Int) => (atI [(0 : Int), s2, s2, s2, s2, (-s2), (-s2), (-s2)] (g.1 % 8))))
def b__law_case_1 (g : (Scr × Int × Int × Unit)) (x4 : Int) (s5 : (Int × (List (T3 Int Int Int)) × (List (Int × Int)))) (x6 : Int) : (Option (Int × (List (T3 Int Int Int)) × (List (Int × Int)))) := (Option.bind (m__law_cell_at (g.1, (s5.1, ()))) fun (cell_7 : Int) => (Option.bind (some (s5.1 + (1 : Int))) fun (at_8 : Int) => (Option.bind (ifM (some (decide ((0 : Int) < (cell_7 % 8)))) (Option.bind (Option.bind (Option.bind (some x4) fun (t10 : Int) => Option.bind (some x6) fun (t11 : Int) => Option.bind (m__law_weight (cell_7, ())) fun (t12 : Int) => some (⟨t10, t11, t12⟩ : (T3 Int Int Int))) fun (t14 : (T3 Int Int Int)) => (lApp s5.2.1 t14)) fun (pairs_13 : (List (T3 Int Int Int))) => (some pairs_13)) (some s5.2.1)) fun (s9 : (List (T3 Int Int Int))) => (ifM (some (decide (((cell_7 / 64) % 9) = (5 : Int)))) (Option.bind (Option.bind (some (x4, x6)) fun (t16 : (Int × Int)) => (lApp s5.2.2 t16)) fun (aparts_15 : (List (Int × Int))) => (some (at_8, s9, aparts_15))) (some (at_8, s9, s5.2.2))))))
def b__law_case_2 (g : (Scr × Int × Int × Unit)) (s3 : (Int × (List (T3 Int Int Int)) × (List (Int × Int)))) (x4 : Int) : (Option (Int × (List (T3 Int Int Int)) × (List (Int × Int)))) := (Option.bind (Option.bind (range2 (x4 + (1 : Int)) g.2.1) fun (xs17 : List Int) => forS (S := (Int × (List (T3 Int Int Int)) × (List (Int × Int)))) (b__law_case_1 g x4) xs17 (s3.1, s3.2.1, s3.2.2)) fun (s18 : (Int × (List (T3 Int Int Int)) × (List (Int × Int)))) => (some (s18.1, s18.2.1, s18.2.2)))
def m__law_case : Scr × Int × Int × Unit → Option ((List (T3 Int Int Int)) × (List (Int × Int))) := fun (g : Scr × Int × Int × Unit) => (Option.bind (some ([] : (List (T3 Int Int Int)))) fun (pairs_1 : (List (T3 Int Int Int))) => (Option.bind (some ([] : (List (Int × Int)))) fun (aparts_2 : (List (Int × Int))) => (Option.bind (Option.bind (range1 g.2.1) fun (xs19 : List Int) => forS (S := (Int × (List (T3 Int Int Int)) × (List (Int × Int)))) (b__law_case_2 g) xs19 (g.2.2.1, pairs_1, aparts_2)) fun (s20 : (Int × (List (T3 Int Int Int)) × (List (Int × Int)))) => (some (s20.2.1, s20.2.2)))))
end G

namespace G
open PySem PySem.StrLaws TL L2 FK MS
theorem cell_ok (x : Scr) (k : Int) (hk : 0 ≤ k) : Ok (m__law_cell_at (x, (k, ()))) fun z => z = 0 ∨ z ∈ x.l := by
  unfold m__law_cell_at
  refine .ifd (fun h => ?_) (fun h => .ret (.inl rfl))
  exact (okAt hk h).mono fun a h => .inr h
abbrev BIG : Int := 4294967311
theorem stream_ok (c : Int) (n : Nat) (hn : n ≤ 1000000) : Ok (m__law_stream (c, ((n : Int), ()))) fun l => l.length = n ∧ ∀ x ∈ l, 0 ≤ x ∧ x < BIG := by
  unfold m__law_stream
  simp only [bs]
  rw [show ((n : Int) + 1) = ((n + 1 : Nat) : Int) by omega, range1_nat (n + 1) (by omega)]
  simp only [bs]
  refine Ok.bind (P := fun (s : Int × List Int) => s.2.length = n + 1 ∧ ∀ x ∈ s.2, 0 ≤ x ∧ x < BIG) ?_ fun s hs => ?_
  · refine (okForR (fun k (s : Int × List Int) => (s.2.length = k ∧ ∀ x ∈ s.2, 0 ≤ x ∧ x < BIG) ∧ 0 ≤ s.1 ∧ s.1 < 2 ^ 34) ⟨⟨rfl, fun x hx => (List.not_mem_nil hx).elim⟩, ?_⟩ fun k s hk hs => ?_).mono fun s hs => hs.1
    · show 0 ≤ c % 4294967311 + 48271 ∧ c % 4294967311 + 48271 < 2 ^ 34
      omega
    · obtain ⟨⟨h1, h2⟩, h3, h4⟩ := hs
      unfold b__law_stream_1
      refine .bind (P := fun z => 0 ≤ z ∧ z < BIG) ?_ fun z hz => ?_
      · refine .bind (P := fun _ => True) ?_ fun y _ => ?_
        · refine .bind (P := fun _ => True) ?_ fun y _ => ?_
          · exact (okMul (by omega)).bind fun _ _ => (okMul (by omega)).bind fun _ _ => .ret trivial
          · exact .ret trivial
        · refine .ret ?_
          show 0 ≤ y % 4294967311 ∧ y % 4294967311 < 4294967311
          omega
      · refine (okApp (by omega)).bind fun l hl => .ret ⟨⟨?_, ?_⟩, ?_⟩
        · rw [hl, List.length_append, List.length_singleton, h1]
        · rw [hl]
          intro x hx
          rcases List.mem_append.mp hx with hx | hx
          · exact h2 x hx
          · rw [List.mem_singleton.mp hx]
            exact hz
        · show 0 ≤ z ∧ z < 2 ^ 34
          have : z < 4294967311 := hz.2
          omega
  · refine .ret ?_
    have e : cutA s.2 (some (1 : Int)) none = s.2.drop 1 := cut_from s.2 1
    rw [e]
    refine ⟨by rw [List.length_drop]; omega, fun x hx => hs.2 x (List.mem_of_mem_drop hx)⟩
theorem stream_ok' (c z : Int) (h0 : 0 ≤ z) (h1 : z ≤ 1000000) : Ok (m__law_stream (c, (z, ()))) fun l => (l.length : Int) = z ∧ ∀ x ∈ l, 0 ≤ x ∧ x < BIG := by
  obtain ⟨n, rfl⟩ := Int.eq_ofNat_of_zero_le h0
  exact (stream_ok c n (by omega)).mono fun l h => ⟨by rw [h.1], h.2⟩
abbrev ABC : Str := "abcdefghijklmnopqrstuvwxyz"
theorem abc_len : (ABC).length = 26 := by decide +kernel
theorem abc_at (k : Int) : Ok (sAt ABC (k % 26)) fun z => ∃ c, c ∈ tl ABC ∧ z = c1 c := okSAt (by omega) (by rw [abc_len]; omega) (by rw [abc_len]; decide)
theorem len_c1 (c : Nat) : (c1 c).length = 1 := rfl
/-- the cards' names: how many, how long -/
theorem cards_ok (c : Int) (n : Nat) (hn : n ≤ 1000) : Ok (m__law_cards (c, ((n : Int), ()))) fun l => l.length = n ∧ ∀ x ∈ l, x.length ≤ 30 := by
  unfold m__law_cards
  simp only [bs]
  refine (stream_ok c 14 (by decide)).bind fun ds hd => ?_
  refine .bind (P := fun z => 1 ≤ z ∧ z ≤ 12) ?_ fun size hs => ?_
  · refine .bind (P := fun z => 0 ≤ z ∧ z < 12) ?_ fun z hz => .ret (by omega)
    refine (okAt (by decide) (by rw [hd.1]; decide)).bind fun z _ => .ret ?_
    omega
  refine .bind (P := fun z => 0 ≤ z ∧ z < size) ?_ fun at_ ha => ?_
  · refine (okAt (by decide) (by rw [hd.1]; decide)).bind fun z _ => ?_
    exact (okMod (by omega)).mono fun _ h => h.2
  have hcut := cut_len ds (some (2 : Int)) (some ((2 : Int) + size))
  refine .bind (P := fun (z : Str) => z.length ≤ 14) ?_ fun base hb => ?_
  · refine (okMap (Q := fun (s : Str) => s.length ≤ 1) (by omega) fun x _ => ?_).bind fun ys hy => ?_
    · unfold b__law_cards_2
      exact (abc_at x).mono fun z ⟨c, _, e⟩ => by rw [e]; exact Nat.le_refl 1
    · have e : ("" : Str).length = 0 := rfl
      exact (okJoin (k := 1) hy.2 (by rw [e]; omega)).mono fun z hz => by rw [e] at hz; omega
  rw [range1_nat n (by omega)]
  simp only [bs]
  refine Ok.bind (P := fun l => l.length = n ∧ ∀ x ∈ l, x.length ≤ 30) ?_ fun l hl => .ret hl
  refine okForR (fun k (l : List Str) => l.length = k ∧ ∀ x ∈ l, x.length ≤ 30) ⟨rfl, fun x hx => (List.not_mem_nil hx).elim⟩ fun k l hk hl => ?_
  unfold b__law_cards_1
  simp only [bs]
  refine .bind (P := fun (z : Str) => z.length = 1) ?_ fun sg hsg => ?_
  · refine .bind (P := fun z => ∃ y : Int, z = y % 26) ?_ fun z ⟨y, e⟩ => ?_
    · refine .bind (P := fun _ => True) ?_ fun z _ => .ret ⟨z, rfl⟩
      exact (okAt (by omega) (by rw [hd.1]; omega)).bind fun z _ => (okMul (.inl (by decide))).bind fun _ _ => .ret trivial
    · rw [e]
      exact (abc_at y).mono fun z ⟨c, _, e⟩ => by rw [e]; rfl
  refine .bind (P := fun (z : Str) => z.length ≤ 30) ?_ fun nm hnm => ?_
  · refine .bind (P := fun (z : Str) => z.length ≤ 15) ?_ fun z hz => ?_
    · exact (okCut (by omega)).bind fun z hz => (okAdd (by omega)).mono fun w hw => by omega
    · exact (okCut (by omega)).bind fun y hy => (okAdd (by omega)).mono fun w hw => by omega
  refine .bind (P := fun (z : Str) => z.length ≤ 30) ?_ fun s hs => ?_
  · refine .ifm (R := fun _ => True) ?_ (fun _ => ?_) fun _ => .ret hnm
    · refine .and (R := fun _ => True) (S := fun _ => True) ?_ fun _ => .ret trivial
      refine .bind (P := fun _ => True) ?_ fun z _ => .ret trivial
      refine .bind (P := fun _ => True) ?_ fun z _ => .ret trivial
      exact (okAt (by decide) (by rw [hd.1]; decide)).bind fun z _ => .ret trivial
    · exact (okCut (by omega)).bind fun z hz => .ret (by omega)
  refine (okApp (by omega)).bind fun z hz => .ret ⟨by rw [hz, List.length_append, List.length_singleton, hl.1], fun x hx => ?_⟩
  rw [hz] at hx
  rcases List.mem_append.mp hx with hx | hx
  · exact hl.2 x hx
  · rw [List.mem_singleton.mp hx]
    exact hs
theorem cards_ok' (c z : Int) (h0 : 0 ≤ z) (h1 : z ≤ 1000) : Ok (m__law_cards (c, (z, ()))) fun l => (l.length : Int) = z ∧ ∀ x ∈ l, x.length ≤ 30 := by
  obtain ⟨n, rfl⟩ := Int.eq_ofNat_of_zero_le h0
  exact (cards_ok c n (by omega)).mono fun l h => ⟨by rw [h.1], h.2⟩
end G

namespace MS
open PySem PySem.Builtin PySem.Builtin.Str PySem.StrLaws TL L2 FK
theorem blank_tl : tl (" " : Str) = [32] := by decide +kernel
/-- parted at the first blank -/
theorem at_idx {c : Nat} : ∀ (l r : List Nat) (i : Nat), c ∉ l → ((l ++ c :: r)[i]? = some c ∧ ∀ k, k < i → (l ++ c :: r)[k]? ≠ some c) → i = l.length := by
  intro l r i hl ⟨h1, h2⟩
  by_cases h : i < l.length
  · rw [List.getElem?_append_left h, List.getElem?_eq_getElem h] at h1
    have := Option.some.inj h1
    exact absurd (this ▸ List.getElem_mem h) hl
  · by_cases e : i = l.length
    · exact e
    · refine absurd ?_ (h2 l.length (by omega))
      rw [List.getElem?_append_right (Nat.le_refl _), Nat.sub_self]
      rfl
theorem part_first (l r : List Nat) (h : 32 ∉ l) : Txt.partition (mks (l ++ 32 :: r)) (" " : Str) = (mks l, (" " : Str), mks r) := by
  have hy : tl (" " : Str) ≠ [] := by rw [blank_tl]; simp
  have hat : ∀ i, At (mks (l ++ 32 :: r)) (" " : Str) (mks (l ++ 32 :: r)).length i ↔ (l ++ 32 :: r)[i]? = some 32 := fun i => by
    refine (at_iff hy i).trans ?_
    rw [blank_tl]
    exact pre1 32 (l ++ 32 :: r) i
  unfold Txt.partition
  rcases occ_head (mks (l ++ 32 :: r)) (" " : Str) 1 (Nat.le_refl 1) with ⟨e, hn⟩ | ⟨i, q, e, hi, hk⟩
  · refine absurd ((hat l.length).mpr ?_) (hn l.length)
    rw [List.getElem?_append_right (Nat.le_refl _), Nat.sub_self]
    rfl
  · rw [e]
    have ei := at_idx l r i h ⟨(hat i).mp hi, fun k hk' z => hk k hk' ((hat k).mpr z)⟩
    subst ei
    show (strSub _ 0 l.length, (" " : Str), strSub _ (l.length + 1) _) = _
    have e1 : strSub (mks (l ++ 32 :: r)) 0 l.length = mks l := ext_tl (by
      rw [tl_strSub, List.drop_zero, Nat.sub_zero]
      show (l ++ 32 :: r).take l.length = l
      rw [List.take_left])
    have e2 : strSub (mks (l ++ 32 :: r)) (l.length + 1) (mks (l ++ 32 :: r)).length = mks r := ext_tl (by
      rw [tl_strSub_end]
      show (l ++ 32 :: r).drop (l.length + 1) = r
      rw [← List.drop_drop, List.drop_left]
      rfl)
    rw [e1, e2]
theorem part_ok (l r : List Nat) (h : 32 ∉ l) (hz : l.length + r.length ≤ 100000) : sPart (mks (l ++ 32 :: r)) (" " : Str) = some ⟨mks l, (" " : Str), mks r⟩ := by
  unfold sPart
  rw [if_pos ⟨by decide, by rw [len_mks, List.length_append, List.length_cons]; omega⟩, part_first l r h]
theorem sIn1 (c : Nat) (y : Str) : sIn (c1 c) y = decide (c ∈ tl y) := by
  have hy : tl (c1 c) ≠ [] := by
    show [c] ≠ []
    simp
  have hat : ∀ i, At y (c1 c) y.length i ↔ (tl y)[i]? = some c := fun i => (at_iff hy i).trans (pre1 c (tl y) i)
  unfold sIn
  rcases occ_head y (c1 c) 1 (Nat.le_refl 1) with ⟨e, hn⟩ | ⟨i, q, e, hi, hk⟩
  · rw [e]
    have : c ∉ tl y := fun hm => by
      obtain ⟨i, hi, e⟩ := List.mem_iff_getElem.mp hm
      exact hn i ((hat i).mpr (by rw [List.getElem?_eq_getElem hi, e]))
    rw [decide_eq_false this]
    rfl
  · rw [e, decide_eq_true (List.mem_of_getElem? ((hat i).mp hi))]
    rfl
theorem strip_ok {x : Str} (h : x.length ≤ 16000000) : Ok (sStrip x (" " : Str)) fun z => z.length ≤ x.length ∧ (∀ c ∈ tl z, c ∈ tl x) ∧ (tl z = [] ∨ ((tl z)[0]? ≠ some 32 ∧ (tl z)[(tl z).length - 1]? ≠ some 32)) := by
  refine ⟨_, if_pos h, ?_⟩
  unfold Txt.stripChars
  rw [PyProof.Rows.stripBy_eq]
  obtain ⟨a0, a1, a2⟩ := PyProof.Rows.lo_facts (" " : Str).cps.contains x
  obtain ⟨b0, b1, b2, b3⟩ := PyProof.Rows.hi_facts (" " : Str).cps.contains x _ a0
  generalize stripLo (" " : Str).cps.contains true x = lo at *
  generalize stripHi (" " : Str).cps.contains true x lo = hi at *
  have hg : ∀ c : Nat, (" " : Str).cps.contains c = false → c ≠ 32 := fun c hc e => by rw [e] at hc; exact absurd hc (by decide +kernel)
  have et : tl (strSub x lo hi) = ((tl x).drop lo).take (hi - lo) := tl_strSub x lo hi
  have hl : x.length = (tl x).length := len_tl x
  have hgd : ∀ k, x.cps.getD k 0 = (tl x).getD k 0 := fun k => by
    show _ = x.cps.toList.getD k 0
    simp [Array.getD_eq_getD_getElem?]
  refine ⟨?_, ?_, ?_⟩
  · rw [len_tl, et, hl, List.length_take, List.length_drop]
    omega
  · intro c hc
    rw [et] at hc
    exact List.mem_of_mem_drop (List.mem_of_mem_take hc)
  · rw [et]
    by_cases he : hi = lo
    · exact .inl (by rw [he, Nat.sub_self, List.take_zero])
    · refine .inr ⟨?_, ?_⟩
      · rw [List.getElem?_take, if_pos (by omega), List.getElem?_drop, Nat.add_zero]
        rcases a2 with a2 | a2
        · exact absurd (show hi = lo by omega) he
        · intro z
          refine hg _ a2 ?_
          rw [hgd, List.getD_eq_getElem?_getD, z]
          rfl
      · have hlen : (((tl x).drop lo).take (hi - lo)).length = hi - lo := by rw [List.length_take, List.length_drop]; omega
        rw [hlen, List.getElem?_take, if_pos (by omega), List.getElem?_drop, show lo + (hi - lo - 1) = hi - 1 by omega]
        rcases b3 with b3 | b3
        · exact absurd b3 he
        · intro z
          refine hg _ b3 ?_
          rw [hgd, List.getD_eq_getElem?_getD, z]
          rfl
end MS

/-! texts of plain signs: cut, put together, turned great or small -/
namespace GT
open PySem PySem.StrLaws TL L2 FK MS
def TX (n : Nat) (x : Str) : Prop := ∃ l : List Nat, x = mks l ∧ l.length ≤ n ∧ ∀ c ∈ l, c < 128
theorem TX.mono {n m : Nat} {x : Str} (h : TX n x) (k : n ≤ m) : TX m x := by
  obtain ⟨l, e, h1, h2⟩ := h
  exact ⟨l, e, by omega, h2⟩
theorem TX.len {n : Nat} {x : Str} (h : TX n x) : x.length ≤ n := by
  obtain ⟨l, rfl, h1, _⟩ := h
  rw [len_mks]
  exact h1
theorem TX.add {n m : Nat} {x y : Str} (h : TX n x) (k : TX m y) (hz : n + m ≤ 100000) : Ok (sAdd x y) (TX (n + m)) := by
  obtain ⟨a, rfl, h1, h2⟩ := h
  obtain ⟨b, rfl, k1, k2⟩ := k
  rw [add_mks a b (by omega)]
  refine .ret ⟨a ++ b, rfl, by rw [List.length_append]; omega, fun c hc => ?_⟩
  rcases List.mem_append.mp hc with z | z
  · exact h2 c z
  · exact k2 c z
theorem TX.cut {n : Nat} {x : Str} (h : TX n x) (hz : n ≤ 100000) (lo hi : Option Int) : Ok (sCut x lo hi) (TX n) := by
  obtain ⟨a, rfl, h1, h2⟩ := h
  rw [cut_mks a lo hi (by omega)]
  have := cut_len a lo hi
  exact .ret ⟨_, rfl, by omega, fun c hc => h2 c (List.mem_of_mem_drop (List.mem_of_mem_take hc))⟩
theorem up_mks : ∀ l : List Nat, (∀ c ∈ l, c < 128) → Txt.upper (mks l) = mks (l.map fun c => if 97 ≤ c ∧ c ≤ 122 then c - 32 else c)
  | [], _ => by decide +kernel
  | c :: l, h => by
    have e : mks (c :: l) = mks [c] ++ mks l := (app_mks [c] l).symm
    rw [e, PySem.W.KOpn.upper_app, PySem.W.KOpn.upper_one (h c List.mem_cons_self), up_mks l fun d hd => h d (List.mem_cons_of_mem _ hd), List.map_cons]
    exact app_mks [_] _
theorem TX.up {n : Nat} {x : Str} (h : TX n x) (hz : n ≤ 100000) : Ok (sUp x) (TX n) := by
  obtain ⟨a, rfl, h1, h2⟩ := h
  refine ⟨_, if_pos (by rw [len_mks]; omega), ?_⟩
  rw [up_mks a h2]
  refine ⟨_, rfl, by rw [List.length_map]; exact h1, fun c hc => ?_⟩
  obtain ⟨d, hd, rfl⟩ := List.mem_map.mp hc
  have := h2 d hd
  split <;> omega
theorem lo_low (c : Nat) : PyProof.Rows.lo1 c = low c := by
  unfold PyProof.Rows.lo1 low
  split <;> split <;> omega
theorem low_mks (l : List Nat) (h : ∀ c ∈ l, c < 128) : Txt.lower (mks l) = mks (l.map low) := by
  have e := PyProof.Rows.lower_ascii (x := mks l) (fun c hc => h c hc)
  have e2 : l.map PyProof.Rows.lo1 = l.map low := List.map_congr_left fun c _ => lo_low c
  rw [e, ← e2]
  refine ext_tl ?_
  show ((mks l).cps.map PyProof.Rows.lo1).toList = _
  rw [Array.toList_map]
theorem low_lt {c : Nat} (h : c < 128) : low c < 128 := by
  unfold low
  split <;> omega
theorem sLow_eq (l : List Nat) (h : ∀ c ∈ l, c < 128) (hz : l.length ≤ 100000) : sLow (mks l) = some (mks (l.map low)) := by
  unfold sLow
  rw [if_pos (by rw [len_mks]; omega), low_mks l h]
theorem TX.low {n : Nat} {x : Str} (h : TX n x) (hz : n ≤ 100000) : Ok (sLow x) (TX n) := by
  obtain ⟨a, rfl, h1, h2⟩ := h
  rw [sLow_eq a h2 (by omega)]
  refine .ret ⟨_, rfl, by rw [List.length_map]; exact h1, fun c hc => ?_⟩
  obtain ⟨d, hd, rfl⟩ := List.mem_map.mp hc
  exact low_lt (h2 d hd)
theorem repl_mem {y z : List Nat} (hy : y ≠ []) : ∀ (n : Nat) (l : List Nat), l.length ≤ n → ∀ c ∈ replL y z l, c ∈ l ∨ c ∈ z
  | _, [], _, c, hc => by
    rw [replL_nil] at hc
    cases hc
  | 0, a :: l, hl, _, _ => absurd hl (by simp)
  | n + 1, a :: l, hl, c, hc => by
    have hyl : 0 < y.length := List.length_pos_iff.mpr hy
    by_cases h : (a :: l).take y.length = y
    · rw [replL_hit hy h] at hc
      rcases List.mem_append.mp hc with w | w
      · exact .inr w
      · rcases repl_mem hy n ((a :: l).drop y.length) (by rw [List.length_drop]; omega) c w with w | w
        · exact .inl (List.mem_of_mem_drop w)
        · exact .inr w
    · rw [replL_miss h] at hc
      rcases List.mem_cons.mp hc with w | w
      · exact .inl (w ▸ List.mem_cons_self)
      · rcases repl_mem hy n l (by rw [List.length_cons] at hl; omega) c w with w | w
        · exact .inl (List.mem_cons_of_mem _ w)
        · exact .inr w
theorem TX.repl {n : Nat} {x : Str} (h : TX n x) (hz : n ≤ 10000) : Ok (sRepl x (" " : Str) ("  " : Str)) (TX (n + (n + 1) * 2)) := by
  have hl := h.len
  obtain ⟨a, rfl, h1, h2⟩ := h
  have h2l : ("  " : Str).length = 2 := by decide +kernel
  refine ⟨_, if_pos (by rw [h2l]; omega), tl (Txt.replace (mks a) (" " : Str) ("  " : Str)), (mks_tl _).symm, ?_, fun c hc => ?_⟩
  · have := TK.replace_len (mks a) (" " : Str) ("  " : Str)
    rw [h2l] at this
    rw [← len_tl]
    omega
  · have e : tl (Txt.replace (mks a) (" " : Str) ("  " : Str)) = replL [32] [32, 32] a := by
      have := replace_list (x := mks a) (y := (" " : Str)) (z := ("  " : Str)) (by decide +kernel)
      have e1 : (" " : Str).cps.toList = [32] := by decide +kernel
      have e2 : ("  " : Str).cps.toList = [32, 32] := by decide +kernel
      rw [e1, e2] at this
      exact this
    rw [e] at hc
    rcases repl_mem (by simp) _ a (Nat.le_refl _) c hc with w | w
    · exact h2 c w
    · revert w
      simp only [List.mem_cons, List.not_mem_nil, or_false]
      omega
theorem TX.strip {n : Nat} {x : Str} (h : TX n x) (hz : n ≤ 100000) : Ok (sStrip x (" " : Str)) (TX n) := by
  have hl := h.len
  obtain ⟨a, rfl, h1, h2⟩ := h
  refine (strip_ok (by omega)).mono fun z hz => ⟨tl z, (mks_tl z).symm, by rw [← len_tl]; omega, fun c hc => h2 c (hz.2.1 c hc)⟩
theorem TX.sgn {c : Nat} (h : c < 128) : TX 1 (c1 c) := ⟨[c], rfl, Nat.le_refl _, fun d hd => by rw [List.mem_singleton.mp hd]; exact h⟩
end GT

namespace GU
open PySem PySem.StrLaws TL L2 FK MS

def m_is_passed_by : Str × Unit → Option Bool := fun (g : Str × Unit) => (bOr (Option.bind (sStrip g.1 (" " : Str)) fun (t1 : Str) => Option.bind (some ("" : Str)) fun (t2 : Str) => some (decide (t1 = t2))) (some (Txt.startswith g.1 ("#" : Str))))
def b_number_by_1  (s9 : Unit) (x10 : Str) : (Option (Fl Unit (Rs Int))) := (ifM (Option.bind (Option.bind (some ("0" : Str)) fun (t11 : Str) => Option.bind (some x10) fun (t12 : Str) => if (!sLt t12 t11) = true then Option.bind (some ("9" : Str)) fun (t13 : Str) => some (!sLt t13 t12) else some false) fun (t14 : Bool) => some (!t14)) (Option.bind (Option.bind (Option.bind (some (1 : Int)) fun (t15 : Int) => some (⟨("NoRow" : Str), Pd.pl ("row" : Str) t15⟩ : Xv)) fun (t16 : Xv) => some (Rs.ex t16 : (Rs Int))) fun (t17 : (Rs Int)) => some (Fl.rt t17)) (some (Fl.nx ())))
def m_number_by : Str × Unit → Option (Rs Int) := fun (g : Str × Unit) => (ifM (bOr (Option.bind (Option.bind (some (1 : Int)) fun (t1 : Int) => Option.bind (sLen g.1) fun (t2 : Int) => if (decide (t1 ≤ t2)) = true then Option.bind (some (10 : Int)) fun (t3 : Int) => some (decide (t2 ≤ t3)) else some false) fun (t4 : Bool) => some (!t4)) (Option.bind (sAt g.1 (0 : Int)) fun (t5 : Str) => Option.bind (some ("0" : Str)) fun (t6 : Str) => some (decide (t5 = t6)))) (Option.bind (Option.bind (some (1 : Int)) fun (t7 : Int) => some (⟨("NoRow" : Str), Pd.pl ("row" : Str) t7⟩ : Xv)) fun (t8 : Xv) => some (Rs.ex t8 : (Rs Int))) (thenF (S := Unit) (ρ := (Rs Int)) (Option.bind (some (sgn g.1)) fun (xs18 : List Str) => forF (S := Unit) (ρ := (Rs Int)) (b_number_by_1) xs18 ()) (fun (s19 : Unit) => (ifM (Option.bind (sInt g.1) fun (t20 : Int) => Option.bind (some (1000000000 : Int)) fun (t21 : Int) => some (decide (t21 < t20))) (Option.bind (Option.bind (some (1 : Int)) fun (t22 : Int) => some (⟨("NoRow" : Str), Pd.pl ("row" : Str) t22⟩ : Xv)) fun (t23 : Xv) => some (Rs.ex t23 : (Rs Int))) (Option.bind (sInt g.1) fun (t24 : Int) => some (Rs.ok t24)))) (fun v => some v) (fun _ => none) (fun _ => none)))
def m_rule_by : Int × Str × Str × Unit → Option (Rs Ru) := fun (g : Int × Str × Str × Unit) => (ifM (some (!decide (g.2.1 ∈ (⟨[("name" : Str), ("former" : Str), ("way" : Str), ("day" : Str), ("mark" : Str)]⟩ : Tl Str).l))) (Option.bind (Option.bind (some (1 : Int)) fun (t1 : Int) => some (⟨("NoRow" : Str), Pd.pl ("row" : Str) t1⟩ : Xv)) fun (t2 : Xv) => some (Rs.ex t2 : (Rs Ru))) (ifM (some (decide (g.2.2.1 = ("same" : Str)))) (Option.bind (Option.bind (some g.1) fun (t3 : Int) => Option.bind (some g.2.1) fun (t4 : Str) => some (⟨("Same" : Str), t3, t4⟩ : Ru)) fun (t5 : Ru) => some (Rs.ok t5)) (ifM (some (decide (g.2.2.1 = ("like" : Str)))) (Option.bind (Option.bind (some g.1) fun (t6 : Int) => Option.bind (some g.2.1) fun (t7 : Str) => some (⟨("Like" : Str), t6, t7⟩ : Ru)) fun (t8 : Ru) => some (Rs.ok t8)) (ifM (some (decide (g.2.2.1 = ("near" : Str)))) (Option.bind (Option.bind (some g.1) fun (t9 : Int) => Option.bind (some g.2.1) fun (t10 : Str) => some (⟨("Near" : Str), t9, t10⟩ : Ru)) fun (t11 : Ru) => some (Rs.ok t11)) (ifM (some (decide (g.2.2.1 = ("other" : Str)))) (Option.bind (Option.bind (some g.1) fun (t12 : Int) => Option.bind (some g.2.1) fun (t13 : Str) => some (⟨("Other" : Str), t12, t13⟩ : Ru)) fun (t14 : Ru) => some (Rs.ok t14)) (ifM (bAnd (some (decide (g.2.2.1 = ("former" : Str)))) (some (decide (g.2.1 = ("name" : Str))))) (Option.bind (Option.bind (some g.1) fun (t15 : Int) => some (⟨("Former" : Str), t15, "name"⟩ : Ru)) fun (t16 : Ru) => some (Rs.ok t16)) (Option.bind (Option.bind (some (1 : Int)) fun (t17 : Int) => some (⟨("NoRow" : Str), Pd.pl ("row" : Str) t17⟩ : Xv)) fun (t18 : Xv) => some (Rs.ex t18 : (Rs Ru)))))))))
def m_read_rule : Str × Unit → Option (Rs Ru) := fun (g : Str × Unit) => (Option.bind (sSplit g.1 (" " : Str)) fun (words_1 : (List Str)) => (ifM (bOr (some (!decide ((words_1.length : Int) = (4 : Int)))) (Option.bind (atI words_1 (0 : Int)) fun (t2 : Str) => Option.bind (some (⟨[("for" : Str), ("against" : Str)]⟩ : (Tl Str))) fun (t3 : (Tl Str)) => some (!decide (t2 ∈ t3.l)))) (Option.bind (Option.bind (some (1 : Int)) fun (t4 : Int) => some (⟨("NoRow" : Str), Pd.pl ("row" : Str) t4⟩ : Xv)) fun (t5 : Xv) => some (Rs.ex t5 : (Rs Ru))) (thenF (S := Int) (ρ := (Rs Ru)) (Option.bind (Option.bind (Option.bind (atI words_1 (1 : Int)) fun (t6 : Str) => Option.bind (some ()) fun (t7 : Unit) => some (t6, t7)) m_number_by) fun (t9 : Rs Int) => some t9.fl) (fun (weight_8 : Int) => (Option.bind (ifM (Option.bind (atI words_1 (0 : Int)) fun (t10 : Str) => Option.bind (some ("against" : Str)) fun (t11 : Str) => some (decide (t10 = t11))) (Option.bind (some ((0 : Int) - weight_8)) fun (weight_13 : Int) => (some weight_13)) (some weight_8)) fun (s12 : Int) => (Option.bind (Option.bind (some s12) fun (t18 : Int) => Option.bind (Option.bind (atI words_1 (2 : Int)) fun (t16 : Str) => Option.bind (Option.bind (atI words_1 (3 : Int)) fun (t14 : Str) => Option.bind (some ()) fun (t15 : Unit) => some (t14, t15)) fun (t17 : (Str × Unit)) => some (t16, t17)) fun (t19 : (Str × (Str × Unit))) => some (t18, t19)) m_rule_by))) (fun v => some v) (fun _ => none) (fun _ => none))))
def m_rule_at : Str × Int × Unit → Option Ru := fun (g : Str × Int × Unit) => (Option.bind (m_read_rule (g.1, ())) rsO)
def b_read_rules_1  (s2 : (List Ru)) (x4 : (Int × Str)) : (Option (List Ru)) := (ifM (Option.bind (m_is_passed_by (x4.2, ())) fun (t7 : Bool) => some (!t7)) (Option.bind (Option.bind (m_rule_at (x4.2, ((x4.1 + (1 : Int)), ()))) fun (t9 : Ru) => (lApp s2 t9)) fun (rules_8 : (List Ru)) => (some rules_8)) (some s2))
def m_read_rules : Str × Unit → Option (List Ru) := fun (g : Str × Unit) => (Option.bind (some ([] : (List Ru))) fun (rules_1 : (List Ru)) => (Option.bind (Option.bind (Option.bind (sSplit g.1 ("\n" : Str)) fun (t3 : (List Str)) => some (enumL t3)) fun (xs10 : List (Int × Str)) => forS (S := (List Ru)) (b_read_rules_1) xs10 rules_1) fun (s11 : (List Ru)) => (some s11)))
end GU

namespace GR
open PySem PySem.StrLaws TL L2 FK MS
def m_is_card : Str × Unit → Option Bool := fun (g : Str × Unit) => (bAnd (Option.bind (some (1 : Int)) fun (t1 : Int) => Option.bind (sLen g.1) fun (t2 : Int) => if (decide (t1 ≤ t2)) = true then Option.bind (some (12 : Int)) fun (t3 : Int) => some (decide (t2 ≤ t3)) else some false) (Option.bind (Option.bind (some (sgn g.1)) fun (xs5 : List Str) => lcG (fun (x4 : Str) => (some true)) (fun (x4 : Str) => (some (sIn x4 ("abcdefghijklmnopqrstuvwxyz" : Str)))) xs5) fun (t6 : (List Bool)) => some (t6.all id)))
def m_is_text : Str × Unit → Option Bool := fun (g : Str × Unit) => (bAnd (Option.bind (some (1 : Int)) fun (t1 : Int) => Option.bind (sLen g.1) fun (t2 : Int) => if (decide (t1 ≤ t2)) = true then Option.bind (some (40 : Int)) fun (t3 : Int) => some (decide (t2 ≤ t3)) else some false) (bAnd (Option.bind (sAt g.1 (0 : Int)) fun (t4 : Str) => Option.bind (some (" " : Str)) fun (t5 : Str) => some (!decide (t4 = t5))) (Option.bind (sAt g.1 (-(1 : Int))) fun (t6 : Str) => Option.bind (some (" " : Str)) fun (t7 : Str) => some (!decide (t6 = t7)))))
def m_fact_of : Str × Unit → Option (Rs (T3 Str Str Str)) := fun (g : Str × Unit) => (Option.bind (sPart g.1 (" " : Str)) fun (p1 : (T3 Str Str Str)) => (Option.bind (sPart p1.c (" " : Str)) fun (p5 : (T3 Str Str Str)) => (ifM (Option.bind (m_is_card (p1.a, ())) fun (t9 : Bool) => some (!t9)) (Option.bind (Option.bind (some (1 : Int)) fun (t10 : Int) => some (⟨("NoRow" : Str), Pd.pl ("row" : Str) t10⟩ : Xv)) fun (t11 : Xv) => some (Rs.ex t11 : (Rs (T3 Str Str Str)))) (ifM (bAnd (some (decide (p5.a ∈ (⟨[("name" : Str), ("former" : Str), ("way" : Str), ("day" : Str), ("mark" : Str)]⟩ : Tl Str).l))) (m_is_text (p5.c, ()))) (some (Rs.ok (⟨p1.a, p5.a, p5.c⟩ : (T3 Str Str Str)))) (ifM (bAnd (some (decide (p5.a ∈ (⟨[("same" : Str), ("apart" : Str)]⟩ : Tl Str).l))) (bAnd (m_is_card (p5.c, ())) (some (!decide (p5.c = p1.a))))) (some (Rs.ok (⟨(smin p1.a p5.c), p5.a, (smax p1.a p5.c)⟩ : (T3 Str Str Str)))) (Option.bind (Option.bind (some (1 : Int)) fun (t14 : Int) => some (⟨("NoRow" : Str), Pd.pl ("row" : Str) t14⟩ : Xv)) fun (t15 : Xv) => some (Rs.ex t15 : (Rs (T3 Str Str Str)))))))))
end GR

namespace GD
open PySem PySem.StrLaws TL L2 FK MS
open GU (m_is_passed_by)
open GR (m_fact_of)
def m_tidy : (List (T3 Str Str Str)) × Unit → Option (List (T3 Str Str Str)) := fun (g : (List (T3 Str Str Str)) × Unit) => (tdy g.1)
def m_fact_at : Str × Int × Unit → Option (T3 Str Str Str) := fun (g : Str × Int × Unit) => (Option.bind (m_fact_of (g.1, ())) rsO)
def b_read_book_1  (s2 : (List (T3 Str Str Str))) (x4 : (Int × Str)) : (Option (List (T3 Str Str Str))) := (ifM (Option.bind (m_is_passed_by (x4.2, ())) fun (t7 : Bool) => some (!t7)) (Option.bind (Option.bind (m_fact_at (x4.2, ((x4.1 + (1 : Int)), ()))) fun (t9 : (T3 Str Str Str)) => (lApp s2 t9)) fun (facts_8 : (List (T3 Str Str Str))) => (some facts_8)) (some s2))
def m_read_book : Str × Unit → Option (List (T3 Str Str Str)) := fun (g : Str × Unit) => (Option.bind (some ([] : (List (T3 Str Str Str)))) fun (facts_1 : (List (T3 Str Str Str))) => (Option.bind (Option.bind (Option.bind (sSplit g.1 ("\n" : Str)) fun (t3 : (List Str)) => some (enumL t3)) fun (xs10 : List (Int × Str)) => forS (S := (List (T3 Str Str Str))) (b_read_book_1) xs10 facts_1) fun (s11 : (List (T3 Str Str Str))) => (m_tidy (s11, ()))))
end GD

/-! rows of facts: what fact_of answers on any row -/
namespace GR
open PySem PySem.Builtin PySem.Builtin.Str PySem.StrLaws TL L2 FK MS
abbrev ABC : Str := "abcdefghijklmnopqrstuvwxyz"
abbrev FIELDS : List Str := [("name" : Str), ("former" : Str), ("way" : Str), ("day" : Str), ("mark" : Str)]
abbrev HAND : List Str := [("same" : Str), ("apart" : Str)]
/-- a card's name -/
def Nm (l : List Nat) : Prop := 1 ≤ l.length ∧ l.length ≤ 12 ∧ ∀ x ∈ l, x ∈ tl ABC
/-- a text -/
def Tx (l : List Nat) : Prop := 1 ≤ l.length ∧ l.length ≤ 40 ∧ l[0]? ≠ some 32 ∧ l[l.length - 1]? ≠ some 32
instance (l : List Nat) : Decidable (Nm l) := by unfold Nm; infer_instance
instance (l : List Nat) : Decidable (Tx l) := by unfold Tx; infer_instance
theorem abc_no : 32 ∉ tl ABC := by decide +kernel
theorem Nm.noblank {l : List Nat} (h : Nm l) : 32 ∉ l := fun z => abc_no (h.2.2 _ z)
theorem part_none (l : List Nat) (h : 32 ∉ l) : Txt.partition (mks l) (" " : Str) = (mks l, ("" : Str), ("" : Str)) := by
  have hy : tl (" " : Str) ≠ [] := by rw [blank_tl]; simp
  have hat : ∀ i, At (mks l) (" " : Str) (mks l).length i ↔ l[i]? = some 32 := fun i => by
    refine (at_iff hy i).trans ?_
    rw [blank_tl]
    exact pre1 32 l i
  unfold Txt.partition
  rcases occ_head (mks l) (" " : Str) 1 (Nat.le_refl 1) with ⟨e, hn⟩ | ⟨i, q, e, hi, hk⟩
  · rw [e]
    rfl
  · exact absurd (List.mem_of_getElem? ((hat i).mp hi)) h
def hd (r : List Nat) : List Nat := r.takeWhile fun c => decide (c ≠ 32)
def rs (r : List Nat) : List Nat := (r.dropWhile fun c => decide (c ≠ 32)).tail
theorem hd_of {a b : List Nat} (h : 32 ∉ a) : hd (a ++ 32 :: b) = a := by
  unfold hd
  rw [List.takeWhile_append_of_pos (p := fun c => decide (c ≠ 32)) fun x hx => decide_eq_true fun e => h (e ▸ hx)]
  simp
theorem rs_of {a b : List Nat} (h : 32 ∉ a) : rs (a ++ 32 :: b) = b := by
  unfold rs
  rw [List.dropWhile_append_of_pos (p := fun c => decide (c ≠ 32)) fun x hx => decide_eq_true fun e => h (e ▸ hx)]
  simp
theorem hd_none {a : List Nat} (h : 32 ∉ a) : hd a = a := by
  have := List.takeWhile_append_of_pos (l₂ := []) (p := fun c => decide (c ≠ 32)) (l₁ := a) fun x hx => decide_eq_true fun e => h (e ▸ hx)
  unfold hd
  simpa using this
theorem rs_none {a : List Nat} (h : 32 ∉ a) : rs a = [] := by
  have := List.dropWhile_append_of_pos (l₂ := []) (p := fun c => decide (c ≠ 32)) (l₁ := a) fun x hx => decide_eq_true fun e => h (e ▸ hx)
  unfold rs
  rw [List.append_nil] at this
  rw [this]
  rfl
theorem two (r : List Nat) : 32 ∉ r ∨ ∃ a b, 32 ∉ a ∧ r = a ++ 32 :: b := by
  by_cases h : 32 ∈ r
  · obtain ⟨a, b, e, ha⟩ := List.eq_append_cons_of_mem h
    exact .inr ⟨a, b, ha, e⟩
  · exact .inl h
theorem part_any (r : List Nat) (hz : r.length ≤ 100000) : ∃ s, sPart (mks r) (" " : Str) = some ⟨mks (hd r), s, mks (rs r)⟩ := by
  rcases two r with h | ⟨a, b, h, rfl⟩
  · refine ⟨"", ?_⟩
    unfold sPart
    rw [if_pos ⟨by decide, by rw [len_mks]; omega⟩, part_none r h, hd_none h, rs_none h]
    rfl
  · rw [List.length_append, List.length_cons] at hz
    exact ⟨_, by rw [part_ok a b h (by omega), hd_of h, rs_of h]⟩
theorem rs_len (r : List Nat) : (rs r).length ≤ r.length := by
  unfold rs
  have := (List.dropWhile_sublist (l := r) fun c => decide (c ≠ 32)).length_le
  rw [List.length_tail]
  omega
theorem hd_len (r : List Nat) : (hd r).length ≤ r.length := (List.takeWhile_sublist _).length_le
theorem all_id : ∀ {α : Type} (l : List α) (f : α → Bool), (l.map f).all id = l.all f
  | _, [], _ => rfl
  | _, x :: r, f => by rw [List.map_cons, List.all_cons, List.all_cons, all_id r f]; rfl
theorem card_any (l : List Nat) (hz : l.length ≤ 100000) : m_is_card (mks l, ()) = some (decide (Nm l)) := by
  unfold m_is_card
  have hl := sLen_mks l (by omega)
  simp only [bs, hl]
  have e3 : lcG (fun (x4 : Str) => (some true)) (fun (x4 : Str) => (some (sIn x4 ABC))) (sgn (mks l)) = some ((l.map c1).map fun x => sIn x ABC) := by
    unfold lcG
    rw [sgn_tl, if_pos (by rw [List.length_map]; show l.length < _; omega), lc_map _ fun x _ => rfl]
  show bAnd _ ((lcG _ _ _).bind _) = _
  rw [e3]
  have e4 : ((l.map c1).map fun x => sIn x ABC).all id = decide (∀ x ∈ l, x ∈ tl ABC) := by
    rw [all_id, List.all_map, Bool.eq_iff_iff, List.all_eq_true, decide_eq_true_iff]
    refine forall_congr' fun x => imp_congr_right fun _ => ?_
    show sIn (c1 x) ABC = true ↔ _
    rw [sIn1, decide_eq_true_iff]
  simp only [bs]
  rw [e4]
  unfold bAnd
  by_cases a : 1 ≤ l.length
  · rw [decide_eq_true (show (1 : Int) ≤ l.length by omega), if_pos rfl]
    simp only [bs]
    by_cases b : l.length ≤ 12
    · rw [decide_eq_true (show (l.length : Int) ≤ 12 by omega), if_pos rfl]
      congr 1
      exact decide_eq_decide.mpr ⟨fun z => ⟨a, b, z⟩, fun z => z.2.2⟩
    · rw [decide_eq_false (show ¬ (l.length : Int) ≤ 12 by omega), decide_eq_false fun z : Nm l => b z.2.1]
      rfl
  · rw [decide_eq_false (show ¬ (1 : Int) ≤ l.length by omega), decide_eq_false fun z : Nm l => a z.1]
    rfl
theorem text_any (l : List Nat) (hz : l.length ≤ 100000) : m_is_text (mks l, ()) = some (decide (Tx l)) := by
  unfold m_is_text
  have hl := sLen_mks l (by omega)
  simp only [bs, hl]
  by_cases a : 1 ≤ l.length
  case neg =>
    rw [decide_eq_false (show ¬ (1 : Int) ≤ l.length by omega), decide_eq_false fun z : Tx l => a z.1]
    rfl
  rw [decide_eq_true (show (1 : Int) ≤ l.length by omega), if_pos rfl]
  have hne : l ≠ [] := List.length_pos_iff.mp a
  have s0 : sAt (mks l) 0 = some (c1 l[0]) := sAt_mks l 0 (by omega) (by omega)
  have s1 := last_sign l hne (by omega)
  rw [s0, s1]
  simp only [bs]
  by_cases b : l.length ≤ 40
  case neg =>
    rw [decide_eq_false (show ¬ (l.length : Int) ≤ 40 by omega), decide_eq_false fun z : Tx l => b z.2.1]
    rfl
  rw [decide_eq_true (show (l.length : Int) ≤ 40 by omega)]
  have d0 : decide (c1 l[0] = (" " : Str)) = decide (l[0]? = some 32) := by
    rw [blank, decide_eq_decide, List.getElem?_eq_getElem (by omega), c1_eq]
    exact ⟨fun e => by rw [e], fun e => Option.some.inj e⟩
  have d1 : decide (c1 (l.getLast hne) = (" " : Str)) = decide (l[l.length - 1]? = some 32) := by
    rw [blank, decide_eq_decide, ← List.getLast?_eq_getElem?, List.getLast?_eq_some_getLast hne, c1_eq]
    exact ⟨fun e => by rw [e], fun e => Option.some.inj e⟩
  rw [d0, d1]
  by_cases c : l[0]? = some 32
  · rw [decide_eq_true c, decide_eq_false fun z : Tx l => z.2.2.1 c]
    rfl
  · rw [decide_eq_false c]
    by_cases d : l[l.length - 1]? = some 32
    · rw [decide_eq_true d, decide_eq_false fun z : Tx l => z.2.2.2 d]
      rfl
    · rw [decide_eq_false d, decide_eq_true (show Tx l from ⟨a, b, c, d⟩)]
      rfl
abbrev Fc := T3 Str Str Str
def no1 : Xv := ⟨"NoRow", .int "row" 1⟩
/-- what fact_of answers on three parts -/
def fo (c f t : List Nat) : Rs Fc := if Nm c then (if mks f ∈ FIELDS ∧ Tx t then .ok ⟨mks c, mks f, mks t⟩ else if mks f ∈ HAND ∧ Nm t ∧ t ≠ c then .ok ⟨smin (mks c) (mks t), mks f, smax (mks c) (mks t)⟩ else .ex no1) else .ex no1
def fo1 (r : List Nat) : Rs Fc := fo (hd r) (hd (rs r)) (rs (rs r))
theorem fact_any (r : List Nat) (hz : r.length ≤ 100000) : m_fact_of (mks r, ()) = some (fo1 r) := by
  unfold m_fact_of fo1 fo
  obtain ⟨s1, p1⟩ := part_any r hz
  have h1 := rs_len r
  have h2 := rs_len (rs r)
  have h3 := hd_len r
  obtain ⟨s2, p2⟩ := part_any (rs r) (by omega)
  simp only [bs, p1, p2, card_any (hd r) (by omega), text_any (rs (rs r)) (by omega), card_any (rs (rs r)) (by omega)]
  generalize hd r = c
  generalize hd (rs r) = f
  generalize rs (rs r) = t
  by_cases a : Nm c
  case neg =>
    rw [if_neg a, decide_eq_false a]
    rfl
  rw [if_pos a, decide_eq_true a]
  show ifM _ _ _ = _
  by_cases b : mks f ∈ FIELDS ∧ Tx t
  · rw [if_pos b, decide_eq_true b.1, decide_eq_true b.2]
    rfl
  rw [if_neg b]
  have eb : bAnd (some (decide (mks f ∈ FIELDS))) (some (decide (Tx t))) = some false := by
    by_cases d : mks f ∈ FIELDS
    · rw [decide_eq_true d, decide_eq_false fun z => b ⟨d, z⟩]
      rfl
    · rw [decide_eq_false d]
      rfl
  show ifM (bAnd (some (decide (mks f ∈ FIELDS))) (some (decide (Tx t)))) _ _ = _
  rw [eb]
  show ifM (bAnd (some (decide (mks f ∈ HAND))) (bAnd (some (decide (Nm t))) (some (!decide (mks t = mks c))))) _ _ = _
  have et : decide (mks t = mks c) = decide (t = c) := decide_eq_decide.mpr mks_inj
  rw [et]
  by_cases e : mks f ∈ HAND
  case neg =>
    rw [decide_eq_false e, if_neg fun z => e z.1]
    rfl
  rw [decide_eq_true e]
  by_cases g : Nm t
  case neg =>
    rw [decide_eq_false g, if_neg fun z => g z.2.1]
    rfl
  rw [decide_eq_true g]
  by_cases i : t = c
  · rw [decide_eq_true i, if_neg fun z => z.2.2 i]
    rfl
  · rw [decide_eq_false i, if_pos ⟨e, g, i⟩]
    rfl
theorem fo1_of {c f t : List Nat} (h1 : 32 ∉ c) (h2 : 32 ∉ f) : fo1 (c ++ 32 :: (f ++ 32 :: t)) = fo c f t := by
  unfold fo1
  rw [hd_of h1, rs_of h1, hd_of h2, rs_of h2]
theorem fo_ok1 {c f t : List Nat} (hc : Nm c) (h1 : mks f ∈ FIELDS) (ht : Tx t) : fo c f t = .ok ⟨mks c, mks f, mks t⟩ := by
  unfold fo
  rw [if_pos hc, if_pos ⟨h1, ht⟩]
theorem fo_ok2 {c f t : List Nat} (hc : Nm c) (h1 : mks f ∉ FIELDS) (h2 : mks f ∈ HAND) (ht : Nm t) (hne : t ≠ c) : fo c f t = .ok ⟨smin (mks c) (mks t), mks f, smax (mks c) (mks t)⟩ := by
  unfold fo
  rw [if_pos hc, if_neg fun z => h1 z.1, if_pos ⟨h2, ht, hne⟩]
/-! great letters -/
theorem up_mks : ∀ l : List Nat, (∀ c ∈ l, c < 128) → Txt.upper (mks l) = mks (l.map fun c => if 97 ≤ c ∧ c ≤ 122 then c - 32 else c)
  | [], _ => by decide +kernel
  | c :: l, h => by
    have e : mks (c :: l) = mks [c] ++ mks l := (app_mks [c] l).symm
    rw [e, PySem.W.KOpn.upper_app, PySem.W.KOpn.upper_one (h c List.mem_cons_self), up_mks l fun d hd => h d (List.mem_cons_of_mem _ hd), List.map_cons]
    exact app_mks [_] _
end GR

/-! rules read from rows -/
namespace GU
open PySem PySem.Builtin PySem.Builtin.Str PySem.StrLaws PySem.NumText TL L2 FK MS
/-! ### passed by or not -/
theorem strip_head (l : List Nat) (c : Nat) (hc : l[0]? = some c) (h32 : c ≠ 32) (hz : l.length ≤ 1000) : ∃ z, sStrip (mks l) (" " : Str) = some z ∧ z ≠ ("" : Str) := by
  refine ⟨_, if_pos (by rw [len_mks]; omega), ?_⟩
  unfold Txt.stripChars
  rw [PyProof.Rows.stripBy_eq]
  obtain ⟨a0, a1, a2⟩ := PyProof.Rows.lo_facts (" " : Str).cps.contains (mks l)
  obtain ⟨b0, b1, b2, b3⟩ := PyProof.Rows.hi_facts (" " : Str).cps.contains (mks l) _ a0
  generalize stripLo (" " : Str).cps.contains true (mks l) = lo at *
  generalize stripHi (" " : Str).cps.contains true (mks l) lo = hi at *
  have hlen : 0 < l.length := by
    cases l with
    | nil => cases hc
    | cons _ _ => exact Nat.succ_pos _
  have hgd : (mks l).cps.getD 0 0 = c := by
    have e : (mks l).cps.getD 0 0 = l.getD 0 0 := by
      show l.toArray.getD 0 0 = _
      simp [Array.getD_eq_getD_getElem?]
    rw [e, List.getD_eq_getElem?_getD, hc]
    rfl
  have hf : (" " : Str).cps.contains c = false := by
    have e : (" " : Str).cps = #[32] := by decide +kernel
    rw [e]
    simp
    exact h32
  have hlo : lo = 0 := by
    rcases Nat.eq_zero_or_pos lo with z | z
    · exact z
    · have := a1 0 z
      rw [hgd, hf] at this
      cases this
  have hhi : 0 < hi := by
    rcases Nat.eq_zero_or_pos hi with z | z
    · have := b2 0 (by omega) (by rw [len_mks]; exact hlen)
      rw [hgd, hf] at this
      cases this
    · exact z
  intro z
  have e := congrArg tl z
  rw [tl_strSub] at e
  have e2 : (((tl (mks l)).drop lo).take (hi - lo)).length = 0 := by
    rw [e]
    rfl
  rw [List.length_take, List.length_drop, tl_mks] at e2
  omega
theorem sw_hash (l : List Nat) : Txt.startswith (mks l) ("#" : Str) = decide (l[0]? = some 35) := by
  unfold Txt.startswith
  have e1 : ("#" : Str) = mks [35] := by decide +kernel
  rw [e1, subAt_eq]
  cases l with
  | nil => rfl
  | cons c r =>
    have e : (mks (c :: r)).length = r.length + 1 := by rw [len_mks]; rfl
    rw [e, show (mks [35]).length = 1 from by rw [len_mks]; rfl, decide_eq_true (show 0 + 1 ≤ r.length + 1 by omega), Bool.true_and]
    show (([c] : List Nat) == [35]) = decide (some c = some 35)
    by_cases h : c = 35
    · subst h
      rfl
    · rw [decide_eq_false fun z => h (Option.some.inj z)]
      simp [h]
theorem pass_no (l : List Nat) (c : Nat) (hc : l[0]? = some c) (h1 : c ≠ 32) (h2 : c ≠ 35) (hz : l.length ≤ 1000) : m_is_passed_by (mks l, ()) = some false := by
  unfold m_is_passed_by
  obtain ⟨z, ez, hzn⟩ := strip_head l c hc h1 hz
  show bOr ((sStrip (mks l) (" " : Str)).bind fun t1 => some (decide (t1 = ("" : Str)))) (some (Txt.startswith (mks l) ("#" : Str))) = some false
  rw [ez]
  simp only [bs]
  rw [decide_eq_false hzn, or_f, sw_hash, hc, decide_eq_false fun e => h2 (Option.some.inj e)]
/-! ### numbers -/
structure Num (n : Int) (D : List Nat) : Prop where
  num : (PySem.Str.ofString (toString n)) = mks D
  len : D.length ≤ 10
  one : 1 ≤ D.length
  dig : ∀ c ∈ D, 48 ≤ c ∧ c ≤ 57
  hd : D[0]? ≠ some 48
  val : PySem.intText? (mks D) = some n
end GU

namespace G
open PySem PySem.StrLaws TL L2 FK MS
def m_tidy : (List (T3 Str Str Str)) × Unit → Option (List (T3 Str Str Str)) := fun (g : (List (T3 Str Str Str)) × Unit) => (tdy g.1)
def b_cards_of_1  (s2 : (Dct Str Bool)) (x3 : (T3 Str Str Str)) : (Option (Dct Str Bool)) := (Option.bind (Option.bind (some true) fun (t8 : Bool) => Option.bind (some x3.a) fun (t9 : Str) => (dSet s2 t9 t8)) fun (cards_7 : (Dct Str Bool)) => (ifM (some (decide (x3.b ∈ (⟨[("same" : Str), ("apart" : Str)]⟩ : Tl Str).l))) (Option.bind (Option.bind (some true) fun (t11 : Bool) => Option.bind (some x3.c) fun (t12 : Str) => (dSet cards_7 t12 t11)) fun (cards_10 : (Dct Str Bool)) => (some cards_10)) (some cards_7)))
def m_cards_of : (List (T3 Str Str Str)) × Unit → Option (List Str) := fun (g : (List (T3 Str Str Str)) × Unit) => (Option.bind (some (⟨[]⟩ : (Dct Str Bool))) fun (cards_1 : (Dct Str Bool)) => (Option.bind (Option.bind (some g.1) fun (xs13 : List (T3 Str Str Str)) => forS (S := (Dct Str Bool)) (b_cards_of_1) xs13 cards_1) fun (s14 : (Dct Str Bool)) => (if s14.l.length < 64 then some (srt (s14.l.map (·.1))) else none)))
end G

namespace G
open PySem PySem.StrLaws TL L2 FK MS
def b__law_fact_1 (signs_2 : Str) (g : (Int × (List Int) × Unit)) (x39 : Int) : (Option Str) := (Option.bind (some signs_2) fun (t43 : Str) => Option.bind (Option.bind (Option.bind (atI g.2.1 (2 : Int)) fun (t40 : Int) => Option.bind (some x39) fun (t41 : Int) => (ifdiv t40 t41)) fun (t42 : Int) => some (t42 % 14)) fun (t44 : Int) => (sAt t43 t44))
def m__law_fact : Int × (List Int) × Unit → Option (T3 Str Str Str) := fun (g : Int × (List Int) × Unit) => (Option.bind (some ("abcdefghijklmnopqrstuvwxyz" : Str)) fun (letters_1 : Str) => (Option.bind (some ("abcXYZ019.-#~@" : Str)) fun (signs_2 : Str) => (Option.bind (some ((1 : Int) + (g.1 % 5))) fun (many_3 : Int) => (Option.bind (Option.bind (some letters_1) fun (t10 : Str) => Option.bind (Option.bind (Option.bind (some (g.1 / 5)) fun (t7 : Int) => Option.bind (Option.bind (atI g.2.1 (0 : Int)) fun (t5 : Int) => Option.bind (some many_3) fun (t6 : Int) => (imod t5 t6)) fun (t8 : Int) => some (t7 + t8)) fun (t9 : Int) => some (t9 % 26)) fun (t11 : Int) => (sAt t10 t11)) fun (card_4 : Str) => (Option.bind (Option.bind (some letters_1) fun (t19 : Str) => Option.bind (Option.bind (Option.bind (some (g.1 / 5)) fun (t16 : Int) => Option.bind (Option.bind (Option.bind (atI g.2.1 (0 : Int)) fun (t13 : Int) => some (t13 / 5)) fun (t14 : Int) => Option.bind (some many_3) fun (t15 : Int) => (imod t14 t15)) fun (t17 : Int) => some (t16 + t17)) fun (t18 : Int) => some (t18 % 26)) fun (t20 : Int) => (sAt t19 t20)) fun (other_12 : Str) => (ifM (bAnd (Option.bind (Option.bind (atI g.2.1 (1 : Int)) fun (t21 : Int) => some (t21 % 5)) fun (t22 : Int) => Option.bind (some (0 : Int)) fun (t23 : Int) => some (decide (t22 = t23))) (some (!decide (card_4 = other_12)))) (Option.bind (some (smin card_4 other_12)) fun (t28 : Str) => Option.bind (Option.bind (some [("same" : Str), ("apart" : Str)]) fun (t26 : (List Str)) => Option.bind (Option.bind (Option.bind (atI g.2.1 (1 : Int)) fun (t24 : Int) => some (t24 / 5)) fun (t25 : Int) => some (t25 % 2)) fun (t27 : Int) => (atI t26 t27)) fun (t29 : Str) => Option.bind (some (smax card_4 other_12)) fun (t30 : Str) => some (⟨t28, t29, t30⟩ : (T3 Str Str Str))) (Option.bind (Option.bind (some ("" : Str)) fun (t46 : Str) => Option.bind (Option.bind (Option.bind (some [(1 : Int), (14 : Int), (196 : Int)]) fun (t36 : (List Int)) => Option.bind (some none) fun (t37 : Option Int) => Option.bind (Option.bind (Option.bind (some (1 : Int)) fun (t34 : Int) => Option.bind (Option.bind (Option.bind (atI g.2.1 (1 : Int)) fun (t32 : Int) => some (t32 / 10)) fun (t33 : Int) => some (t33 % 3)) fun (t35 : Int) => some (t34 + t35)) fun (z : Int) => some (some z)) fun (t38 : Option Int) => some (cutA t36 t37 t38)) fun (xs45 : List Int) => lcG (fun (x39 : Int) => (some true)) (b__law_fact_1 signs_2 g) xs45) fun (t47 : (List Str)) => (sJoin t46 t47)) fun (text_31 : Str) => (Option.bind (ifM (Option.bind (Option.bind (Option.bind (atI g.2.1 (1 : Int)) fun (t48 : Int) => some (t48 / 30)) fun (t49 : Int) => some (t49 % 4)) fun (t50 : Int) => Option.bind (some (0 : Int)) fun (t51 : Int) => some (decide (t50 = t51))) (Option.bind (sUp card_4) fun (text_53 : Str) => (some text_53)) (some text_31)) fun (s52 : Str) => (Option.bind (some card_4) fun (t58 : Str) => Option.bind (Option.bind (some [("name" : Str), ("former" : Str), ("way" : Str), ("day" : Str), ("mark" : Str)]) fun (t56 : (List Str)) => Option.bind (Option.bind (Option.bind (atI g.2.1 (1 : Int)) fun (t54 : Int) => some (t54 / 120)) fun (t55 : Int) => some (t55 % 5)) fun (t57 : Int) => (atI t56 t57)) fun (t59 : Str) => Option.bind (some s52) fun (t60 : Str) => some (⟨t58, t59, t60⟩ : (T3 Str Str Str)))))))))))
def b_changes_of_1 (s15 : (Dct (T3 Str Str Str) Str)) (x16 : (T3 Str Str Str)) : (Option (Str × (T3 Str Str Str))) := (Option.bind (dGet s15.l x16) fun (t17 : Str) => Option.bind (some x16) fun (t18 : (T3 Str Str Str)) => some (t17, t18))
def b_changes_of_2 (g : ((List (T3 Str Str Str)) × (List (T3 Str Str Str)) × Unit)) (s9 : (Dct (T3 Str Str Str) Str)) (x10 : (T3 Str Str Str)) : (Option (Dct (T3 Str Str Str) Str)) := (ifM (some (!decide (x10 ∈ g.1))) (Option.bind (Option.bind (some ("+" : Str)) fun (t12 : Str) => Option.bind (some x10) fun (t13 : (T3 Str Str Str)) => (dSet s9 t13 t12)) fun (changes_11 : (Dct (T3 Str Str Str) Str)) => (some changes_11)) (some s9))
def b_changes_of_3 (g : ((List (T3 Str Str Str)) × (List (T3 Str Str Str)) × Unit)) (s2 : (Dct (T3 Str Str Str) Str)) (x3 : (T3 Str Str Str)) : (Option (Dct (T3 Str Str Str) Str)) := (ifM (some (!decide (x3 ∈ g.2.1))) (Option.bind (Option.bind (some ("-" : Str)) fun (t5 : Str) => Option.bind (some x3) fun (t6 : (T3 Str Str Str)) => (dSet s2 t6 t5)) fun (changes_4 : (Dct (T3 Str Str Str) Str)) => (some changes_4)) (some s2))
def m_changes_of : (List (T3 Str Str Str)) × (List (T3 Str Str Str)) × Unit → Option (List (Str × (T3 Str Str Str))) := fun (g : (List (T3 Str Str Str)) × (List (T3 Str Str Str)) × Unit) => (Option.bind (some (⟨[]⟩ : (Dct (T3 Str Str Str) Str))) fun (changes_1 : (Dct (T3 Str Str Str) Str)) => (Option.bind (Option.bind (some g.1) fun (xs7 : List (T3 Str Str Str)) => forS (S := (Dct (T3 Str Str Str) Str)) (b_changes_of_3 g) xs7 changes_1) fun (s8 : (Dct (T3 Str Str Str) Str)) => (Option.bind (Option.bind (some g.2.1) fun (xs14 : List (T3 Str Str Str)) => forS (S := (Dct (T3 Str Str Str) Str)) (b_changes_of_2 g) xs14 s8) fun (s15 : (Dct (T3 Str Str Str) Str)) => (Option.bind (sSort (s15.l.map (·.1))) fun (xs19 : List (T3 Str Str Str)) => lcG (fun (x16 : (T3 Str Str Str)) => (some true)) (b_changes_of_1 s15) xs19))))
def b_poured_all_1 (g : ((List (T3 Str Str Str)) × (List (List (T3 Str Str Str))) × Unit)) (s7 : (List (T3 Str Str Str))) (x8 : (List (T3 Str Str Str))) : (Option (List (T3 Str Str Str))) := (Option.bind (Option.bind (Option.bind (some x8) fun (xs10 : List (T3 Str Str Str)) => lcG (fun (x9 : (T3 Str Str Str)) => (some (!decide (x9 ∈ g.1)))) (fun (x9 : (T3 Str Str Str)) => (some x9)) xs10) fun (t12 : (List (T3 Str Str Str))) => (lCat s7 t12)) fun (facts_11 : (List (T3 Str Str Str))) => (some facts_11))
def b_poured_all_2 (g : ((List (T3 Str Str Str)) × (List (List (T3 Str Str Str))) × Unit)) (x2 : (T3 Str Str Str)) : (Option Bool) := (Option.bind (Option.bind (some g.2.1) fun (xs4 : List (List (T3 Str Str Str))) => lcG (fun (x3 : (List (T3 Str Str Str))) => (some true)) (fun (x3 : (List (T3 Str Str Str))) => (some (decide (x2 ∈ x3)))) xs4) fun (t5 : (List Bool)) => some (t5.all id))
def m_poured_all : (List (T3 Str Str Str)) × (List (List (T3 Str Str Str))) × Unit → Option (List (T3 Str Str Str)) := fun (g : (List (T3 Str Str Str)) × (List (List (T3 Str Str Str))) × Unit) => (Option.bind (Option.bind (some g.1) fun (xs6 : List (T3 Str Str Str)) => lcG (b_poured_all_2 g) (fun (x2 : (T3 Str Str Str)) => (some x2)) xs6) fun (facts_1 : (List (T3 Str Str Str))) => (Option.bind (Option.bind (some g.2.1) fun (xs13 : List (List (T3 Str Str Str))) => forS (S := (List (T3 Str Str Str))) (b_poured_all_1 g) xs13 facts_1) fun (s14 : (List (T3 Str Str Str))) => (m_tidy (s14, ()))))
def m_poured : (List (T3 Str Str Str)) × (Fz (List (T3 Str Str Str))) × (Fz (List (T3 Str Str Str))) × Unit → Option (List (T3 Str Str Str)) := fun (g : (List (T3 Str Str Str)) × (Fz (List (T3 Str Str Str))) × (Fz (List (T3 Str Str Str))) × Unit) => (m_poured_all (g.1, ([g.2.1.val, g.2.2.1.val], ())))
def m__law_good : (List (T3 Str Str Str)) × (List (T3 Str Str Str)) × Unit → Option Bool := fun (g : (List (T3 Str Str Str)) × (List (T3 Str Str Str)) × Unit) => (bAnd (some true) (bAnd (some (decide (g.1 = g.2.1))) (Option.bind (Option.bind (some g.1) fun (xs2 : List (T3 Str Str Str)) => lcG (fun (x1 : (T3 Str Str Str)) => (some true)) (fun (x1 : (T3 Str Str Str)) => (some true)) xs2) fun (t3 : (List Bool)) => some (t3.all id))))
def m_changed_by : (List (T3 Str Str Str)) × (List (Str × (T3 Str Str Str))) × Unit → Option (List (T3 Str Str Str)) := fun (g : (List (T3 Str Str Str)) × (List (Str × (T3 Str Str Str))) × Unit) => (Option.bind (Option.bind (some g.2.1) fun (xs5 : List (Str × (T3 Str Str Str))) => lcG (fun (x2 : (Str × (T3 Str Str Str))) => (some (decide (x2.1 = ("-" : Str))))) (fun (x2 : (Str × (T3 Str Str Str))) => (some x2.2)) xs5) fun (gone_1 : (List (T3 Str Str Str))) => (Option.bind (Option.bind (some g.2.1) fun (xs10 : List (Str × (T3 Str Str Str))) => lcG (fun (x7 : (Str × (T3 Str Str Str))) => (some (decide (x7.1 = ("+" : Str))))) (fun (x7 : (Str × (T3 Str Str Str))) => (some x7.2)) xs10) fun (come_6 : (List (T3 Str Str Str))) => (Option.bind (Option.bind (Option.bind (Option.bind (some g.1) fun (xs12 : List (T3 Str Str Str)) => lcG (fun (x11 : (T3 Str Str Str)) => (some (!decide (x11 ∈ gone_1)))) (fun (x11 : (T3 Str Str Str)) => (some x11)) xs12) fun (t13 : (List (T3 Str Str Str))) => Option.bind (some come_6) fun (t14 : (List (T3 Str Str Str))) => (lCat t13 t14)) fun (t15 : (List (T3 Str Str Str))) => Option.bind (some ()) fun (t16 : Unit) => some (t15, t16)) m_tidy)))
def m__law_by_facts : (List (Str × (T3 Str Str Str))) × Unit → Option (List (Str × (T3 Str Str Str))) := fun (g : (List (Str × (T3 Str Str Str))) × Unit) => (Option.bind (Option.bind (Option.bind (some g.1) fun (xs4 : List (Str × (T3 Str Str Str))) => lcG (fun (x1 : (Str × (T3 Str Str Str))) => (some true)) (fun (x1 : (Str × (T3 Str Str Str))) => (some (x1.2, x1.1))) xs4) fun (t5 : (List ((T3 Str Str Str) × Str))) => (sSort t5)) fun (xs9 : List ((T3 Str Str Str) × Str)) => lcG (fun (x6 : ((T3 Str Str Str) × Str)) => (some true)) (fun (x6 : ((T3 Str Str Str) × Str)) => (some (x6.2, x6.1))) xs9)
def b__law_one_by_one_1 (g : ((List (T3 Str Str Str)) × (List (List (T3 Str Str Str))) × Unit)) (s3 : (List (T3 Str Str Str))) (x4 : (List (T3 Str Str Str))) : (Option (List (T3 Str Str Str))) := (Option.bind (m_poured (g.1, ((⟨s3⟩ : (Fz (List (T3 Str Str Str)))), ((⟨x4⟩ : (Fz (List (T3 Str Str Str)))), ())))) fun (book_5 : (List (T3 Str Str Str))) => (some book_5))
def m__law_one_by_one : (List (T3 Str Str Str)) × (List (List (T3 Str Str Str))) × Unit → Option (List (T3 Str Str Str)) := fun (g : (List (T3 Str Str Str)) × (List (List (T3 Str Str Str))) × Unit) => (Option.bind (Option.bind (atI g.2.1 (0 : Int)) fun (t2 : (List (T3 Str Str Str))) => some t2) fun (book_1 : (List (T3 Str Str Str))) => (Option.bind (Option.bind (some (cutA g.2.1 (some (1 : Int)) none)) fun (xs6 : List (List (T3 Str Str Str))) => forS (S := (List (T3 Str Str Str))) (b__law_one_by_one_1 g) xs6 book_1) fun (s7 : (List (T3 Str Str Str))) => (some s7)))
end G

namespace MS
open PySem PySem.StrLaws TL L2 FK
section
variable {κ α : Type} [DecidableEq κ]
theorem any_key (l : List (κ × α)) (k : κ) : (l.any fun p => decide (p.1 = k)) = decide (k ∈ l.map (·.1)) := by
  rw [Bool.eq_iff_iff, List.any_eq_true, decide_eq_true_eq, List.mem_map]
  exact ⟨fun ⟨p, h, e⟩ => ⟨p, h, of_decide_eq_true e⟩, fun ⟨p, h, e⟩ => ⟨p, h, decide_eq_true e⟩⟩
theorem keys_put (l : List (κ × α)) (k : κ) (a : α) : (dPut l k a).map (·.1) = if k ∈ l.map (·.1) then l.map (·.1) else l.map (·.1) ++ [k] := by
  unfold dPut
  rw [any_key]
  by_cases h : k ∈ l.map (·.1)
  · rw [if_pos (decide_eq_true h), if_pos h, List.map_map]
    refine List.map_congr_left fun p _ => ?_
    show (if p.1 = k then (p.1, a) else p).1 = p.1
    split <;> rfl
  · rw [if_neg (by rw [decide_eq_false h]; exact Bool.false_ne_true), if_neg h, List.map_append]
    rfl
end
abbrev Fact := T3 Str Str Str
/-- a field of two cards -/
def Hand (f : Str) : Prop := f = "same" ∨ f = "apart"
/-- the cards that facts tell -/
def Told (fs : List Fact) (x : Str) : Prop := ∃ f ∈ fs, x = f.a ∨ (Hand f.b ∧ x = f.c)
theorem told_congr {fs gs : List Fact} (h : ∀ f, f ∈ fs ↔ f ∈ gs) (x : Str) : Told fs x ↔ Told gs x :=
  ⟨fun ⟨f, a, b⟩ => ⟨f, (h f).mp a, b⟩, fun ⟨f, a, b⟩ => ⟨f, (h f).mpr a, b⟩⟩
/-- the cards of a book: sorted, each once -/
def CardsIs (fs : List Fact) (l : List Str) : Prop := Rising l ∧ ∀ x, x ∈ l ↔ Told fs x
theorem CardsIs.uniq {fs gs : List Fact} {l m : List Str} (h1 : CardsIs fs l) (h2 : CardsIs gs m) (e : ∀ f, f ∈ fs ↔ f ∈ gs) : l = m :=
  rising_ext h1.1 h2.1 fun x => by rw [h1.2, h2.2, told_congr e]
end MS
namespace G
open PySem PySem.StrLaws TL L2 FK MS
end G

/-! books poured: what the pouring functions tell -/
namespace G
open PySem PySem.StrLaws TL L2 FK MS
theorem sig14_at (k : Int) : Ok (sAt "abcXYZ019.-#~@" (k % 14)) fun z => z.length ≤ 1 := (okSAt (x := "abcXYZ019.-#~@") (by omega) (by rw [show ("abcXYZ019.-#~@" : Str).length = 14 by decide +kernel]; omega) (by decide +kernel)).mono fun z ⟨c, _, e⟩ => by rw [e]; exact Nat.le_refl 1
theorem mem_cut {α : Type} {l : List α} {lo hi : Option Int} {x : α} (h : x ∈ cutA l lo hi) : x ∈ l := by
  unfold cutA at h
  exact List.mem_of_mem_drop (List.mem_of_mem_take h)
theorem fact_ok (a : Int) (ds : List Int) (h : 3 ≤ ds.length) : Ok (m__law_fact (a, (ds, ()))) fun _ => True := by
  unfold m__law_fact
  simp only [bs, Option.bind_assoc]
  have d : ∀ k : Int, 0 ≤ k → k < 3 → Ok (atI ds k) fun _ => True := fun k h0 h1 => (okAt h0 (by omega)).any
  have q0 := d 0 (by decide) (by decide)
  have q1 := d 1 (by decide) (by decide)
  have q2 := d 2 (by decide) (by decide)
  refine q0.bind fun z0 _ => (okMod (by omega)).bind fun y0 _ => (abc_at _).bind fun card hcard => ?_
  refine q0.bind fun z0 _ => (okMod (by omega)).bind fun y0 _ => (abc_at _).bind fun other _ => ?_
  refine .ifm (R := fun _ => True) ?_ (fun _ => ?_) fun _ => ?_
  · obtain ⟨z, ez, _⟩ := q1
    rw [ez]
    simp only [bs]
    exact Ok.and (R := fun _ => True) (S := fun _ => True) (.ret trivial) fun _ => .ret trivial
  · refine q1.bind fun z _ => (okAt (by omega) (by simp only [List.length_cons, List.length_nil]; omega)).bind fun _ _ => .ret trivial
  · refine q1.bind fun z _ => ?_
    refine (okMap (Q := fun (s : Str) => s.length ≤ 1) (Nat.lt_of_le_of_lt (cut_len _ _ _) (by decide)) fun x hx => ?_).bind fun ys hy => ?_
    · unfold b__law_fact_1
      simp only [bs, Option.bind_assoc]
      refine q2.bind fun w _ => .bind (P := fun _ => True) ⟨_, if_pos ?_, trivial⟩ fun w _ => sig14_at w
      have := mem_cut hx
      simp only [List.mem_cons, List.not_mem_nil, or_false] at this
      omega
    have hl := hy.1 ▸ cut_len [(1 : Int), 14, 196] none (some (1 + z / 10 % 3))
    have e : ("" : Str).length = 0 := rfl
    have e3 : ([(1 : Int), 14, 196]).length = 3 := rfl
    refine (okJoin (k := 1) hy.2 (by rw [e]; omega)).bind fun w hw => ?_
    refine .bind (P := fun _ => True) (.ifm (R := fun _ => True) (q1.bind fun _ _ => .ret trivial) (fun _ => ?_) fun _ => .ret trivial) fun u _ => ?_
    · obtain ⟨c, _, rfl⟩ := hcard
      exact .bind (P := fun _ => True) ⟨_, if_pos (by rw [len_c1]; decide), trivial⟩ fun _ _ => .ret trivial
    · exact q1.bind fun z _ => (okAt (by omega) (by simp only [List.length_cons, List.length_nil]; omega)).bind fun _ _ => .ret trivial
/-! ### drawn books -/
def BooksInv (n : Nat) (L : List Fact) (s : List (List Fact)) : Prop := s.length = n ∧ ∀ l ∈ s, l.Nodup ∧ ∀ x ∈ l, x ∈ L
theorem BooksInv.mono {n : Nat} {L M : List Fact} {s : List (List Fact)} (h : BooksInv n L s) (e : ∀ x ∈ L, x ∈ M) : BooksInv n M s := ⟨h.1, fun l hl => ⟨(h.2 l hl).1, fun x hx => e x ((h.2 l hl).2 x hx)⟩⟩
/-- books, each sorted -/
def Books (n : Nat) (L : List Fact) (s : List (List Fact)) : Prop := s.length = n ∧ ∀ l ∈ s, Rising l ∧ ∀ x ∈ l, x ∈ L
theorem Books.len {n : Nat} {L : List Fact} {s : List (List Fact)} (h : Books n L s) {l : List Fact} (hl : l ∈ s) : l.length ≤ L.length := nodup_sub _ _ (h.2 l hl).1.nodup (h.2 l hl).2
/-! ### tidy -/
def Is (P : Fact → Prop) (z : List Fact) : Prop := Rising z ∧ ∀ f, f ∈ z ↔ P f
theorem Is.uniq {P Q : Fact → Prop} {z w : List Fact} (h : Is P z) (k : Is Q w) (e : ∀ f, P f ↔ Q f) : z = w := rising_ext h.1 k.1 fun f => (h.2 f).trans ((e f).trans (k.2 f).symm)
/-! ### poured_all -/
def Poured (base : List Fact) (sides : List (List Fact)) (f : Fact) : Prop := (f ∈ base ∧ ∀ s ∈ sides, f ∈ s) ∨ (f ∉ base ∧ ∃ s ∈ sides, f ∈ s)
theorem at0 {α : Type} (a : α) (l : List α) : atI (a :: l) 0 = some a := by
  rw [show (0 : Int) = ((0 : Nat) : Int) from rfl, atI_nat' _ 0 (by simp)]
  simp
theorem at1 {α : Type} (a b : α) (l : List α) : atI (a :: b :: l) 1 = some b := by
  rw [show (1 : Int) = ((1 : Nat) : Int) from rfl, atI_nat' _ 1 (by simp)]
  simp
end G

namespace GD
open PySem PySem.StrLaws TL L2 FK MS
open G (m__law_stream m_cards_of m_tidy)
def b__law_cards_1 (letters_1 : Str) (draws_2 : (List Int)) (at_7 : Int) (base_10 : Str) (s16 : (List Str)) (x17 : Int) : (Option (List Str)) := (Option.bind (Option.bind (some letters_1) fun (t22 : Str) => Option.bind (Option.bind (Option.bind (atI draws_2 ((2 : Int) + at_7)) fun (t19 : Int) => Option.bind (imul (7 : Int) x17) fun (t20 : Int) => some (t19 + t20)) fun (t21 : Int) => some (t21 % 26)) fun (t23 : Int) => (sAt t22 t23)) fun (sign_18 : Str) => (Option.bind (Option.bind (Option.bind (Option.bind (sCut base_10 none (some at_7)) fun (t24 : Str) => Option.bind (some sign_18) fun (t25 : Str) => (sAdd t24 t25)) fun (t26 : Str) => Option.bind (sCut base_10 (some (at_7 + (1 : Int))) none) fun (t27 : Str) => (sAdd t26 t27)) fun (t29 : Str) => (lApp s16 t29)) fun (cards_here_28 : (List Str)) => (some cards_here_28)))
def b__law_cards_2 (letters_1 : Str) (x11 : Int) : (Option Str) := (sAt letters_1 (x11 % 26))
def m__law_cards : Int × Int × Unit → Option (List Str) := fun (g : Int × Int × Unit) => (Option.bind (some ("abcdefghijklmnopqrstuvwxyz" : Str)) fun (letters_1 : Str) => (Option.bind (m__law_stream (g.1, ((14 : Int), ()))) fun (draws_2 : (List Int)) => (Option.bind (Option.bind (some (1 : Int)) fun (t5 : Int) => Option.bind (Option.bind (atI draws_2 (0 : Int)) fun (t4 : Int) => some (t4 % 12)) fun (t6 : Int) => some (t5 + t6)) fun (size_3 : Int) => (Option.bind (Option.bind (atI draws_2 (1 : Int)) fun (t8 : Int) => Option.bind (some size_3) fun (t9 : Int) => (imod t8 t9)) fun (at_7 : Int) => (Option.bind (Option.bind (some ("" : Str)) fun (t13 : Str) => Option.bind (Option.bind (some (cutA draws_2 (some (2 : Int)) (some ((2 : Int) + size_3)))) fun (xs12 : List Int) => lcG (fun (x11 : Int) => (some true)) (b__law_cards_2 letters_1) xs12) fun (t14 : (List Str)) => (sJoin t13 t14)) fun (base_10 : Str) => (Option.bind (some ([] : (List Str))) fun (cards_here_15 : (List Str)) => (Option.bind (Option.bind (range1 g.2.1) fun (xs30 : List Int) => forS (S := (List Str)) (b__law_cards_1 letters_1 draws_2 at_7 base_10) xs30 cards_here_15) fun (s31 : (List Str)) => (some s31))))))))
def b_without_pair_1 (g : ((List (T3 Str Str Str)) × Str × Str × Unit)) (s4 : (List (T3 Str Str Str))) (x5 : (T3 Str Str Str)) : (Option (List (T3 Str Str Str))) := (ifM (bOr (some (!decide (x5.b ∈ (⟨[("same" : Str), ("apart" : Str)]⟩ : Tl Str).l))) (some (!decide ((x5.a, x5.c) = ((smin g.2.1 g.2.2.1), (smax g.2.1 g.2.2.1)))))) (Option.bind (Option.bind (some x5) fun (t7 : (T3 Str Str Str)) => (lApp s4 t7)) fun (kept_6 : (List (T3 Str Str Str))) => (some kept_6)) (some s4))
def m_without_pair : (List (T3 Str Str Str)) × Str × Str × Unit → Option (Rs (List (T3 Str Str Str))) := fun (g : (List (T3 Str Str Str)) × Str × Str × Unit) => (Option.bind (m_cards_of (g.1, ())) fun (cards_1 : (List Str)) => (ifM (bOr (some (decide (g.2.1 = g.2.2.1))) (bOr (some (!decide (g.2.1 ∈ cards_1))) (some (!decide (g.2.2.1 ∈ cards_1))))) (Option.bind (some (⟨("NoPair" : Str), .no⟩ : Xv)) fun (t2 : Xv) => some (Rs.ex t2 : (Rs (List (T3 Str Str Str))))) (Option.bind (some ([] : (List (T3 Str Str Str)))) fun (kept_3 : (List (T3 Str Str Str))) => (Option.bind (Option.bind (some g.1) fun (xs8 : List (T3 Str Str Str)) => forS (S := (List (T3 Str Str Str))) (b_without_pair_1 g) xs8 kept_3) fun (s9 : (List (T3 Str Str Str))) => (some (Rs.ok s9))))))
def m_set_free : (List (T3 Str Str Str)) × Str × Str × Unit → Option (Rs (List (T3 Str Str Str))) := fun (g : (List (T3 Str Str Str)) × Str × Str × Unit) => (m_without_pair (g.1, (g.2.1, (g.2.2.1, ()))))
def m_set_same : (List (T3 Str Str Str)) × Str × Str × Unit → Option (Rs (List (T3 Str Str Str))) := fun (g : (List (T3 Str Str Str)) × Str × Str × Unit) => (rsB (rsB (m_without_pair (g.1, (g.2.1, (g.2.2.1, ())))) fun (t1 : (List (T3 Str Str Str))) => Option.bind (some [(⟨(smin g.2.1 g.2.2.1), ("same" : Str), (smax g.2.1 g.2.2.1)⟩ : (T3 Str Str Str))]) fun (t2 : (List (T3 Str Str Str))) => lCat t1 t2) fun (t3 : (List (T3 Str Str Str))) => m_tidy (t3, ()))
def m_set_apart : (List (T3 Str Str Str)) × Str × Str × Unit → Option (Rs (List (T3 Str Str Str))) := fun (g : (List (T3 Str Str Str)) × Str × Str × Unit) => (rsB (rsB (m_without_pair (g.1, (g.2.1, (g.2.2.1, ())))) fun (t1 : (List (T3 Str Str Str))) => Option.bind (some [(⟨(smin g.2.1 g.2.2.1), ("apart" : Str), (smax g.2.1 g.2.2.1)⟩ : (T3 Str Str Str))]) fun (t2 : (List (T3 Str Str Str))) => lCat t1 t2) fun (t3 : (List (T3 Str Str Str))) => m_tidy (t3, ()))
end GD

/-! cards that differ at a place; what is told by hand -/
namespace GD
open PySem PySem.StrLaws TL L2 FK MS
open G (m__law_stream m_cards_of m_tidy)
theorem abc_mod (z : Int) : sAt ("abcdefghijklmnopqrstuvwxyz" : Str) (z % 26) = some (c1 (97 + (z % 26).toNat)) := by
  have hz : 0 ≤ z % 26 ∧ z % 26 < 26 := by omega
  obtain ⟨k, hk⟩ := Int.eq_ofNat_of_zero_le hz.1
  rw [hk]
  have hk26 : k < 26 := by omega
  have hl : k < (tl ("abcdefghijklmnopqrstuvwxyz" : Str)).length := by rw [tl_small, List.length_range']; exact hk26
  rw [show ((k : Nat) : Int) = (k : Int) from rfl, sAt_nat _ k hl (by decide +kernel)]
  have : (tl ("abcdefghijklmnopqrstuvwxyz" : Str))[k] = 97 + k := by
    have e := tl_small
    have : ∀ (l : List Nat) (h : k < l.length), l = List.range' 97 26 → l[k] = 97 + k := fun l h e => by
      subst e
      rw [List.getElem_range']
      omega
    exact this _ hl e
  rw [this]
  rfl
/-- the k-th card's name -/
def nm (bl : List Nat) (p : Nat) (D : Int) (k : Nat) : Str := mks (bl.take p ++ ([97 + ((D + 7 * (k : Int)) % 26).toNat] ++ bl.drop (p + 1)))
theorem nm_inj {bl : List Nat} {p : Nat} {D : Int} (hp : p < bl.length) {i j : Nat} (hi : i < 10) (hj : j < 10) (h : nm bl p D i = nm bl p D j) : i = j := by
  have h := mks_inj.mp h
  have h := List.append_cancel_left h
  injection h with h _
  omega
theorem cards_ok (c : Int) (n : Nat) (hn : n ≤ 8) : Ok (m__law_cards (c, ((n : Int), ()))) fun l => l.length = n ∧ l.Nodup ∧ ∀ x ∈ l, x.length ≤ 30 := by
  unfold m__law_cards
  simp only [bs]
  refine (G.stream_ok c 14 (by decide)).bind fun ds hd => ?_
  have l14 := hd.1
  refine .bind (P := fun z => 1 ≤ z ∧ z ≤ 12) ?_ fun size hs => ?_
  · refine .bind (P := fun z => 0 ≤ z ∧ z < 12) ?_ fun z hz => .ret (by omega)
    refine (okAt (by decide) (by omega)).bind fun z _ => .ret ?_
    omega
  refine .bind (P := fun z => 0 ≤ z ∧ z < size) ?_ fun at_ ha => ?_
  · refine (okAt (by decide) (by omega)).bind fun z _ => ?_
    exact (okMod (by omega)).mono fun _ h => h.2
  have hcut : (cutA ds (some (2 : Int)) (some ((2 : Int) + size))).length = size.toNat := by
    unfold cutA
    rw [six _ _ 2 (by decide), six _ _ (2 + size) (by omega), List.length_take, List.length_drop, l14]
    omega
  refine .bind (P := fun (z : Str) => ∃ bl : List Nat, z = mks bl ∧ bl.length = size.toNat) ?_ fun base ⟨bl, eb, hb⟩ => ?_
  · refine (okMap (Q := fun (s : Str) => ∃ c, s = c1 c) (by omega) fun x _ => ?_).bind fun ys hy => ?_
    · unfold b__law_cards_2
      exact ⟨_, abc_mod x, _, rfl⟩
    · obtain ⟨l, el, hl⟩ := sgs_join hy.2 (by omega)
      exact ⟨_, el, l, rfl, by omega⟩
  subst eb
  obtain ⟨p, rfl⟩ : ∃ p : Nat, at_ = (p : Int) := ⟨at_.toNat, by omega⟩
  rw [range1_nat n (by omega)]
  simp only [bs]
  refine Ok.bind (P := fun l => l.length = n ∧ l.Nodup ∧ ∀ x ∈ l, x.length ≤ 30) ?_ fun l hl => .ret hl
  obtain ⟨D, eD, _⟩ := okAt (l := ds) (i := (2 : Int) + (p : Int)) (by omega) (by omega)
  have step : ∀ k : Nat, k < n → ∀ l : List Str, l.length ≤ 1000 → b__law_cards_1 ("abcdefghijklmnopqrstuvwxyz" : Str) ds (p : Int) (mks bl) l (k : Int) = some (l ++ [nm bl p D k]) := fun k hk l hl => by
    unfold b__law_cards_1
    obtain ⟨m, em, hm⟩ := okMul (x := (7 : Int)) (y := (k : Int)) (.inl (by decide))
    simp only [bs, eD, em]
    rw [abc_mod]
    simp only [bs]
    rw [cut_mks bl _ _ (by omega), cut_upto, hm]
    simp only [bs]
    rw [add_mks _ _ (by rw [List.length_take, List.length_singleton]; omega)]
    simp only [bs]
    rw [show (p : Int) + (1 : Int) = ((p + 1 : Nat) : Int) by omega, cut_mks bl _ _ (by omega), cut_from]
    simp only [bs]
    rw [add_mks _ _ (by rw [List.length_append, List.length_take, List.length_singleton, List.length_drop]; omega)]
    simp only [bs]
    rw [app_eq _ _ (by omega), List.append_assoc]
    rfl
  have key : ∀ k : Nat, k ≤ n → forS (b__law_cards_1 ("abcdefghijklmnopqrstuvwxyz" : Str) ds (p : Int) (mks bl)) (rng 0 k) [] = some ((List.range k).map (nm bl p D)) := fun k => by
    induction k with
    | zero => exact fun _ => rfl
    | succ k ih =>
      intro hk
      have er : rng 0 (k + 1) = rng 0 k ++ [(k : Int)] := by
        unfold rng
        rw [List.range_succ, List.map_append]
        simp
      have fapp : ∀ {S α : Type} (f : S → α → Option S) (xs ys : List α) (s : S), forS f (xs ++ ys) s = (forS f xs s).bind fun t => forS f ys t := fun f xs => by
        induction xs with
        | nil => intro ys s; rfl
        | cons x xs ih2 =>
          intro ys s
          show (f s x).bind _ = ((f s x).bind _).bind _
          cases f s x with
          | none => rfl
          | some t => exact ih2 ys t
      rw [er, fapp, ih (by omega)]
      show ((b__law_cards_1 _ ds (p : Int) (mks bl) _ (k : Int)).bind _ : Option (List Str)) = _
      rw [step k (by omega) _ (by rw [List.length_map, List.length_range]; omega), List.range_succ, List.map_append]
      rfl
  refine ⟨_, key n (Nat.le_refl _), by rw [List.length_map, List.length_range], ?_, fun x hx => ?_⟩
  · refine List.pairwise_iff_getElem.mpr fun i j hi hj hij e => ?_
    rw [List.length_map, List.length_range] at hi hj
    rw [List.getElem_map, List.getElem_map, List.getElem_range, List.getElem_range] at e
    have := nm_inj (by omega) (by omega) (by omega) e
    omega
  · obtain ⟨k, _, rfl⟩ := List.mem_map.mp hx
    show (mks _).length ≤ 30
    rw [len_mks, List.length_append, List.length_append, List.length_take, List.length_singleton, List.length_drop]
    omega
theorem cards_ok' (c z : Int) (h0 : 0 ≤ z) (h1 : z ≤ 8) : Ok (m__law_cards (c, (z, ()))) fun l => (l.length : Int) = z ∧ l.Nodup ∧ ∀ x ∈ l, x.length ≤ 30 := by
  obtain ⟨n, rfl⟩ := Int.eq_ofNat_of_zero_le h0
  exact (cards_ok c n (by omega)).mono fun l h => ⟨by rw [h.1], h.2⟩
end GD

/-! a book read from a text -/
namespace GD
open PySem PySem.Builtin PySem.Builtin.Str PySem.StrLaws TL L2 FK MS GR
open GU (m_is_passed_by strip_head sw_hash)
/-! ### a text of rows read -/
structure Rw (p : Str × Option Fc) : Prop where
  nl : 10 ∉ tl p.1
  len : p.1.length ≤ 101
  ps : m_is_passed_by (p.1, ()) = some p.2.isNone
  ok : ∀ f, p.2 = some f → m_fact_of (p.1, ()) = some (.ok f)
theorem step_eq (p : Str × Option Fc) (hp : Rw p) (k : Int) (acc : List Fc) (hl : acc.length ≤ 1000) : b_read_book_1 acc (k, p.1) = some (acc ++ p.2.toList) := by
  unfold b_read_book_1
  simp only [bs]
  rw [hp.ps]
  simp only [bs]
  cases e : p.2 with
  | none =>
    have e1 : (!(none : Option Fc).isNone) = false := rfl
    rw [e1, if_f]
    show _ = some (acc ++ [])
    rw [List.append_nil]
  | some f =>
    have e1 : (!(some f : Option Fc).isNone) = true := rfl
    rw [e1, if_t]
    unfold m_fact_at
    simp only [bs]
    rw [hp.ok f e]
    simp only [bs, rsO]
    rw [app_eq _ _ (by omega)]
    rfl
theorem loop_ok : ∀ (rows : List (Str × Option Fc)) (k : Nat) (acc : List Fc), (∀ p ∈ rows, Rw p) → acc.length + rows.length ≤ 1000 → forS b_read_book_1 (enumF k (rows.map (·.1))) acc = some (acc ++ rows.filterMap (·.2))
  | [], k, acc, _, _ => by
    rw [List.filterMap_nil, List.append_nil]
    rfl
  | p :: rows, k, acc, h, hl => by
    have hp := h p List.mem_cons_self
    have hr : ∀ q ∈ rows, Rw q := fun q hq => h q (List.mem_cons_of_mem _ hq)
    rw [List.length_cons] at hl
    show (b_read_book_1 acc ((k : Int), p.1)).bind (forS b_read_book_1 (enumF (k + 1) (rows.map (·.1)))) = _
    rw [step_eq p hp _ _ (by omega), bs, loop_ok rows (k + 1) _ hr (by
      rw [List.length_append]
      have : p.2.toList.length ≤ 1 := by cases p.2 <;> simp
      omega), List.append_assoc]
    congr 2
    cases e : p.2 with
    | none => rw [List.filterMap_cons_none e]; rfl
    | some f => rw [List.filterMap_cons_some e]; rfl
theorem nl_tl : tl ("\n" : Str) = 10 :: [] := by decide +kernel
theorem empty_rw : Rw (("" : Str), none) := ⟨by decide +kernel, by decide +kernel, by decide +kernel, fun f e => by cases e⟩
theorem read1 (rows : List (Str × Option Fc)) (h : ∀ p ∈ rows, Rw p) (hn : rows.length ≤ 400) (hne : rows ≠ []) : m_read_book (Txt.join "\n" (rows.map (·.1)), ()) = tdy (rows.filterMap (·.2)) := by
  unfold m_read_book
  have hz : (Txt.join "\n" (rows.map (·.1))).length ≤ 15000000 := by
    have h1 := join_len_str ("\n" : Str) (rows.map (·.1))
    have h2 := sum_le (l := (rows.map (·.1)).map (·.length)) (k := 101) fun x hx => by
      obtain ⟨y, hy, rfl⟩ := List.mem_map.mp hx
      obtain ⟨p, hp, rfl⟩ := List.mem_map.mp hy
      exact (h p hp).len
    rw [List.length_map, List.length_map] at h2
    rw [List.length_map, show ("\n" : Str).length = 1 from by decide +kernel] at h1
    omega
  have e : sSplit (Txt.join "\n" (rows.map (·.1))) ("\n" : Str) = some (rows.map (·.1)) := by
    unfold sSplit
    rw [if_pos ⟨by decide +kernel, hz⟩, TL.split_join nl_tl (by decide +kernel) (fun z => hne (List.map_eq_nil_iff.mp z)) fun p hp => by
      obtain ⟨q, hq, rfl⟩ := List.mem_map.mp hp
      exact (h q hq).nl]
  simp only [bs]
  rw [e]
  simp only [bs]
  unfold enumL
  rw [loop_ok rows 0 [] h (by rw [List.length_nil]; omega)]
  simp only [bs]
  rfl
theorem read_ok (rows : List (Str × Option Fc)) (h : ∀ p ∈ rows, Rw p) (hn : rows.length ≤ 400) : m_read_book (Txt.join "\n" (rows.map (·.1)), ()) = tdy (rows.filterMap (·.2)) := by
  by_cases hne : rows = []
  · subst hne
    exact read1 [("", none)] (fun p hp => by rw [List.mem_singleton.mp hp]; exact empty_rw) (by decide) (by simp)
  · exact read1 rows h hn hne
theorem pass_no (l : List Nat) (c : Nat) (hc : l[0]? = some c) (h : c ∈ tl GR.ABC) (hz : l.length ≤ 1000) : m_is_passed_by (mks l, ()) = some false := by
  have hn : c ≠ 32 ∧ c ≠ 35 := by
    have all : ∀ c ∈ tl GR.ABC, c ≠ 32 ∧ c ≠ 35 := by decide +kernel
    exact all c h
  unfold m_is_passed_by
  obtain ⟨z, e, hz2⟩ := strip_head l c hc hn.1 hz
  rw [e, sw_hash, hc, decide_eq_false fun z => hn.2 (Option.some.inj z)]
  simp only [bs]
  rw [decide_eq_false hz2, or_f]
theorem pass_hash (l : List Nat) (hc : l[0]? = some 35) (hz : l.length ≤ 1000) : m_is_passed_by (mks l, ()) = some true := by
  unfold m_is_passed_by
  obtain ⟨z, e, hz2⟩ := strip_head l 35 hc (by decide) hz
  rw [e, sw_hash, hc, decide_eq_true rfl]
  simp only [bs]
  rw [decide_eq_false hz2, or_f]
/-- a fact of the book -/
def GF (f : Fc) : Prop := ∃ c fl t : List Nat, f = ⟨mks c, mks fl, mks t⟩ ∧ Nm c ∧ 10 ∉ t ∧ t.length ≤ 40 ∧ 32 ∉ fl ∧ 10 ∉ fl ∧ fl.length ≤ 10 ∧ ((mks fl ∈ FIELDS ∧ Tx t) ∨ (mks fl ∉ FIELDS ∧ mks fl ∈ HAND ∧ Nm t ∧ sLt (mks c) (mks t) = true))
abbrev jn (a b c : Str) : Str := Txt.join " " [a, b, c]
theorem jn_mks (a b c : List Nat) : jn (mks a) (mks b) (mks c) = mks (a ++ 32 :: (b ++ 32 :: c)) := by
  refine ext_tl ?_
  unfold jn
  rw [join_eq, tl_join, blank_tl]
  rfl
theorem nm10 {c : List Nat} (h : Nm c) : 10 ∉ c := fun z => absurd (h.2.2 _ z) (by decide +kernel)
theorem row0 {a b c : List Nat} {f : Fc} (ha : Nm a) (h1 : 32 ∉ b) (h2 : 10 ∉ b) (h3 : b.length ≤ 10) (h4 : 10 ∉ c) (h5 : c.length ≤ 40) (h : fo a b c = .ok f) : Rw (jn (mks a) (mks b) (mks c), some f) := by
  have hl : (a ++ 32 :: (b ++ 32 :: c)).length ≤ 100 := by
    rw [List.length_append, List.length_cons, List.length_append, List.length_cons]
    have := ha.2.1
    omega
  refine ⟨?_, ?_, ?_, ?_⟩
  · show 10 ∉ tl (jn (mks a) (mks b) (mks c))
    rw [jn_mks, tl_mks]
    intro z
    rcases List.mem_append.mp z with z | z
    · exact nm10 ha z
    · rcases List.mem_cons.mp z with z | z
      · cases z
      · rcases List.mem_append.mp z with z | z
        · exact h2 z
        · rcases List.mem_cons.mp z with z | z
          · cases z
          · exact h4 z
  · show (jn (mks a) (mks b) (mks c)).length ≤ 101
    rw [jn_mks, len_mks]
    omega
  · show m_is_passed_by (jn (mks a) (mks b) (mks c), ()) = some false
    rw [jn_mks]
    have h0 : 0 < a.length := ha.1
    refine pass_no _ a[0] ?_ (ha.2.2 _ (List.getElem_mem h0)) (by omega)
    rw [List.getElem?_append_left h0, List.getElem?_eq_getElem h0]
  · intro g e
    cases e
    show m_fact_of (jn (mks a) (mks b) (mks c), ()) = _
    rw [jn_mks, fact_any _ (by omega), fo1_of ha.noblank h1, h]
theorem min_lt {x y : Str} (h : sLt x y = true) : smin x y = x ∧ smax x y = y ∧ smin y x = x ∧ smax y x = y := by
  have h2 : sLt y x = false := Lo.asym (α := Str) h
  unfold smin smax
  rw [h, h2]
  simp
theorem row_rw {f : Fc} (h : GF f) : Rw (jn f.a f.b f.c, some f) := by
  obtain ⟨c, fl, t, rfl, hc, ht, htl, h1, h2, h3, h⟩ := h
  refine row0 hc h1 h2 h3 ht htl ?_
  rcases h with ⟨h4, h5⟩ | ⟨h4, h5, h6, h7⟩
  · exact fo_ok1 hc h4 h5
  · rw [fo_ok2 hc h4 h5 h6 fun e => by rw [e] at h7; exact absurd rfl (sLt_ne h7)]
    obtain ⟨m1, m2, _⟩ := min_lt h7
    rw [m1, m2]
theorem alt_rw {f : Fc} (h : GF f) (hh : f.b ∈ HAND) : Rw (jn f.c f.b f.a, some f) := by
  obtain ⟨c, fl, t, rfl, hc, ht, htl, h1, h2, h3, h⟩ := h
  rcases h with ⟨h4, h5⟩ | ⟨h4, h5, h6, h7⟩
  · have all : ∀ f ∈ FIELDS, f ∉ HAND := by decide +kernel
    exact absurd hh (all _ h4)
  · refine row0 h6 h1 h2 h3 (nm10 hc) (by have := hc.2.1; omega) ?_
    rw [fo_ok2 h6 h4 h5 hc fun e => by rw [e] at h7; exact absurd rfl (sLt_ne h7)]
    obtain ⟨_, _, m1, m2⟩ := min_lt h7
    rw [m1, m2]
end GD

namespace GW
open PySem PySem.StrLaws TL L2 FK MS
open G (m__law_stream)
def b__law_bent_1 (signs_1 : Str) (x10 : Int) : (Option Str) := (sAt signs_1 (x10 % 71))
def m__law_bent : Int × Int × Unit → Option Str := fun (g : Int × Int × Unit) => (Option.bind (some ("abcdefghijklmnopqrstuvwxyzABCDEFGHIJKLMNOPQRSTUVWXYZ0123456789.-'#~\x40[`{" : Str)) fun (signs_1 : Str) => (Option.bind (m__law_stream (g.1, ((10 : Int), ()))) fun (draws_2 : (List Int)) => (Option.bind (Option.bind (some ("" : Str)) fun (t12 : Str) => Option.bind (Option.bind (Option.bind (some draws_2) fun (t7 : (List Int)) => Option.bind (some (some (1 : Int))) fun (t8 : Option Int) => Option.bind (Option.bind (Option.bind (some (2 : Int)) fun (t5 : Int) => Option.bind (Option.bind (atI draws_2 (0 : Int)) fun (t4 : Int) => some (t4 % 4)) fun (t6 : Int) => some (t5 + t6)) fun (z : Int) => some (some z)) fun (t9 : Option Int) => some (cutA t7 t8 t9)) fun (xs11 : List Int) => lcG (fun (x10 : Int) => (some true)) (b__law_bent_1 signs_1) xs11) fun (t13 : (List Str)) => (sJoin t12 t13)) fun (text_3 : Str) => (Option.bind (ifM (Option.bind (Option.bind (Option.bind (atI draws_2 (0 : Int)) fun (t14 : Int) => some (t14 / 9)) fun (t15 : Int) => some (t15 % 3)) fun (t16 : Int) => Option.bind (some (1 : Int)) fun (t17 : Int) => some (decide (t16 = t17))) (Option.bind (Option.bind (Option.bind (Option.bind (sCut text_3 none (some (3 : Int))) fun (t20 : Str) => Option.bind (some (" " : Str)) fun (t21 : Str) => (sAdd t20 t21)) fun (t22 : Str) => Option.bind (sCut text_3 (some (3 : Int)) none) fun (t23 : Str) => (sAdd t22 t23)) fun (t24 : Str) => Option.bind (some ("b" : Str)) fun (t25 : Str) => (sAdd t24 t25)) fun (text_19 : Str) => (some text_19)) (some text_3)) fun (s18 : Str) => (Option.bind (Option.bind (some (g.2.1 / 10)) fun (t27 : Int) => Option.bind (sLen s18) fun (t28 : Int) => (imod t27 t28)) fun (at_26 : Int) => (Option.bind (sAt signs_1 ((g.2.1 / 400) % 71)) fun (sign_29 : Str) => (Option.bind (Option.bind (some s18) fun (t49 : Str) => Option.bind (Option.bind (some s18) fun (t47 : Str) => Option.bind (Option.bind (sUp s18) fun (t45 : Str) => Option.bind (Option.bind (sLow s18) fun (t43 : Str) => Option.bind (Option.bind (Option.bind (Option.bind (sCut s18 none (some at_26)) fun (t31 : Str) => Option.bind (some sign_29) fun (t32 : Str) => (sAdd t31 t32)) fun (t33 : Str) => Option.bind (sCut s18 (some (at_26 + (1 : Int))) none) fun (t34 : Str) => (sAdd t33 t34)) fun (t41 : Str) => Option.bind (Option.bind (Option.bind (Option.bind (sCut s18 none (some at_26)) fun (t35 : Str) => Option.bind (some sign_29) fun (t36 : Str) => (sAdd t35 t36)) fun (t37 : Str) => Option.bind (sCut s18 (some at_26) none) fun (t38 : Str) => (sAdd t37 t38)) fun (t39 : Str) => Option.bind (some ([] : List Str)) fun (t40 : List Str) => some (t39 :: t40)) fun (t42 : List Str) => some (t41 :: t42)) fun (t44 : List Str) => some (t43 :: t44)) fun (t46 : List Str) => some (t45 :: t46)) fun (t48 : List Str) => some (t47 :: t48)) fun (t50 : List Str) => some (t49 :: t50)) fun (some_30 : (List Str)) => (Option.bind (Option.bind (some some_30) fun (t65 : (List Str)) => Option.bind (Option.bind (Option.bind (sCut s18 none (some at_26)) fun (t61 : Str) => Option.bind (sCut s18 (some (at_26 + (1 : Int))) none) fun (t62 : Str) => (sAdd t61 t62)) fun (t63 : Str) => Option.bind (Option.bind (Option.bind (some s18) fun (t58 : Str) => sRepl t58 (" " : Str) ("  " : Str)) fun (t59 : Str) => Option.bind (Option.bind (some s18) fun (t56 : Str) => Option.bind (Option.bind (Option.bind (Option.bind (sCut s18 none (some at_26)) fun (t51 : Str) => (sUp t51)) fun (t52 : Str) => Option.bind (sCut s18 (some at_26) none) fun (t53 : Str) => (sAdd t52 t53)) fun (t54 : Str) => Option.bind (some ([] : List Str)) fun (t55 : List Str) => some (t54 :: t55)) fun (t57 : List Str) => some (t56 :: t57)) fun (t60 : List Str) => some (t59 :: t60)) fun (t64 : List Str) => some (t63 :: t64)) fun (t66 : (List Str)) => lCat t65 t66) fun (some_67 : (List Str)) => (Option.bind (Option.bind (atI some_67 (g.2.1 % 10)) fun (t69 : Str) => Option.bind (some (" " : Str)) fun (t70 : Str) => (sStrip t69 t70)) fun (text_68 : Str) => (ifM (some (decide (text_68 = ("" : Str)))) (some ("~" : Str)) (some text_68)))))))))))
def m__law_field : Int × Int × Unit → Option Str := fun (g : Int × Int × Unit) => (Option.bind (some [("name" : Str), ("former" : Str), ("way" : Str), ("day" : Str), ("mark" : Str)]) fun (t4 : (List Str)) => Option.bind (Option.bind (Option.bind (some g.1) fun (t1 : Int) => Option.bind (imul (g.2.1 % 2) (g.2.1 / 2)) fun (t2 : Int) => some (t1 + t2)) fun (t3 : Int) => some (t3 % 5)) fun (t5 : Int) => (atI t4 t5))
def b__law_texts_1 (g : ((List (T3 Str Str Str)) × Str × Str × Unit)) (x1 : (T3 Str Str Str)) : (Option Bool) := (bAnd (some (decide (x1.a = g.2.1))) (some (decide (x1.b = g.2.2.1))))
def m__law_texts : (List (T3 Str Str Str)) × Str × Str × Unit → Option (List Str) := fun (g : (List (T3 Str Str Str)) × Str × Str × Unit) => (Option.bind (some g.1) fun (xs2 : List (T3 Str Str Str)) => lcG (b__law_texts_1 g) (fun (x1 : (T3 Str Str Str)) => (some x1.c)) xs2)
def b__law_plains_1  (x1 : Str) : (Option Str) := (Option.bind (Option.bind (some (" " : Str)) fun (t4 : Str) => Option.bind (Option.bind (sSplit x1 (" " : Str)) fun (xs3 : List Str) => lcG (fun (x2 : Str) => (some (!decide (x2 = ("" : Str))))) (fun (x2 : Str) => (some x2)) xs3) fun (t5 : (List Str)) => (sJoin t4 t5)) fun (t6 : Str) => (sLow t6))
def m__law_plains : (List Str) × Unit → Option (List Str) := fun (g : (List Str) × Unit) => (Option.bind (some g.1) fun (xs7 : List Str) => lcG (fun (x1 : Str) => (some true)) (b__law_plains_1) xs7)
def m__law_meet : (List Str) × (List Str) × Unit → Option Bool := fun (g : (List Str) × (List Str) × Unit) => (Option.bind (Option.bind (some g.1) fun (xs2 : List Str) => lcG (fun (x1 : Str) => (some true)) (fun (x1 : Str) => (some (decide (x1 ∈ g.2.1)))) xs2) fun (t3 : (List Bool)) => some (t3.any id))
def b__law_near_1  (s6 : Int) : (Option Int) := (Option.bind (some (s6 + (1 : Int))) fun (at_11 : Int) => (some at_11))
def b__law_near_2 (s3 : (Str × Str)) (s6 : Int) : (Option Bool) := (bAnd (Option.bind (some s6) fun (t7 : Int) => Option.bind (sLen s3.1) fun (t8 : Int) => some (decide (t7 < t8))) (Option.bind (sAt s3.1 s6) fun (t9 : Str) => Option.bind (sAt s3.2 s6) fun (t10 : Str) => some (decide (t9 = t10))))
def m__law_near : Str × Str × Unit → Option Bool := fun (g : Str × Str × Unit) => (Option.bind (ifM (Option.bind (sLen g.1) fun (t1 : Int) => Option.bind (sLen g.2.1) fun (t2 : Int) => some (decide (t2 < t1))) (Option.bind (some (g.2.1, g.1)) fun (p4 : (Str × Str)) => (some (p4.1, p4.2))) (some (g.1, g.2.1))) fun (s3 : (Str × Str)) => (Option.bind (some (0 : Int)) fun (at_5 : Int) => (Option.bind (whileS (S := Int) (b__law_near_2 s3) (b__law_near_1) 1000000 at_5) fun (s12 : Int) => (ifM (Option.bind (sLen s3.1) fun (t13 : Int) => Option.bind (sLen s3.2) fun (t14 : Int) => some (decide (t13 = t14))) (Option.bind (sCut s3.1 (some (s12 + (1 : Int))) none) fun (t15 : Str) => Option.bind (sCut s3.2 (some (s12 + (1 : Int))) none) fun (t16 : Str) => some (decide (t15 = t16))) (Option.bind (sCut s3.1 (some s12) none) fun (t17 : Str) => Option.bind (sCut s3.2 (some (s12 + (1 : Int))) none) fun (t18 : Str) => some (decide (t17 = t18)))))))
def m_Same__fits : Ru × (List Str) × (List Str) × Unit → Option Bool := fun (g : Ru × (List Str) × (List Str) × Unit) => (Option.bind (Option.bind (some g.2.1) fun (xs2 : List Str) => lcG (fun (x1 : Str) => (some true)) (fun (x1 : Str) => (some (decide (x1 ∈ g.2.2.1)))) xs2) fun (t3 : (List Bool)) => some (t3.any id))
def m_small : Str × Unit → Option Str := fun (g : Str × Unit) => (Option.bind (some (Txt.find ("ABCDEFGHIJKLMNOPQRSTUVWXYZ" : Str) g.1)) fun (at_1 : Int) => (ifM (some (decide (at_1 < (0 : Int)))) (some g.1) (sAt ("abcdefghijklmnopqrstuvwxyz" : Str) at_1)))
def m_plain_of : Str × Unit → Option Str := fun (g : Str × Unit) => (Option.bind (Option.bind (sSplit g.1 (" " : Str)) fun (xs3 : List Str) => lcG (fun (x2 : Str) => (some (!decide (x2 = ("" : Str))))) (fun (x2 : Str) => (some x2)) xs3) fun (words_1 : (List Str)) => (Option.bind (some ("" : Str)) fun (t7 : Str) => Option.bind (Option.bind (Option.bind (sJoin (" " : Str) words_1) fun (t4 : Str) => some (sgn t4)) fun (xs6 : List Str) => lcG (fun (x5 : Str) => (some true)) (fun (x5 : Str) => (m_small (x5, ()))) xs6) fun (t8 : (List Str)) => (sJoin t7 t8)))
def m_is_like : Str × Str × Unit → Option Bool := fun (g : Str × Str × Unit) => (Option.bind (m_plain_of (g.1, ())) fun (t1 : Str) => Option.bind (m_plain_of (g.2.1, ())) fun (t2 : Str) => some (decide (t1 = t2)))
def b_some_like_1 (g : ((List Str) × (List Str) × Unit)) (s1 : Unit) (x2 : Str) : (Option (Fl Unit Bool)) := (ifM (Option.bind (Option.bind (some g.2.1) fun (xs4 : List Str) => lcG (fun (x3 : Str) => (some true)) (fun (x3 : Str) => (m_is_like (x2, (x3, ())))) xs4) fun (t5 : (List Bool)) => some (t5.any id)) (some (Fl.rt true)) (some (Fl.nx ())))
def m_some_like : (List Str) × (List Str) × Unit → Option Bool := fun (g : (List Str) × (List Str) × Unit) => (thenF (S := Unit) (ρ := Bool) (Option.bind (some g.1) fun (xs6 : List Str) => forF (S := Unit) (ρ := Bool) (b_some_like_1 g) xs6 ()) (fun (s7 : Unit) => (some false)) (fun v => some v) (fun _ => none) (fun _ => none))
def m_Like__fits : Ru × (List Str) × (List Str) × Unit → Option Bool := fun (g : Ru × (List Str) × (List Str) × Unit) => (m_some_like (g.2.1, (g.2.2.1, ())))
def b_rows_of_1 (s7 : (List (List Int))) (x9 : Int) (g : (Str × Str × Unit)) (s11 : (List Int)) (x13 : Int) : (Option (List Int)) := (Option.bind (Option.bind (Option.bind (atI s7 x9) fun (t15 : (List Int)) => Option.bind (some x13) fun (t16 : Int) => (atI t15 t16)) fun (t20 : Int) => Option.bind (Option.bind (Option.bind (sAt g.1 x9) fun (t17 : Str) => Option.bind (sAt g.2.1 x13) fun (t18 : Str) => some (!decide (t17 = t18))) fun (t19 : Bool) => some (bint t19)) fun (t21 : Int) => some (t20 + t21)) fun (turn_14 : Int) => (Option.bind (Option.bind (Option.bind (some turn_14) fun (t28 : Int) => Option.bind (Option.bind (Option.bind (atI s7 x9) fun (t22 : (List Int)) => Option.bind (some (x13 + (1 : Int))) fun (t23 : Int) => (atI t22 t23)) fun (t24 : Int) => Option.bind (some (1 : Int)) fun (t25 : Int) => some (t24 + t25)) fun (t29 : Int) => Option.bind (Option.bind (atI s11 x13) fun (t26 : Int) => Option.bind (some (1 : Int)) fun (t27 : Int) => some (t26 + t27)) fun (t30 : Int) => some (imin3 t28 t29 t30)) fun (t32 : Int) => (lApp s11 t32)) fun (row_31 : (List Int)) => (some row_31)))
def b_rows_of_2 (g : (Str × Str × Unit)) (s7 : (List (List Int))) (x9 : Int) : (Option (List (List Int))) := (Option.bind (some [(x9 + (1 : Int))]) fun (row_10 : (List Int)) => (Option.bind (Option.bind (Option.bind (sLen g.2.1) fun (t12 : Int) => (range1 t12)) fun (xs33 : List Int) => forS (S := (List Int)) (b_rows_of_1 s7 x9 g) xs33 row_10) fun (s34 : (List Int)) => (Option.bind (Option.bind (some s34) fun (t36 : (List Int)) => (lApp s7 t36)) fun (rows_35 : (List (List Int))) => (some rows_35))))
def m_rows_of : Str × Str × Unit → Option (List (List Int)) := fun (g : Str × Str × Unit) => (Option.bind (Option.bind (Option.bind (Option.bind (sLen g.2.1) fun (t2 : Int) => Option.bind (some (1 : Int)) fun (t3 : Int) => some (t2 + t3)) fun (t4 : Int) => (lrange1 t4)) fun (t5 : (List Int)) => Option.bind (some ([] : List (List Int))) fun (t6 : List (List Int)) => some (t5 :: t6)) fun (rows_1 : (List (List Int))) => (Option.bind (Option.bind (Option.bind (sLen g.1) fun (t8 : Int) => (range1 t8)) fun (xs37 : List Int) => forS (S := (List (List Int))) (b_rows_of_2 g) xs37 rows_1) fun (s38 : (List (List Int))) => (some s38)))
def m_distance : Str × Str × Unit → Option Int := fun (g : Str × Str × Unit) => (Option.bind (Option.bind (m_rows_of (g.1, (g.2.1, ()))) fun (t1 : (List (List Int))) => Option.bind (sLen g.1) fun (t2 : Int) => (atI t1 t2)) fun (t3 : (List Int)) => Option.bind (sLen g.2.1) fun (t4 : Int) => (atI t3 t4))
def m_is_near : Str × Str × Unit → Option Bool := fun (g : Str × Str × Unit) => (Option.bind (m_plain_of (g.1, ())) fun (first_1 : Str) => (Option.bind (m_plain_of (g.2.1, ())) fun (last_2 : Str) => (ifM (Option.bind (Option.bind (Option.bind (sLen first_1) fun (t3 : Int) => Option.bind (sLen last_2) fun (t4 : Int) => some (t3 - t4)) fun (t5 : Int) => some (iabs t5)) fun (t6 : Int) => Option.bind (some (1 : Int)) fun (t7 : Int) => some (decide (t7 < t6))) (some false) (Option.bind (m_distance (first_1, (last_2, ()))) fun (t8 : Int) => Option.bind (some (1 : Int)) fun (t9 : Int) => some (decide (t8 ≤ t9))))))
def b_Near__fits_1 (g : (Ru × (List Str) × (List Str) × Unit)) (s1 : Unit) (x2 : Str) : (Option (Fl Unit Bool)) := (ifM (Option.bind (Option.bind (some g.2.2.1) fun (xs4 : List Str) => lcG (fun (x3 : Str) => (some true)) (fun (x3 : Str) => (m_is_near (x2, (x3, ())))) xs4) fun (t5 : (List Bool)) => some (t5.any id)) (some (Fl.rt true)) (some (Fl.nx ())))
def m_Near__fits : Ru × (List Str) × (List Str) × Unit → Option Bool := fun (g : Ru × (List Str) × (List Str) × Unit) => (thenF (S := Unit) (ρ := Bool) (Option.bind (some g.2.1) fun (xs6 : List Str) => forF (S := Unit) (ρ := Bool) (b_Near__fits_1 g) xs6 ()) (fun (s7 : Unit) => (some false)) (fun v => some v) (fun _ => none) (fun _ => none))
def m_Other__fits : Ru × (List Str) × (List Str) × Unit → Option Bool := fun (g : Ru × (List Str) × (List Str) × Unit) => (bAnd (some (!decide (g.2.1 = ([] : (List Str))))) (bAnd (some (!decide (g.2.2.1 = ([] : (List Str))))) (Option.bind (m_some_like (g.2.1, (g.2.2.1, ()))) fun (t1 : Bool) => some (!t1))))
def m_Rule__fits : Ru × (List Str) × (List Str) × Unit → Option Bool := fun (g : Ru × (List Str) × (List Str) × Unit) => (some false)
def b_texts_of_1 (g : ((List (T3 Str Str Str)) × Str × Str × Unit)) (x1 : (T3 Str Str Str)) : (Option Bool) := (bAnd (some (decide (x1.a = g.2.1))) (some (decide (x1.b = g.2.2.1))))
def m_texts_of : (List (T3 Str Str Str)) × Str × Str × Unit → Option (List Str) := fun (g : (List (T3 Str Str Str)) × Str × Str × Unit) => (Option.bind (Option.bind (some g.1) fun (xs5 : List (T3 Str Str Str)) => lcG (b_texts_of_1 g) (fun (x1 : (T3 Str Str Str)) => (some x1.c)) xs5) fun (t6 : (List Str)) => (sSort t6))
def m_Rule__speaks : Ru × (List (T3 Str Str Str)) × Str × Str × Unit → Option Bool := fun (g : Ru × (List (T3 Str Str Str)) × Str × Str × Unit) => (Option.bind (some g.1) fun (t17 : Ru) => Option.bind (Option.bind (Option.bind (Option.bind (some g.2.1) fun (t5 : (List (T3 Str Str Str))) => Option.bind (Option.bind (some g.2.2.1) fun (t3 : Str) => Option.bind (Option.bind (Option.bind (some g.1) (ruG [("Same" : Str), ("Like" : Str), ("Near" : Str), ("Other" : Str), ("Former" : Str)] Ru.f)) fun (t1 : Str) => Option.bind (some ()) fun (t2 : Unit) => some (t1, t2)) fun (t4 : (Str × Unit)) => some (t3, t4)) fun (t6 : (Str × (Str × Unit))) => some (t5, t6)) m_texts_of) fun (t15 : (List Str)) => Option.bind (Option.bind (Option.bind (Option.bind (some g.2.1) fun (t11 : (List (T3 Str Str Str))) => Option.bind (Option.bind (some g.2.2.2.1) fun (t9 : Str) => Option.bind (Option.bind (Option.bind (some g.1) (ruG [("Same" : Str), ("Like" : Str), ("Near" : Str), ("Other" : Str), ("Former" : Str)] Ru.f)) fun (t7 : Str) => Option.bind (some ()) fun (t8 : Unit) => some (t7, t8)) fun (t10 : (Str × Unit)) => some (t9, t10)) fun (t12 : (Str × (Str × Unit))) => some (t11, t12)) m_texts_of) fun (t13 : (List Str)) => Option.bind (some ()) fun (t14 : Unit) => some (t13, t14)) fun (t16 : ((List Str) × Unit)) => some (t15, t16)) fun (t18 : ((List Str) × (List Str) × Unit)) => mDis ([(("Same" : Str), m_Same__fits), (("Like" : Str), m_Like__fits), (("Near" : Str), m_Near__fits), (("Other" : Str), m_Other__fits), (("Former" : Str), m_Rule__fits)] : List (Str × (Ru × ((List Str) × (List Str) × Unit) → Option Bool))) t17.c (t17, t18))
def m_Former__speaks : Ru × (List (T3 Str Str Str)) × Str × Str × Unit → Option Bool := fun (g : Ru × (List (T3 Str Str Str)) × Str × Str × Unit) => (ifM (Option.bind (Option.bind (m_texts_of (g.2.1, (g.2.2.1, (("name" : Str), ())))) fun (t3 : (List Str)) => Option.bind (Option.bind (m_texts_of (g.2.1, (g.2.2.2.1, (("former" : Str), ())))) fun (t1 : (List Str)) => Option.bind (some ()) fun (t2 : Unit) => some (t1, t2)) fun (t4 : ((List Str) × Unit)) => some (t3, t4)) m_some_like) (some true) (Option.bind (Option.bind (m_texts_of (g.2.1, (g.2.2.2.1, (("name" : Str), ())))) fun (t7 : (List Str)) => Option.bind (Option.bind (m_texts_of (g.2.1, (g.2.2.1, (("former" : Str), ())))) fun (t5 : (List Str)) => Option.bind (some ()) fun (t6 : Unit) => some (t5, t6)) fun (t8 : ((List Str) × Unit)) => some (t7, t8)) m_some_like))
def b_weight_of_1  (x1 : Ru) : (Option Int) := (Option.bind (some x1) (ruG [("Same" : Str), ("Like" : Str), ("Near" : Str), ("Other" : Str), ("Former" : Str)] Ru.w))
def b_weight_of_2 (g : ((List Ru) × (List (T3 Str Str Str)) × Str × Str × Unit)) (x1 : Ru) : (Option Bool) := (Option.bind (some x1) fun (t2 : Ru) => Option.bind (some (g.2.1, (g.2.2.1, (g.2.2.2.1, ())))) fun (t3 : ((List (T3 Str Str Str)) × Str × Str × Unit)) => mDis ([(("Same" : Str), m_Rule__speaks), (("Like" : Str), m_Rule__speaks), (("Near" : Str), m_Rule__speaks), (("Other" : Str), m_Rule__speaks), (("Former" : Str), m_Former__speaks)] : List (Str × (Ru × ((List (T3 Str Str Str)) × Str × Str × Unit) → Option Bool))) t2.c (t2, t3))
def m_weight_of : (List Ru) × (List (T3 Str Str Str)) × Str × Str × Unit → Option Int := fun (g : (List Ru) × (List (T3 Str Str Str)) × Str × Str × Unit) => (Option.bind (Option.bind (some g.1) fun (xs4 : List Ru) => lcG (b_weight_of_2 g) (b_weight_of_1) xs4) fun (t5 : (List Int)) => some (List.sum t5))
end GW

/-! the five rules: what they say of two cards, and what weighs -/
namespace GW
open PySem PySem.StrLaws TL L2 FK MS GT
open G (m__law_stream)
abbrev Fc := T3 Str Str Str
theorem small_eq (c : Nat) : m_small (c1 c, ()) = some (c1 (low c)) := low_eq c
theorem plain_eq (l : List Nat) (hl : l.length ≤ 500000) : m_plain_of (mks l, ()) = some (mks (put l)) := plain_gen small_eq l hl
/-! ### what is drawn -/
abbrev SIGNS : Str := "abcdefghijklmnopqrstuvwxyzABCDEFGHIJKLMNOPQRSTUVWXYZ0123456789.-'#~\x40[`{"
theorem sign_at (k : Int) : Ok (sAt SIGNS (k % 71)) fun z => ∃ c, c < 128 ∧ z = c1 c := (okSAt (x := SIGNS) (by omega) (by rw [show SIGNS.length = 71 by decide +kernel]; omega) (by decide +kernel)).mono fun z ⟨c, hc, e⟩ => ⟨c, (by
  have all : ∀ c ∈ tl SIGNS, c < 128 := by decide +kernel
  exact all c hc), e⟩
/-! ### texts of a card -/
def T (bk : List Fc) (a f : Str) : List Str := (bk.filter fun x => decide (x.a = a ∧ x.b = f)).map (·.c)
theorem T_len (bk : List Fc) (a f : Str) : (T bk a f).length ≤ bk.length := by
  unfold T
  rw [List.length_map]
  exact List.length_filter_le _ _
theorem T_tx {bk : List Fc} {a f x : Str} (h : ∀ g ∈ bk, TX 200 g.c) (hx : x ∈ T bk a f) : TX 200 x := by
  obtain ⟨g, hg, rfl⟩ := List.mem_map.mp hx
  exact h g (List.mem_filter.mp hg).1
theorem sel {bk : List Fc} {a f : Str} {t : Fc → Option Bool} (ht : ∀ x, t x = some (decide (x.a = a ∧ x.b = f))) (hz : bk.length ≤ 100) : lcG t (fun (x : Fc) => some x.c) bk = some (T bk a f) := by
  have e : t = fun x => some (decide (x.a = a ∧ x.b = f)) := funext ht
  rw [e]
  exact okSel (by omega)
theorem texts_eq {bk : List Fc} {a f : Str} (hz : bk.length ≤ 100) : m_texts_of (bk, (a, (f, ()))) = some (srt (T bk a f)) := by
  unfold m_texts_of
  simp only [bs]
  rw [sel (a := a) (f := f) (fun x => by unfold b_texts_of_1; exact and2 _ _) hz]
  simp only [bs]
  have := T_len bk a f
  exact if_pos (by omega)
/-- a text put plain -/
def pl (x : Str) : Str := mks (put (tl x))
/-! ### what meets -/
def meet (A B : List Str) : Bool := A.any fun x => decide (x ∈ B)
theorem any_id {α : Type} (l : List α) (f : α → Bool) : (l.map f).any id = l.any f := by
  rw [List.any_map]
  rfl
theorem bool_ext {a b : Bool} (h : a = true ↔ b = true) : a = b := by
  cases a <;> cases b <;> simp_all
theorem meet_iff {A B : List Str} : meet A B = true ↔ ∃ x, x ∈ A ∧ x ∈ B := by
  unfold meet
  rw [List.any_eq_true]
  exact exists_congr fun x => and_congr Iff.rfl decide_eq_true_iff
theorem lc_in {A B : List Str} (h : A.length ≤ 100) : lcG (fun (x1 : Str) => (some true)) (fun (x1 : Str) => (some (decide (x1 ∈ B)))) A = some (A.map fun x => decide (x ∈ B)) := lc_mp (by omega) fun _ _ => rfl
theorem plain_eq2 {x : Str} (h : TX 200 x) : m_plain_of (x, ()) = some (pl x) := by
  obtain ⟨l, rfl, h1, h2⟩ := h
  exact plain_eq l (by omega)
theorem like_eq {x y : Str} (h : TX 200 x) (k : TX 200 y) : m_is_like (x, (y, ())) = some (decide (pl x = pl y)) := by
  unfold m_is_like
  simp only [plain_eq2 h, plain_eq2 k, bs]
/-- for each of the one any of the other -/
theorem any_loop {P : Str → Str → Bool} {A B : List Str} {f : Unit → Str → Option (Fl Unit Bool)} (h : ∀ x ∈ A, f () x = ifM (some (B.any (P x))) (some (Fl.rt true)) (some (Fl.nx ()))) : forF f A () = some (if (A.any fun x => B.any (P x)) = true then Fl.rt true else Fl.nx ()) := by
  induction A with
  | nil => rfl
  | cons x l ih =>
    unfold forF
    rw [h x List.mem_cons_self, List.any_cons]
    cases hq : B.any (P x) with
    | true =>
      rw [if_t, Bool.true_or, if_pos rfl]
      rfl
    | false =>
      rw [if_f, Bool.false_or]
      exact ih fun y hy => h y (List.mem_cons_of_mem _ hy)
theorem any_then (b : Bool) : thenF (S := Unit) (ρ := Bool) (some (if b = true then Fl.rt true else Fl.nx ())) (fun _ => some false) (fun v => some v) (fun _ => none) (fun _ => none) = some b := by
  cases b <;> rfl
theorem any_srt (A : List Str) (f : Str → Bool) : (srt A).any f = A.any f := bool_ext (by
  rw [List.any_eq_true, List.any_eq_true]
  exact exists_congr fun x => and_congr mem_srt Iff.rfl)
theorem some_eq {A B : List Str} (hA : ∀ x ∈ A, TX 200 x) (hB : ∀ x ∈ B, TX 200 x) (h : B.length ≤ 100) : m_some_like (A, (B, ())) = some (A.any fun x => B.any fun y => decide (pl x = pl y)) := by
  unfold m_some_like
  simp only [bs]
  rw [any_loop (P := fun x y => decide (pl x = pl y)) (B := B) fun x hx => ?_, any_then]
  have e : lcG (fun (x3 : Str) => (some true)) (fun (x3 : Str) => (m_is_like (x, (x3, ())))) B = some (B.map fun y => decide (pl x = pl y)) := lc_mp (by omega) fun y hy => like_eq (hA x hx) (hB y hy)
  unfold b_some_like_1
  simp only [bs, e, any_id]
theorem like_meet (A B : List Str) : (A.any fun x => B.any fun y => decide (pl x = pl y)) = meet (A.map pl) (B.map pl) := bool_ext (by
  rw [meet_iff, List.any_eq_true]
  constructor
  · rintro ⟨x, hx, h⟩
    obtain ⟨y, hy, h⟩ := List.any_eq_true.mp h
    exact ⟨pl x, List.mem_map.mpr ⟨x, hx, rfl⟩, List.mem_map.mpr ⟨y, hy, (of_decide_eq_true h).symm⟩⟩
  · rintro ⟨z, h1, h2⟩
    obtain ⟨x, hx, e1⟩ := List.mem_map.mp h1
    obtain ⟨y, hy, e2⟩ := List.mem_map.mp h2
    exact ⟨x, hx, List.any_eq_true.mpr ⟨y, hy, decide_eq_true (e1.trans e2.symm)⟩⟩)
/-! ### near -/
theorem dist_eq (a b : List Nat) (ha : a.length ≤ 10000) (hb : b.length ≤ 10000) : m_distance (mks a, (mks b, ())) = some (lev a b : Int) := dist_gen a b ha hb
def nr (x y : Str) : Bool := decide (lev (put (tl x)) (put (tl y)) ≤ 1)
theorem near_eq {x y : Str} (h : TX 200 x) (k : TX 200 y) : m_is_near (x, (y, ())) = some (nr x y) := by
  obtain ⟨a, rfl, ha, _⟩ := h
  obtain ⟨b, rfl, hb, _⟩ := k
  unfold m_is_near nr
  rw [tl_mks, tl_mks]
  have pa := put_len a
  have pb := put_len b
  have l1 := sLen_mks (put a) (by omega)
  have l2 := sLen_mks (put b) (by omega)
  have d := dist_eq (put a) (put b) (by omega) (by omega)
  simp only [bs, plain_eq a (by omega), plain_eq b (by omega), l1, l2, d, ifM_t]
  have hl := (lev_ed (put a) (put b)).le_len
  split
  · rename_i h
    have h := of_decide_eq_true h
    rw [decide_eq_false]
    unfold iabs at h
    split at h <;> omega
  · congr 1
    exact decide_eq_decide.mpr (by omega)
theorem step_ord (a b : List Nat) (ha : a.length ≤ 10000) (hb : b.length ≤ 10000) (hab : a.length ≤ b.length) : (Option.bind (whileS (S := Int) (b__law_near_2 (mks a, mks b)) (b__law_near_1) 1000000 (0 : Int)) fun (s12 : Int) => (ifM (Option.bind (sLen (mks a)) fun (t13 : Int) => Option.bind (sLen (mks b)) fun (t14 : Int) => some (decide (t13 = t14))) (Option.bind (sCut (mks a) (some (s12 + (1 : Int))) none) fun (t15 : Str) => Option.bind (sCut (mks b) (some (s12 + (1 : Int))) none) fun (t16 : Str) => some (decide (t15 = t16))) (Option.bind (sCut (mks a) (some s12) none) fun (t17 : Str) => Option.bind (sCut (mks b) (some (s12 + (1 : Int))) none) fun (t18 : Str) => some (decide (t17 = t18))))) = some (decide (lev a b ≤ 1)) := by
  have l1 := sLen_mks a (by omega)
  have l2 := sLen_mks b (by omega)
  have hc := cpl_le a b
  have ct : ∀ k : Nat, k < a.length → k < b.length → b__law_near_2 (mks a, mks b) (k : Int) = some (decide (a[k]? = b[k]?)) := fun k h1 h2 => by
    unfold b__law_near_2
    have s1 := sAt_mks a k h1 (by omega)
    have s2 := sAt_mks b k h2 (by omega)
    simp only [bs, l1, s1, s2]
    rw [decide_eq_true (by omega), and_t]
    congr 1
    rw [List.getElem?_eq_getElem h1, List.getElem?_eq_getElem h2]
    refine decide_eq_decide.mpr ?_
    rw [c1_eq]
    exact ⟨fun e => by rw [e], fun e => Option.some.inj e⟩
  have wh := whileS_run (c := b__law_near_2 (mks a, mks b)) (f := b__law_near_1) (fun k => (k : Int)) (cpl a b) 0 1000000 (by omega) (fun k _ hk => by
    rw [ct k (by omega) (by omega), cpl_same a b k (by omega)]
    exact ⟨by rw [decide_eq_true rfl], rfl⟩) (by
    rw [Nat.zero_add]
    by_cases h1 : cpl a b < a.length
    · rw [ct _ h1 (by omega), decide_eq_false (cpl_end a b h1 (by omega))]
    · unfold b__law_near_2
      simp only [bs, l1]
      rw [decide_eq_false (by omega)]
      rfl)
  rw [Nat.zero_add] at wh
  have wh : whileS (b__law_near_2 (mks a, mks b)) b__law_near_1 1000000 0 = some (cpl a b : Int) := wh
  have e1 := cut_mks a (some (cpl a b : Int)) none (by omega)
  have e3 := cut_mks a (some ((cpl a b + 1 : Nat) : Int)) none (by omega)
  have e4 := cut_mks b (some ((cpl a b + 1 : Nat) : Int)) none (by omega)
  rw [cut_from] at e1 e3 e4
  have ec : ((cpl a b : Int) + 1) = ((cpl a b + 1 : Nat) : Int) := by omega
  simp only [bs, wh, l1, l2, ec, e1, e3, e4]
  have ni := near_iff a b
  unfold oneOff at ni
  have d1 : a.drop (cpl a b + 1) = (a.drop (cpl a b)).drop 1 := by rw [List.drop_drop]
  have d2 : b.drop (cpl a b + 1) = (b.drop (cpl a b)).drop 1 := by rw [List.drop_drop]
  rw [d1, d2]
  have hx : (a.drop (cpl a b)).length = a.length - cpl a b := List.length_drop
  have hy : (b.drop (cpl a b)).length = b.length - cpl a b := List.length_drop
  generalize a.drop (cpl a b) = x at *
  generalize b.drop (cpl a b) = y at *
  have dd : ∀ u v : List Nat, decide (mks u = mks v) = decide (u = v) := fun u v => decide_eq_decide.mpr mks_inj
  simp only [dd]
  by_cases hl : a.length = b.length
  · rw [decide_eq_true (by omega), if_t]
    refine congrArg some (decide_eq_decide.mpr ?_)
    rw [← ni]
    have len1 : (x.drop 1).length = x.length - 1 := List.length_drop
    have len2 : (y.drop 1).length = y.length - 1 := List.length_drop
    constructor
    · exact fun h => .inr (.inr (.inr h))
    · rintro (h | h | h | h)
      · rw [h]
      · have : x.length = 0 := by rw [← h] at hy; omega
        have hx0 := List.length_eq_zero_iff.mp this
        rw [← h, hx0]
        rfl
      · have : y.length = 0 := by rw [h] at hx; omega
        have hy0 := List.length_eq_zero_iff.mp this
        rw [h, hy0]
        rfl
      · exact h
  · rw [decide_eq_false (by omega), if_f]
    refine congrArg some (decide_eq_decide.mpr ?_)
    rw [← ni]
    have len1 : (x.drop 1).length = x.length - 1 := List.length_drop
    have len2 : (y.drop 1).length = y.length - 1 := List.length_drop
    have hlt : x.length < y.length := by omega
    constructor
    · exact fun h => .inr (.inr (.inl h))
    · rintro (h | h | h | h)
      · rw [h] at hlt
        omega
      · rw [h] at len1
        omega
      · exact h
      · have e := congrArg List.length h
        rw [len1, len2] at e
        have hx0 := List.length_eq_zero_iff.mp (show x.length = 0 by omega)
        have hy0 : (y.drop 1).length = 0 := by omega
        rw [hx0, List.length_eq_zero_iff.mp hy0]
theorem step_eq (a b : List Nat) (ha : a.length ≤ 10000) (hb : b.length ≤ 10000) : m__law_near (mks a, (mks b, ())) = some (decide (lev a b ≤ 1)) := by
  unfold m__law_near
  have l1 := sLen_mks a (by omega)
  have l2 := sLen_mks b (by omega)
  simp only [bs, l1, l2]
  by_cases h : a.length ≤ b.length
  · rw [decide_eq_false (by omega), if_f]
    simp only [bs]
    exact step_ord a b ha hb h
  · rw [decide_eq_true (by omega), if_t]
    simp only [bs]
    rw [step_ord b a hb ha (by omega), lev_symm]
theorem fits_near (r : Ru) {A B : List Str} (hA : ∀ x ∈ A, TX 200 x) (hB : ∀ x ∈ B, TX 200 x) (h : B.length ≤ 100) : m_Near__fits (r, (A, (B, ()))) = some (A.any fun x => B.any (nr x)) := by
  unfold m_Near__fits
  simp only [bs]
  rw [any_loop (P := nr) (B := B) fun x hx => ?_, any_then]
  have e : lcG (fun (x3 : Str) => (some true)) (fun (x3 : Str) => (m_is_near (x, (x3, ())))) B = some (B.map (nr x)) := lc_mp (by omega) fun y hy => near_eq (hA x hx) (hB y hy)
  unfold b_Near__fits_1
  simp only [bs, e, any_id]
def oth (A B : List Str) : Bool := !decide (A = []) && (!decide (B = []) && !meet (A.map pl) (B.map pl))
theorem srt_nil (A : List Str) : decide (srt A = []) = decide (A = []) := decide_eq_decide.mpr (by
  rw [← List.length_eq_zero_iff, ← List.length_eq_zero_iff, len_srt])
theorem and3 (a b c : Bool) : bAnd (some a) (bAnd (some b) (some c)) = some (a && (b && c)) := by
  cases a <;> cases b <;> cases c <;> rfl
/-- some name of the one is a former name of the other -/
def nf (bk : List Fc) (a b : Str) : Bool := meet ((T bk a "name").map pl) ((T bk b "former").map pl)
theorem some_T {bk : List Fc} {a b f g : Str} (hz : bk.length ≤ 100) (ht : ∀ g ∈ bk, TX 200 g.c) : m_some_like (srt (T bk a f), (srt (T bk b g), ())) = some (meet ((T bk a f).map pl) ((T bk b g).map pl)) := by
  have hl : (srt (T bk b g)).length ≤ 100 := by
    rw [len_srt]
    have := T_len bk b g
    omega
  rw [some_eq (fun x hx => T_tx ht (mem_srt.mp hx)) (fun x hx => T_tx ht (mem_srt.mp hx)) hl, ← like_meet, any_srt]
  have e2 : (fun x => (srt (T bk b g)).any fun y => decide (pl x = pl y)) = fun x => (T bk b g).any fun y => decide (pl x = pl y) := funext fun x => any_srt _ _
  rw [e2]
theorem speaks_eq (r : Ru) {bk : List Fc} {a b : Str} (hz : bk.length ≤ 100) (ht : ∀ g ∈ bk, TX 200 g.c) : m_Former__speaks (r, (bk, (a, (b, ())))) = some (nf bk a b || nf bk b a) := by
  unfold m_Former__speaks
  simp only [bs, texts_eq hz, some_T hz ht]
  rw [ifM_t]
  unfold nf
  split
  · rename_i h
    rw [h]
    rfl
  · rename_i h
    rw [Bool.not_eq_true _ |>.mp h]
    rfl
/-! ### what the rules say -/
abbrev L5 : List Str := [("Same" : Str), ("Like" : Str), ("Near" : Str), ("Other" : Str), ("Former" : Str)]
section
variable {γ β : Type} {a b c d e : Ru × γ → Option β} (g : Ru × γ)
theorem dis0 : mDis [(("Same" : Str), a), (("Like" : Str), b), (("Near" : Str), c), (("Other" : Str), d), (("Former" : Str), e)] "Same" g = a g := if_pos rfl
theorem dis1 : mDis [(("Same" : Str), a), (("Like" : Str), b), (("Near" : Str), c), (("Other" : Str), d), (("Former" : Str), e)] "Like" g = b g := (if_neg (by decide)).trans (if_pos rfl)
theorem dis2 : mDis [(("Same" : Str), a), (("Like" : Str), b), (("Near" : Str), c), (("Other" : Str), d), (("Former" : Str), e)] "Near" g = c g := (if_neg (by decide)).trans ((if_neg (by decide)).trans (if_pos rfl))
theorem dis3 : mDis [(("Same" : Str), a), (("Like" : Str), b), (("Near" : Str), c), (("Other" : Str), d), (("Former" : Str), e)] "Other" g = d g := (if_neg (by decide)).trans ((if_neg (by decide)).trans ((if_neg (by decide)).trans (if_pos rfl)))
theorem dis4 : mDis [(("Same" : Str), a), (("Like" : Str), b), (("Near" : Str), c), (("Other" : Str), d), (("Former" : Str), e)] "Former" g = e g := (if_neg (by decide)).trans ((if_neg (by decide)).trans ((if_neg (by decide)).trans ((if_neg (by decide)).trans (if_pos rfl))))
end
theorem s_len {bk : List Fc} {a f : Str} (hz : bk.length ≤ 100) : (srt (T bk a f)).length ≤ 100 := by
  rw [len_srt]
  have := T_len bk a f
  omega
theorem s_tx {bk : List Fc} {a f : Str} (ht : ∀ g ∈ bk, TX 200 g.c) : ∀ x ∈ srt (T bk a f), TX 200 x := fun x hx => T_tx ht (mem_srt.mp hx)
theorem any2_srt (A B : List Str) (P : Str → Str → Bool) : ((srt A).any fun x => (srt B).any (P x)) = A.any fun x => B.any (P x) := by
  rw [any_srt]
  exact congrArg (fun f => A.any f) (funext fun x => any_srt _ _)
theorem meet_srt (A B : List Str) : meet (srt A) (srt B) = meet A B := bool_ext (by
  rw [meet_iff, meet_iff]
  exact exists_congr fun x => and_congr mem_srt mem_srt)
theorem fits_same (r : Ru) {A B : List Str} (h : A.length ≤ 100) : m_Same__fits (r, (A, (B, ()))) = some (meet A B) := by
  unfold m_Same__fits
  simp only [bs, lc_in h, any_id]
  rfl
/-- what a rule of a class says -/
def sy (c f : Str) (bk : List Fc) (a b : Str) : Bool :=
  if c = "Same" then meet (T bk a f) (T bk b f) else if c = "Like" then meet ((T bk a f).map pl) ((T bk b f).map pl) else if c = "Near" then (T bk a f).any fun x => (T bk b f).any (nr x)
  else if c = "Other" then oth (T bk a f) (T bk b f) else nf bk a b || nf bk b a
theorem sy0 {f : Str} {bk : List Fc} {a b : Str} : sy "Same" f bk a b = meet (T bk a f) (T bk b f) := if_pos rfl
theorem sy1 {f : Str} {bk : List Fc} {a b : Str} : sy "Like" f bk a b = meet ((T bk a f).map pl) ((T bk b f).map pl) := (if_neg (by decide)).trans (if_pos rfl)
theorem sy2 {f : Str} {bk : List Fc} {a b : Str} : sy "Near" f bk a b = (T bk a f).any fun x => (T bk b f).any (nr x) := (if_neg (by decide)).trans ((if_neg (by decide)).trans (if_pos rfl))
theorem sy3 {f : Str} {bk : List Fc} {a b : Str} : sy "Other" f bk a b = oth (T bk a f) (T bk b f) := (if_neg (by decide)).trans ((if_neg (by decide)).trans ((if_neg (by decide)).trans (if_pos rfl)))
theorem sy4 {f : Str} {bk : List Fc} {a b : Str} : sy "Former" f bk a b = (nf bk a b || nf bk b a) := (if_neg (by decide)).trans ((if_neg (by decide)).trans ((if_neg (by decide)).trans (if_neg (by decide))))
theorem in5 {c : Str} (h : c = "Same" ∨ c = "Like" ∨ c = "Near" ∨ c = "Other" ∨ c = "Former") : c ∈ L5 := by
  rcases h with rfl | rfl | rfl | rfl | rfl <;> decide
theorem rule_says {c f : Str} {w : Int} {bk : List Fc} {a b : Str} (h : c = "Same" ∨ c = "Like" ∨ c = "Near" ∨ c = "Other") (hz : bk.length ≤ 100) (ht : ∀ g ∈ bk, TX 200 g.c) : m_Rule__speaks (⟨c, w, f⟩, (bk, (a, (b, ())))) = some (sy c f bk a b) := by
  have e : ruG L5 Ru.f ⟨c, w, f⟩ = some f := if_pos (in5 (by rcases h with h | h | h | h <;> simp [h]))
  unfold m_Rule__speaks
  simp only [bs, e, texts_eq hz]
  rcases h with rfl | rfl | rfl | rfl
  · rw [dis0, fits_same _ (s_len hz), meet_srt, sy0]
  · rw [dis1, sy1]
    unfold m_Like__fits
    show m_some_like (srt (T bk a f), (srt (T bk b f), ())) = _
    rw [some_T hz ht]
  · rw [dis2, fits_near _ (s_tx ht) (s_tx ht) (s_len hz), any2_srt, sy2]
  · rw [dis3, sy3]
    unfold m_Other__fits
    simp only []
    rw [some_T hz ht]
    simp only [bs]
    rw [and3, srt_nil, srt_nil]
    rfl
def KIND (c : Str) : Prop := c = "Same" ∨ c = "Like" ∨ c = "Near" ∨ c = "Other" ∨ c = "Former"
theorem speaks5 {r : Ru} {bk : List Fc} {a b : Str} (h : KIND r.c) (hz : bk.length ≤ 100) (ht : ∀ g ∈ bk, TX 200 g.c) : mDis ([(("Same" : Str), m_Rule__speaks), (("Like" : Str), m_Rule__speaks), (("Near" : Str), m_Rule__speaks), (("Other" : Str), m_Rule__speaks), (("Former" : Str), m_Former__speaks)] : List (Str × (Ru × ((List (T3 Str Str Str)) × Str × Str × Unit) → Option Bool))) r.c (r, (bk, (a, (b, ())))) = some (sy r.c r.f bk a b) := by
  obtain ⟨c, w, f⟩ := r
  have h : c = "Same" ∨ c = "Like" ∨ c = "Near" ∨ c = "Other" ∨ c = "Former" := h
  show mDis _ c (⟨c, w, f⟩, _) = some (sy c f bk a b)
  rcases h with rfl | rfl | rfl | rfl | rfl
  · rw [dis0]
    exact rule_says (.inl rfl) hz ht
  · rw [dis1]
    exact rule_says (.inr (.inl rfl)) hz ht
  · rw [dis2]
    exact rule_says (.inr (.inr (.inl rfl))) hz ht
  · rw [dis3]
    exact rule_says (.inr (.inr (.inr rfl))) hz ht
  · rw [dis4, sy4]
    exact speaks_eq _ hz ht
theorem lc_fm {α β : Type} {xs : List α} {t : α → Option Bool} {p : α → Bool} {f : α → Option β} {g : α → β} (hl : xs.length < 1000000) (e : ∀ x ∈ xs, t x = some (p x)) (e2 : ∀ x ∈ xs, f x = some (g x)) : lcG t f xs = some ((xs.filter p).map g) := by
  unfold lcG
  rw [if_pos hl]
  induction xs with
  | nil => rfl
  | cons x l ih =>
    unfold lcM
    rw [e x List.mem_cons_self]
    have := ih (by rw [List.length_cons] at hl; omega) (fun y hy => e y (List.mem_cons_of_mem _ hy)) fun y hy => e2 y (List.mem_cons_of_mem _ hy)
    simp only [bs]
    cases hp : p x with
    | true =>
      rw [List.filter_cons_of_pos hp, List.map_cons, e2 x List.mem_cons_self, this]
      rfl
    | false =>
      rw [List.filter_cons_of_neg (by rw [hp]; exact Bool.false_ne_true), this]
      rfl
/-- the weight of two cards -/
def wt (rs : List Ru) (bk : List Fc) (a b : Str) : Int := ((rs.filter fun r => sy r.c r.f bk a b).map Ru.w).sum
theorem weight_eq {rs : List Ru} {bk : List Fc} {a b : Str} (h : ∀ r ∈ rs, KIND r.c) (hl : rs.length ≤ 1000) (hz : bk.length ≤ 100) (ht : ∀ g ∈ bk, TX 200 g.c) : m_weight_of (rs, (bk, (a, (b, ())))) = some (wt rs bk a b) := by
  unfold m_weight_of
  simp only [bs]
  rw [lc_fm (p := fun r : Ru => sy r.c r.f bk a b) (g := Ru.w) (by omega) (fun r hr => ?_) fun r hr => ?_]
  · rfl
  · unfold b_weight_of_2
    exact speaks5 (h r hr) hz ht
  · unfold b_weight_of_1
    exact if_pos (in5 (h r hr))
end GW

namespace GC
open PySem PySem.StrLaws TL L2 FK MS
open G (m__law_stream m_cards_of)
open GW (m_weight_of)
def b__law_cards_1 (letters_1 : Str) (draws_2 : (List Int)) (at_7 : Int) (base_10 : Str) (s16 : (List Str)) (x17 : Int) : (Option (List Str)) := (Option.bind (Option.bind (some letters_1) fun (t22 : Str) => Option.bind (Option.bind (Option.bind (atI draws_2 ((2 : Int) + at_7)) fun (t19 : Int) => Option.bind (imul (7 : Int) x17) fun (t20 : Int) => some (t19 + t20)) fun (t21 : Int) => some (t21 % 26)) fun (t23 : Int) => (sAt t22 t23)) fun (sign_18 : Str) => (Option.bind (Option.bind (Option.bind (Option.bind (sCut base_10 none (some at_7)) fun (t24 : Str) => Option.bind (some sign_18) fun (t25 : Str) => (sAdd t24 t25)) fun (t26 : Str) => Option.bind (sCut base_10 (some (at_7 + (1 : Int))) none) fun (t27 : Str) => (sAdd t26 t27)) fun (t29 : Str) => (lApp s16 t29)) fun (cards_here_28 : (List Str)) => (some cards_here_28)))
def b__law_cards_2 (letters_1 : Str) (x11 : Int) : (Option Str) := (sAt letters_1 (x11 % 26))
def m__law_cards : Int × Int × Unit → Option (List Str) := fun (g : Int × Int × Unit) => (Option.bind (some ("abcdefghijklmnopqrstuvwxyz" : Str)) fun (letters_1 : Str) => (Option.bind (m__law_stream (g.1, ((14 : Int), ()))) fun (draws_2 : (List Int)) => (Option.bind (Option.bind (some (1 : Int)) fun (t5 : Int) => Option.bind (Option.bind (atI draws_2 (0 : Int)) fun (t4 : Int) => some (t4 % 12)) fun (t6 : Int) => some (t5 + t6)) fun (size_3 : Int) => (Option.bind (Option.bind (atI draws_2 (1 : Int)) fun (t8 : Int) => Option.bind (some size_3) fun (t9 : Int) => (imod t8 t9)) fun (at_7 : Int) => (Option.bind (Option.bind (some ("" : Str)) fun (t13 : Str) => Option.bind (Option.bind (some (cutA draws_2 (some (2 : Int)) (some ((2 : Int) + size_3)))) fun (xs12 : List Int) => lcG (fun (x11 : Int) => (some true)) (b__law_cards_2 letters_1) xs12) fun (t14 : (List Str)) => (sJoin t13 t14)) fun (base_10 : Str) => (Option.bind (some ([] : (List Str))) fun (cards_here_15 : (List Str)) => (Option.bind (Option.bind (range1 g.2.1) fun (xs30 : List Int) => forS (S := (List Str)) (b__law_cards_1 letters_1 draws_2 at_7 base_10) xs30 cards_here_15) fun (s31 : (List Str)) => (some s31))))))))
def b_weights_of_1 (g : ((List Ru) × (List (T3 Str Str Str)) × Unit)) (x4 : (Int × Str)) (s7 : (List (T3 Str Str Int))) (x8 : Str) : (Option (List (T3 Str Str Int))) := (Option.bind (m_weight_of (g.1, (g.2.1, (x4.2, (x8, ()))))) fun (weight_9 : Int) => (ifM (some (!decide (weight_9 = (0 : Int)))) (Option.bind (Option.bind (some (⟨x4.2, x8, weight_9⟩ : (T3 Str Str Int))) fun (t11 : (T3 Str Str Int)) => (lApp s7 t11)) fun (found_10 : (List (T3 Str Str Int))) => (some found_10)) (some s7)))
def b_weights_of_2 (cards_2 : (List Str)) (g : ((List Ru) × (List (T3 Str Str Str)) × Unit)) (s3 : (List (T3 Str Str Int))) (x4 : (Int × Str)) : (Option (List (T3 Str Str Int))) := (Option.bind (Option.bind (some (cutA cards_2 (some (x4.1 + (1 : Int))) none)) fun (xs12 : List Str) => forS (S := (List (T3 Str Str Int))) (b_weights_of_1 g x4) xs12 s3) fun (s13 : (List (T3 Str Str Int))) => (some s13))
def m_weights_of : (List Ru) × (List (T3 Str Str Str)) × Unit → Option (List (T3 Str Str Int)) := fun (g : (List Ru) × (List (T3 Str Str Str)) × Unit) => (Option.bind (some ([] : (List (T3 Str Str Int)))) fun (found_1 : (List (T3 Str Str Int))) => (Option.bind (m_cards_of (g.2.1, ())) fun (cards_2 : (List Str)) => (Option.bind (Option.bind (some (enumL cards_2)) fun (xs14 : List (Int × Str)) => forS (S := (List (T3 Str Str Int))) (b_weights_of_2 cards_2 g) xs14 found_1) fun (s15 : (List (T3 Str Str Int))) => (some s15))))
end GC

/-! texts that a fact may have; names -/
namespace GD
open PySem PySem.StrLaws TL L2 FK MS GR
open GW (m__law_bent b__law_bent_1 SIGNS)
open GC (m__law_cards b__law_cards_1 b__law_cards_2)
theorem low_ge {c : Nat} (h : 32 ≤ c) : 32 ≤ low c := by
  unfold low
  split <;> omega
def TY (n : Nat) (x : Str) : Prop := ∃ l : List Nat, x = mks l ∧ l.length ≤ n ∧ ∀ c ∈ l, 32 ≤ c ∧ c < 128
theorem TY.mono {n m : Nat} {x : Str} (h : TY n x) (k : n ≤ m) : TY m x := by
  obtain ⟨l, e, h1, h2⟩ := h
  exact ⟨l, e, by omega, h2⟩
theorem TY.len {n : Nat} {x : Str} (h : TY n x) : x.length ≤ n := by
  obtain ⟨l, rfl, h1, _⟩ := h
  rw [len_mks]
  exact h1
theorem TY.add {n m : Nat} {x y : Str} (h : TY n x) (k : TY m y) (hz : n + m ≤ 100000) : Ok (sAdd x y) (TY (n + m)) := by
  obtain ⟨a, rfl, h1, h2⟩ := h
  obtain ⟨b, rfl, k1, k2⟩ := k
  rw [add_mks a b (by omega)]
  refine .ret ⟨a ++ b, rfl, by rw [List.length_append]; omega, fun c hc => ?_⟩
  rcases List.mem_append.mp hc with z | z
  · exact h2 c z
  · exact k2 c z
theorem TY.cut {n : Nat} {x : Str} (h : TY n x) (hz : n ≤ 100000) (lo hi : Option Int) : Ok (sCut x lo hi) (TY n) := by
  obtain ⟨a, rfl, h1, h2⟩ := h
  rw [cut_mks a lo hi (by omega)]
  have := cut_len a lo hi
  exact .ret ⟨_, rfl, by omega, fun c hc => h2 c (List.mem_of_mem_drop (List.mem_of_mem_take hc))⟩
theorem TY.up {n : Nat} {x : Str} (h : TY n x) (hz : n ≤ 100000) : Ok (sUp x) (TY n) := by
  obtain ⟨a, rfl, h1, h2⟩ := h
  refine ⟨_, if_pos (by rw [len_mks]; omega), ?_⟩
  rw [GT.up_mks a fun c hc => (h2 c hc).2]
  refine ⟨_, rfl, by rw [List.length_map]; exact h1, fun c hc => ?_⟩
  obtain ⟨d, hd, rfl⟩ := List.mem_map.mp hc
  have := h2 d hd
  split <;> omega
theorem TY.low {n : Nat} {x : Str} (h : TY n x) (hz : n ≤ 100000) : Ok (sLow x) (TY n) := by
  obtain ⟨a, rfl, h1, h2⟩ := h
  rw [GT.sLow_eq a (fun c hc => (h2 c hc).2) (by omega)]
  refine .ret ⟨_, rfl, by rw [List.length_map]; exact h1, fun c hc => ?_⟩
  obtain ⟨d, hd, rfl⟩ := List.mem_map.mp hc
  exact ⟨low_ge (h2 d hd).1, GT.low_lt (h2 d hd).2⟩
theorem TY.repl {n : Nat} {x : Str} (h : TY n x) (hz : n ≤ 10000) : Ok (sRepl x (" " : Str) ("  " : Str)) (TY (n + (n + 1) * 2)) := by
  have hl := h.len
  obtain ⟨a, rfl, h1, h2⟩ := h
  have h2l : ("  " : Str).length = 2 := by decide +kernel
  refine ⟨_, if_pos (by rw [h2l]; omega), tl (Txt.replace (mks a) (" " : Str) ("  " : Str)), (mks_tl _).symm, ?_, fun c hc => ?_⟩
  · have := TK.replace_len (mks a) (" " : Str) ("  " : Str)
    rw [h2l] at this
    rw [← len_tl]
    omega
  · have e : tl (Txt.replace (mks a) (" " : Str) ("  " : Str)) = replL [32] [32, 32] a := by
      have := replace_list (x := mks a) (y := (" " : Str)) (z := ("  " : Str)) (by decide +kernel)
      have e1 : (" " : Str).cps.toList = [32] := by decide +kernel
      have e2 : ("  " : Str).cps.toList = [32, 32] := by decide +kernel
      rw [e1, e2] at this
      exact this
    rw [e] at hc
    rcases GT.repl_mem (by simp) _ a (Nat.le_refl _) c hc with w | w
    · exact h2 c w
    · revert w
      simp only [List.mem_cons, List.not_mem_nil, or_false]
      omega
theorem TY.strip {n : Nat} {x : Str} (h : TY n x) (hz : n ≤ 100000) : Ok (sStrip x (" " : Str)) (TY n) := by
  have hl := h.len
  obtain ⟨a, rfl, h1, h2⟩ := h
  refine (strip_ok (by omega)).mono fun z hz => ⟨tl z, (mks_tl z).symm, by rw [← len_tl]; omega, fun c hc => h2 c (hz.2.1 c hc)⟩
theorem TY.sgn {c : Nat} (h : 32 ≤ c ∧ c < 128) : TY 1 (c1 c) := ⟨[c], rfl, Nat.le_refl _, fun d hd => by rw [List.mem_singleton.mp hd]; exact h⟩
theorem sign_at (k : Int) : Ok (sAt SIGNS (k % 71)) fun z => ∃ c, (32 ≤ c ∧ c < 128) ∧ z = c1 c := (okSAt (x := SIGNS) (by omega) (by rw [show SIGNS.length = 71 by decide +kernel]; omega) (by decide +kernel)).mono fun z ⟨c, hc, e⟩ => ⟨c, (by
  have all : ∀ c ∈ tl SIGNS, 32 ≤ c ∧ c < 128 := by decide +kernel
  exact all c hc), e⟩
theorem fields_in : ∀ f ∈ FIELDS ++ HAND, 32 ∉ tl f ∧ 10 ∉ tl f ∧ (tl f).length ≤ 10 := by decide +kernel
theorem hand_nf : ∀ f ∈ HAND, f ∉ FIELDS := by decide +kernel
theorem gf_field {c t : List Nat} {f : Str} (hc : Nm c) (hf : f ∈ FIELDS) (ht : Tx t) (h10 : 10 ∉ t) : GF ⟨mks c, f, mks t⟩ := by
  obtain ⟨h1, h2, h3⟩ := fields_in f (List.mem_append_left _ hf)
  exact ⟨c, tl f, t, by rw [mks_tl], hc, h10, ht.2.1, h1, h2, h3, .inl ⟨by rw [mks_tl]; exact hf, ht⟩⟩
theorem gf_hand {c t : List Nat} {f : Str} (hc : Nm c) (hf : f ∈ HAND) (ht : Nm t) (hne : mks c ≠ mks t) : GF ⟨smin (mks c) (mks t), f, smax (mks c) (mks t)⟩ := by
  obtain ⟨h1, h2, h3⟩ := fields_in f (List.mem_append_right _ hf)
  have go : ∀ a b : List Nat, Nm a → Nm b → sLt (mks a) (mks b) = true → GF ⟨mks a, f, mks b⟩ := fun a b ha hb hlt =>
    ⟨a, tl f, b, by rw [mks_tl], ha, nm10 hb, by have := hb.2.1; omega, h1, h2, h3, .inr ⟨by rw [mks_tl]; exact hand_nf f hf, by rw [mks_tl]; exact hf, hb, hlt⟩⟩
  cases h : sLt (mks c) (mks t) with
  | true =>
    obtain ⟨m1, m2, _⟩ := min_lt h
    rw [m1, m2]
    exact go c t hc ht h
  | false =>
    have h' : sLt (mks t) (mks c) = true := by
      cases h2 : sLt (mks t) (mks c) with
      | true => rfl
      | false => exact absurd (Lo.tri (α := Str) h h2) hne
    obtain ⟨_, _, m1, m2⟩ := min_lt h'
    rw [m1, m2]
    exact go t c ht hc h'
def NmS (x : Str) : Prop := ∃ k, x = mks k ∧ Nm k
end GD

/-! joined by edges: by labels, by walking -/
namespace MS
open PySem FK
inductive Conn (E : List (Nat × Nat)) : Nat → Nat → Prop
  | refl (a : Nat) : Conn E a a
  | step {a b c : Nat} : Conn E a b → ((b, c) ∈ E ∨ (c, b) ∈ E) → Conn E a c
section
variable {E : List (Nat × Nat)} {a b c : Nat}
theorem Conn.trans (h : Conn E a b) (k : Conn E b c) : Conn E a c := by
  induction k with
  | refl => exact h
  | step _ e ih => exact ih.step e
theorem Conn.edge (h : (a, b) ∈ E ∨ (b, a) ∈ E) : Conn E a b := (Conn.refl a).step h
theorem Conn.symm (h : Conn E a b) : Conn E b a := by
  induction h with
  | refl => exact .refl _
  | step _ e ih => exact (Conn.edge (e.elim .inr .inl)).trans ih
theorem Conn.mono {F : List (Nat × Nat)} (s : ∀ x ∈ E, x ∈ F) (h : Conn E a b) : Conn F a b := by
  induction h with
  | refl => exact .refl _
  | step _ e ih => exact ih.step (e.elim (fun z => .inl (s _ z)) fun z => .inr (s _ z))
end
/-- labels tell what is joined -/
def Labels (E : List (Nat × Nat)) (n : Nat) (L : List Int) : Prop := L.length = n ∧ ∀ a b, a < n → b < n → (L[a]? = L[b]? ↔ Conn E a b)
end MS

namespace MS
open PySem FK
/-- the blocks of 0 .. n - 1 that p holds of -/
noncomputable def sel (n : Nat) (p : Nat → Prop) : List Int := ((List.range n).filter fun x => dec (p x)).map fun (x : Nat) => (x : Int)
theorem nodup_le' {α : Type} [DecidableEq α] : ∀ {l m : List α}, l.Nodup → (∀ x ∈ l, x ∈ m) → l.length ≤ m.length
  | [], _, _, _ => Nat.zero_le _
  | a :: l, m, hn, hs => by
    have h1 := List.nodup_cons.mp hn
    have ha := hs a List.mem_cons_self
    have := nodup_le' (l := l) (m := m.erase a) h1.2 fun x hx => (List.mem_erase_of_ne fun e => h1.1 (by rw [← e]; exact hx)).mpr (hs x (List.mem_cons_of_mem _ hx))
    rw [List.length_erase_of_mem ha] at this
    have := List.length_pos_of_mem ha
    rw [List.length_cons]
    omega
def Inn (n : Nat) (l : List Int) : Prop := ∀ z ∈ l, 0 ≤ z ∧ z < n
/-! ### a case's links -/
def OkP (m : Nat) (ps : List (T3 Int Int Int)) : Prop := ∀ p ∈ ps, (0 ≤ p.a ∧ p.a < m) ∧ 0 ≤ p.b ∧ p.b < m
def lnk (qs : List (Int × Int)) (p : T3 Int Int Int) : Bool := decide (0 < p.c) && !lMem (p.a, p.b) qs
def edges (ps : List (T3 Int Int Int)) (qs : List (Int × Int)) : List (Nat × Nat) := (ps.filter (lnk qs)).map fun p => (p.a.toNat, p.b.toNat)
def nbs (qs : List (Int × Int)) (x : Int) (p : T3 Int Int Int) : List Int := if lnk qs p = true then (if p.a = x then [p.b] else []) ++ (if p.b = x then [p.a] else []) else []
end MS
namespace G
open PySem FK MS
end G

namespace G
open PySem FK MS
end G

namespace MS
open PySem FK
section
variable {κ α : Type} [Py κ] [DecidableEq κ] [Kq κ] [Py α]
theorem dget_cons (p : κ × α) (l : List (κ × α)) (k : κ) : dGet (p :: l) k = if p.1 = k then some p.2 else dGet l k := by
  unfold dGet
  rw [List.find?_cons]
  by_cases h : p.1 = k
  · rw [if_pos h, decide_eq_true h]
    rfl
  · rw [if_neg h, decide_eq_false h]
theorem any_has (l : List (κ × α)) (k : κ) : (l.any fun p => decide (p.1 = k)) = (dGet l k).isSome := by
  induction l with
  | nil => rfl
  | cons p l ih =>
    rw [List.any_cons, dget_cons, ih]
    by_cases h : p.1 = k
    · rw [if_pos h, decide_eq_true h]
      rfl
    · rw [if_neg h, decide_eq_false h]
      rfl
theorem dget_map (l : List (κ × α)) (k j : κ) (a : α) : dGet (l.map fun p => if p.1 = k then (p.1, a) else p) j = if j = k then (dGet l j).map fun _ => a else dGet l j := by
  induction l with
  | nil => split <;> rfl
  | cons p l ih =>
    rw [List.map_cons, dget_cons, dget_cons, ih]
    by_cases h : p.1 = k
    · rw [if_pos h]
      by_cases hj : p.1 = j
      · rw [if_pos hj, if_pos hj, if_pos (by rw [← hj, h])]
        rfl
      · rw [if_neg hj, if_neg hj]
    · rw [if_neg h]
      by_cases hj : p.1 = j
      · rw [if_pos hj, if_pos hj, if_neg (by rw [← hj]; exact h)]
      · rw [if_neg hj, if_neg hj]
theorem dget_app (l : List (κ × α)) (p : κ × α) (j : κ) : dGet (l ++ [p]) j = (dGet l j).or (if p.1 = j then some p.2 else none) := by
  induction l with
  | nil =>
    rw [List.nil_append, dget_cons]
    split <;> rfl
  | cons q l ih =>
    rw [List.cons_append, dget_cons, dget_cons, ih]
    split <;> rfl
theorem dget_put (l : List (κ × α)) (k j : κ) (a : α) : dGet (dPut l k a) j = if j = k then some a else dGet l j := by
  unfold dPut
  rw [any_has]
  cases h : dGet l k with
  | none =>
    rw [if_neg (by simp), dget_app]
    by_cases hj : j = k
    · rw [if_pos hj, hj, h, if_pos rfl]
      rfl
    · rw [if_neg hj, if_neg (fun e => hj e.symm)]
      cases dGet l j <;> rfl
  | some b =>
    rw [if_pos (show (some b).isSome = true from rfl), dget_map]
    by_cases hj : j = k
    · rw [if_pos hj, if_pos hj, hj, h]
      rfl
    · rw [if_neg hj, if_neg hj]
end
/-- the parts: each told by its first block -/
noncomputable def parts (E : List (Nat × Nat)) (n k : Nat) : List (List Int) := ((List.range k).filter fun b => dec (∀ a, a < b → ¬ Conn E a b)).map fun b => sel n (Conn E b)
end MS
namespace G
open PySem FK MS
end G

/-! the shortest way, by breadth: plain -/
namespace MS
section
variable {α : Type} [DecidableEq α] {E : α → α → Prop}
inductive Wk (E : α → α → Prop) (a : α) : Nat → α → Prop
  | nil : Wk E a 0 a
  | snoc {n : Nat} {b c : α} : Wk E a n b → E b c → Wk E a (n + 1) c
inductive Pth (E : α → α → Prop) (a : α) : List α → α → Prop
  | one : Pth E a [a] a
  | snoc {p : List α} {b c : α} : Pth E a p b → E b c → Pth E a (p ++ [c]) c
variable {a x y : α} {p : List α} {n : Nat}
theorem Pth.pos (h : Pth E a p x) : 0 < p.length := by
  cases h with
  | one => exact Nat.one_pos
  | snoc h e => rw [List.length_append]; exact Nat.succ_pos _
theorem Pth.wk (h : Pth E a p x) : Wk E a (p.length - 1) x := by
  induction h with
  | one => exact .nil
  | @snoc p b c h e ih =>
    have hp := h.pos
    have e1 : (p ++ [c]).length - 1 = (p.length - 1) + 1 := by rw [List.length_append, List.length_singleton]; omega
    rw [e1]
    exact ih.snoc e
theorem Pth.fst (h : Pth E a p x) : p[0]? = some a := by
  induction h with
  | one => rfl
  | snoc h e ih => rw [List.getElem?_append_left h.pos]; exact ih
theorem Pth.lst (h : Pth E a p x) : p[p.length - 1]? = some x := by
  cases h with
  | one => rfl
  | @snoc p b c h e =>
    have e1 : (p ++ [x]).length - 1 = p.length := by rw [List.length_append, List.length_singleton]; omega
    rw [e1, List.getElem?_append_right (Nat.le_refl _), Nat.sub_self]
    rfl
theorem Pth.edges (h : Pth E a p x) : ∀ k, k + 1 < p.length → ∃ u v, p[k]? = some u ∧ p[k + 1]? = some v ∧ E u v := by
  induction h with
  | one => intro k hk; exact absurd hk (by simp)
  | @snoc p b c h e ih =>
    intro k hk
    rw [List.length_append, List.length_singleton] at hk
    by_cases k1 : k + 1 < p.length
    · obtain ⟨u, v, h1, h2, h3⟩ := ih k k1
      exact ⟨u, v, by rw [List.getElem?_append_left (by omega)]; exact h1, by rw [List.getElem?_append_left k1]; exact h2, h3⟩
    · have e1 : k + 1 = p.length := by omega
      have hl := h.lst
      have e2 : p.length - 1 = k := by omega
      rw [e2] at hl
      refine ⟨b, c, by rw [List.getElem?_append_left (by omega)]; exact hl, ?_, e⟩
      rw [e1, List.getElem?_append_right (Nat.le_refl _), Nat.sub_self]
      rfl
theorem Wk.exit {T : α → Prop} (h : Wk E a n y) (ha : T a) (hy : ¬ T y) : ∃ m u z, m + 1 ≤ n ∧ Wk E a m u ∧ T u ∧ E u z ∧ ¬ T z := by
  induction h with
  | nil => exact absurd ha hy
  | @snoc n b c h e ih =>
    by_cases hb : T b
    · exact ⟨n, b, c, Nat.le_refl _, h, hb, e, hy⟩
    · obtain ⟨m, u, z, hm, r⟩ := ih hb
      exact ⟨m, u, z, by omega, r⟩
/-- breadth first: what stands after some of the first at+1 have been looked at -/
structure Bfs (E : α → α → Prop) (U : List α) (a : α) (w : α → Option (List α)) (T : List α) (k : Nat) : Prop where
  nd : T.Nodup
  fst : T[0]? = some a
  has : ∀ x, (w x).isSome = true ↔ x ∈ T
  sub : ∀ x ∈ T, x ∈ U
  way : ∀ (i : Nat) (x : α) (p : List α), T[i]? = some x → w x = some p → Pth E a p x ∧ p.length ≤ i + 1 ∧ ∀ n, Wk E a n x → p.length ≤ n + 1
  mono : ∀ (i j : Nat) (x y : α) (p q : List α), i ≤ j → T[i]? = some x → T[j]? = some y → w x = some p → w y = some q → p.length ≤ q.length
  near : ∀ x p y q, T[k]? = some x → w x = some p → y ∈ T → w y = some q → q.length ≤ p.length + 1
  clo : ∀ (i : Nat) (x y : α), i < k → T[i]? = some x → E x y → y ∈ T
variable {U T : List α} {w : α → Option (List α)} {k : Nat}
theorem Bfs.len (h : Bfs E U a w T k) : T.length ≤ U.length := nodup_le' h.nd h.sub
theorem Bfs.get (h : Bfs E U a w T k) (hx : x ∈ T) : ∃ p, w x = some p := Option.isSome_iff_exists.mp ((h.has x).mpr hx)
theorem Bfs.init (ha : a ∈ U) : Bfs E U a (fun z => if z = a then some [a] else none) [a] 0 where
  nd := List.nodup_cons.mpr ⟨List.not_mem_nil, .nil⟩
  fst := rfl
  has x := by
    by_cases e : x = a
    · rw [if_pos e]; simp [e]
    · rw [if_neg e]; simp [e]
  sub x hx := by rw [List.mem_singleton.mp hx]; exact ha
  way i x p h1 h2 := by
    have hx := List.mem_singleton.mp (List.mem_of_getElem? h1)
    subst hx
    rw [if_pos rfl] at h2
    cases h2
    exact ⟨.one, by simp, fun n _ => by simp⟩
  mono i j x y p q _ h1 h2 h3 h4 := by
    have hx := List.mem_singleton.mp (List.mem_of_getElem? h1)
    have hy := List.mem_singleton.mp (List.mem_of_getElem? h2)
    subst hx
    subst hy
    rw [h3] at h4
    cases h4
    exact Nat.le_refl _
  near x p y q h1 h2 h3 h4 := by
    have hx := List.mem_singleton.mp (List.mem_of_getElem? h1)
    have hy := List.mem_singleton.mp h3
    subst hx
    subst hy
    rw [h2] at h4
    cases h4
    omega
  clo i x y h := absurd h (Nat.not_lt_zero _)
theorem Bfs.next (h : Bfs E U a w T k) (hk : T[k]? = some x) (hc : ∀ y, E x y → y ∈ T) : Bfs E U a w T (k + 1) where
  nd := h.nd
  fst := h.fst
  has := h.has
  sub := h.sub
  way := h.way
  mono := h.mono
  near z p y q h1 h2 h3 h4 := by
    obtain ⟨px, hx⟩ := h.get (List.mem_of_getElem? hk)
    have n1 := h.near x px y q hk hx h3 h4
    have n2 := h.mono k (k + 1) x z px p (Nat.le_succ _) hk h1 hx h2
    omega
  clo i z y hi h1 he := by
    by_cases e : i = k
    · subst e
      rw [hk] at h1
      cases h1
      exact hc y he
    · exact h.clo i z y (by omega) h1 he
theorem Bfs.add (h : Bfs E U a w T k) (hk : T[k]? = some x) (hw : w x = some p) (he : E x y) (hy : y ∉ T) (hu : y ∈ U) : Bfs E U a (fun z => if z = y then some (p ++ [y]) else w z) (T ++ [y]) k := by
  have hkl : k < T.length := (List.getElem?_eq_some_iff.mp hk).1
  have old : ∀ {i : Nat} {z : α}, (T ++ [y])[i]? = some z → (i < T.length ∧ T[i]? = some z ∧ z ≠ y) ∨ (i = T.length ∧ z = y) := by
    intro i z hz
    by_cases c : i < T.length
    · rw [List.getElem?_append_left c] at hz
      exact .inl ⟨c, hz, fun e => hy (e ▸ List.mem_of_getElem? hz)⟩
    · have hl := (List.getElem?_eq_some_iff.mp hz).1
      rw [List.length_append, List.length_singleton] at hl
      have e : i = T.length := by omega
      subst e
      rw [List.getElem?_append_right (Nat.le_refl _), Nat.sub_self] at hz
      exact .inr ⟨rfl, (Option.some.inj hz).symm⟩
  have key : ∀ n, Wk E a n y → p.length ≤ n := by
    intro n hn
    obtain ⟨m, u, z, hm, hu, hT, huz, hz⟩ := hn.exit (T := fun z => z ∈ T) (List.mem_of_getElem? h.fst) hy
    obtain ⟨i, hi⟩ := List.mem_iff_getElem?.mp hT
    obtain ⟨q, hq⟩ := h.get hT
    by_cases c : i < k
    · exact absurd (h.clo i u z c hi huz) hz
    · have h1 := h.mono k i x u p q (by omega) hk hi hw hq
      have h2 := (h.way i u q hi hq).2.2 m hu
      omega
  obtain ⟨pp, pl, ps⟩ := h.way k x p hk hw
  have bnd : ∀ z q, z ∈ T → w z = some q → q.length ≤ (p ++ [y]).length := fun z q hz hq => by
    have := h.near x p z q hk hw hz hq
    rw [List.length_append, List.length_singleton]
    exact this
  refine ⟨?_, ?_, ?_, ?_, ?_, ?_, ?_, ?_⟩
  · rw [List.nodup_append]
    refine ⟨h.nd, List.nodup_cons.mpr ⟨List.not_mem_nil, .nil⟩, fun u hu v hv e => ?_⟩
    rw [List.mem_singleton.mp hv] at e
    exact hy (e ▸ hu)
  · rw [List.getElem?_append_left (by omega)]; exact h.fst
  · intro z
    by_cases e : z = y
    · subst e
      simp
    · simp only [if_neg e]
      rw [h.has z, List.mem_append, List.mem_singleton]
      exact ⟨.inl, fun c => c.resolve_right e⟩
  · intro z hz
    rcases List.mem_append.mp hz with hz | hz
    · exact h.sub z hz
    · rw [List.mem_singleton.mp hz]; exact hu
  · intro i z q h1 h2
    rcases old h1 with ⟨hi, h1, hne⟩ | ⟨hi, rfl⟩
    · simp only [if_neg hne] at h2
      exact h.way i z q h1 h2
    · simp only [if_pos] at h2
      cases h2
      refine ⟨pp.snoc he, by rw [List.length_append, List.length_singleton]; omega, fun n hn => ?_⟩
      have := key n hn
      rw [List.length_append, List.length_singleton]
      omega
  · intro i j u v pu pv hij h1 h2 h3 h4
    rcases old h1 with ⟨hi, g1, hne⟩ | ⟨hi, rfl⟩
    · simp only [if_neg hne] at h3
      rcases old h2 with ⟨hj, g2, hne2⟩ | ⟨hj, rfl⟩
      · simp only [if_neg hne2] at h4
        exact h.mono i j u v pu pv hij g1 g2 h3 h4
      · simp only [if_pos] at h4
        cases h4
        exact bnd u pu (List.mem_of_getElem? g1) h3
    · rcases old h2 with ⟨hj, h2, hne2⟩ | ⟨hj, rfl⟩
      · omega
      · rw [h3] at h4
        cases h4
        exact Nat.le_refl _
  · intro u pu v pv h1 h2 h3 h4
    rw [List.getElem?_append_left hkl, hk] at h1
    cases h1
    have hne : x ≠ y := fun e => hy (e ▸ List.mem_of_getElem? hk)
    simp only [if_neg hne] at h2
    rw [hw] at h2
    cases h2
    by_cases e : v = y
    · subst e
      simp only [if_pos] at h4
      cases h4
      rw [List.length_append, List.length_singleton]
      exact Nat.le_refl _
    · simp only [if_neg e] at h4
      have hv : v ∈ T := by
        rcases List.mem_append.mp h3 with h3 | h3
        · exact h3
        · exact absurd (List.mem_singleton.mp h3) e
      exact h.near x p v pv hk hw hv h4
  · intro i u v hi h1 h2
    rw [List.getElem?_append_left (by omega)] at h1
    exact List.mem_append_left _ (h.clo i u v hi h1 h2)
/-- all looked at: nothing else is reached -/
theorem Bfs.all (h : Bfs E U a w T T.length) (hn : Wk E a n y) : y ∈ T := by
  refine Classical.byContradiction fun c => ?_
  obtain ⟨m, u, z, _, _, hT, huz, hz⟩ := hn.exit (T := fun z => z ∈ T) (List.mem_of_getElem? h.fst) c
  obtain ⟨i, hi⟩ := List.mem_iff_getElem?.mp hT
  exact hz (h.clo i u z (List.getElem?_eq_some_iff.mp hi).1 hi huz)
end
end MS

namespace G
open PySem PySem.StrLaws TL L2 FK MS
theorem weight_eq (k : Int) : ∃ z, m__law_weight (k, ()) = some z := by
  unfold m__law_weight
  simp only [bs, ifM_t]
  have at8 : ∀ w : Int, ∃ z, atI [(0 : Int), w, w, w, w, -w, -w, -w] (k % 8) = some z := fun w => by
    have h1 : 0 ≤ k % 8 := by omega
    obtain ⟨j, hj⟩ := Int.eq_ofNat_of_zero_le h1
    rw [hj]
    exact ⟨_, atI_nat' _ j (by simp only [List.length_cons, List.length_nil]; omega)⟩
  split
  · exact at8 _
  · exact at8 _
def OkA (m : Nat) (ps : List (Int × Int)) : Prop := ∀ p ∈ ps, (0 ≤ p.1 ∧ p.1 < m) ∧ 0 ≤ p.2 ∧ p.2 < m
end G

namespace GC
open PySem PySem.StrLaws TL L2 FK MS
open G (m_cards_of b_cards_of_1)
def b_friends_1 (g : ((List (T3 Str Str Str)) × Str × Unit)) (s2 : (List Str)) (x3 : (T3 Str Str Str)) : (Option (List Str)) := (Option.bind (ifM (bAnd (some (decide (x3.b = ("same" : Str)))) (some (decide (x3.a = g.2.1)))) (Option.bind (Option.bind (some x3.c) fun (t9 : Str) => (lApp s2 t9)) fun (told_8 : (List Str)) => (some told_8)) (some s2)) fun (s7 : (List Str)) => (ifM (bAnd (some (decide (x3.b = ("same" : Str)))) (some (decide (x3.c = g.2.1)))) (Option.bind (Option.bind (some x3.a) fun (t11 : Str) => (lApp s7 t11)) fun (told_10 : (List Str)) => (some told_10)) (some s7)))
def m_friends : (List (T3 Str Str Str)) × Str × Unit → Option (List Str) := fun (g : (List (T3 Str Str Str)) × Str × Unit) => (Option.bind (some ([] : (List Str))) fun (told_1 : (List Str)) => (Option.bind (Option.bind (some g.1) fun (xs12 : List (T3 Str Str Str)) => forS (S := (List Str)) (b_friends_1 g) xs12 told_1) fun (s13 : (List Str)) => (some s13)))
def b_chain_of_1 (card_7 : Str) (s11 : ((Dct Str (List Str)) × (List Str))) (x12 : Str) : (Option ((Dct Str (List Str)) × (List Str))) := (ifM (some (!dHas s11.1.l x12)) (Option.bind (Option.bind (Option.bind (dGet s11.1.l card_7) fun (t13 : (List Str)) => Option.bind (some [x12]) fun (t14 : (List Str)) => (lCat t13 t14)) fun (t16 : (List Str)) => Option.bind (some x12) fun (t17 : Str) => (dSet s11.1 t17 t16)) fun (ways_15 : (Dct Str (List Str))) => (Option.bind (Option.bind (some x12) fun (t19 : Str) => (lApp s11.2 t19)) fun (todo_18 : (List Str)) => (some (ways_15, todo_18)))) (some (s11.1, s11.2)))
def b_chain_of_2 (g : ((List (T3 Str Str Str)) × Str × Str × Unit)) (s6 : ((Dct Str (List Str)) × (List Str) × Int)) : (Option (Fl ((Dct Str (List Str)) × (List Str) × Int) (Option (List Str)))) := (Option.bind (atI s6.2.1 s6.2.2) fun (card_7 : Str) => (ifM (some (decide (card_7 = g.2.2.1))) (Option.bind (Option.bind (Option.bind (dGet s6.1.l card_7) fun (t8 : (List Str)) => some t8) fun (t9 : (List Str)) => some (some t9)) fun (t10 : (Option (List Str))) => some (Fl.rt t10)) (Option.bind (Option.bind (m_friends (g.1, (card_7, ()))) fun (xs20 : List Str) => forS (S := ((Dct Str (List Str)) × (List Str))) (b_chain_of_1 card_7) xs20 (s6.1, s6.2.1)) fun (s21 : ((Dct Str (List Str)) × (List Str))) => (Option.bind (some (s6.2.2 + (1 : Int))) fun (at_22 : Int) => (some (Fl.nx (s21.1, s21.2, at_22)))))))
def b_chain_of_3  (s6 : ((Dct Str (List Str)) × (List Str) × Int)) : (Option Bool) := (some (decide (s6.2.2 < (s6.2.1.length : Int))))
def m_chain_of : (List (T3 Str Str Str)) × Str × Str × Unit → Option (Option (List Str)) := fun (g : (List (T3 Str Str Str)) × Str × Str × Unit) => (Option.bind (Option.bind (some g.2.1) fun (t2 : Str) => Option.bind (some [g.2.1]) fun (t3 : (List Str)) => some (⟨[(t2, t3)]⟩ : (Dct Str (List Str)))) fun (ways_1 : (Dct Str (List Str))) => (Option.bind (some [g.2.1]) fun (todo_4 : (List Str)) => (Option.bind (some (0 : Int)) fun (at_5 : Int) => (thenF (S := ((Dct Str (List Str)) × (List Str) × Int)) (ρ := (Option (List Str))) (whileF (S := ((Dct Str (List Str)) × (List Str) × Int)) (ρ := (Option (List Str))) (b_chain_of_3) (b_chain_of_2 g) 1000000 (ways_1, todo_4, at_5)) (fun (s23 : ((Dct Str (List Str)) × (List Str) × Int)) => (some (none : (Option (List Str))))) (fun v => some v) (fun _ => none) (fun _ => none)))))
def m__law_card : Int × Int × Unit → Option Str := fun (g : Int × Int × Unit) => (Option.bind (some ((1 : Int) + (g.1 % 11))) fun (many_1 : Int) => (Option.bind (imod (g.1 / 11) many_1) fun (at_2 : Int) => (Option.bind (Option.bind (sMul ("q" : Str) at_2) fun (t3 : Str) => Option.bind (sAt ("abcdefghij" : Str) g.2.1) fun (t4 : Str) => (sAdd t3 t4)) fun (t9 : Str) => Option.bind (Option.bind (some ("q" : Str)) fun (t7 : Str) => Option.bind (Option.bind (some ((many_1 - (1 : Int)) - at_2)) fun (t5 : Int) => Option.bind (imul ((g.1 / 121) % 2) (g.2.1 % 2)) fun (t6 : Int) => some (t5 + t6)) fun (t8 : Int) => (sMul t7 t8)) fun (t10 : Str) => (sAdd t9 t10))))
def m__law_fact : Int × Int × Int × Bool × Unit → Option (T3 Str Str Str) := fun (g : Int × Int × Int × Bool × Unit) => (Option.bind (imod g.2.2.1 g.2.1) fun (i_1 : Int) => (Option.bind (Option.bind (Option.bind (some (i_1 + (1 : Int))) fun (t3 : Int) => Option.bind (imod (g.2.2.1 / 10) (g.2.1 - (1 : Int))) fun (t4 : Int) => some (t3 + t4)) fun (t5 : Int) => Option.bind (some g.2.1) fun (t6 : Int) => (imod t5 t6)) fun (j_2 : Int) => (Option.bind (some ((g.2.2.1 / 100) % 8)) fun (way_7 : Int) => (ifM (some (decide (((5 : Int) + (bint g.2.2.2.1)) < way_7))) (Option.bind (m__law_card (g.1, (i_1, ()))) fun (t8 : Str) => Option.bind (some ("mark" : Str)) fun (t9 : Str) => Option.bind (some ("x" : Str)) fun (t10 : Str) => some (⟨t8, t9, t10⟩ : (T3 Str Str Str))) (Option.bind (some ("same" : Str)) fun (field_11 : Str) => (Option.bind (ifM (bAnd (some g.2.2.2.1) (some (decide ((4 : Int) < way_7)))) (Option.bind (some ("apart" : Str)) fun (field_13 : Str) => (some field_13)) (some field_11)) fun (s12 : Str) => (Option.bind (m__law_card (g.1, ((imin2 i_1 j_2), ()))) fun (t14 : Str) => Option.bind (some s12) fun (t15 : Str) => Option.bind (m__law_card (g.1, ((imax2 i_1 j_2), ()))) fun (t16 : Str) => some (⟨t14, t15, t16⟩ : (T3 Str Str Str)))))))))
def b__law_book_1  (s2 : (List (T3 Str Str Str))) (x3 : (T3 Str Str Str)) : (Option (List (T3 Str Str Str))) := (ifM (bOr (some (decide ((s2.length : Int) = (0 : Int)))) (Option.bind (atI s2 (-(1 : Int))) fun (t4 : (T3 Str Str Str)) => Option.bind (some x3) fun (t5 : (T3 Str Str Str)) => some (!decide (t4 = t5)))) (Option.bind (Option.bind (some x3) fun (t7 : (T3 Str Str Str)) => (lApp s2 t7)) fun (book_here_6 : (List (T3 Str Str Str))) => (some book_here_6)) (some s2))
def m__law_book : (List (T3 Str Str Str)) × Unit → Option (List (T3 Str Str Str)) := fun (g : (List (T3 Str Str Str)) × Unit) => (Option.bind (some ([] : (List (T3 Str Str Str)))) fun (book_here_1 : (List (T3 Str Str Str))) => (Option.bind (Option.bind (sSort g.1) fun (xs8 : List (T3 Str Str Str)) => forS (S := (List (T3 Str Str Str))) (b__law_book_1) xs8 book_here_1) fun (s9 : (List (T3 Str Str Str))) => (some s9)))
def b__law_labels_1 (old_20 : Str) (x16 : (T3 Str Str Str)) (s21 : (Dct Str Str)) (x22 : Str) : (Option (Dct Str Str)) := (ifM (Option.bind (dGet s21.l x22) fun (t23 : Str) => Option.bind (some old_20) fun (t24 : Str) => some (decide (t23 = t24))) (Option.bind (Option.bind (dGet s21.l x16.c) fun (t26 : Str) => Option.bind (some x22) fun (t27 : Str) => (dSet s21 t27 t26)) fun (labels_here_25 : (Dct Str Str)) => (some labels_here_25)) (some s21))
def b__law_labels_2  (s15 : (Dct Str Str)) (x16 : (T3 Str Str Str)) : (Option (Dct Str Str)) := (ifM (some (decide (x16.b = ("same" : Str)))) (Option.bind (dGet s15.l x16.a) fun (old_20 : Str) => (Option.bind (Option.bind (some (s15.l.map (·.1))) fun (xs28 : List Str) => forS (S := (Dct Str Str)) (b__law_labels_1 old_20 x16) xs28 s15) fun (s29 : (Dct Str Str)) => (some s29))) (some s15))
def b__law_labels_3  (s2 : (Dct Str Str)) (x3 : (T3 Str Str Str)) : (Option (Dct Str Str)) := (Option.bind (Option.bind (some x3.a) fun (t8 : Str) => Option.bind (some x3.a) fun (t9 : Str) => (dSet s2 t9 t8)) fun (labels_here_7 : (Dct Str Str)) => (ifM (some (decide (x3.b ∈ (⟨[("same" : Str), ("apart" : Str)]⟩ : (Tl Str)).l))) (Option.bind (Option.bind (some x3.c) fun (t11 : Str) => Option.bind (some x3.c) fun (t12 : Str) => (dSet labels_here_7 t12 t11)) fun (labels_here_10 : (Dct Str Str)) => (some labels_here_10)) (some labels_here_7)))
def m__law_labels : (List (T3 Str Str Str)) × Unit → Option (Dct Str Str) := fun (g : (List (T3 Str Str Str)) × Unit) => (Option.bind (some (⟨[]⟩ : (Dct Str Str))) fun (labels_here_1 : (Dct Str Str)) => (Option.bind (Option.bind (some g.1) fun (xs13 : List (T3 Str Str Str)) => forS (S := (Dct Str Str)) (b__law_labels_3) xs13 labels_here_1) fun (s14 : (Dct Str Str)) => (Option.bind (Option.bind (some g.1) fun (xs30 : List (T3 Str Str Str)) => forS (S := (Dct Str Str)) (b__law_labels_2) xs30 s14) fun (s31 : (Dct Str Str)) => (some s31))))
def m__law_is_told : (List (T3 Str Str Str)) × Str × Str × Unit → Option Bool := fun (g : (List (T3 Str Str Str)) × Str × Str × Unit) => (bOr (some (decide ((⟨g.2.1, ("same" : Str), g.2.2.1⟩ : (T3 Str Str Str)) ∈ g.1))) (some (decide ((⟨g.2.2.1, ("same" : Str), g.2.1⟩ : (T3 Str Str Str)) ∈ g.1))))
def b__law_rounds_1 (s3 : ((List Str) × Int)) (g : ((List (T3 Str Str Str)) × (List Str) × Str × Str × Unit)) (s5 : (List Str)) (x6 : Str) : (Option (List Str)) := (ifM (bAnd (some (!decide (x6 ∈ s3.1))) (Option.bind (Option.bind (some s3.1) fun (xs8 : List Str) => lcG (fun (x7 : Str) => (some true)) (fun (x7 : Str) => (m__law_is_told (g.1, (x6, (x7, ()))))) xs8) fun (t9 : (List Bool)) => some (t9.any id))) (Option.bind (Option.bind (some x6) fun (t11 : Str) => (lApp s5 t11)) fun (new_10 : (List Str)) => (some new_10)) (some s5))
def b__law_rounds_2 (g : ((List (T3 Str Str Str)) × (List Str) × Str × Str × Unit)) (s3 : ((List Str) × Int)) : (Option ((List Str) × Int)) := (Option.bind (some ([] : (List Str))) fun (new_4 : (List Str)) => (Option.bind (Option.bind (some g.2.1) fun (xs12 : List Str) => forS (S := (List Str)) (b__law_rounds_1 s3 g) xs12 new_4) fun (s13 : (List Str)) => (Option.bind (lCat s3.1 s13) fun (seen_14 : (List Str)) => (Option.bind (some (s3.2 + (1 : Int))) fun (rounds_here_15 : Int) => (some (seen_14, rounds_here_15))))))
def b__law_rounds_3 (g : ((List (T3 Str Str Str)) × (List Str) × Str × Str × Unit)) (s3 : ((List Str) × Int)) : (Option Bool) := (some (!decide (g.2.2.2.1 ∈ s3.1)))
def m__law_rounds : (List (T3 Str Str Str)) × (List Str) × Str × Str × Unit → Option Int := fun (g : (List (T3 Str Str Str)) × (List Str) × Str × Str × Unit) => (Option.bind (some [g.2.2.1]) fun (seen_1 : (List Str)) => (Option.bind (some (1 : Int)) fun (rounds_here_2 : Int) => (Option.bind (whileS (S := ((List Str) × Int)) (b__law_rounds_3 g) (b__law_rounds_2 g) 1000000 (seen_1, rounds_here_2)) fun (s16 : ((List Str) × Int)) => (some s16.2))))
def b_root_of_1 (g : ((Dct Str Str) × Str × Unit)) (s1 : Str) : (Option Str) := (Option.bind (dGet g.1.l s1) fun (card_4 : Str) => (some card_4))
def b_root_of_2 (g : ((Dct Str Str) × Str × Unit)) (s1 : Str) : (Option Bool) := (Option.bind (dGet g.1.l s1) fun (t2 : Str) => Option.bind (some s1) fun (t3 : Str) => some (!decide (t2 = t3)))
def m_root_of : (Dct Str Str) × Str × Unit → Option Str := fun (g : (Dct Str Str) × Str × Unit) => (Option.bind (whileS (S := Str) (b_root_of_2 g) (b_root_of_1 g) 1000000 g.2.1) fun (s5 : Str) => (some s5))
def b_parents_of_1  (s9 : (Dct Str Str)) (x10 : (T3 Str Str Str)) : (Option (Dct Str Str)) := (ifM (some (decide (x10.b = ("same" : Str)))) (Option.bind (Option.bind (m_root_of (s9, (x10.c, ()))) fun (t15 : Str) => Option.bind (m_root_of (s9, (x10.a, ()))) fun (t16 : Str) => (dSet s9 t16 t15)) fun (parents_14 : (Dct Str Str)) => (some parents_14)) (some s9))
def b_parents_of_2  (s2 : (Dct Str Str)) (x3 : Str) : (Option (Dct Str Str)) := (Option.bind (Option.bind (some x3) fun (t5 : Str) => Option.bind (some x3) fun (t6 : Str) => (dSet s2 t6 t5)) fun (parents_4 : (Dct Str Str)) => (some parents_4))
def m_parents_of : (List (T3 Str Str Str)) × Unit → Option (Dct Str Str) := fun (g : (List (T3 Str Str Str)) × Unit) => (Option.bind (some (⟨[]⟩ : (Dct Str Str))) fun (parents_1 : (Dct Str Str)) => (Option.bind (Option.bind (m_cards_of (g.1, ())) fun (xs7 : List Str) => forS (S := (Dct Str Str)) (b_parents_of_2) xs7 parents_1) fun (s8 : (Dct Str Str)) => (Option.bind (Option.bind (some g.1) fun (xs17 : List (T3 Str Str Str)) => forS (S := (Dct Str Str)) (b_parents_of_1) xs17 s8) fun (s18 : (Dct Str Str)) => (some s18))))
def b_blocks_of_1 (parents_1 : (Dct Str Str)) (s12 : (Dct Str (List Str))) (x13 : Str) : (Option (Dct Str (List Str))) := (Option.bind (Option.bind (m_root_of (parents_1, (x13, ()))) fun (t15 : Str) => Option.bind (some x13) fun (t16 : Str) => (ddApp s12 t15 t16)) fun (found_14 : (Dct Str (List Str))) => (some found_14))
def b_blocks_of_2 (parents_1 : (Dct Str Str)) (s2 : Unit) (x3 : (T3 Str Str Str)) : (Option Unit) := (ifM (bAnd (some (decide (x3.b = ("apart" : Str)))) (Option.bind (m_root_of (parents_1, (x3.a, ()))) fun (t7 : Str) => Option.bind (m_root_of (parents_1, (x3.c, ()))) fun (t8 : Str) => some (decide (t7 = t8)))) (none : Option Unit) (some ()))
def m_blocks_of : (List (T3 Str Str Str)) × Unit → Option (List (List Str)) := fun (g : (List (T3 Str Str Str)) × Unit) => (Option.bind (m_parents_of (g.1, ())) fun (parents_1 : (Dct Str Str)) => (Option.bind (Option.bind (some g.1) fun (xs9 : List (T3 Str Str Str)) => forS (S := Unit) (b_blocks_of_2 parents_1) xs9 ()) fun (s10 : Unit) => (Option.bind (some (⟨[]⟩ : (Dct Str (List Str)))) fun (found_11 : (Dct Str (List Str))) => (Option.bind (Option.bind (m_cards_of (g.1, ())) fun (xs17 : List Str) => forS (S := (Dct Str (List Str))) (b_blocks_of_1 parents_1) xs17 found_11) fun (s18 : (Dct Str (List Str))) => (Option.bind (some ((⟨s18.l⟩ : Kd Str (List Str)).l.map (·.2))) fun (xs20 : List (List Str)) => lcG (fun (x19 : (List Str)) => (some true)) (fun (x19 : (List Str)) => (some x19)) xs20)))))
def b__law_due_1 (g : ((Dct Str Str) × Unit)) (x4 : Str) (x6 : Str) : (Option Bool) := (Option.bind (dGet g.1.l x6) fun (t7 : Str) => Option.bind (dGet g.1.l x4) fun (t8 : Str) => some (decide (t7 = t8)))
def b__law_due_2 (g : ((Dct Str Str) × Unit)) (s3 : ((List Str) × (List (List Str)))) (x4 : Str) : (Option ((List Str) × (List (List Str)))) := (ifM (some (!decide (x4 ∈ s3.1))) (Option.bind (Option.bind (dSrt g.1) fun (xs9 : List Str) => lcG (b__law_due_1 g x4) (fun (x6 : Str) => (some x6)) xs9) fun (block_5 : (List Str)) => (Option.bind (lCat s3.1 block_5) fun (seen_10 : (List Str)) => (Option.bind (Option.bind (some block_5) fun (t12 : (List Str)) => (lApp s3.2 t12)) fun (due_here_11 : (List (List Str))) => (some (seen_10, due_here_11))))) (some (s3.1, s3.2)))
def m__law_due : (Dct Str Str) × Unit → Option (List (List Str)) := fun (g : (Dct Str Str) × Unit) => (Option.bind (some ([] : (List (List Str)))) fun (due_here_1 : (List (List Str))) => (Option.bind (some ([] : (List Str))) fun (seen_2 : (List Str)) => (Option.bind (Option.bind (dSrt g.1) fun (xs13 : List Str) => forS (S := ((List Str) × (List (List Str)))) (b__law_due_2 g) xs13 (seen_2, due_here_1)) fun (s14 : ((List Str) × (List (List Str)))) => (some s14.2))))
def b__law_is_blocks_1  (s3 : Unit) (x4 : Str) : (Option (Fl Unit Bool)) := (ifM (some (!true)) (some (Fl.rt false)) (some (Fl.nx ())))
def b__law_is_blocks_2  (s1 : Unit) (x2 : (List Str)) : (Option (Fl Unit Bool)) := (ifM (bOr (some (!true)) (some (decide ((x2.length : Int) = (0 : Int))))) (some (Fl.rt false)) (thenF (S := Unit) (ρ := Bool) (Option.bind (some x2) fun (xs5 : List Str) => forF (S := Unit) (ρ := Bool) (b__law_is_blocks_1) xs5 ()) (fun (s6 : Unit) => (some (Fl.nx ()))) (fun v => some (Fl.rt v)) (fun _ => none) (fun _ => none)))
def m__law_is_blocks : (List (List Str)) × Unit → Option Bool := fun (g : (List (List Str)) × Unit) => (ifM (some (!true)) (some false) (thenF (S := Unit) (ρ := Bool) (Option.bind (some g.1) fun (xs7 : List (List Str)) => forF (S := Unit) (ρ := Bool) (b__law_is_blocks_2) xs7 ()) (fun (s8 : Unit) => (some true)) (fun v => some v) (fun _ => none) (fun _ => none)))
end GC

namespace GC
open PySem PySem.StrLaws TL L2 FK MS
abbrev F3 := T3 Str Str Str
def fp (x : Str) (p : F3) (y : Str) : Prop := p.b = ("same" : Str) ∧ ((p.a = x ∧ p.c = y) ∨ (p.c = x ∧ p.a = y))
def Ed (bk : List F3) (x y : Str) : Prop := ∃ p ∈ bk, fp x p y
/-! ### the way -/
variable {bk : List F3} {U : List Str} {one : Str} {k : Nat}
/-- what chain_of must tell -/
def Good (bk : List F3) (U : List Str) (one other : Str) (r : Option (List Str)) : Prop := match r with
  | none => ∀ n, ¬ Wk (Ed bk) one n other
  | some p => Pth (Ed bk) one p other ∧ p.length ≤ U.length ∧ ∀ n, Wk (Ed bk) one n other → p.length ≤ n + 1
/-! ### rounds -/
def tb (bk : List F3) (x y : Str) : Bool := decide ((⟨x, ("same" : Str), y⟩ : F3) ∈ bk) || decide ((⟨y, ("same" : Str), x⟩ : F3) ∈ bk)
theorem Ed.symm {x y : Str} (h : Ed bk x y) : Ed bk y x := by
  obtain ⟨p, hp, hb, h | h⟩ := h
  · exact ⟨p, hp, hb, .inr ⟨h.2, h.1⟩⟩
  · exact ⟨p, hp, hb, .inl ⟨h.2, h.1⟩⟩
def nw (bk : List F3) (seen : List Str) (x : Str) : Bool := !decide (x ∈ seen) && (seen.map fun u => tb bk x u).any id
/-! ### labels -/
theorem keys_put {κ α : Type} [Py κ] [DecidableEq κ] [Kq κ] [Py α] (l : List (κ × α)) (k : κ) (a : α) : (dPut l k a).map (·.1) = if (dGet l k).isSome = true then l.map (·.1) else l.map (·.1) ++ [k] := by
  unfold dPut
  rw [any_has]
  split
  · rw [List.map_map]
    refine List.map_congr_left fun p _ => ?_
    show (if p.1 = k then (p.1, a) else p).1 = p.1
    split <;> rfl
  · rw [List.map_append]
    rfl
theorem has_iff {κ α : Type} [Py κ] [DecidableEq κ] [Kq κ] [Py α] : ∀ (l : List (κ × α)) (k : κ), (dGet l k).isSome = true ↔ k ∈ l.map (·.1)
  | [], k => by simp [dGet]
  | p :: l, k => by
    rw [dget_cons, List.map_cons, List.mem_cons]
    by_cases h : p.1 = k
    · rw [if_pos h]
      exact ⟨fun _ => .inl h.symm, fun _ => rfl⟩
    · rw [if_neg h, has_iff l k]
      exact ⟨.inr, fun c => c.resolve_left fun e => h e.symm⟩
def re (old new v : Str) : Str := if v = old then new else v
def Cn (bk : List F3) (x y : Str) : Prop := ∃ n, Wk (Ed bk) x n y
theorem Cn.refl (bk : List F3) (x : Str) : Cn bk x x := ⟨0, .nil⟩
theorem Cn.step {x y z : Str} (h : Cn bk x y) (e : Ed bk y z) : Cn bk x z := by
  obtain ⟨n, h⟩ := h
  exact ⟨n + 1, h.snoc e⟩
theorem Cn.rec' {x : Str} {P : Str → Prop} (h0 : P x) (st : ∀ y z, P y → Ed bk y z → P z) {y : Str} (h : Cn bk x y) : P y := by
  obtain ⟨n, h⟩ := h
  induction h with
  | nil => exact h0
  | snoc _ e ih => exact st _ _ ih e
theorem Cn.trans {x y z : Str} (h : Cn bk x y) (k : Cn bk y z) : Cn bk x z := k.rec' (P := fun z => Cn bk x z) h fun _ _ h e => h.step e
theorem Cn.symm {x y : Str} (h : Cn bk x y) : Cn bk y x := h.rec' (P := fun y => Cn bk y x) (.refl _ _) fun _ _ h e => ((Cn.refl _ _).step e.symm).trans h
theorem Cn.mono {bk2 : List F3} (s : ∀ p ∈ bk, p ∈ bk2) {x y : Str} (h : Cn bk x y) : Cn bk2 x y := h.rec' (P := fun y => Cn bk2 x y) (.refl _ _) fun _ _ h ⟨p, hp, e⟩ => h.step ⟨p, s p hp, e⟩
theorem cn_snoc {p : F3} {x y : Str} : Cn (bk ++ [p]) x y ↔ Cn bk x y ∨ (p.b = ("same" : Str) ∧ ((Cn bk x p.a ∧ Cn bk p.c y) ∨ (Cn bk x p.c ∧ Cn bk p.a y))) := by
  constructor
  · intro h
    refine h.rec' (P := fun y => Cn bk x y ∨ (p.b = ("same" : Str) ∧ ((Cn bk x p.a ∧ Cn bk p.c y) ∨ (Cn bk x p.c ∧ Cn bk p.a y)))) (.inl (.refl _ _)) fun y z ih ⟨q, hq, e⟩ => ?_
    rcases List.mem_append.mp hq with hq | hq
    · have e : Ed bk y z := ⟨q, hq, e⟩
      rcases ih with ih | ⟨hb, ⟨h1, h2⟩ | ⟨h1, h2⟩⟩
      · exact .inl (ih.step e)
      · exact .inr ⟨hb, .inl ⟨h1, h2.step e⟩⟩
      · exact .inr ⟨hb, .inr ⟨h1, h2.step e⟩⟩
    · have hq := List.mem_singleton.mp hq
      subst hq
      obtain ⟨hb, ⟨rfl, rfl⟩ | ⟨rfl, rfl⟩⟩ := e
      · rcases ih with ih | ⟨_, ⟨h1, h2⟩ | ⟨h1, h2⟩⟩
        · exact .inr ⟨hb, .inl ⟨ih, .refl _ _⟩⟩
        · exact .inr ⟨hb, .inl ⟨h1, .refl _ _⟩⟩
        · exact .inl h1
      · rcases ih with ih | ⟨_, ⟨h1, h2⟩ | ⟨h1, h2⟩⟩
        · exact .inr ⟨hb, .inr ⟨ih, .refl _ _⟩⟩
        · exact .inl h1
        · exact .inr ⟨hb, .inr ⟨h1, .refl _ _⟩⟩
  · have sub : ∀ q ∈ bk, q ∈ bk ++ [p] := fun q hq => List.mem_append_left _ hq
    rintro (h | ⟨hb, ⟨h1, h2⟩ | ⟨h1, h2⟩⟩)
    · exact h.mono sub
    · exact ((h1.mono sub).step ⟨p, List.mem_append_right _ (List.mem_singleton.mpr rfl), hb, .inl ⟨rfl, rfl⟩⟩).trans (h2.mono sub)
    · exact ((h1.mono sub).step ⟨p, List.mem_append_right _ (List.mem_singleton.mpr rfl), hb, .inr ⟨rfl, rfl⟩⟩).trans (h2.mono sub)
def keys (d : Dct Str Str) : List Str := d.l.map (·.1)
def LB (bk : List F3) (d : Dct Str Str) : Prop := ∀ x y, x ∈ keys d → y ∈ keys d → (dGet d.l x = dGet d.l y ↔ Cn bk x y)
def LS (U : List Str) (d : Dct Str Str) : Prop := (∀ z v, dGet d.l z = some v → v = z) ∧ (keys d).Nodup ∧ ∀ z ∈ keys d, z ∈ U
theorem LS.len {U : List Str} {d : Dct Str Str} (h : LS U d) : d.l.length ≤ U.length := by
  have := nodup_le' h.2.1 h.2.2
  unfold keys at this
  rwa [List.length_map] at this
theorem LS.put {U : List Str} {d : Dct Str Str} {z : Str} (h : LS U d) (hz : z ∈ U) : LS U ⟨dPut d.l z z⟩ ∧ z ∈ keys ⟨dPut d.l z z⟩ ∧ ∀ x ∈ keys d, x ∈ keys ⟨dPut d.l z z⟩ := by
  have e : keys ⟨dPut d.l z z⟩ = if (dGet d.l z).isSome = true then keys d else keys d ++ [z] := keys_put d.l z z
  refine ⟨⟨fun x v hv => ?_, ?_, ?_⟩, ?_, ?_⟩
  · have hv : dGet (dPut d.l z z) x = some v := hv
    rw [dget_put] at hv
    by_cases c : x = z
    · rw [if_pos c] at hv
      cases hv
      exact c.symm
    · rw [if_neg c] at hv
      exact h.1 x v hv
  · rw [e]
    split
    · exact h.2.1
    · rename_i c
      rw [List.nodup_append]
      refine ⟨h.2.1, List.nodup_cons.mpr ⟨List.not_mem_nil, .nil⟩, fun u hu v hv ee => ?_⟩
      rw [List.mem_singleton.mp hv] at ee
      exact c ((has_iff d.l z).mpr (ee ▸ hu))
  · rw [e]
    split
    · exact h.2.2
    · intro x hx
      rcases List.mem_append.mp hx with hx | hx
      · exact h.2.2 x hx
      · rw [List.mem_singleton.mp hx]; exact hz
  · rw [e]
    split
    · rename_i c
      exact (has_iff d.l z).mp c
    · exact List.mem_append_right _ (List.mem_singleton.mpr rfl)
  · intro x hx
    rw [e]
    split
    · exact hx
    · exact List.mem_append_left _ hx
/-! ### facts -/
theorem mul_len (n : Int) (h : n ≤ 100) : (Txt.mul ("q" : Str) n).length ≤ 100 := by
  have := PyProof.Rows.len_mul_leN (x := ("q" : Str)) (n := n) (L := 1) (N := 100) (by decide) h
  omega
theorem card_ok (c k : Int) (h0 : 0 ≤ k) (h1 : k < 10) : Ok (m__law_card (c, (k, ()))) fun _ => True := by
  have hm : 0 < (1 : Int) + c % 11 := by omega
  unfold m__law_card
  simp only [bs, bsr, Option.bind_assoc]
  refine (okMod hm).bind fun a ha => ?_
  obtain ⟨_, a0, a1⟩ := ha
  have q1 : ("q" : Str).length ≤ 4000 := by decide
  have e1 : sMul ("q" : Str) a = some (Txt.mul ("q" : Str) a) := if_pos ⟨q1, by omega, by omega⟩
  rw [e1]
  simp only [bs]
  refine (okSAt h0 (by show k < (("abcdefghij" : Str).length : Int); rw [show ("abcdefghij" : Str).length = 10 from by decide]; omega) (by decide)).bind fun z hz => ?_
  obtain ⟨cz, _, hz⟩ := hz
  have hl := mul_len a (by omega)
  have hz1 : z.length = 1 := by rw [hz]; rfl
  refine (okAdd (by omega)).bind fun y hy => ?_
  refine (okMul (.inr (by omega))).bind fun m hm2 => ?_
  have hm3 : m ≤ 1 ∧ 0 ≤ m := by
    rw [hm2]
    have h2 : c / 121 % 2 = 0 ∨ c / 121 % 2 = 1 := by omega
    have h3 : k % 2 = 0 ∨ k % 2 = 1 := by omega
    rcases h2 with h2 | h2 <;> rcases h3 with h3 | h3 <;> rw [h2, h3] <;> decide
  have e2 : sMul ("q" : Str) ((1 : Int) + c % 11 - 1 - a + m) = some (Txt.mul ("q" : Str) ((1 : Int) + c % 11 - 1 - a + m)) := if_pos ⟨q1, by omega, by omega⟩
  rw [e2]
  simp only [bs]
  have hl2 := mul_len ((1 : Int) + c % 11 - 1 - a + m) (by omega)
  exact (okAdd (by rw [hy.2]; omega)).any
def Us (c : Int) : List Str := (List.range 10).map fun (k : Nat) => (m__law_card (c, ((k : Int), ()))).getD ("" : Str)
theorem card_in (c k : Int) (h0 : 0 ≤ k) (h1 : k < 10) : Ok (m__law_card (c, (k, ()))) fun z => z ∈ Us c := by
  obtain ⟨z, e, _⟩ := card_ok c k h0 h1
  refine ⟨z, e, ?_⟩
  show z ∈ Us c
  unfold Us
  rw [List.mem_map]
  refine ⟨k.toNat, List.mem_range.mpr (by omega), ?_⟩
  rw [Int.toNat_of_nonneg h0, e]
  rfl
def PU (c : Int) (p : F3) : Prop := p.a ∈ Us c ∧ (p.b ∈ [("same" : Str), ("apart" : Str)] → p.c ∈ Us c)
theorem mark_out : ¬ ("mark" : Str) ∈ [("same" : Str), ("apart" : Str)] := by decide
theorem fact_ok (c many w : Int) (b : Bool) (h2 : 2 ≤ many) (h10 : many ≤ 10) : Ok (m__law_fact (c, (many, (w, (b, ()))))) (PU c) := by
  unfold m__law_fact
  simp only [bs, bsr, Option.bind_assoc]
  refine (okMod (by omega)).bind fun i hi => ?_
  refine (okMod (by omega)).bind fun j0 hj0 => ?_
  refine (okMod (by omega)).bind fun j hj => ?_
  refine .ifd (fun _ => ?_) fun _ => ?_
  · refine (card_in c i (by omega) (by omega)).bind fun z hz => ?_
    exact .ret ⟨hz, fun h => absurd h mark_out⟩
  · have hmin : 0 ≤ imin2 i j ∧ imin2 i j < 10 := by unfold imin2; split <;> omega
    have hmax : 0 ≤ imax2 i j ∧ imax2 i j < 10 := by unfold imax2; split <;> omega
    have fin : ∀ f : Str, Ok (Option.bind (m__law_card (c, ((imin2 i j), ()))) fun t14 => Option.bind (m__law_card (c, ((imax2 i j), ()))) fun t16 => some (⟨t14, f, t16⟩ : F3)) (PU c) := fun f => by
      refine (card_in c _ hmin.1 hmin.2).bind fun z hz => ?_
      refine (card_in c _ hmax.1 hmax.2).bind fun y hy => ?_
      exact .ret ⟨hz, fun _ => hy⟩
    refine Ok.bind (P := fun _ => True) ?_ fun f _ => fin f
    unfold bAnd ifM
    simp only [bs]
    cases b <;> simp only [Bool.false_eq_true, if_false, if_true, bs]
    · exact .ret trivial
    · split
      · exact .ret trivial
      · exact .ret trivial
end GC

/-! blocks: cards joined by parents; groups of a list by a relation -/
namespace GC
open PySem PySem.StrLaws TL L2 FK MS
inductive Up (P : List (Str × Str)) : Str → Nat → Str → Prop
  | root {x : Str} : dGet P x = some x → Up P x 0 x
  | step {x y r : Str} {n : Nat} : dGet P x = some y → y ≠ x → Up P y n r → Up P x (n + 1) r
theorem Up.fn {P : List (Str × Str)} {x r s : Str} {n m : Nat} (h : Up P x n r) : Up P x m s → r = s := by
  induction h generalizing m s with
  | root e =>
    intro k
    cases k with
    | root e2 => rfl
    | step e2 ne _ =>
      rw [e] at e2
      cases e2
      exact absurd rfl ne
  | step e ne _ ih =>
    intro k
    cases k with
    | root e2 =>
      rw [e] at e2
      cases e2
      exact absurd rfl ne
    | step e2 _ k2 =>
      rw [e] at e2
      cases e2
      exact ih k2
theorem Up.isRoot {P : List (Str × Str)} {x r : Str} {n : Nat} (h : Up P x n r) : dGet P r = some r := by
  induction h with
  | root e => exact e
  | step _ _ _ ih => exact ih
theorem root_while (g : Dct Str Str × Str × Unit) {x r : Str} {n : Nat} (h : Up g.1.l x n r) : ∀ N, n < N → whileS (b_root_of_2 g) (b_root_of_1 g) N x = some r := by
  induction h with
  | @root x e =>
    intro N hN
    cases N with
    | zero => omega
    | succ N =>
      show (b_root_of_2 g x).bind _ = _
      unfold b_root_of_2
      rw [e]
      simp only [bs, decide_true, nt]
      rfl
  | @step x y r n e ne _ ih =>
    intro N hN
    cases N with
    | zero => omega
    | succ N =>
      show (b_root_of_2 g x).bind _ = _
      have e1 : b_root_of_2 g x = some true := by
        unfold b_root_of_2
        rw [e]
        simp only [bs, decide_eq_false ne, nf]
      have e2 : b_root_of_1 g x = some y := by
        unfold b_root_of_1
        rw [e]
        rfl
      rw [e1]
      show ((b_root_of_1 g x).bind _ : Option Str) = _
      rw [e2]
      exact ih N (by omega)
theorem root_ok {P : Dct Str Str} {x r : Str} {n : Nat} (h : Up P.l x n r) (hn : n < 1000000) : m_root_of (P, (x, ())) = some r := by
  unfold m_root_of
  rw [root_while (P, (x, ())) h 1000000 hn]
  rfl
/-- a root put below another one -/
theorem Up.put {P : List (Str × Str)} {a c : Str} (ha : dGet P a = some a) (hc : dGet P c = some c) (ne : a ≠ c) {x r : Str} {n : Nat} (h : Up P x n r) : (r ≠ a → Up (dPut P a c) x n r) ∧ (r = a → Up (dPut P a c) x (n + 1) c) := by
  have hc' : dGet (dPut P a c) c = some c := by
    rw [dget_put, if_neg (Ne.symm ne)]
    exact hc
  induction h with
  | @root x e =>
    refine ⟨fun z => .root ?_, fun z => ?_⟩
    · rw [dget_put, if_neg z]
      exact e
    · rw [z]
      refine .step (y := c) ?_ (Ne.symm ne) (.root hc')
      rw [dget_put, if_pos rfl]
  | @step x y r n e ney _ ih =>
    have xa : x ≠ a := fun z => by
      rw [z, ha] at e
      cases e
      exact ney z.symm
    have e' : dGet (dPut P a c) x = some y := by
      rw [dget_put, if_neg xa]
      exact e
    exact ⟨fun z => .step e' ney (ih.1 z), fun z => .step e' ney (ih.2 z)⟩
/-- each card is led to a root; two to the same one just where they are joined -/
def Led (C : List Str) (pre : List F3) (k : Nat) (P : List (Str × Str)) : Prop :=
  (∀ x ∈ C, ∃ n r, n ≤ k ∧ r ∈ C ∧ Up P x n r) ∧ ∀ x ∈ C, ∀ y ∈ C, ∀ n r m s, Up P x n r → Up P y m s → (r = s ↔ Cn pre x y)
theorem Led.no {C : List Str} {pre : List F3} {k : Nat} {P : List (Str × Str)} (h : Led C pre k P) {f : F3} (hf : f.b ≠ "same") : Led C (pre ++ [f]) (k + 1) P :=
  ⟨fun x hx => let ⟨n, r, a, b, c⟩ := h.1 x hx; ⟨n, r, by omega, b, c⟩, fun x hx y hy n r m s u v => (h.2 x hx y hy n r m s u v).trans (cn_snoc.trans ⟨fun z => z.elim id fun z => absurd z.1 hf, .inl⟩).symm⟩
theorem Led.join {C : List Str} {pre : List F3} {k : Nat} {P : List (Str × Str)} (h : Led C pre k P) {f : F3} (hf : f.b = "same") {n m : Nat} {a c : Str} (hfa : f.a ∈ C) (hfc : f.c ∈ C) (ua : Up P f.a n a) (uc : Up P f.c m c) (hc : c ∈ C) : Led C (pre ++ [f]) (k + 1) (dPut P a c) := by
  have ra := ua.isRoot
  have rc := uc.isRoot
  by_cases e : a = c
  · subst e
    have same : ∀ z, dGet (dPut P a a) z = dGet P z := fun z => by
      rw [dget_put]
      split
      · rename_i e
        rw [e, ra]
      · rfl
    have up : ∀ {x r : Str} {n : Nat}, Up P x n r → Up (dPut P a a) x n r := fun {x r n} u => by
      induction u with
      | root e => exact .root (by rw [same]; exact e)
      | step e ne _ ih => exact .step (by rw [same]; exact e) ne ih
    have up' : ∀ {x r : Str} {n : Nat}, Up (dPut P a a) x n r → Up P x n r := fun {x r n} u => by
      induction u with
      | root e => exact .root (by rw [← same]; exact e)
      | step e ne _ ih => exact .step (by rw [← same]; exact e) ne ih
    have j : Cn pre f.a f.c := (h.2 _ hfa _ hfc _ _ _ _ ua uc).mp rfl
    refine ⟨fun x hx => let ⟨n, r, q1, q2, q3⟩ := h.1 x hx; ⟨n, r, by omega, q2, up q3⟩, fun x hx y hy n r m s u v => (h.2 x hx y hy n r m s (up' u) (up' v)).trans (cn_snoc.trans ⟨fun z => z.elim id fun z => ?_, .inl⟩).symm⟩
    rcases z.2 with ⟨z1, z2⟩ | ⟨z1, z2⟩
    · exact (z1.trans j).trans z2
    · exact (z1.trans j.symm).trans z2
  · have lead : ∀ x ∈ C, ∃ n r, n ≤ k ∧ r ∈ C ∧ Up P x n r ∧ ∃ n', n' ≤ k + 1 ∧ Up (dPut P a c) x n' (if r = a then c else r) := fun x hx => by
      obtain ⟨n, r, q1, q2, q3⟩ := h.1 x hx
      obtain ⟨p1, p2⟩ := q3.put ra rc e
      refine ⟨n, r, q1, q2, q3, ?_⟩
      by_cases z : r = a
      · rw [if_pos z]
        exact ⟨n + 1, by omega, p2 z⟩
      · rw [if_neg z]
        exact ⟨n, by omega, p1 z⟩
    refine ⟨fun x hx => ?_, fun x hx y hy n r m s u v => ?_⟩
    · obtain ⟨n, r, _, q2, _, n', q4, q5⟩ := lead x hx
      refine ⟨n', _, q4, ?_, q5⟩
      split
      · exact hc
      · exact q2
    · obtain ⟨n1, r1, _, _, x3, n1', _, x5⟩ := lead x hx
      obtain ⟨n2, r2, _, _, y3, n2', _, y5⟩ := lead y hy
      have er := u.fn x5
      have es := v.fn y5
      rw [er, es, cn_snoc]
      have k0 := h.2 x hx y hy _ _ _ _ x3 y3
      have kxa := h.2 x hx _ hfa _ _ _ _ x3 ua
      have kxc := h.2 x hx _ hfc _ _ _ _ x3 uc
      have kay := h.2 _ hfa y hy _ _ _ _ ua y3
      have kcy := h.2 _ hfc y hy _ _ _ _ uc y3
      rw [← k0, ← kxa, ← kxc, ← kay, ← kcy]
      simp only [hf, true_and]
      by_cases z1 : r1 = a <;> by_cases z2 : r2 = a <;> simp only [z1, z2, if_true, if_false] <;> constructor
      all_goals first
        | (intro w; simp_all; done)
        | (intro w; rcases w with w | ⟨w1, w2⟩ | ⟨w1, w2⟩ <;> simp_all; done)
        | (intro w; subst w; simp_all; done)
        | (intro w; right; simp_all [eq_comm]; done)
        | (intro w; rcases w with w | ⟨w1, w2⟩ | ⟨w1, w2⟩ <;> (subst_vars; simp_all [eq_comm]); done)
/-! ### groups of a list -/
def frs (r : Str → Str → Bool) : List Str → List Str → List Str
  | acc, [] => acc
  | acc, x :: l => frs r (if acc.any (fun c => r c x) = true then acc else acc ++ [x]) l
theorem frs_snoc (r : Str → Str → Bool) (x : Str) : ∀ (l acc : List Str), frs r acc (l ++ [x]) = if (frs r acc l).any (fun c => r c x) = true then frs r acc l else frs r acc l ++ [x]
  | [], _ => rfl
  | _ :: l, _ => frs_snoc r x l _
theorem frs_mem (r : Str → Str → Bool) : ∀ (l acc : List Str) {x : Str}, x ∈ frs r acc l → x ∈ acc ∨ x ∈ l
  | [], _, _, h => .inl h
  | y :: l, acc, x, h => by
    rcases frs_mem r l _ h with z | z
    · split at z
      · exact .inl z
      · rcases List.mem_append.mp z with z | z
        · exact .inl z
        · rw [List.mem_singleton.mp z]
          exact .inr List.mem_cons_self
    · exact .inr (List.mem_cons_of_mem _ z)
/-- the groups of C by r -/
def Bl (r : Str → Str → Bool) (C : List Str) : List (List Str) := (frs r [] C).map fun c => C.filter (r c)
theorem Bl_ne {r : Str → Str → Bool} {C : List Str} (h : ∀ c ∈ C, r c c = true) : ∀ b ∈ Bl r C, 0 < b.length := fun b hb => by
  obtain ⟨c, hc, rfl⟩ := List.mem_map.mp hb
  rcases frs_mem r C [] hc with z | z
  · cases z
  · exact List.length_pos_of_mem (List.mem_filter.mpr ⟨z, h c z⟩)
theorem frs_cover {r : Str → Str → Bool} : ∀ (l acc : List Str) {x : Str}, x ∈ l → ∃ c ∈ frs r acc l, r c x = true ∨ c = x
  | y :: l, acc, x, h => by
    have keep : ∀ (l acc : List Str) {c : Str}, c ∈ acc → c ∈ frs r acc l := fun l => by
      induction l with
      | nil => exact fun acc c h => h
      | cons z l ih =>
        intro acc c h
        refine ih _ ?_
        split
        · exact h
        · exact List.mem_append_left _ h
    rcases List.mem_cons.mp h with e | e
    · subst e
      show ∃ c ∈ frs r (if acc.any (fun c => r c x) = true then acc else acc ++ [x]) l, _
      by_cases z : acc.any (fun c => r c x) = true
      · rw [if_pos z]
        obtain ⟨c, hc, q⟩ := List.any_eq_true.mp z
        exact ⟨c, keep l _ hc, .inl q⟩
      · rw [if_neg z]
        exact ⟨x, keep l _ (List.mem_append_right _ (List.mem_singleton.mpr rfl)), .inr rfl⟩
    · exact frs_cover l _ e
end GC

/-! blocks_of and the law's own groups: the same -/
namespace MS
open FK
end MS
namespace GC
open PySem PySem.StrLaws TL L2 FK MS
/-- the blocks of a book with the cards C -/
noncomputable def Blocks (bk : List F3) (C : List Str) : List (List Str) := Bl (fun x y => dec (Cn bk x y)) C
end GC

namespace GE
open PySem PySem.StrLaws TL L2 FK MS GC
open G (m_cards_of)
def b_blocks_of_1 (parents_1 : (Dct Str Str)) (s16 : (Dct Str (List Str))) (x17 : Str) : (Option (Dct Str (List Str))) := (Option.bind (Option.bind (m_root_of (parents_1, (x17, ()))) fun (t19 : Str) => Option.bind (some x17) fun (t20 : Str) => (ddApp s16 t19 t20)) fun (found_18 : (Dct Str (List Str))) => (some found_18))
def b_blocks_of_2 (parents_1 : (Dct Str Str)) (g : ((List (T3 Str Str Str)) × Unit)) (s2 : Unit) (x3 : (T3 Str Str Str)) : (Option (Fl Unit (Rs (List (List Str))))) := (ifM (bAnd (some (decide (x3.b = ("apart" : Str)))) (Option.bind (m_root_of (parents_1, (x3.a, ()))) fun (t7 : Str) => Option.bind (m_root_of (parents_1, (x3.c, ()))) fun (t8 : Str) => some (decide (t7 = t8)))) (Option.bind (Option.bind (Option.bind (Option.bind (m_chain_of (g.1, (x3.a, (x3.c, ())))) fun (t9 : (Option (List Str))) => t9) fun (t10 : (List Str)) => some (⟨("Odds" : Str), Pd.pl ("chain" : Str) t10⟩ : Xv)) fun (t11 : Xv) => some (Rs.ex t11 : (Rs (List (List Str))))) fun (t12 : (Rs (List (List Str)))) => some (Fl.rt t12)) (some (Fl.nx ())))
def m_blocks_of : (List (T3 Str Str Str)) × Unit → Option (Rs (List (List Str))) := fun (g : (List (T3 Str Str Str)) × Unit) => (Option.bind (m_parents_of (g.1, ())) fun (parents_1 : (Dct Str Str)) => (thenF (S := Unit) (ρ := (Rs (List (List Str)))) (Option.bind (some g.1) fun (xs13 : List (T3 Str Str Str)) => forF (S := Unit) (ρ := (Rs (List (List Str)))) (b_blocks_of_2 parents_1 g) xs13 ()) (fun (s14 : Unit) => (Option.bind (some (⟨[]⟩ : (Dct Str (List Str)))) fun (found_15 : (Dct Str (List Str))) => (Option.bind (Option.bind (m_cards_of (g.1, ())) fun (xs21 : List Str) => forS (S := (Dct Str (List Str))) (b_blocks_of_1 parents_1) xs21 found_15) fun (s22 : (Dct Str (List Str))) => (Option.bind (Option.bind (some ((⟨s22.l⟩ : Kd Str (List Str)).l.map (·.2))) fun (xs24 : List (List Str)) => lcG (fun (x23 : (List Str)) => (some true)) (fun (x23 : (List Str)) => (some x23)) xs24) fun (t25 : (List (List Str))) => some (Rs.ok t25))))) (fun v => some v) (fun _ => none) (fun _ => none)))
end GE

/-! blocks, or the refusal Odds -/
namespace GE
open PySem PySem.StrLaws TL L2 FK MS GC
/-- a fact by which the book is at odds -/
noncomputable def bad (bk : List F3) (f : F3) : Bool := decide (f.b = "apart") && dec (Cn bk f.a f.c)
theorem bad_iff {bk : List F3} {f : F3} : bad bk f = true ↔ f.b = "apart" ∧ Cn bk f.a f.c := by
  unfold bad
  rw [Bool.and_eq_true, decide_eq_true_iff]
  exact and_congr Iff.rfl ⟨fun h => Classical.byContradiction fun z => (by rw [dec_f z] at h; cases h), dec_t⟩
section
variable {bk : List F3} {C : List Str} {P : Dct Str Str}
theorem step_eq (hC : CardsIs bk C) (hb : bk.length ≤ 1000) (hP : Led C bk bk.length P.l) {f : F3} (fin : f ∈ bk) : b_blocks_of_2 P (bk, ()) () f = if bad bk f = true then (Option.bind (GC.m_chain_of (bk, (f.a, (f.c, ())))) fun t => t.bind fun p => some (Fl.rt (Rs.ex ⟨"Odds", Pd.pl "chain" p⟩))) else some (.nx ()) := by
  unfold b_blocks_of_2
  by_cases ha : f.b = "apart"
  · have ma : f.a ∈ C := (hC.2 _).mpr ⟨f, fin, .inl rfl⟩
    have mc : f.c ∈ C := (hC.2 _).mpr ⟨f, fin, .inr ⟨.inr ha, rfl⟩⟩
    obtain ⟨n, a, a1, a2, a3⟩ := hP.1 _ ma
    obtain ⟨m, c, c1, c2, c3⟩ := hP.1 _ mc
    rw [root_ok a3 (by omega), root_ok c3 (by omega)]
    simp only [bs]
    rw [decide_eq_true ha, and_t]
    have e : (a = c) ↔ Cn bk f.a f.c := hP.2 _ ma _ mc _ _ _ _ a3 c3
    by_cases h : Cn bk f.a f.c
    · rw [decide_eq_true (e.mpr h), if_t, if_pos (bad_iff.mpr ⟨ha, h⟩)]
      simp only [Option.bind_assoc, bs]
    · rw [decide_eq_false fun z => h (e.mp z), if_f, if_neg fun z => h (bad_iff.mp z).2]
  · rw [decide_eq_false ha, and_f, if_f, if_neg fun z => ha (bad_iff.mp z).1]
end
/-- what is known of a book of these cards -/
structure Kn (bk : List F3) (C : List Str) (d : Dct Str Str) : Prop where
  cards : G.m_cards_of (bk, ()) = some C
  is : CardsIs bk C
  len : C.length ≤ 10
  lab : GC.m__law_labels (bk, ()) = some d
  dl : d.l.length ≤ 10
  keys : srt (keys d) = C
  lb : LB bk d
  has : ∀ p ∈ bk, p.a ∈ GC.keys d ∧ (p.b = "apart" → p.c ∈ GC.keys d)
  ed : ∀ x y, Ed bk x y → y ∈ C
  due : GC.m__law_due (d, ()) = some (Blocks bk C)
/-! ### the cards' order -/
def Pre (c : Int) : List Nat := tl (Txt.mul ("q" : Str) (c / 11 % (1 + c % 11)))
theorem card_eq (c k : Int) (h0 : 0 ≤ k) (h1 : k < 10) : ∃ S, m__law_card (c, (k, ())) = some (mks (Pre c ++ (97 + k.toNat) :: S)) := by
  obtain ⟨z, ez, _⟩ := card_ok c k h0 h1
  have hm : 0 < (1 : Int) + c % 11 := by omega
  have key : Ok (m__law_card (c, (k, ()))) fun z => ∃ S, z = mks (Pre c ++ (97 + k.toNat) :: S) := by
    unfold m__law_card
    simp only [bs, bsr, Option.bind_assoc]
    refine (okMod hm).bind fun a ha => ?_
    obtain ⟨ea, a0, a1⟩ := ha
    have q1 : ("q" : Str).length ≤ 4000 := by decide
    have e1 : sMul ("q" : Str) a = some (Txt.mul ("q" : Str) a) := if_pos ⟨q1, by omega, by omega⟩
    rw [e1]
    simp only [bs]
    obtain ⟨n, rfl⟩ := Int.eq_ofNat_of_zero_le h0
    have hn : n < 10 := by omega
    have tj : tl ("abcdefghij" : Str) = List.range' 97 10 := by decide +kernel
    have hl0 : n < (tl ("abcdefghij" : Str)).length := by rw [tj, List.length_range']; exact hn
    have en : (tl ("abcdefghij" : Str))[n] = 97 + n := by
      have : ∀ (l : List Nat) (h : n < l.length), l = List.range' 97 10 → l[n] = 97 + n := fun l h e => by
        subst e
        rw [List.getElem_range']
        omega
      exact this _ hl0 tj
    rw [sAt_nat _ n hl0 (by decide), en]
    simp only [bs]
    have hl := mul_len a (by omega)
    refine (okAdd (by show _ + 1 ≤ _; omega)).bind fun y hy => ?_
    refine (okMul (.inr (by omega))).bind fun m hm2 => ?_
    have hm3 : m ≤ 1 ∧ 0 ≤ m := by
      rw [hm2]
      have h2 : c / 121 % 2 = 0 ∨ c / 121 % 2 = 1 := by omega
      have h3 : (n : Int) % 2 = 0 ∨ (n : Int) % 2 = 1 := by omega
      rcases h2 with h2 | h2 <;> rcases h3 with h3 | h3 <;> rw [h2, h3] <;> decide
    have e2 : sMul ("q" : Str) ((1 : Int) + c % 11 - 1 - a + m) = some (Txt.mul ("q" : Str) ((1 : Int) + c % 11 - 1 - a + m)) := if_pos ⟨q1, by omega, by omega⟩
    rw [e2]
    simp only [bs]
    have hl2 := mul_len ((1 : Int) + c % 11 - 1 - a + m) (by omega)
    refine (okAdd (by rw [hy.2]; show _ + 1 + _ ≤ _; omega)).mono fun z hz => ⟨tl (Txt.mul ("q" : Str) ((1 : Int) + c % 11 - 1 - a + m)), ?_⟩
    rw [hz.1, hy.1, ea]
    refine ext_tl ?_
    rw [tl_append, tl_append]
    show tl _ ++ [97 + n] ++ _ = Pre c ++ (97 + n) :: _
    rw [List.append_assoc]
    rfl
  obtain ⟨z', e', S, hS⟩ := key
  exact ⟨S, by rw [e', hS]⟩
theorem lt_app : ∀ (P : List Nat) {x y : Nat} {r s : List Nat}, x < y → P ++ x :: r < P ++ y :: s
  | [], x, y, r, s, h => List.cons_lt_cons_iff.mpr (.inl h)
  | p :: P, x, y, r, s, h => List.cons_lt_cons_iff.mpr (.inr ⟨rfl, lt_app P h⟩)
theorem card_lt {c i j : Int} (h0 : 0 ≤ i) (hij : i < j) (hj : j < 10) {x y : Str} (hx : m__law_card (c, (i, ())) = some x) (hy : m__law_card (c, (j, ())) = some y) : sLt x y = true := by
  obtain ⟨S, e⟩ := card_eq c i h0 (by omega)
  obtain ⟨T, e2⟩ := card_eq c j (by omega) hj
  rw [hx] at e
  rw [hy] at e2
  cases e
  cases e2
  exact decide_eq_true (lt_app (Pre c) (show 97 + i.toNat < 97 + j.toNat by omega))
end GE

/-! the weights of a book -/
namespace GC
open PySem PySem.StrLaws TL L2 FK MS GT
open GW (Fc T wt sy KIND meet oth nr pl meet_iff bool_ext weight_eq)
def wl (rs : List Ru) (bk : List Fc) : List Str → List (T3 Str Str Int)
  | [] => []
  | a :: r => (r.filterMap fun b => if wt rs bk a b = 0 then none else some ⟨a, b, wt rs bk a b⟩) ++ wl rs bk r
section
variable {rs : List Ru} {bk : List Fc} (hk : ∀ r ∈ rs, KIND r.c) (hl : rs.length ≤ 1000) (hz : bk.length ≤ 100) (ht : ∀ g ∈ bk, TX 200 g.c)
include hk hl hz ht
end
/-! ### alike books -/
section
variable {bk bk2 : List Fc} (h : ∀ x, x ∈ bk ↔ x ∈ bk2)
include h
omit h in
theorem meet_congr {A B A2 B2 : List Str} (h1 : ∀ x, x ∈ A ↔ x ∈ A2) (h2 : ∀ x, x ∈ B ↔ x ∈ B2) : meet A B = meet A2 B2 := bool_ext (by
  rw [meet_iff, meet_iff]
  exact exists_congr fun x => and_congr (h1 x) (h2 x))
omit h in
theorem nil_congr {A A2 : List Str} (h1 : ∀ x, x ∈ A ↔ x ∈ A2) : (A = []) ↔ (A2 = []) := by
  rw [List.eq_nil_iff_forall_not_mem, List.eq_nil_iff_forall_not_mem]
  exact forall_congr' fun x => not_congr (h1 x)
omit h in
theorem anyany_congr {A B A2 B2 : List Str} (P : Str → Str → Bool) (h1 : ∀ x, x ∈ A ↔ x ∈ A2) (h2 : ∀ x, x ∈ B ↔ x ∈ B2) : (A.any fun x => B.any (P x)) = A2.any fun x => B2.any (P x) := bool_ext (by
  simp only [List.any_eq_true]
  exact exists_congr fun x => and_congr (h1 x) (exists_congr fun y => and_congr (h2 y) Iff.rfl))
end
end GC

namespace GK
open PySem PySem.StrLaws TL L2 FK MS
open G (m__law_stream m_cards_of)
open GE (m_blocks_of)
open GC (m_weights_of)
open GW (m_weight_of)
def b_places_of_1 (x3 : (Int × (List Str))) (s6 : (Dct Str Int)) (x7 : Str) : (Option (Dct Str Int)) := (Option.bind (Option.bind (some x3.1) fun (t9 : Int) => Option.bind (some x7) fun (t10 : Str) => (dSet s6 t10 t9)) fun (places_8 : (Dct Str Int)) => (some places_8))
def b_places_of_2  (s2 : (Dct Str Int)) (x3 : (Int × (List Str))) : (Option (Dct Str Int)) := (Option.bind (Option.bind (some x3.2) fun (xs11 : List Str) => forS (S := (Dct Str Int)) (b_places_of_1 x3) xs11 s2) fun (s12 : (Dct Str Int)) => (some s12))
def m_places_of : (List (List Str)) × Unit → Option (Dct Str Int) := fun (g : (List (List Str)) × Unit) => (Option.bind (some (⟨[]⟩ : (Dct Str Int))) fun (places_1 : (Dct Str Int)) => (Option.bind (Option.bind (some (enumL g.1)) fun (xs13 : List (Int × (List Str))) => forS (S := (Dct Str Int)) (b_places_of_2) xs13 places_1) fun (s14 : (Dct Str Int)) => (some s14)))
def m_ordered : Int × Int × Unit → Option (Int × Int) := fun (g : Int × Int × Unit) => (some ((imin2 g.1 g.2.1), (imax2 g.1 g.2.1)))
def b_book_case_1 (places_3 : (Dct Str Int)) (x33 : (T3 Str Str Str)) : (Option (Int × Int)) := (Option.bind (Option.bind (dGet places_3.l x33.a) fun (t36 : Int) => Option.bind (Option.bind (dGet places_3.l x33.c) fun (t34 : Int) => Option.bind (some ()) fun (t35 : Unit) => some (t34, t35)) fun (t37 : (Int × Unit)) => some (t36, t37)) m_ordered)
def b_book_case_2 (s19 : (Dct (Int × Int) Int)) (s21 : (List (T3 Int Int Int))) (x22 : (Int × Int)) : (Option (List (T3 Int Int Int))) := (ifM (bAnd (some (!decide (x22.1 = x22.2))) (Option.bind (dGet s19.l x22) fun (t23 : Int) => Option.bind (some (0 : Int)) fun (t24 : Int) => some (!decide (t23 = t24)))) (Option.bind (Option.bind (Option.bind (some x22.1) fun (t25 : Int) => Option.bind (some x22.2) fun (t26 : Int) => Option.bind (dGet s19.l x22) fun (t27 : Int) => some (⟨t25, t26, t27⟩ : (T3 Int Int Int))) fun (t29 : (T3 Int Int Int)) => (lApp s21 t29)) fun (pairs_28 : (List (T3 Int Int Int))) => (some pairs_28)) (some s21))
def b_book_case_3 (places_3 : (Dct Str Int)) (s5 : (Dct (Int × Int) Int)) (x6 : (T3 Str Str Int)) : (Option (Dct (Int × Int) Int)) := (Option.bind (Option.bind (Option.bind (dGet places_3.l x6.a) fun (t13 : Int) => Option.bind (Option.bind (dGet places_3.l x6.b) fun (t11 : Int) => Option.bind (some ()) fun (t12 : Unit) => some (t11, t12)) fun (t14 : (Int × Unit)) => some (t13, t14)) m_ordered) fun (pair_10 : (Int × Int)) => (Option.bind (Option.bind (some (((dGet s5.l pair_10).getD (0 : Int)) + x6.c)) fun (t16 : Int) => Option.bind (some pair_10) fun (t17 : (Int × Int)) => (dSet s5 t17 t16)) fun (sums_15 : (Dct (Int × Int) Int)) => (some sums_15)))
def m_book_case : (List Ru) × (List (T3 Str Str Str)) × Unit → Option (Rs (T3 Int (List (T3 Int Int Int)) (List (Int × Int)))) := fun (g : (List Ru) × (List (T3 Str Str Str)) × Unit) => (thenF (S := (List (List Str))) (ρ := (Rs (T3 Int (List (T3 Int Int Int)) (List (Int × Int))))) (Option.bind (m_blocks_of (g.2.1, ())) fun (t2 : Rs (List (List Str))) => some t2.fl) (fun (blocks_1 : (List (List Str))) => (Option.bind (m_places_of (blocks_1, ())) fun (places_3 : (Dct Str Int)) => (Option.bind (some (⟨[]⟩ : (Dct (Int × Int) Int))) fun (sums_4 : (Dct (Int × Int) Int)) => (Option.bind (Option.bind (m_weights_of (g.1, (g.2.1, ()))) fun (xs18 : List (T3 Str Str Int)) => forS (S := (Dct (Int × Int) Int)) (b_book_case_3 places_3) xs18 sums_4) fun (s19 : (Dct (Int × Int) Int)) => (Option.bind (some ([] : (List (T3 Int Int Int)))) fun (pairs_20 : (List (T3 Int Int Int))) => (Option.bind (Option.bind (sSort (s19.l.map (·.1))) fun (xs30 : List (Int × Int)) => forS (S := (List (T3 Int Int Int))) (b_book_case_2 s19) xs30 pairs_20) fun (s31 : (List (T3 Int Int Int))) => (Option.bind (Option.bind (some g.2.1) fun (xs38 : List (T3 Str Str Str)) => lcG (fun (x33 : (T3 Str Str Str)) => (some (decide (x33.b = ("apart" : Str))))) (b_book_case_1 places_3) xs38) fun (aparts_32 : (List (Int × Int))) => (Option.bind (Option.bind (some (blocks_1.length : Int)) fun (t39 : Int) => Option.bind (some s31) fun (t40 : (List (T3 Int Int Int))) => Option.bind (tdy aparts_32) fun (t41 : (List (Int × Int))) => some (⟨t39, t40, t41⟩ : (T3 Int (List (T3 Int Int Int)) (List (Int × Int))))) fun (t42 : (T3 Int (List (T3 Int Int Int)) (List (Int × Int)))) => some (Rs.ok t42))))))))) (fun v => some v) (fun _ => none) (fun _ => none))
def b__law_book_1 (g : ((List Int) × (List Str) × Int × Unit)) (fields_1 : (List Str)) (s3 : (List (T3 Str Str Str))) (x4 : Int) : (Option (List (T3 Str Str Str))) := (Option.bind (m__law_stream (x4, ((3 : Int), ()))) fun (draws_5 : (List Int)) => (Option.bind (Option.bind (some g.2.1) fun (t9 : (List Str)) => Option.bind (Option.bind (atI draws_5 (0 : Int)) fun (t7 : Int) => Option.bind (some (g.2.1.length : Int)) fun (t8 : Int) => (imod t7 t8)) fun (t10 : Int) => (atI t9 t10)) fun (card_6 : Str) => (Option.bind (Option.bind (some g.2.1) fun (t14 : (List Str)) => Option.bind (Option.bind (atI draws_5 (1 : Int)) fun (t12 : Int) => Option.bind (some (g.2.1.length : Int)) fun (t13 : Int) => (imod t12 t13)) fun (t15 : Int) => (atI t14 t15)) fun (other_11 : Str) => (Option.bind (Option.bind (some card_6) fun (t28 : Str) => Option.bind (Option.bind (some fields_1) fun (t22 : (List Str)) => Option.bind (Option.bind (Option.bind (some g.2.2.1) fun (t19 : Int) => Option.bind (Option.bind (Option.bind (atI draws_5 (2 : Int)) fun (t17 : Int) => some (t17 / 6)) fun (t18 : Int) => some (t18 % 2)) fun (t20 : Int) => some (t19 + t20)) fun (t21 : Int) => some (t21 % 5)) fun (t23 : Int) => (atI t22 t23)) fun (t29 : Str) => Option.bind (Option.bind (some [("Bo" : Str), ("bo 1" : Str), ("~" : Str)]) fun (t26 : (List Str)) => Option.bind (Option.bind (Option.bind (atI draws_5 (2 : Int)) fun (t24 : Int) => some (t24 / 12)) fun (t25 : Int) => some (t25 % 3)) fun (t27 : Int) => (atI t26 t27)) fun (t30 : Str) => some (⟨t28, t29, t30⟩ : (T3 Str Str Str))) fun (fact_16 : (T3 Str Str Str)) => (Option.bind (ifM (bAnd (Option.bind (Option.bind (atI draws_5 (2 : Int)) fun (t31 : Int) => some (t31 % 6)) fun (t32 : Int) => Option.bind (some (2 : Int)) fun (t33 : Int) => some (decide (t32 < t33))) (some (!decide (card_6 = other_11)))) (Option.bind (Option.bind (some (smin card_6 other_11)) fun (t39 : Str) => Option.bind (Option.bind (some [("same" : Str), ("apart" : Str)]) fun (t37 : (List Str)) => Option.bind (Option.bind (atI draws_5 (2 : Int)) fun (t36 : Int) => some (t36 % 6)) fun (t38 : Int) => (atI t37 t38)) fun (t40 : Str) => Option.bind (some (smax card_6 other_11)) fun (t41 : Str) => some (⟨t39, t40, t41⟩ : (T3 Str Str Str))) fun (fact_35 : (T3 Str Str Str)) => (some fact_35)) (some fact_16)) fun (s34 : (T3 Str Str Str)) => (ifM (some (!decide (s34 ∈ s3))) (Option.bind (Option.bind (some s34) fun (t43 : (T3 Str Str Str)) => (lApp s3 t43)) fun (facts_42 : (List (T3 Str Str Str))) => (some facts_42)) (some s3)))))))
def m__law_book : (List Int) × (List Str) × Int × Unit → Option (List (T3 Str Str Str)) := fun (g : (List Int) × (List Str) × Int × Unit) => (Option.bind (some [("name" : Str), ("former" : Str), ("way" : Str), ("day" : Str), ("mark" : Str)]) fun (fields_1 : (List Str)) => (Option.bind (some ([] : (List (T3 Str Str Str)))) fun (facts_2 : (List (T3 Str Str Str))) => (Option.bind (Option.bind (some g.1) fun (xs44 : List Int) => forS (S := (List (T3 Str Str Str))) (b__law_book_1 g fields_1) xs44 facts_2) fun (s45 : (List (T3 Str Str Str))) => (sSort s45))))
def b__law_rows_1 (g : (Int × Int × Unit)) (s2 : (List (Int × Str))) (x3 : Int) : (Option (List (Int × Str))) := (Option.bind (some (((x3 * 48271) % (1000000000 : Int)) + (1 : Int))) fun (weight_here_4 : Int) => (Option.bind (ifM (some (decide (((x3 / 20) % 2) = (1 : Int)))) (Option.bind (some ((0 : Int) - weight_here_4)) fun (weight_here_6 : Int) => (some weight_here_6)) (some weight_here_4)) fun (s5 : Int) => (Option.bind (ifM (some (decide (((x3 / 40) % 4) = (0 : Int)))) (Option.bind (atI [(1 : Int), (-(1 : Int))] ((x3 / 160) % 2)) fun (weight_here_8 : Int) => (some weight_here_8)) (some s5)) fun (s7 : Int) => (Option.bind (Option.bind (Option.bind (some s7) fun (t9 : Int) => Option.bind (atI [("name" : Str), ("former" : Str), ("way" : Str), ("day" : Str), ("mark" : Str)] ((g.2.1 + (x3 % 2)) % 5)) fun (t10 : Str) => some (t9, t10)) fun (t12 : (Int × Str)) => (lApp s2 t12)) fun (rows_here_11 : (List (Int × Str))) => (some rows_here_11)))))
def m__law_rows : Int × Int × Unit → Option (List (Int × Str)) := fun (g : Int × Int × Unit) => (Option.bind (some ([] : (List (Int × Str)))) fun (rows_here_1 : (List (Int × Str))) => (Option.bind (Option.bind (m__law_stream (g.1, ((g.1 % 7), ()))) fun (xs13 : List Int) => forS (S := (List (Int × Str))) (b__law_rows_1 g) xs13 rows_here_1) fun (s14 : (List (Int × Str))) => (some s14)))
def b__law_at_1 (g : ((List (List Str)) × Str × Unit)) (s1 : Unit) (x2 : Int) : (Option (Fl Unit Int)) := (ifM (Option.bind (some g.2.1) fun (t3 : Str) => Option.bind (atI g.1 x2) fun (t4 : (List Str)) => some (decide (t3 ∈ t4))) (some (Fl.rt x2)) (some (Fl.nx ())))
def m__law_at : (List (List Str)) × Str × Unit → Option Int := fun (g : (List (List Str)) × Str × Unit) => (thenF (S := Unit) (ρ := Int) (Option.bind (range1 (g.1.length : Int)) fun (xs5 : List Int) => forF (S := Unit) (ρ := Int) (b__law_at_1 g) xs5 ()) (fun (s6 : Unit) => (some (-(1 : Int)))) (fun v => some v) (fun _ => none) (fun _ => none))
def b__law_weight_1 (g : ((List (Int × Str)) × (List (T3 Str Str Str)) × Str × Str × Unit)) (x3 : (Int × Str)) (mine_6 : (List Str)) (x9 : (T3 Str Str Str)) : (Option Bool) := (bAnd (some (decide (x9.a = g.2.2.2.1))) (bAnd (some (decide (x9.b = x3.2))) (some (decide (x9.c ∈ mine_6)))))
def b__law_weight_2 (g : ((List (Int × Str)) × (List (T3 Str Str Str)) × Str × Str × Unit)) (x3 : (Int × Str)) (x7 : (T3 Str Str Str)) : (Option Bool) := (bAnd (some (decide (x7.a = g.2.2.1))) (some (decide (x7.b = x3.2))))
def b__law_weight_3 (g : ((List (Int × Str)) × (List (T3 Str Str Str)) × Str × Str × Unit)) (s2 : Int) (x3 : (Int × Str)) : (Option Int) := (Option.bind (Option.bind (some g.2.1) fun (xs8 : List (T3 Str Str Str)) => lcG (b__law_weight_2 g x3) (fun (x7 : (T3 Str Str Str)) => (some x7.c)) xs8) fun (mine_6 : (List Str)) => (ifM (Option.bind (Option.bind (some g.2.1) fun (xs10 : List (T3 Str Str Str)) => lcG (fun (x9 : (T3 Str Str Str)) => (some true)) (b__law_weight_1 g x3 mine_6) xs10) fun (t11 : (List Bool)) => some (t11.any id)) (Option.bind (some (s2 + x3.1)) fun (weight_here_12 : Int) => (some weight_here_12)) (some s2)))
def m__law_weight : (List (Int × Str)) × (List (T3 Str Str Str)) × Str × Str × Unit → Option Int := fun (g : (List (Int × Str)) × (List (T3 Str Str Str)) × Str × Str × Unit) => (Option.bind (some (0 : Int)) fun (weight_here_1 : Int) => (Option.bind (Option.bind (some g.1) fun (xs13 : List (Int × Str)) => forS (S := Int) (b__law_weight_3 g) xs13 weight_here_1) fun (s14 : Int) => (some s14)))
def b__law_due_1 (g : ((List (Int × Str)) × (List (T3 Str Str Str)) × (List (List Str)) × Unit)) (s24 : (List (Int × Int))) (x25 : (T3 Str Str Str)) : (Option (List (Int × Int))) := (ifM (some (decide (x25.b = ("apart" : Str)))) (Option.bind (m__law_at (g.2.2.1, (x25.a, ()))) fun (i_26 : Int) => (Option.bind (m__law_at (g.2.2.1, (x25.c, ()))) fun (j_27 : Int) => (Option.bind (Option.bind (some ((imin2 i_26 j_27), (imax2 i_26 j_27))) fun (t29 : (Int × Int)) => (lApp s24 t29)) fun (aparts_28 : (List (Int × Int))) => (some aparts_28)))) (some s24))
def b__law_due_2 (g : ((List (Int × Str)) × (List (T3 Str Str Str)) × (List (List Str)) × Unit)) (x3 : Int) (s7 : Int) (x8 : Str) : (Option Int) := (Option.bind (Option.bind (some s7) fun (t13 : Int) => Option.bind (Option.bind (Option.bind (atI g.2.2.1 x3) fun (xs11 : List Str) => lcG (fun (x10 : Str) => (some true)) (fun (x10 : Str) => (m__law_weight (g.1, (g.2.1, (x8, (x10, ())))))) xs11) fun (t12 : (List Int)) => some (List.sum t12)) fun (t14 : Int) => some (t13 + t14)) fun (weight_here_9 : Int) => (some weight_here_9))
def b__law_due_3 (g : ((List (Int × Str)) × (List (T3 Str Str Str)) × (List (List Str)) × Unit)) (x3 : Int) (s4 : (List (T3 Int Int Int))) (x5 : Int) : (Option (List (T3 Int Int Int))) := (Option.bind (some (0 : Int)) fun (weight_here_6 : Int) => (Option.bind (Option.bind (atI g.2.2.1 x5) fun (xs15 : List Str) => forS (S := Int) (b__law_due_2 g x3) xs15 weight_here_6) fun (s16 : Int) => (ifM (some (!decide (s16 = (0 : Int)))) (Option.bind (Option.bind (some (⟨x5, x3, s16⟩ : (T3 Int Int Int))) fun (t18 : (T3 Int Int Int)) => (lApp s4 t18)) fun (pairs_17 : (List (T3 Int Int Int))) => (some pairs_17)) (some s4))))
def b__law_due_4 (g : ((List (Int × Str)) × (List (T3 Str Str Str)) × (List (List Str)) × Unit)) (s2 : (List (T3 Int Int Int))) (x3 : Int) : (Option (List (T3 Int Int Int))) := (Option.bind (Option.bind (range1 x3) fun (xs19 : List Int) => forS (S := (List (T3 Int Int Int))) (b__law_due_3 g x3) xs19 s2) fun (s20 : (List (T3 Int Int Int))) => (some s20))
def m__law_due : (List (Int × Str)) × (List (T3 Str Str Str)) × (List (List Str)) × Unit → Option (T3 Int (List (T3 Int Int Int)) (List (Int × Int))) := fun (g : (List (Int × Str)) × (List (T3 Str Str Str)) × (List (List Str)) × Unit) => (Option.bind (some ([] : (List (T3 Int Int Int)))) fun (pairs_1 : (List (T3 Int Int Int))) => (Option.bind (Option.bind (range1 (g.2.2.1.length : Int)) fun (xs21 : List Int) => forS (S := (List (T3 Int Int Int))) (b__law_due_4 g) xs21 pairs_1) fun (s22 : (List (T3 Int Int Int))) => (Option.bind (some ([] : (List (Int × Int)))) fun (aparts_23 : (List (Int × Int))) => (Option.bind (Option.bind (some g.2.1) fun (xs30 : List (T3 Str Str Str)) => forS (S := (List (Int × Int))) (b__law_due_1 g) xs30 aparts_23) fun (s31 : (List (Int × Int))) => (Option.bind (some (g.2.2.1.length : Int)) fun (t32 : Int) => Option.bind (sSort s22) fun (t33 : (List (T3 Int Int Int))) => Option.bind (tdy s31) fun (t34 : (List (Int × Int))) => some (⟨t32, t33, t34⟩ : (T3 Int (List (T3 Int Int Int)) (List (Int × Int)))))))))
end GK

namespace GK
open PySem PySem.StrLaws TL L2 FK MS
open G (m__law_stream m_cards_of)
open GE (m_blocks_of)
def b__law_blocks_1 (s19 : (List Str)) (x21 : (List Str)) : (Option Bool) := (Option.bind (atI x21 (0 : Int)) fun (t22 : Str) => Option.bind (some s19) fun (t23 : (List Str)) => some (!decide (t22 ∈ t23)))
def b__law_blocks_2 (x12 : (T3 Str Str Str)) (s14 : (List Str)) (x15 : (List Str)) : (Option (List Str)) := (ifM (bOr (some (decide (x12.a ∈ x15))) (some (decide (x12.c ∈ x15)))) (Option.bind (Option.bind (some x15) fun (t17 : (List Str)) => (lCat s14 t17)) fun (joined_16 : (List Str)) => (some joined_16)) (some s14))
def b__law_blocks_3  (s11 : (List (List Str))) (x12 : (T3 Str Str Str)) : (Option (List (List Str))) := (ifM (some (decide (x12.b = ("same" : Str)))) (Option.bind (some ([] : (List Str))) fun (joined_13 : (List Str)) => (Option.bind (Option.bind (some s11) fun (xs18 : List (List Str)) => forS (S := (List Str)) (b__law_blocks_2 x12) xs18 joined_13) fun (s19 : (List Str)) => (Option.bind (Option.bind (Option.bind (some s11) fun (xs24 : List (List Str)) => lcG (b__law_blocks_1 s19) (fun (x21 : (List Str)) => (some x21)) xs24) fun (t27 : (List (List Str))) => Option.bind (Option.bind (sSort s19) fun (t25 : (List Str)) => Option.bind (some ([] : List (List Str))) fun (t26 : List (List Str)) => some (t25 :: t26)) fun (t28 : (List (List Str))) => (lCat t27 t28)) fun (blocks_here_20 : (List (List Str))) => (some blocks_here_20)))) (some s11))
def m__law_blocks : (List (T3 Str Str Str)) × Unit → Option (List (List Str)) := fun (g : (List (T3 Str Str Str)) × Unit) => (Option.bind (Option.bind (Option.bind (some g.1) fun (xs3 : List (T3 Str Str Str)) => lcG (fun (x2 : (T3 Str Str Str)) => (some true)) (fun (x2 : (T3 Str Str Str)) => (some x2.a)) xs3) fun (t6 : (List Str)) => Option.bind (Option.bind (some g.1) fun (xs5 : List (T3 Str Str Str)) => lcG (fun (x4 : (T3 Str Str Str)) => (some (decide (x4.b ∈ (⟨[("same" : Str), ("apart" : Str)]⟩ : (Tl Str)).l)))) (fun (x4 : (T3 Str Str Str)) => (some x4.c)) xs5) fun (t7 : (List Str)) => (lCat t6 t7)) fun (cards_here_1 : (List Str)) => (Option.bind (Option.bind (tdyS cards_here_1) fun (xs10 : List Str) => lcG (fun (x9 : Str) => (some true)) (fun (x9 : Str) => (some [x9])) xs10) fun (blocks_here_8 : (List (List Str))) => (Option.bind (Option.bind (some g.1) fun (xs29 : List (T3 Str Str Str)) => forS (S := (List (List Str))) (b__law_blocks_3) xs29 blocks_here_8) fun (s30 : (List (List Str))) => (sSort s30))))
def b__law_odd_1 (g : ((List (T3 Str Str Str)) × (List (List Str)) × Unit)) (s1 : Unit) (x2 : (T3 Str Str Str)) : (Option (Fl Unit (Option (T3 Str Str Str)))) := (ifM (bAnd (some (decide (x2.b = ("apart" : Str)))) (Option.bind (m__law_at (g.2.1, (x2.a, ()))) fun (t3 : Int) => Option.bind (m__law_at (g.2.1, (x2.c, ()))) fun (t4 : Int) => some (decide (t3 = t4)))) (some (Fl.rt (some x2))) (some (Fl.nx ())))
def m__law_odd : (List (T3 Str Str Str)) × (List (List Str)) × Unit → Option (Option (T3 Str Str Str)) := fun (g : (List (T3 Str Str Str)) × (List (List Str)) × Unit) => (thenF (S := Unit) (ρ := (Option (T3 Str Str Str))) (Option.bind (some g.1) fun (xs5 : List (T3 Str Str Str)) => forF (S := Unit) (ρ := (Option (T3 Str Str Str))) (b__law_odd_1 g) xs5 ()) (fun (s6 : Unit) => (some (none : (Option (T3 Str Str Str))))) (fun v => some v) (fun _ => none) (fun _ => none))
def b__law_is_chain_1 (g : ((List Str) × (T3 Str Str Str) × (List (T3 Str Str Str)) × Unit)) (s5 : Unit) (x6 : (Str × Str)) : (Option (Fl Unit Bool)) := (ifM (some (!decide ((⟨(smin x6.1 x6.2), ("same" : Str), (smax x6.1 x6.2)⟩ : (T3 Str Str Str)) ∈ g.2.2.1))) (some (Fl.rt false)) (some (Fl.nx ())))
def m__law_is_chain : (List Str) × (T3 Str Str Str) × (List (T3 Str Str Str)) × Unit → Option Bool := fun (g : (List Str) × (T3 Str Str Str) × (List (T3 Str Str Str)) × Unit) => (ifM (bOr (some (!true)) (bOr (some (decide ((g.1.length : Int) < (2 : Int)))) (bOr (Option.bind (atI g.1 (0 : Int)) fun (t1 : Str) => Option.bind (some g.2.1.a) fun (t2 : Str) => some (!decide (t1 = t2))) (Option.bind (atI g.1 (-(1 : Int))) fun (t3 : Str) => Option.bind (some g.2.1.c) fun (t4 : Str) => some (!decide (t3 = t4)))))) (some false) (thenF (S := Unit) (ρ := Bool) (Option.bind (some (List.zip (cutA g.1 none (some (-(1 : Int)))) (cutA g.1 (some (1 : Int)) none))) fun (xs9 : List (Str × Str)) => forF (S := Unit) (ρ := Bool) (b__law_is_chain_1 g) xs9 ()) (fun (s10 : Unit) => (some true)) (fun v => some v) (fun _ => none) (fun _ => none)))
end GK

/-! where a card stands: places_of, law_at -/
namespace GK
open PySem PySem.StrLaws TL L2 FK MS
/-- the last block that holds a card -/
def plx : Int → List (List Str) → Str → Option Int
  | _, [], _ => none
  | k, b :: r, z => (plx (k + 1) r z).or (if z ∈ b then some k else none)
/-- the first -/
def fsx : Int → List (List Str) → Str → Option Int
  | _, [], _ => none
  | k, b :: r, z => if z ∈ b then some k else fsx (k + 1) r z
end GK

/-! k44: the rows of the rules -/
namespace GK
open PySem PySem.StrLaws TL L2 FK MS
def FLs : List Str := ["name", "former", "way", "day", "mark"]
def RowK (r : Int × Str) : Prop := -(1000000000) ≤ r.1 ∧ r.1 ≤ 1000000000 ∧ r.1 ≠ 0 ∧ r.2 ∈ FLs
theorem ix_in {α : Type} (l : List α) (i : Int) (h0 : 0 ≤ i) (h1 : i < l.length) : ∃ x, atI l i = some x ∧ x ∈ l := okAt h0 h1
theorem row_one (g : Int × Int × Unit) (s : List (Int × Str)) (x : Int) (hl : s.length ≤ 1000) : ∃ r, RowK r ∧ b__law_rows_1 g s x = some (s ++ [r]) := by
  obtain ⟨f, ef, hf⟩ := ix_in FLs ((g.2.1 + (x % 2)) % 5) (by omega) (by show _ < ((5 : Nat) : Int); omega)
  obtain ⟨w, ew, hw⟩ := ix_in [(1 : Int), (-(1 : Int))] ((x / 160) % 2) (by omega) (by show _ < ((2 : Nat) : Int); omega)
  have hw' : w = 1 ∨ w = -1 := by
    rcases List.mem_cons.mp hw with h | h
    · exact .inl h
    · exact .inr (List.mem_singleton.mp h)
  have ha : ∀ v : Int, RowK (v, f) → ∃ r, RowK r ∧ ((some v).bind fun s7 => (((some s7).bind fun t9 => (atI [("name" : Str), ("former" : Str), ("way" : Str), ("day" : Str), ("mark" : Str)] ((g.2.1 + (x % 2)) % 5)).bind fun t10 => some (t9, t10)).bind fun t12 => lApp s t12).bind fun r => some r) = some (s ++ [r]) := fun v h => by
    refine ⟨(v, f), h, ?_⟩
    simp only [bs]
    rw [show atI [("name" : Str), ("former" : Str), ("way" : Str), ("day" : Str), ("mark" : Str)] ((g.2.1 + (x % 2)) % 5) = some f from ef]
    simp only [bs]
    unfold lApp
    rw [if_pos (by omega)]
    rfl
  unfold b__law_rows_1
  simp only [bs]
  have hs : ∀ c : Bool, ∃ v, ifM (some c) (some (0 - (x * 48271 % 1000000000 + 1))) (some (x * 48271 % 1000000000 + 1)) = some v ∧ -(1000000000) ≤ v ∧ v ≤ 1000000000 ∧ v ≠ 0 := fun c => by
    cases c with
    | true => exact ⟨_, if_t _ _, by omega, by omega, by omega⟩
    | false => exact ⟨_, if_f _ _, by omega, by omega, by omega⟩
  obtain ⟨v, ev, v1, v2, v3⟩ := hs (decide (x / 20 % 2 = 1))
  rw [ev]
  simp only [bs]
  rw [ew]
  simp only [bs]
  cases hc : decide (x / 40 % 4 = 0) with
  | true =>
    rw [if_t]
    refine ha w ⟨?_, ?_, ?_, hf⟩
    · show _ ≤ w; rcases hw' with h | h <;> omega
    · show w ≤ _; rcases hw' with h | h <;> omega
    · show w ≠ 0; rcases hw' with h | h <;> omega
  | false =>
    rw [if_f]
    exact ha v ⟨v1, v2, v3, hf⟩
theorem rows_ok (c f : Int) : Ok (m__law_rows (c, (f, ()))) fun rs => rs.length ≤ 6 ∧ ∀ r ∈ rs, RowK r := by
  obtain ⟨ds, ed, hd, _⟩ := G.stream_ok' c (c % 7) (by omega) (by omega)
  unfold m__law_rows
  simp only [bs]
  rw [ed]
  simp only [bs]
  have hl : ds.length ≤ 6 := by omega
  obtain ⟨rs, er, h1, h2⟩ := okForL (f := b__law_rows_1 (c, (f, ()))) (P := fun p s => s.length = p.length ∧ ∀ r ∈ s, RowK r) (xs := ds) (s := []) ⟨rfl, fun r h => by cases h⟩ fun p x q s e ⟨a, b⟩ => by
    have hp : p.length ≤ 6 := by
      have := congrArg List.length e
      rw [List.length_append] at this
      omega
    obtain ⟨r, hr, e1⟩ := row_one (c, (f, ())) s x (by omega)
    refine ⟨_, e1, by rw [List.length_append, List.length_append, a]; rfl, fun r' h => ?_⟩
    rcases List.mem_append.mp h with h | h
    · exact b r' h
    · rw [List.mem_singleton.mp h]; exact hr
  rw [er]
  simp only [bs]
  exact ⟨rs, rfl, by omega, h2⟩
end GK

/-! k44: the weight of two cards, by the law -/
namespace GK
open PySem PySem.StrLaws TL L2 FK MS
def mine (bk : List (T3 Str Str Str)) (a f : Str) : List Str := (bk.filter fun y => decide (y.a = a) && decide (y.b = f)).map (·.c)
def hit (bk : List (T3 Str Str Str)) (a b : Str) (f : Str) : Bool := bk.any fun x => decide (x.a = b) && (decide (x.b = f) && decide (x.c ∈ mine bk a f))
def lw (rows : List (Int × Str)) (bk : List (T3 Str Str Str)) (a b : Str) : Int := (rows.map fun r => if hit bk a b r.2 = true then r.1 else 0).sum
theorem any_id {α : Type} (u : α → Bool) (xs : List α) : (xs.map u).any id = xs.any u := by
  induction xs with
  | nil => rfl
  | cons x r ih => rw [List.map_cons, List.any_cons, List.any_cons, ih]; rfl
abbrev ruOf (r : Int × Str) : Ru := ⟨"Same", r.1, r.2⟩
end GK

/-! the blocks of a book, joined one by one; Blocks is risen, and parts the cards -/
namespace GK
open PySem PySem.StrLaws TL L2 FK MS GC GE
open PySem.W (DatumOrd listLt)
theorem flat_sub (p : List Str → Bool) : ∀ L : List (List Str), ((L.filter p).flatten).Sublist L.flatten
  | [] => List.Sublist.refl _
  | b :: L => by
    rw [List.filter_cons]
    split
    · rw [List.flatten_cons, List.flatten_cons]
      exact List.Sublist.append (List.Sublist.refl _) (flat_sub p L)
    · rw [List.flatten_cons]
      exact (flat_sub p L).trans (List.sublist_append_right _ _)
theorem sub_rising {α : Type} [DecidableEq α] [DatumOrd α] [Lo α] {l r : List α} (s : l.Sublist r) (h : Rising r) : Rising l := List.Pairwise.sublist s h
theorem frs_sub (r : Str → Str → Bool) : ∀ (l acc : List Str), (frs r acc l).Sublist (acc ++ l)
  | [], acc => by
    rw [List.append_nil]
    exact List.Sublist.refl _
  | x :: l, acc => by
    refine (frs_sub r l _).trans ?_
    split
    · exact List.Sublist.append (List.Sublist.refl _) (List.sublist_cons_self x l)
    · rw [List.append_assoc]
      exact List.Sublist.refl _
/-- the first of a group is its sign -/
theorem frs_least {r : Str → Str → Bool} (sy : ∀ x y, r x y = true → r y x = true) (tr : ∀ x y z, r x y = true → r y z = true → r x z = true) (l : List Str) : Rising l → ∀ c ∈ frs r [] l, ∀ y ∈ l, r c y = true → y = c ∨ DatumOrd.lt c y = true := by
  suffices H : ∀ n (l : List Str), l.length = n → Rising l → ∀ c ∈ frs r [] l, ∀ y ∈ l, r c y = true → y = c ∨ DatumOrd.lt c y = true from H _ l rfl
  intro n
  induction n with
  | zero =>
    intro l hl _ c _ y hy
    rw [List.length_eq_zero_iff.mp hl] at hy
    cases hy
  | succ n ih =>
    intro l hl hr
    rcases List.eq_nil_or_concat l with e | ⟨l', x, e⟩
    · rw [e] at hl; cases hl
    · rw [List.concat_eq_append] at e
      subst e
      have hl' : l'.length = n := by
        rw [List.length_append, List.length_singleton] at hl
        omega
      obtain ⟨r1, _, r3⟩ := List.pairwise_append.mp hr
      have ih := ih l' hl' r1
      intro c hc y hy hcy
      rw [frs_snoc] at hc
      have old : c ∈ frs r [] l' → y = c ∨ DatumOrd.lt c y = true := fun hc => by
        rcases List.mem_append.mp hy with h | h
        · exact ih c hc y h hcy
        · refine .inr (r3 c ?_ y h)
          have := (frs_sub r l' []).subset hc
          rwa [List.nil_append] at this
      split at hc
      · exact old hc
      · rename_i hn
        rcases List.mem_append.mp hc with h | h
        · exact old h
        · rw [List.mem_singleton.mp h] at hcy ⊢
          rcases List.mem_append.mp hy with h | h
          · exfalso
            obtain ⟨c', hc', e⟩ := frs_cover (r := r) l' [] h
            refine hn (List.any_eq_true.mpr ⟨c', hc', ?_⟩)
            rcases e with e | e
            · exact tr _ _ _ e (sy _ _ hcy)
            · rw [e]; exact sy _ _ hcy
          · exact .inl (List.mem_singleton.mp h)
section
variable {r : Str → Str → Bool} {C : List Str} (rf : ∀ x, r x x = true) (sy : ∀ x y, r x y = true → r y x = true) (tr : ∀ x y z, r x y = true → r y z = true → r x z = true) (hC : Rising C)
include rf sy tr hC
theorem bl_of : ∀ b ∈ Bl r C, ∀ x ∈ b, b = C.filter (r x) ∧ x ∈ C := fun b hb x hx => by
  obtain ⟨c, hc, rfl⟩ := List.mem_map.mp hb
  obtain ⟨h1, h2⟩ := List.mem_filter.mp hx
  refine ⟨List.filter_congr fun y _ => ?_, h1⟩
  refine Bool.eq_iff_iff.mpr ⟨fun h => tr _ _ _ (sy _ _ h2) h, fun h => tr _ _ _ h2 h⟩
theorem bl_cover : ∀ x ∈ C, ∃ b ∈ Bl r C, x ∈ b := fun x hx => by
  obtain ⟨c, hc, e⟩ := frs_cover (r := r) C [] hx
  refine ⟨C.filter (r c), List.mem_map_of_mem hc, List.mem_filter.mpr ⟨hx, ?_⟩⟩
  rcases e with e | e
  · exact e
  · rw [e]; exact rf x
theorem bl_has : ∀ x ∈ C, C.filter (r x) ∈ Bl r C := fun x hx => by
  obtain ⟨b, hb, hxb⟩ := bl_cover rf sy tr hC x hx
  rw [← (bl_of rf sy tr hC b hb x hxb).1]
  exact hb
theorem bl_head (c : Str) (hc : c ∈ frs r [] C) : ∃ t, C.filter (r c) = c :: t := by
  have hcC : c ∈ C := by
    have := (frs_sub r C []).subset hc
    rwa [List.nil_append] at this
  have hm : c ∈ C.filter (r c) := List.mem_filter.mpr ⟨hcC, rf c⟩
  have hR : Rising (C.filter (r c)) := sub_rising List.filter_sublist hC
  cases e : C.filter (r c) with
  | nil => rw [e] at hm; cases hm
  | cons h t =>
    have hh : h ∈ C.filter (r c) := by rw [e]; exact List.mem_cons_self
    obtain ⟨h1, h2⟩ := List.mem_filter.mp hh
    rcases frs_least sy tr C hC c hc h h1 h2 with z | z
    · exact ⟨t, by rw [z]⟩
    · rw [e] at hm hR
      rcases List.mem_cons.mp hm with q | q
      · exact ⟨t, by rw [q]⟩
      · have := (List.pairwise_cons.mp hR).1 c q
        rw [Lo.asym this] at z
        cases z
theorem bl_rising : Rising (Bl r C) := by
  have hF : Rising (frs r [] C) := by
    have := frs_sub r C []
    rw [List.nil_append] at this
    exact sub_rising this hC
  unfold Bl
  refine List.pairwise_map.mpr (List.Pairwise.imp_of_mem ?_ hF)
  intro c c' hc hc' h
  obtain ⟨t, e⟩ := bl_head rf sy tr hC c hc
  obtain ⟨t', e'⟩ := bl_head rf sy tr hC c' hc'
  rw [e, e']
  show listLt (c :: t) (c' :: t') = true
  rw [listLt, if_neg (fun z => by rw [z, Lo.irr] at h; cases h)]
  exact h
end
section
variable (bk : List F3) {C : List Str} (hC : Rising C)
theorem cn_rf (x : Str) : dec (Cn bk x x) = true := dec_t (Cn.refl bk x)
theorem dec_e {p : Prop} (h : dec p = true) : p := Classical.byContradiction fun z => by rw [dec_f z] at h; cases h
theorem cn_sy (x y : Str) (h : dec (Cn bk x y) = true) : dec (Cn bk y x) = true := dec_t (dec_e h).symm
theorem cn_tr (x y z : Str) (h : dec (Cn bk x y) = true) (k : dec (Cn bk y z) = true) : dec (Cn bk x z) = true := dec_t ((dec_e h).trans (dec_e k))
end
/-! ### by joins -/
structure LI (pre : List F3) (C : List Str) (L : List (List Str)) : Prop where
  nd : L.flatten.Nodup
  ne : ∀ b ∈ L, b ≠ []
  ri : ∀ b ∈ L, Rising b
  cv : ∀ x ∈ C, ∃ b ∈ L, x ∈ b
  cl : ∀ b ∈ L, ∀ x ∈ b, ∀ y, y ∈ b ↔ y ∈ C ∧ Cn pre x y
theorem LI.inC {pre : List F3} {C : List Str} {L : List (List Str)} (h : LI pre C L) {b : List Str} (hb : b ∈ L) {x : Str} (hx : x ∈ b) : x ∈ C := ((h.cl b hb x hx x).mp hx).1
theorem LI.flat {pre : List F3} {C : List Str} {L : List (List Str)} (h : LI pre C L) : L.flatten.length ≤ C.length := nodup_sub _ _ h.nd fun x hx => by
  obtain ⟨b, hb, hxb⟩ := List.mem_flatten.mp hx
  exact h.inC hb hxb
theorem ne_len : ∀ (L : List (List Str)), (∀ b ∈ L, b ≠ []) → L.length ≤ L.flatten.length
  | [], _ => Nat.le_refl _
  | b :: L, h => by
    have ih := ne_len L fun b hb => h b (List.mem_cons_of_mem _ hb)
    have : 0 < b.length := List.length_pos_iff.mpr (h b List.mem_cons_self)
    rw [List.flatten_cons, List.length_append, List.length_cons]
    omega
theorem LI.len {pre : List F3} {C : List Str} {L : List (List Str)} (h : LI pre C L) : L.length ≤ C.length := Nat.le_trans (ne_len L h.ne) h.flat
theorem LI.nodup {pre : List F3} {C : List Str} {L : List (List Str)} (h : LI pre C L) : L.Nodup := by
  refine List.Pairwise.imp_of_mem ?_ (List.pairwise_flatten.mp h.nd).2
  intro b b' hb hb' d e
  obtain ⟨x, hx⟩ := List.exists_mem_of_ne_nil b (h.ne b hb)
  exact d x hx x (e ▸ hx) rfl
theorem LI.of {pre : List F3} {C : List Str} (hC : Rising C) {L : List (List Str)} (h : LI pre C L) {b : List Str} (hb : b ∈ L) {x : Str} (hx : x ∈ b) : b = C.filter fun y => dec (Cn pre x y) := rising_ext (h.ri b hb) (sub_rising List.filter_sublist hC) fun y => by
  rw [h.cl b hb x hx y, List.mem_filter]
  exact and_congr Iff.rfl ⟨dec_t, dec_e⟩
theorem LI.done {bk : List F3} {C : List Str} (hC : Rising C) {L : List (List Str)} (h : LI bk C L) : srt L = Blocks bk C := by
  refine rising_ext (srt_rising h.nodup) (bl_rising (cn_rf bk) (cn_sy bk) (cn_tr bk) hC) fun b => ?_
  rw [mem_srt']
  constructor
  · intro hb
    obtain ⟨x, hx⟩ := List.exists_mem_of_ne_nil b (h.ne b hb)
    rw [h.of hC hb hx]
    exact bl_has (cn_rf bk) (cn_sy bk) (cn_tr bk) hC x (h.inC hb hx)
  · intro hb
    obtain ⟨x, hx⟩ := List.exists_mem_of_ne_nil b (fun e => by
      have := Bl_ne (r := fun x y => dec (Cn bk x y)) (C := C) (fun c _ => cn_rf bk c) b hb
      rw [e] at this
      exact absurd this (Nat.lt_irrefl 0))
    obtain ⟨e, hxC⟩ := bl_of (cn_rf bk) (cn_sy bk) (cn_tr bk) hC b hb x hx
    obtain ⟨b', hb', hx'⟩ := h.cv x hxC
    rw [e, ← h.of hC hb' hx']
    exact hb'
def jn (f : F3) (L : List (List Str)) : List Str := (L.filter fun b => decide (f.a ∈ b) || decide (f.c ∈ b)).flatten
def nx (f : F3) (L : List (List Str)) : List (List Str) := (L.filter fun b => !decide (b.headD "" ∈ jn f L)) ++ [srt (jn f L)]
section
variable {pre : List F3} {C : List Str} {L : List (List Str)} {f : F3} (h : LI pre C L) (hf : f.b = "same") (ha : f.a ∈ C) (hc : f.c ∈ C)
include h ha hc
omit ha hc in
theorem jn_nd : (jn f L).Nodup := List.Pairwise.sublist (flat_sub _ _) h.nd
include hf
end
end GK

/-! the case of a book: sums by pair of blocks -/
namespace GK
open PySem PySem.StrLaws TL L2 FK MS GC GE
open PySem.W (DatumOrd listLt)
open GW (Fc wt KIND)
/-! ### dicts by any key -/
section
variable {κ α : Type} [DecidableEq κ]
theorem dget_cons_ (p : κ × α) (l : List (κ × α)) (k : κ) : dGet (p :: l) k = if p.1 = k then some p.2 else dGet l k := by
  unfold dGet
  rw [List.find?_cons]
  by_cases h : p.1 = k
  · rw [if_pos h, decide_eq_true h]
    rfl
  · rw [if_neg h, decide_eq_false h]
theorem any_has_ (l : List (κ × α)) (k : κ) : (l.any fun p => decide (p.1 = k)) = (dGet l k).isSome := by
  induction l with
  | nil => rfl
  | cons p l ih =>
    rw [List.any_cons, dget_cons_, ih]
    by_cases h : p.1 = k
    · rw [if_pos h, decide_eq_true h]
      rfl
    · rw [if_neg h, decide_eq_false h]
      rfl
theorem dget_map_ (l : List (κ × α)) (k j : κ) (a : α) : dGet (l.map fun p => if p.1 = k then (p.1, a) else p) j = if j = k then (dGet l j).map fun _ => a else dGet l j := by
  induction l with
  | nil => split <;> rfl
  | cons p l ih =>
    rw [List.map_cons, dget_cons_, dget_cons_, ih]
    by_cases h : p.1 = k
    · rw [if_pos h]
      by_cases hj : p.1 = j
      · rw [if_pos hj, if_pos hj, if_pos (by rw [← hj, h])]
        rfl
      · rw [if_neg hj, if_neg hj]
    · rw [if_neg h]
      by_cases hj : p.1 = j
      · rw [if_pos hj, if_pos hj, if_neg (by rw [← hj]; exact h)]
      · rw [if_neg hj, if_neg hj]
theorem dget_app_ (l : List (κ × α)) (p : κ × α) (j : κ) : dGet (l ++ [p]) j = (dGet l j).or (if p.1 = j then some p.2 else none) := by
  induction l with
  | nil =>
    rw [List.nil_append, dget_cons_]
    split <;> rfl
  | cons q l ih =>
    rw [List.cons_append, dget_cons_, dget_cons_, ih]
    split <;> rfl
theorem dget_put_ (l : List (κ × α)) (k j : κ) (a : α) : dGet (dPut l k a) j = if j = k then some a else dGet l j := by
  unfold dPut
  rw [any_has_]
  cases h : dGet l k with
  | none =>
    rw [if_neg (by simp), dget_app_]
    by_cases hj : j = k
    · rw [if_pos hj, hj, h, if_pos rfl]
      rfl
    · rw [if_neg hj, if_neg (fun e => hj e.symm)]
      cases dGet l j <;> rfl
  | some b =>
    rw [if_pos (show (some b).isSome = true from rfl), dget_map_]
    by_cases hj : j = k
    · rw [if_pos hj, if_pos hj, hj, h]
      rfl
    · rw [if_neg hj, if_neg hj]
theorem len_put_ (l : List (κ × α)) (k : κ) (a : α) : (dPut l k a).length ≤ l.length + 1 := by
  unfold dPut
  split
  · rw [List.length_map]
    omega
  · rw [List.length_append, List.length_singleton]
    exact Nat.le_refl _
end
/-! ### where a card stands -/
def ixOf (B : List (List Str)) (x : Str) : Int := (fsx 0 B x).getD (-1)
structure Part (C : List Str) (B : List (List Str)) : Prop where
  nd : B.flatten.Nodup
  ri : ∀ b ∈ B, Rising b
  mem : ∀ x, x ∈ B.flatten ↔ x ∈ C
theorem fsx_at : ∀ (B : List (List Str)) (k : Int) (i : Nat) (hi : i < B.length) (z : Str), B.flatten.Nodup → z ∈ B[i] → fsx k B z = some (k + i)
  | b :: B, k, 0, _, z, _, hz => by
    unfold fsx
    rw [if_pos (show z ∈ b from hz)]
    exact congrArg some (by omega)
  | b :: B, k, i + 1, hi, z, nd, hz => by
    rw [List.flatten_cons] at nd
    obtain ⟨_, h2, h3⟩ := List.nodup_append.mp nd
    have hi' : i < B.length := by rw [List.length_cons] at hi; omega
    have hz' : z ∈ B[i] := hz
    unfold fsx
    rw [if_neg (fun h => h3 z h z (List.mem_flatten.mpr ⟨_, List.getElem_mem hi', hz'⟩) rfl), fsx_at B (k + 1) i hi' z h2 hz']
    exact congrArg some (by omega)
theorem Part.ix {C : List Str} {B : List (List Str)} (h : Part C B) {x : Str} (hx : x ∈ C) : ∃ i : Nat, ∃ hi : i < B.length, x ∈ B[i] ∧ fsx 0 B x = some (i : Int) ∧ ixOf B x = (i : Int) := by
  obtain ⟨b, hb, hxb⟩ := List.mem_flatten.mp ((h.mem x).mpr hx)
  obtain ⟨i, hi, e⟩ := List.mem_iff_getElem.mp hb
  have hz : x ∈ B[i] := by rw [e]; exact hxb
  have e2 := fsx_at B 0 i hi x h.nd hz
  rw [Int.zero_add] at e2
  exact ⟨i, hi, hz, e2, by unfold ixOf; rw [e2]; rfl⟩
theorem Part.at {C : List Str} {B : List (List Str)} (h : Part C B) {x : Str} {i : Nat} (hi : i < B.length) (hx : x ∈ B[i]) : ixOf B x = (i : Int) ∧ x ∈ C := by
  have e2 := fsx_at B 0 i hi x h.nd hx
  rw [Int.zero_add] at e2
  exact ⟨by unfold ixOf; rw [e2]; rfl, (h.mem x).mp (List.mem_flatten.mpr ⟨_, List.getElem_mem hi, hx⟩)⟩
theorem Part.blk {C : List Str} {B : List (List Str)} (h : Part C B) (hC : Rising C) {i : Nat} (hi : i < B.length) : B[i] = C.filter fun x => decide (ixOf B x = (i : Int)) := rising_ext (h.ri _ (List.getElem_mem hi)) (sub_rising List.filter_sublist hC) fun x => by
  rw [List.mem_filter, decide_eq_true_iff]
  constructor
  · intro hx
    exact ⟨(h.at hi hx).2, (h.at hi hx).1⟩
  · rintro ⟨hx, e⟩
    obtain ⟨j, hj, hz, _, e2⟩ := h.ix hx
    have : i = j := by omega
    subst this
    exact hz
/-! ### sums -/
/-- over all pairs, one ahead of the other -/
def sg (G : Str → Str → Int) : List Str → Int
  | [] => 0
  | a :: r => (r.map (G a)).sum + sg G r
def pr2 (B : List (List Str)) (a b : Str) : Int × Int := (imin2 (ixOf B a) (ixOf B b), imax2 (ixOf B a) (ixOf B b))
def sumF (B : List (List Str)) (p : List (T3 Str Str Int)) (q : Int × Int) : Int := ((p.filter fun x => decide (pr2 B x.a x.b = q)).map (·.c)).sum
/-- the weight of two blocks -/
def bw (rs : List Ru) (bk : List Fc) (x y : List Str) : Int := (x.map fun a => (y.map fun b => wt rs bk a b).sum).sum
/-! ### book_case -/
def gCase (W : Option (List (T3 Str Str Int))) (bk : List (T3 Str Str Str)) : Option (Rs (T3 Int (List (T3 Int Int Int)) (List (Int × Int)))) := (thenF (S := (List (List Str))) (ρ := (Rs (T3 Int (List (T3 Int Int Int)) (List (Int × Int))))) (Option.bind (GE.m_blocks_of (bk, ())) fun (t2 : Rs (List (List Str))) => some t2.fl) (fun (blocks_1 : (List (List Str))) => (Option.bind (m_places_of (blocks_1, ())) fun (places_3 : (Dct Str Int)) => (Option.bind (some (⟨[]⟩ : (Dct (Int × Int) Int))) fun (sums_4 : (Dct (Int × Int) Int)) => (Option.bind (Option.bind W fun (xs18 : List (T3 Str Str Int)) => forS (S := (Dct (Int × Int) Int)) (b_book_case_3 places_3) xs18 sums_4) fun (s19 : (Dct (Int × Int) Int)) => (Option.bind (some ([] : (List (T3 Int Int Int)))) fun (pairs_20 : (List (T3 Int Int Int))) => (Option.bind (Option.bind (sSort (s19.l.map (·.1))) fun (xs30 : List (Int × Int)) => forS (S := (List (T3 Int Int Int))) (b_book_case_2 s19) xs30 pairs_20) fun (s31 : (List (T3 Int Int Int))) => (Option.bind (Option.bind (some bk) fun (xs38 : List (T3 Str Str Str)) => lcG (fun (x33 : (T3 Str Str Str)) => (some (decide (x33.b = ("apart" : Str))))) (b_book_case_1 places_3) xs38) fun (aparts_32 : (List (Int × Int))) => (Option.bind (Option.bind (some (blocks_1.length : Int)) fun (t39 : Int) => Option.bind (some s31) fun (t40 : (List (T3 Int Int Int))) => Option.bind (tdy aparts_32) fun (t41 : (List (Int × Int))) => some (⟨t39, t40, t41⟩ : (T3 Int (List (T3 Int Int Int)) (List (Int × Int))))) fun (t42 : (T3 Int (List (T3 Int Int Int)) (List (Int × Int)))) => some (Rs.ok t42))))))))) (fun v => some v) (fun _ => none) (fun _ => none))
/-- what a list of pairs must be -/
def Prs (B : List (List Str)) (w : Nat → Nat → Int) (R : List (T3 Int Int Int)) : Prop := Rising R ∧ ∀ t, t ∈ R ↔ ∃ i j : Nat, i < j ∧ j < B.length ∧ t = ⟨(i : Int), (j : Int), w i j⟩ ∧ w i j ≠ 0
theorem Prs.uniq {B : List (List Str)} {w : Nat → Nat → Int} {R S : List (T3 Int Int Int)} (h : Prs B w R) (k : Prs B w S) : R = S := rising_ext h.1 k.1 fun t => by rw [h.2, k.2]
def apl (B : List (List Str)) (bk : List Fc) : List (Int × Int) := (bk.filter fun f => decide (f.b = ("apart" : Str))).map fun f => pr2 B f.a f.c
structure SI (B : List (List Str)) (p : List (T3 Str Str Int)) (d : Dct (Int × Int) Int) : Prop where
  get : ∀ q, (dGet d.l q).getD 0 = sumF B p q
  nd : (d.l.map (·.1)).Nodup
  key : ∀ q, q ∈ d.l.map (·.1) ↔ ∃ x ∈ p, pr2 B x.a x.b = q
  len : d.l.length ≤ p.length
end GK

namespace GZ
open PySem PySem.StrLaws TL L2 FK MS
open GD (m_read_book m_tidy)
open GR (m_is_card)
open G (m__law_cell_at)
def m__law_card : Int × Int × Unit → Option Str := fun (g : Int × Int × Unit) => (Option.bind (some ((1 : Int) + (g.1 % 12))) fun (many_1 : Int) => (Option.bind (imod (g.1 / 12) many_1) fun (at_2 : Int) => (Option.bind (Option.bind (sMul ("q" : Str) at_2) fun (t3 : Str) => Option.bind (sAt ("abcdefghij" : Str) g.2.1) fun (t4 : Str) => (sAdd t3 t4)) fun (t5 : Str) => Option.bind (sMul ("q" : Str) ((many_1 - (1 : Int)) - at_2)) fun (t6 : Str) => (sAdd t5 t6))))
def m__law_great : Str × Unit → Option Str := fun (g : Str × Unit) => (Option.bind (some (Txt.find ("abcdefghijklmnopqrstuvwxyz" : Str) g.1)) fun (at_1 : Int) => (ifM (some (decide (at_1 < (0 : Int)))) (some g.1) (sAt ("ABCDEFGHIJKLMNOPQRSTUVWXYZ" : Str) at_1)))
def b__law_text_1 (g : (Int × Int × Unit)) (s3 : Str) (x4 : Str) : (Option Str) := (Option.bind (some (Txt.find ("abcdefghi" : Str) x4)) fun (at_5 : Int) => (Option.bind (ifM (some (decide ((0 : Int) ≤ at_5))) (Option.bind (sAt ("abcdefghijklmnopqrstuvwxyz" : Str) ((at_5 + (g.1 / 144)) % 26)) fun (sign_7 : Str) => (some sign_7)) (some x4)) fun (s6 : Str) => (Option.bind (sAdd s3 s6) fun (turned_8 : Str) => (some turned_8))))
def m__law_text : Int × Int × Unit → Option Str := fun (g : Int × Int × Unit) => (Option.bind (atI [("a" : Str), ("be" : Str), ("cab" : Str), ("dea fic" : Str)] (g.2.1 % 4)) fun (base_1 : Str) => (Option.bind (some ("" : Str)) fun (turned_2 : Str) => (Option.bind (Option.bind (some (sgn base_1)) fun (xs9 : List Str) => forS (S := Str) (b__law_text_1 g) xs9 turned_2) fun (s10 : Str) => (Option.bind (some ((g.2.1 / 4) % 8)) fun (way_11 : Int) => (ifM (some (decide (way_11 = (1 : Int)))) (Option.bind (some ("" : Str)) fun (t14 : Str) => Option.bind (Option.bind (some (sgn s10)) fun (xs13 : List Str) => lcG (fun (x12 : Str) => (some true)) (fun (x12 : Str) => (m__law_great (x12, ()))) xs13) fun (t15 : (List Str)) => (sJoin t14 t15)) (ifM (some (decide (way_11 = (2 : Int)))) (sAdd s10 ("." : Str)) (ifM (some (decide (way_11 = (3 : Int)))) (Option.bind (some ("#" : Str)) fun (t16 : Str) => Option.bind (sCut s10 (some (1 : Int)) none) fun (t17 : Str) => (sAdd t16 t17)) (ifM (some (decide (way_11 = (4 : Int)))) (sAdd s10 (" (x)" : Str)) (ifM (some (decide (way_11 = (5 : Int)))) (Option.bind (Option.bind (some s10) fun (t18 : Str) => sRepl t18 (" " : Str) ("   " : Str)) fun (t19 : Str) => Option.bind (some (" y" : Str)) fun (t20 : Str) => sAdd t19 t20) (ifM (some (decide (way_11 = (6 : Int)))) (Option.bind (Option.bind (Option.bind (sAt s10 (0 : Int)) fun (t21 : Str) => Option.bind (some ()) fun (t22 : Unit) => some (t21, t22)) m__law_great) fun (t23 : Str) => Option.bind (sCut s10 (some (1 : Int)) none) fun (t24 : Str) => (sAdd t23 t24)) (some s10)))))))))))
def m__law_fact : Int × Int × Int × Unit → Option (T3 Str Str Str) := fun (g : Int × Int × Int × Unit) => (Option.bind (imod g.2.2.1 g.2.1) fun (i_1 : Int) => (Option.bind (some ((g.2.2.1 / 10) % 8)) fun (way_2 : Int) => (ifM (bAnd (some (decide ((5 : Int) < way_2))) (some (decide ((1 : Int) < g.2.1)))) (Option.bind (Option.bind (Option.bind (some (i_1 + (1 : Int))) fun (t4 : Int) => Option.bind (imod (g.2.2.1 / 80) (g.2.1 - (1 : Int))) fun (t5 : Int) => some (t4 + t5)) fun (t6 : Int) => Option.bind (some g.2.1) fun (t7 : Int) => (imod t6 t7)) fun (j_3 : Int) => (Option.bind (atI [("same" : Str), ("apart" : Str)] ((g.2.2.1 / 800) % 2)) fun (field_8 : Str) => (Option.bind (m__law_card (g.1, ((imin2 i_1 j_3), ()))) fun (t9 : Str) => Option.bind (some field_8) fun (t10 : Str) => Option.bind (m__law_card (g.1, ((imax2 i_1 j_3), ()))) fun (t11 : Str) => some (⟨t9, t10, t11⟩ : (T3 Str Str Str))))) (Option.bind (atI [("name" : Str), ("former" : Str), ("way" : Str), ("day" : Str), ("mark" : Str), ("name" : Str)] (way_2 % 6)) fun (field_12 : Str) => (Option.bind (m__law_card (g.1, (i_1, ()))) fun (t13 : Str) => Option.bind (some field_12) fun (t14 : Str) => Option.bind (m__law_text (g.1, ((g.2.2.1 / 80), ()))) fun (t15 : Str) => some (⟨t13, t14, t15⟩ : (T3 Str Str Str)))))))
def m_order_of : Str × Unit → Option (List Str) := fun (g : Str × Unit) => (Option.bind (sSplit g.1 (" " : Str)) fun (words_1 : (List Str)) => (Option.bind (some (cutA words_1 (some (1 : Int)) none)) fun (names_2 : (List Str)) => (Option.bind (ifM (Option.bind (atI words_1 (0 : Int)) fun (t3 : Str) => Option.bind (some (⟨[("hold" : Str), ("part" : Str), ("free" : Str)]⟩ : (Tl Str))) fun (t4 : (Tl Str)) => some (decide (t3 ∈ t4.l))) (Option.bind (some (decide ((names_2.length : Int) = (3 : Int)))) fun (fits_6 : Bool) => (some (fits_6, names_2))) (ifM (Option.bind (atI words_1 (0 : Int)) fun (t7 : Str) => Option.bind (some ("right" : Str)) fun (t8 : Str) => some (decide (t7 = t8))) (Option.bind (bAnd (some (decide ((names_2.length : Int) = (3 : Int)))) (Option.bind (atI names_2 (2 : Int)) fun (t10 : Str) => Option.bind (some (⟨[("name" : Str), ("former" : Str), ("way" : Str), ("day" : Str), ("mark" : Str)]⟩ : Tl Str)) fun (t11 : (Tl Str)) => some (decide (t10 ∈ t11.l)))) fun (fits_9 : Bool) => (Option.bind (some (cutA names_2 none (some (2 : Int)))) fun (names_12 : (List Str)) => (some (fits_9, names_12)))) (Option.bind (Option.bind (Option.bind (atI words_1 (0 : Int)) fun (t14 : Str) => some (dIn [(("book" : Str), 1), (("rules" : Str), 0), (("show" : Str), 1), (("pour" : Str), 4), (("groups" : Str), 1), (("loss" : Str), 1), (("told" : Str), 2)] t14)) fun (t15 : (Option Int)) => Option.bind (some (names_2.length : Int)) fun (t16 : Int) => some (decide (t15 = some t16))) fun (fits_13 : Bool) => (some (fits_13, names_2))))) fun (s5 : (Bool × (List Str))) => (ifM (bOr (some (!s5.1)) (Option.bind (Option.bind (Option.bind (some s5.2) fun (xs18 : List Str) => lcG (fun (x17 : Str) => (some true)) (fun (x17 : Str) => (m_is_card (x17, ()))) xs18) fun (t19 : (List Bool)) => some (t19.all id)) fun (t20 : Bool) => some (!t20))) (none : Option (List Str)) (some words_1)))))
def m_book_by : (List Str) × Unit → Option (List (T3 Str Str Str)) := fun (g : (List Str) × Unit) => (Option.bind (Option.bind (sJoin ("\n" : Str) g.1) fun (t1 : Str) => Option.bind (some ()) fun (t2 : Unit) => some (t1, t2)) m_read_book)
def b_need_no_rows_1  (s1 : Unit) (x2 : (Int × Str)) : (Option Unit) := (ifM (Option.bind (sStrip x2.2 (" " : Str)) fun (t5 : Str) => Option.bind (some ("" : Str)) fun (t6 : Str) => some (!decide (t5 = t6))) (none : Option Unit) (some ()))
def m_need_no_rows : (List Str) × Int × Unit → Option Unit := fun (g : (List Str) × Int × Unit) => (Option.bind (Option.bind (some (enumL g.1)) fun (xs7 : List (Int × Str)) => forS (S := Unit) (b_need_no_rows_1) xs7 ()) fun (s8 : Unit) => (some ()))
def b_show_book_1  (x1 : (T3 Str Str Str)) : (Option Str) := (sJoin (" " : Str) [x1.a, x1.b, x1.c])
def m_show_book : (List (T3 Str Str Str)) × Unit → Option Str := fun (g : (List (T3 Str Str Str)) × Unit) => (Option.bind (some ("\n" : Str)) fun (t3 : Str) => Option.bind (Option.bind (some g.1) fun (xs2 : List (T3 Str Str Str)) => lcG (fun (x1 : (T3 Str Str Str)) => (some true)) (b_show_book_1) xs2) fun (t4 : (List Str)) => (sJoin t3 t4))
def m_Desk__book_of : Dk × Str × Unit → Option (List (T3 Str Str Str)) := fun (g : Dk × Str × Unit) => (ifM (some (!dHas g.1.b.l g.2.1)) (none : Option (List (T3 Str Str Str))) (dGet g.1.b.l g.2.1))
def b__law_rows_1 (g : ((List (T3 Str Str Str)) × Int × Unit)) (s2 : (List Str)) (x3 : (Int × (T3 Str Str Str))) : (Option (List Str)) := (Option.bind (some x3.2) fun (p6 : (T3 Str Str Str)) => (Option.bind (ifM (bAnd (some (decide (p6.b ∈ (⟨[("same" : Str), ("apart" : Str)]⟩ : (Tl Str)).l))) (some (decide (((g.2.1 + x3.1) % 2) = (1 : Int))))) (Option.bind (some (p6.c, p6.a)) fun (p11 : (Str × Str)) => (some (p11.1, p11.2))) (some (p6.a, p6.c))) fun (s10 : (Str × Str)) => (Option.bind (Option.bind (Option.bind (Option.bind (Option.bind (sAdd s10.1 (" " : Str)) fun (t12 : Str) => Option.bind (some p6.b) fun (t13 : Str) => (sAdd t12 t13)) fun (t14 : Str) => Option.bind (some (" " : Str)) fun (t15 : Str) => (sAdd t14 t15)) fun (t16 : Str) => Option.bind (some s10.2) fun (t17 : Str) => (sAdd t16 t17)) fun (t19 : Str) => (lApp s2 t19)) fun (rows_here_18 : (List Str)) => (ifM (some (decide (((g.2.1 + x3.1) % 5) = (3 : Int)))) (Option.bind (Option.bind (atI [("" : Str), ("  " : Str), ("# bo" : Str), ("#" : Str)] (((g.2.1 / 5) + x3.1) % 4)) fun (t21 : Str) => (lApp rows_here_18 t21)) fun (rows_here_20 : (List Str)) => (some rows_here_20)) (some rows_here_18)))))
def m__law_rows : (List (T3 Str Str Str)) × Int × Unit → Option Str := fun (g : (List (T3 Str Str Str)) × Int × Unit) => (Option.bind (some ([] : (List Str))) fun (rows_here_1 : (List Str)) => (Option.bind (Option.bind (some (enumL g.1)) fun (xs22 : List (Int × (T3 Str Str Str))) => forS (S := (List Str)) (b__law_rows_1 g) xs22 rows_here_1) fun (s23 : (List Str)) => (sJoin ("\n" : Str) s23)))
def b__law_shown_1  (x1 : (T3 Str Str Str)) : (Option Str) := (Option.bind (Option.bind (Option.bind (sAdd x1.a (" " : Str)) fun (t5 : Str) => Option.bind (some x1.b) fun (t6 : Str) => (sAdd t5 t6)) fun (t7 : Str) => Option.bind (some (" " : Str)) fun (t8 : Str) => (sAdd t7 t8)) fun (t9 : Str) => Option.bind (some x1.c) fun (t10 : Str) => (sAdd t9 t10))
def m__law_shown : (List (T3 Str Str Str)) × Unit → Option Str := fun (g : (List (T3 Str Str Str)) × Unit) => (Option.bind (some ("\n" : Str)) fun (t12 : Str) => Option.bind (Option.bind (some g.1) fun (xs11 : List (T3 Str Str Str)) => lcG (fun (x1 : (T3 Str Str Str)) => (some true)) (b__law_shown_1) xs11) fun (t13 : (List Str)) => (sJoin t12 t13))
end GZ

/-! the desk laws' cards, texts, facts, rows; a text of rows told to the desk -/
namespace GZ
open PySem PySem.Builtin PySem.Builtin.Str PySem.StrLaws TL L2 FK MS GR
open GD (m_read_book m_tidy GF Rw jn jn_mks gf_field gf_hand NmS row_rw alt_rw read_ok nl_tl empty_rw pass_hash hand_nf)
open GR (m_is_card)
open G (m__law_cell_at)
/-! ### texts -/
def tOk (z : Str) : Bool := decide (1 ≤ (tl z).length) && (decide ((tl z).length ≤ 40) && (!decide ((tl z)[0]? = some 32) && (!decide ((tl z)[(tl z).length - 1]? = some 32) && (tl z).all fun c => decide (32 ≤ c) && decide (c < 128))))
theorem text_all : ((List.range 26).all fun s => (List.range 32).all fun c => match m__law_text (144 * (s : Int), ((c : Int), ())) with
  | some z => tOk z
  | none => false) = true := by decide +kernel
theorem text_res (s c : Int) : m__law_text (s, (c, ())) = m__law_text (144 * ((s / 144 % 26).toNat : Int), (((c % 32).toNat : Int), ())) := by
  have h1 : ∀ at_ : Int, (at_ + s / 144) % 26 = (at_ + 144 * ((s / 144 % 26).toNat : Int) / 144) % 26 := fun a => by omega
  have e1 : b__law_text_1 (s, (c, ())) = b__law_text_1 (144 * ((s / 144 % 26).toNat : Int), (((c % 32).toNat : Int), ())) := by
    funext x y
    unfold b__law_text_1
    simp only [h1]
  have e2 : c % 4 = ((c % 32).toNat : Int) % 4 := by omega
  have e3 : c / 4 % 8 = ((c % 32).toNat : Int) / 4 % 8 := by omega
  unfold m__law_text
  simp only [e1, e2, e3]
def TxT (z : Str) : Prop := ∃ l : List Nat, z = mks l ∧ Tx l ∧ 10 ∉ l ∧ ∀ c ∈ l, 32 ≤ c ∧ c < 128
theorem tok_tx {z : Str} (h : tOk z = true) : TxT z := by
  unfold tOk at h
  simp only [Bool.and_eq_true, Bool.not_eq_true', decide_eq_true_eq, decide_eq_false_iff_not, List.all_eq_true] at h
  obtain ⟨h1, h2, h3, h4, h5⟩ := h
  exact ⟨tl z, (mks_tl z).symm, ⟨h1, h2, h3, h4⟩, fun hm => by have := (h5 10 hm).1; omega, h5⟩
theorem text_ok (s c : Int) : Ok (m__law_text (s, (c, ()))) TxT := by
  rw [text_res]
  have h1 := List.all_eq_true.mp text_all ((s / 144 % 26).toNat) (List.mem_range.mpr (by omega))
  have h2 := List.all_eq_true.mp h1 ((c % 32).toNat) (List.mem_range.mpr (by omega))
  cases e : m__law_text (144 * ((s / 144 % 26).toNat : Int), (((c % 32).toNat : Int), ())) with
  | none =>
    rw [e] at h2
    cases h2
  | some z =>
    rw [e] at h2
    exact ⟨z, rfl, tok_tx h2⟩
/-! ### cards -/
def cpre (c : Int) : List Nat := List.replicate (c / 12 % (1 + c % 12)).toNat 113
def csuf (c : Int) : List Nat := List.replicate (1 + c % 12 - 1 - c / 12 % (1 + c % 12)).toNat 113
def cardL (c : Int) (k : Nat) : List Nat := cpre c ++ (97 + k) :: csuf c
def card (c : Int) (k : Nat) : Str := mks (cardL c k)
theorem mul_q (n : Int) : tl (Txt.mul ("q" : Str) n) = List.replicate n.toNat 113 := PyProof.Rows.mul_one_list 113 n
theorem mul_len (n : Int) : (Txt.mul ("q" : Str) n).length = n.toNat := by rw [len_tl, mul_q, List.length_replicate]
theorem card_ok (c : Int) {k : Nat} (h : k < 10) : m__law_card (c, ((k : Int), ())) = some (card c k) := by
  unfold m__law_card
  have hm : 0 < (1 : Int) + c % 12 := by omega
  obtain ⟨a, ea, e0, a0, a1⟩ := okMod (x := c / 12) hm
  have q1 : ("q" : Str).length ≤ 4000 := by decide
  have e1 : sMul ("q" : Str) a = some (Txt.mul ("q" : Str) a) := if_pos ⟨q1, by omega, by omega⟩
  have e2 : sMul ("q" : Str) ((1 : Int) + c % 12 - 1 - a) = some (Txt.mul ("q" : Str) ((1 : Int) + c % 12 - 1 - a)) := if_pos ⟨q1, by omega, by omega⟩
  simp only [bs]
  rw [ea]
  simp only [bs]
  rw [e1, e2]
  have tj : tl ("abcdefghij" : Str) = List.range' 97 10 := by decide +kernel
  have hl0 : k < (tl ("abcdefghij" : Str)).length := by rw [tj, List.length_range']; exact h
  have en : (tl ("abcdefghij" : Str))[k] = 97 + k := by
    have : ∀ (l : List Nat) (h : k < l.length), l = List.range' 97 10 → l[k] = 97 + k := fun l h e => by
      subst e
      rw [List.getElem_range']
      omega
    exact this _ hl0 tj
  rw [sAt_nat _ k hl0 (by decide), en]
  simp only [bs]
  have hl := mul_len a
  have hl2 := mul_len ((1 : Int) + c % 12 - 1 - a)
  obtain ⟨y, ey, hy⟩ := okAdd (x := Txt.mul ("q" : Str) a) (y := c1 (97 + k)) (by show _ + 1 ≤ _; omega)
  rw [ey]
  simp only [bs]
  obtain ⟨z, ez, hz⟩ := okAdd (x := y) (y := Txt.mul ("q" : Str) ((1 : Int) + c % 12 - 1 - a)) (by rw [hy.2]; show _ + 1 + _ ≤ _; omega)
  rw [ez, hz.1, hy.1]
  congr 1
  refine ext_tl ?_
  rw [tl_append, tl_append, mul_q, mul_q, e0]
  show _ ++ [97 + k] ++ _ = cardL c k
  unfold cardL cpre csuf
  rw [List.append_assoc]
  rfl
theorem card_nm (c : Int) {k : Nat} (h : k < 10) : Nm (cardL c k) := by
  have hl : (cardL c k).length = (1 + c % 12).toNat := by
    unfold cardL cpre csuf
    rw [List.length_append, List.length_cons, List.length_replicate, List.length_replicate]
    have : 0 ≤ c / 12 % (1 + c % 12) := Int.emod_nonneg _ (by omega)
    have : c / 12 % (1 + c % 12) < 1 + c % 12 := Int.emod_lt_of_pos _ (by omega)
    omega
  refine ⟨by omega, by omega, fun x hx => ?_⟩
  have q : 113 ∈ tl ABC := by decide +kernel
  unfold cardL cpre csuf at hx
  rcases List.mem_append.mp hx with z | z
  · rw [List.eq_of_mem_replicate z]
    exact q
  · rcases List.mem_cons.mp z with z | z
    · rw [z]
      have : ∀ k, k < 10 → 97 + k ∈ tl ABC := by decide +kernel
      exact this k h
    · rw [List.eq_of_mem_replicate z]
      exact q
theorem card_lt (c : Int) {i j : Nat} (h : i < j) : sLt (card c i) (card c j) = true := decide_eq_true (GE.lt_app (cpre c) (show 97 + i < 97 + j by omega))
theorem card_inj (c : Int) {i j : Nat} (h : card c i = card c j) : i = j := by
  rcases Nat.lt_trichotomy i j with z | z | z
  · exact absurd h (sLt_ne (card_lt c z))
  · exact z
  · exact absurd h.symm (sLt_ne (card_lt c z))
theorem band_eq (a b : Bool) : bAnd (some a) (some b) = some (a && b) := by cases a <;> rfl
theorem bor_eq (a b : Bool) : bOr (some a) (some b) = some (a || b) := by cases a <;> rfl
/-! ### facts -/
structure FctS (s : Int) (many : Nat) (f : Fc) : Prop where
  gf : GF f
  a : ∃ i, i < many ∧ f.a = card s i
  h : f.b ∈ HAND → ∃ i j, i < j ∧ j < many ∧ f.a = card s i ∧ f.c = card s j
theorem gf_pair (s : Int) {i j : Nat} (hij : i < j) (hj : j < 10) {f : Str} (hf : f ∈ HAND) : GF ⟨card s i, f, card s j⟩ := by
  have h := gf_hand (card_nm s (show i < 10 by omega)) hf (card_nm s hj) (fun e => by have := card_inj s e; omega)
  obtain ⟨m1, m2, _⟩ := GD.min_lt (card_lt s hij)
  unfold card at m1 m2
  rw [m1, m2] at h
  exact h
theorem fact_ok (s : Int) (many : Nat) (c : Int) (h1 : 1 ≤ many) (h6 : many ≤ 6) : Ok (m__law_fact (s, ((many : Int), (c, ())))) (FctS s many) := by
  unfold m__law_fact
  simp only [bs]
  obtain ⟨i, ei, e0, i0, i1⟩ := okMod (x := c) (show (0 : Int) < (many : Int) by omega)
  rw [ei]
  simp only [bs]
  obtain ⟨n, rfl⟩ := Int.eq_ofNat_of_zero_le i0
  have hn : n < many := by omega
  have hfield : Ok (Option.bind (atI [("name" : Str), ("former" : Str), ("way" : Str), ("day" : Str), ("mark" : Str), ("name" : Str)] (c / 10 % 8 % 6)) fun (field_12 : Str) => (Option.bind (m__law_card (s, ((n : Int), ()))) fun (t13 : Str) => Option.bind (m__law_text (s, (c / 80, ()))) fun (t15 : Str) => some (⟨t13, field_12, t15⟩ : (T3 Str Str Str)))) (FctS s many) := by
    refine (okAt (by omega) (by show _ < (6 : Int); omega)).bind fun fl hfl => ?_
    have hfl : fl ∈ FIELDS := by
      simp only [List.mem_cons, List.not_mem_nil, or_false] at hfl ⊢
      rcases hfl with h | h | h | h | h | h <;> simp [h]
    rw [card_ok s (show n < 10 by omega)]
    simp only [bs]
    refine (text_ok s (c / 80)).bind fun t ⟨l, el, ht, h10, _⟩ => ?_
    subst el
    refine .ret ⟨gf_field (card_nm s (by omega)) hfl ht h10, ⟨n, hn, rfl⟩, fun hh => ?_⟩
    exact absurd hfl (hand_nf _ hh)
  have e3 : bAnd (some (decide ((5 : Int) < c / 10 % 8))) (some (decide ((1 : Int) < (many : Int)))) = some (decide ((5 : Int) < c / 10 % 8) && decide ((1 : Int) < (many : Int))) := band_eq _ _
  rw [e3]
  refine .ifs (fun hb => ?_) fun _ => hfield
  have hb2 := (Bool.and_eq_true _ _ ▸ hb : _ ∧ _)
  have hm : 1 < (many : Int) := of_decide_eq_true hb2.2
  obtain ⟨k, ek, k0, k1, k2⟩ := okMod (x := c / 80) (show (0 : Int) < (many : Int) - 1 by omega)
  rw [ek]
  simp only [bs]
  obtain ⟨j, ej, j0, j1, j2⟩ := okMod (x := (n : Int) + 1 + k) (show (0 : Int) < (many : Int) by omega)
  rw [ej]
  simp only [bs]
  have hne : j ≠ (n : Int) := by
    intro e
    rw [e] at j0
    have h : ((n : Int) + 1 + k) % many = n % many := by
      rw [← j0, Int.emod_eq_of_lt (by omega) (by omega)]
    have h2 := Int.emod_emod_of_dvd ((n : Int) + 1 + k - n) (Int.dvd_refl (many : Int))
    have h3 : ((n : Int) + 1 + k - n) % many = 0 := Int.emod_eq_emod_iff_emod_sub_eq_zero.mp h
    have h4 : ((n : Int) + 1 + k - n) = 1 + k := by omega
    rw [h4, Int.emod_eq_of_lt (by omega) (by omega)] at h3
    omega
  obtain ⟨m, rfl⟩ := Int.eq_ofNat_of_zero_le j1
  have hm2 : m < many := by omega
  have hnm : m ≠ n := fun e => hne (by rw [e])
  refine (okAt (by omega) (by show _ < (2 : Int); omega)).bind fun fl hfl => ?_
  rcases Nat.lt_or_gt_of_ne hnm with z | z
  · have a1 : imin2 (n : Int) (m : Int) = (m : Int) := by unfold imin2; omega
    have a2 : imax2 (n : Int) (m : Int) = (n : Int) := by unfold imax2; omega
    rw [a1, a2, card_ok s (show m < 10 by omega), card_ok s (show n < 10 by omega)]
    simp only [bs]
    exact .ret ⟨gf_pair s z (by omega) hfl, ⟨m, hm2, rfl⟩, fun _ => ⟨m, n, z, hn, rfl, rfl⟩⟩
  · have a1 : imin2 (n : Int) (m : Int) = (n : Int) := by unfold imin2; omega
    have a2 : imax2 (n : Int) (m : Int) = (m : Int) := by unfold imax2; omega
    rw [a1, a2, card_ok s (show m < 10 by omega), card_ok s (show n < 10 by omega)]
    simp only [bs]
    exact .ret ⟨gf_pair s z (by omega) hfl, ⟨n, hn, rfl⟩, fun _ => ⟨n, m, z, hm2, rfl, rfl⟩⟩
end GZ

/-! rows told to the desk; orders -/
namespace GZ
open PySem PySem.Builtin PySem.Builtin.Str PySem.StrLaws TL L2 FK MS GR
open GD (m_read_book m_tidy GF Rw jn jn_mks gf_field gf_hand NmS row_rw alt_rw read_ok nl_tl empty_rw pass_hash hand_nf)
open GR (m_is_card)
open G (m__law_cell_at)
/-! ### rows -/
theorem gf_len {f : Fc} (h : GF f) : f.a.length ≤ 12 ∧ f.b.length ≤ 10 ∧ f.c.length ≤ 40 := by
  obtain ⟨c, fl, t, rfl, hc, ht, htl, h1, h2, h3, h⟩ := h
  refine ⟨?_, ?_, ?_⟩
  · show (mks c).length ≤ _
    rw [len_mks]
    exact hc.2.1
  · show (mks fl).length ≤ _
    rw [len_mks]
    exact h3
  · show (mks t).length ≤ _
    rw [len_mks]
    exact htl
theorem jn_add (a b c : Str) : a ++ " " ++ b ++ " " ++ c = jn a b c := by
  rw [← mks_tl a, ← mks_tl b, ← mks_tl c, jn_mks]
  refine ext_tl ?_
  simp only [tl_append, tl_mks, show tl (" " : Str) = [32] from by decide +kernel]
  simp
theorem row_add {a b c : Str} (h : a.length ≤ 40 ∧ b.length ≤ 40 ∧ c.length ≤ 40) {β : Type} (k : Str → Option β) : (Option.bind (Option.bind (Option.bind (Option.bind (sAdd a (" " : Str)) fun (t12 : Str) => (sAdd t12 b)) fun (t14 : Str) => (sAdd t14 (" " : Str))) fun (t16 : Str) => (sAdd t16 c)) k) = k (jn a b c) := by
  have b1 : (" " : Str).length = 1 := by decide
  obtain ⟨x, ex, hx⟩ := okAdd (x := a) (y := (" " : Str)) (by omega)
  rw [ex]
  simp only [bs]
  obtain ⟨y, ey, hy⟩ := okAdd (x := x) (y := b) (by omega)
  rw [ey]
  simp only [bs]
  obtain ⟨z, ez, hz⟩ := okAdd (x := y) (y := (" " : Str)) (by omega)
  rw [ez]
  simp only [bs]
  obtain ⟨u, eu, hu⟩ := okAdd (x := z) (y := c) (by omega)
  rw [eu]
  simp only [bs]
  rw [hu.1, hz.1, hy.1, hx.1, jn_add]
def noise (k : Int) : Str := ([("" : Str), "  ", "# bo", "#"][(k % 4).toNat]?).getD ""
theorem noise_at (k : Int) : atI [("" : Str), ("  " : Str), ("# bo" : Str), ("#" : Str)] (k % 4) = some (noise k) := by
  have h : k % 4 = ((k % 4).toNat : Int) := by omega
  unfold noise
  rw [h]
  have h2 : (k % 4).toNat < 4 := by omega
  generalize (k % 4).toNat = n at h2 ⊢
  have e : (((n : Int)).toNat) = n := rfl
  rw [atI_nat' _ n (by show n < 4; omega), e, List.getElem?_eq_getElem (show n < [("" : Str), "  ", "# bo", "#"].length from h2)]
  rfl
theorem noise_rw (k : Int) : Rw (noise k, none) := by
  have all : ∀ x ∈ [("" : Str), "  ", "# bo", "#"], 10 ∉ tl x ∧ x.length ≤ 101 ∧ GU.m_is_passed_by (x, ()) = some true := by decide +kernel
  have hm : noise k ∈ [("" : Str), "  ", "# bo", "#"] := by
    have := noise_at k
    exact (okAt (l := [("" : Str), "  ", "# bo", "#"]) (i := k % 4) (by omega) (by show _ < (4 : Int); omega)).elim fun z ⟨e, h⟩ => by
      rw [this] at e
      cases e
      exact h
  obtain ⟨h1, h2, h3⟩ := all _ hm
  exact ⟨h1, h2, h3, fun f e => by cases e⟩
def rowOf (c k : Int) (f : Fc) : List (Str × Option Fc) :=
  ((if f.b ∈ HAND ∧ (c + k) % 2 = 1 then jn f.c f.b f.a else jn f.a f.b f.c), some f) :: (if (c + k) % 5 = 3 then [(noise (c / 5 + k), none)] else [])
def rowsL (c : Int) : Nat → List Fc → List (Str × Option Fc)
  | _, [] => []
  | k, f :: r => rowOf c k f ++ rowsL c (k + 1) r
theorem rowOf_rw {c k : Int} {f : Fc} (h : GF f) : ∀ p ∈ rowOf c k f, Rw p := by
  intro p hp
  unfold rowOf at hp
  rcases List.mem_cons.mp hp with e | e
  · rw [e]
    by_cases hh : f.b ∈ HAND ∧ (c + k) % 2 = 1
    · rw [if_pos hh]
      exact alt_rw h hh.1
    · rw [if_neg hh]
      exact row_rw h
  · by_cases h3 : (c + k) % 5 = 3
    · rw [if_pos h3] at e
      rw [List.mem_singleton.mp e]
      exact noise_rw _
    · rw [if_neg h3] at e
      cases e
theorem rowsL_rw {c : Int} : ∀ (fs : List Fc) (k : Nat), (∀ f ∈ fs, GF f) → ∀ p ∈ rowsL c k fs, Rw p
  | [], _, _, p, hp => by cases hp
  | f :: r, k, h, p, hp => by
    rcases List.mem_append.mp hp with e | e
    · exact rowOf_rw (h f List.mem_cons_self) p e
    · exact rowsL_rw r (k + 1) (fun g hg => h g (List.mem_cons_of_mem _ hg)) p e
theorem rowsL_fm {c : Int} : ∀ (fs : List Fc) (k : Nat), (rowsL c k fs).filterMap (·.2) = fs
  | [], _ => rfl
  | f :: r, k => by
    show ((rowOf c k f) ++ rowsL c (k + 1) r).filterMap (·.2) = _
    rw [List.filterMap_append, rowsL_fm r (k + 1)]
    unfold rowOf
    by_cases h3 : (c + k) % 5 = 3
    · rw [if_pos h3]
      rfl
    · rw [if_neg h3]
      rfl
theorem rowsL_len {c : Int} : ∀ (fs : List Fc) (k : Nat), (rowsL c k fs).length ≤ 2 * fs.length
  | [], _ => Nat.le_refl _
  | f :: r, k => by
    show ((rowOf c k f) ++ rowsL c (k + 1) r).length ≤ _
    have := rowsL_len (c := c) r (k + 1)
    have h2 : (rowOf c k f).length ≤ 2 := by
      unfold rowOf
      rw [List.length_cons]
      split <;> simp
    rw [List.length_append, List.length_cons]
    omega
theorem rows_step (fs : List Fc) (c : Int) (s : List Str) (k : Nat) (f : Fc) (hf : GF f) (hs : s.length ≤ 1000) : b__law_rows_1 (fs, (c, ())) s ((k : Int), f) = some (s ++ (rowOf c k f).map (·.1)) := by
  obtain ⟨l1, l2, l3⟩ := gf_len hf
  unfold b__law_rows_1
  simp only [bs]
  rw [band_eq]
  have key : ∀ x y : Str, x.length ≤ 40 → y.length ≤ 40 → (Option.bind (some (x, y)) fun (s10 : (Str × Str)) => (Option.bind (Option.bind (Option.bind (Option.bind (Option.bind (sAdd s10.1 (" " : Str)) fun (t12 : Str) => (sAdd t12 f.b)) fun (t14 : Str) => (sAdd t14 (" " : Str))) fun (t16 : Str) => (sAdd t16 s10.2)) fun (t19 : Str) => (lApp s t19)) fun (rows_here_18 : (List Str)) => (ifM (some (decide (((c + (k : Int)) % 5) = (3 : Int)))) (Option.bind (Option.bind (atI [("" : Str), ("  " : Str), ("# bo" : Str), ("#" : Str)] (((c / 5) + (k : Int)) % 4)) fun (t21 : Str) => (lApp rows_here_18 t21)) fun (rows_here_20 : (List Str)) => (some rows_here_20)) (some rows_here_18)))) = some (s ++ jn x f.b y :: (if (c + k) % 5 = 3 then [noise (c / 5 + k)] else [])) := fun x y hx hy => by
    simp only [bs]
    rw [row_add ⟨hx, by omega, hy⟩, app_eq _ _ (by omega)]
    simp only [bs]
    by_cases h3 : (c + (k : Int)) % 5 = 3
    · rw [decide_eq_true h3, if_t, noise_at, if_pos h3]
      simp only [bs]
      rw [app_eq _ _ (by rw [List.length_append, List.length_singleton]; omega), bs, List.append_assoc]
      rfl
    · rw [decide_eq_false h3, if_f, if_neg h3]
  by_cases hh : f.b ∈ HAND ∧ (c + (k : Int)) % 2 = 1
  · have e : (decide (f.b ∈ [("same" : Str), ("apart" : Str)]) && decide ((c + (k : Int)) % 2 = 1)) = true := by
      rw [decide_eq_true hh.1, decide_eq_true hh.2]
      rfl
    rw [e, if_t]
    refine (key f.c f.a (by omega) (by omega)).trans ?_
    unfold rowOf
    rw [if_pos hh, List.map_cons]
    split <;> rfl
  · have e : (decide (f.b ∈ [("same" : Str), ("apart" : Str)]) && decide ((c + (k : Int)) % 2 = 1)) = false := by
      by_cases h1 : f.b ∈ [("same" : Str), ("apart" : Str)]
      · rw [decide_eq_true h1, decide_eq_false fun z => hh ⟨h1, z⟩]
        rfl
      · rw [decide_eq_false h1]
        rfl
    rw [e, if_f]
    refine (key f.a f.c (by omega) (by omega)).trans ?_
    unfold rowOf
    rw [if_neg hh, List.map_cons]
    split <;> rfl
theorem rows_loop (fs : List Fc) (c : Int) : ∀ (r : List Fc) (k : Nat) (s : List Str), (∀ f ∈ r, GF f) → s.length + 2 * r.length ≤ 1000 → forS (b__law_rows_1 (fs, (c, ()))) (enumF k r) s = some (s ++ (rowsL c k r).map (·.1))
  | [], k, s, _, _ => by
    show some s = some (s ++ [])
    rw [List.append_nil]
  | f :: r, k, s, h, hl => by
    rw [List.length_cons] at hl
    show (b__law_rows_1 (fs, (c, ())) s ((k : Int), f)).bind (forS (b__law_rows_1 (fs, (c, ()))) (enumF (k + 1) r)) = _
    have hz : (rowOf c k f).length ≤ 2 := by
      unfold rowOf
      rw [List.length_cons]
      split <;> simp
    rw [rows_step fs c s k f (h f List.mem_cons_self) (by omega), bs, rows_loop fs c r (k + 1) _ (fun g hg => h g (List.mem_cons_of_mem _ hg)) (by rw [List.length_append, List.length_map]; omega), List.append_assoc]
    show _ = some (s ++ (rowOf c k f ++ rowsL c (k + 1) r).map (·.1))
    rw [List.map_append]
theorem rows_join_len {rs : List (Str × Option Fc)} (h : ∀ p ∈ rs, Rw p) (hn : rs.length ≤ 400) : (Txt.join "\n" (rs.map (·.1))).length ≤ 50000 := by
  have h1 := join_len_str ("\n" : Str) (rs.map (·.1))
  have h2 := sum_le (l := (rs.map (·.1)).map (·.length)) (k := 101) fun x hx => by
    obtain ⟨y, hy, rfl⟩ := List.mem_map.mp hx
    obtain ⟨p, hp, rfl⟩ := List.mem_map.mp hy
    exact (h p hp).len
  rw [List.length_map, List.length_map] at h2
  rw [List.length_map, show ("\n" : Str).length = 1 from by decide +kernel] at h1
  omega
theorem sjoin_ok {rs : List (Str × Option Fc)} (h : ∀ p ∈ rs, Rw p) (hn : rs.length ≤ 400) : sJoin ("\n" : Str) (rs.map (·.1)) = some (Txt.join "\n" (rs.map (·.1))) := by
  refine if_pos ?_
  have h2 := sum_le (l := (rs.map (·.1)).map (·.length)) (k := 101) fun x hx => by
    obtain ⟨y, hy, rfl⟩ := List.mem_map.mp hx
    obtain ⟨p, hp, rfl⟩ := List.mem_map.mp hy
    exact (h p hp).len
  rw [List.length_map, List.length_map] at h2
  rw [List.length_map, show ("\n" : Str).length = 1 from by decide +kernel]
  omega
theorem rows_ok (fs : List Fc) (c : Int) (h : ∀ f ∈ fs, GF f) (hl : fs.length ≤ 100) : m__law_rows (fs, (c, ())) = some (Txt.join "\n" ((rowsL c 0 fs).map (·.1))) := by
  unfold m__law_rows
  simp only [bs]
  unfold enumL
  rw [rows_loop fs c fs 0 [] h (by rw [List.length_nil]; omega)]
  simp only [bs]
  rw [List.nil_append]
  have := rowsL_len (c := c) fs 0
  exact sjoin_ok (rowsL_rw fs 0 h) (by omega)
end GZ

/-! the tidy book; what the desk is told -/
namespace GZ
open PySem PySem.Builtin PySem.Builtin.Str PySem.StrLaws TL L2 FK MS GR
open GD (m_read_book m_tidy GF Rw jn jn_mks gf_field gf_hand NmS row_rw alt_rw read_ok nl_tl empty_rw pass_hash hand_nf)
open GR (m_is_card)
open G (m__law_cell_at)
open GC (m__law_book b__law_book_1)
open PySem.W (DatumOrd)
/-! ### the tidy book -/
def tb (fs : List Fc) : List Fc := srt (dd fs)
theorem mem_tb {fs : List Fc} {f : Fc} : f ∈ tb fs ↔ f ∈ fs := mem_srt'.trans mem_dd
theorem tb_rising (fs : List Fc) : Rising (tb fs) := srt_rising (nodup_dd fs)
theorem tb_len (fs : List Fc) : (tb fs).length ≤ fs.length := by
  show (srt (dd fs)).length ≤ _
  rw [len_srt]
  exact dd_len_le fun x h => h
theorem tb_eq {fs gs : List Fc} (h : ∀ f, f ∈ fs ↔ f ∈ gs) : tb fs = tb gs := rising_ext (tb_rising fs) (tb_rising gs) fun f => mem_tb.trans ((h f).trans mem_tb.symm)
theorem tdy_tb {fs : List Fc} (h : (dd fs).length ≤ 76) : tdy fs = some (tb fs) := if_pos h
theorem at_last {α : Type} (p : List α) (h : 0 < p.length) : atI p (-(1 : Int)) = p[p.length - 1]? := by
  unfold atI ixN
  rw [if_neg (by omega), if_pos (by omega)]
  show p[_]? = _
  congr 1
  omega
theorem at_last2 {α : Type} (p : List α) (x : α) : atI (p ++ [x]) (-(1 : Int)) = some x := by
  rw [at_last _ (by simp)]
  simp
theorem lastBk {S : List Fc} (hS : Asc S) (hl : S.length ≤ 1000) : Ok (forS b__law_book_1 S []) fun s => Rising s ∧ ∀ x, x ∈ s ↔ x ∈ S := by
  refine (okForL (fun p s => Rising s ∧ (∀ x, x ∈ s ↔ x ∈ p) ∧ s.length ≤ p.length ∧ ((s = [] ∧ p = []) ∨ ∃ s0 p0 x, s = s0 ++ [x] ∧ p = p0 ++ [x])) ⟨List.Pairwise.nil, fun _ => Iff.rfl, Nat.le_refl _, .inl ⟨rfl, rfl⟩⟩ fun p x q s e ⟨h1, h2, h3, h4⟩ => ?_).mono fun s h => ⟨h.1, h.2.1⟩
  have hpl : p.length ≤ 1000 := by
    have := congrArg List.length e
    rw [List.length_append, List.length_cons] at this
    omega
  have hle : ∀ y ∈ p, DatumOrd.lt x y = false := fun y hy => by
    rw [e] at hS
    exact (List.pairwise_append.mp hS).2.2 y hy x List.mem_cons_self
  unfold b__law_book_1
  simp only [bs]
  have add : Rising (s ++ [x]) → Ok (Option.bind (lApp s x) fun (book_here_6 : (List (T3 Str Str Str))) => (some book_here_6)) (fun s => Rising s ∧ (∀ y, y ∈ s ↔ y ∈ p ++ [x]) ∧ s.length ≤ (p ++ [x]).length ∧ ((s = [] ∧ p ++ [x] = []) ∨ ∃ s0 p0 z, s = s0 ++ [z] ∧ p ++ [x] = p0 ++ [z])) := fun hr => by
    rw [app_eq _ _ (by omega)]
    refine .ret ⟨hr, fun y => ?_, ?_, .inr ⟨s, p, x, rfl, rfl⟩⟩
    · rw [List.mem_append, List.mem_append, h2]
    · rw [List.length_append, List.length_append]
      omega
  rcases h4 with ⟨e1, e2⟩ | ⟨s0, p0, y, e1, e2⟩
  · subst e1 e2
    have e3 : decide (((([] : List Fc).length : Nat) : Int) = 0) = true := by decide
    rw [e3, or_t, if_t]
    exact add (List.pairwise_singleton _ _)
  · have e3 : decide ((s.length : Int) = 0) = false := decide_eq_false (by rw [e1, List.length_append, List.length_singleton]; omega)
    rw [e3, or_f, e1, at_last2, ← e1]
    simp only [bs]
    by_cases hxy : y = x
    · rw [decide_eq_true hxy]
      show Ok (ifM (some false) _ _) _
      rw [if_f]
      refine .ret ⟨h1, fun z => ?_, by rw [List.length_append]; omega, .inr ⟨s0, p, x, by rw [e1, hxy], rfl⟩⟩
      rw [h2, List.mem_append, List.mem_singleton]
      exact ⟨.inl, fun h => h.elim id fun h => by rw [h, e2, hxy]; simp⟩
    · rw [decide_eq_false hxy]
      show Ok (ifM (some true) _ _) _
      rw [if_t]
      refine add (List.pairwise_append.mpr ⟨h1, List.pairwise_singleton _ _, fun a ha b hb => ?_⟩)
      rw [List.mem_singleton.mp hb]
      have hyp : y ∈ p := by rw [e2]; simp
      have lyx : DatumOrd.lt y x = true := by
        cases q : DatumOrd.lt y x with
        | true => rfl
        | false => exact absurd (Lo.tri q (hle y hyp)) hxy
      rw [e1] at ha h1
      rcases List.mem_append.mp ha with z | z
      · exact Lo.tr ((List.pairwise_append.mp h1).2.2 a z y (List.mem_singleton.mpr rfl)) lyx
      · rw [List.mem_singleton.mp z]
        exact lyx
theorem law_book_eq {fs : List Fc} (hl : fs.length ≤ 1000) : m__law_book (fs, ()) = some (tb fs) := by
  unfold m__law_book
  obtain ⟨S, eS, hS⟩ := okSort (x := fs) (by omega)
  simp only [bs]
  rw [eS]
  simp only [bs]
  obtain ⟨s, es, h1, h2⟩ := lastBk (S := S) (by rw [hS]; exact srt_asc fs) (by rw [hS, len_srt]; exact hl)
  rw [es]
  simp only [bs]
  congr 1
  refine rising_ext h1 (tb_rising fs) fun x => ?_
  rw [h2, hS, mem_tb, mem_srt']
/-! ### a book shown -/
def sh (bk : List Fc) : Str := Txt.join "\n" (bk.map fun f => jn f.a f.b f.c)
theorem shj {bk : List Fc} (hb : bk.length ≤ 400) (hg : ∀ f ∈ bk, GF f) : sJoin ("\n" : Str) (bk.map fun f => jn f.a f.b f.c) = some (sh bk) := by
  have := sjoin_ok (rs := bk.map fun f => (jn f.a f.b f.c, some f)) (fun p hp => by
    obtain ⟨f, hf, rfl⟩ := List.mem_map.mp hp
    exact row_rw (hg f hf)) (by rw [List.length_map]; exact hb)
  rw [List.map_map] at this
  exact this
theorem show_eq {bk : List Fc} (hb : bk.length ≤ 400) (hg : ∀ f ∈ bk, GF f) : m_show_book (bk, ()) = some (sh bk) := by
  unfold m_show_book
  simp only [bs]
  rw [lc_mp (g := fun f : Fc => jn f.a f.b f.c) (by omega) fun f hf => ?_]
  · simp only [bs]
    exact shj hb hg
  · unfold b_show_book_1
    obtain ⟨l1, l2, l3⟩ := gf_len (hg f hf)
    refine if_pos ?_
    have b1 : (" " : Str).length = 1 := by decide
    simp [b1]
    omega
theorem shown_eq {bk : List Fc} (hb : bk.length ≤ 400) (hg : ∀ f ∈ bk, GF f) : m__law_shown (bk, ()) = some (sh bk) := by
  unfold m__law_shown
  simp only [bs]
  rw [lc_mp (g := fun f : Fc => jn f.a f.b f.c) (by omega) fun f hf => ?_]
  · simp only [bs]
    exact shj hb hg
  · unfold b__law_shown_1
    obtain ⟨l1, l2, l3⟩ := gf_len (hg f hf)
    have := row_add (a := f.a) (b := f.b) (c := f.c) ⟨by omega, by omega, by omega⟩ (fun x => some x)
    simp only [bs, bsr] at this ⊢
    exact this
/-! ### the rows of a text -/
def nz (rs : List (Str × Option Fc)) : List (Str × Option Fc) := if rs = [] then [("", none)] else rs
theorem nz_rw {rs : List (Str × Option Fc)} (h : ∀ p ∈ rs, Rw p) : ∀ p ∈ nz rs, Rw p := by
  unfold nz
  split
  · intro p hp
    rw [List.mem_singleton.mp hp]
    exact empty_rw
  · exact h
theorem nz_fm (rs : List (Str × Option Fc)) : (nz rs).filterMap (·.2) = rs.filterMap (·.2) := by
  unfold nz
  split
  · rename_i h
    rw [h]
    rfl
  · rfl
theorem nz_len {rs : List (Str × Option Fc)} (h : rs.length ≤ 399) : (nz rs).length ≤ 400 := by
  unfold nz
  split
  · simp
  · omega
theorem nz_join (h : Str) (rs : List (Str × Option Fc)) : h ++ "\n" ++ Txt.join "\n" (rs.map (·.1)) = Txt.join "\n" (h :: (nz rs).map (·.1)) := by
  unfold nz
  by_cases e : rs = []
  · rw [if_pos e, e, join_eq, join_eq]
    rfl
  · rw [if_neg e, join_eq, join_eq]
    cases rs with
    | nil => exact absurd rfl e
    | cons x r => rfl
theorem split_rows {h : Str} (hh : 10 ∉ tl h) (hl : h.length ≤ 1000) {rs : List Str} (hr : ∀ x ∈ rs, 10 ∉ tl x ∧ x.length ≤ 101) (hn : rs.length ≤ 400) : sSplit (Txt.join "\n" (h :: rs)) ("\n" : Str) = some (h :: rs) := by
  have h1 := join_len_str ("\n" : Str) (h :: rs)
  have h2 := sum_le (l := (h :: rs).map (·.length)) (k := 1000) fun x hx => by
    obtain ⟨y, hy, rfl⟩ := List.mem_map.mp hx
    rcases List.mem_cons.mp hy with e | e
    · rw [e]; exact hl
    · have := (hr y e).2
      omega
  rw [List.length_map, List.length_cons] at h2
  rw [List.length_cons, show ("\n" : Str).length = 1 from by decide +kernel] at h1
  unfold sSplit
  rw [if_pos ⟨by decide +kernel, by omega⟩, TL.split_join nl_tl (by decide +kernel) (by simp) fun p hp => by
    rcases List.mem_cons.mp hp with e | e
    · rw [e]; exact hh
    · exact (hr p e).1]
theorem by_ok {rs : List (Str × Option Fc)} (h : ∀ p ∈ rs, Rw p) (hn : rs.length ≤ 400) : m_book_by (rs.map (·.1), ()) = tdy (rs.filterMap (·.2)) := by
  unfold m_book_by
  rw [sjoin_ok h hn]
  simp only [bs]
  exact read_ok rs h hn
/-! ### orders -/
abbrev NAMES : List (Str × Int) := [(("book" : Str), 1), (("rules" : Str), 0), (("show" : Str), 1), (("pour" : Str), 4), (("groups" : Str), 1), (("loss" : Str), 1), (("told" : Str), 2)]
theorem split_words {ws : List Str} (hne : ws ≠ []) (h : ∀ x ∈ ws, 32 ∉ tl x ∧ x.length ≤ 100) (hn : ws.length ≤ 100) : sSplit (Txt.join " " ws) (" " : Str) = some ws := by
  have h1 := join_len_str (" " : Str) ws
  have h2 := sum_le (l := ws.map (·.length)) (k := 100) fun x hx => by
    obtain ⟨y, hy, rfl⟩ := List.mem_map.mp hx
    exact (h y hy).2
  rw [List.length_map] at h2
  rw [show (" " : Str).length = 1 from by decide +kernel] at h1
  unfold sSplit
  rw [if_pos ⟨by decide +kernel, by omega⟩, TL.split_join (show tl (" " : Str) = 32 :: [] from by decide +kernel) (by decide +kernel) hne fun p hp => (h p hp).1]
theorem card_is {x : Str} (h : NmS x) : m_is_card (x, ()) = some true := by
  obtain ⟨k, rfl, hk⟩ := h
  rw [card_any k (by have := hk.2.1; omega), decide_eq_true hk]
theorem cards_all {ns : List Str} (h : ∀ n ∈ ns, NmS n) (hl : ns.length ≤ 100) : lcG (fun _ => some true) (fun x => m_is_card (x, ())) ns = some (ns.map fun _ => true) := lc_mp (by omega) fun x hx => card_is (h x hx)
theorem all_tr : ∀ ns : List Str, ((ns.map fun _ => true).all id) = true
  | [] => rfl
  | _ :: r => all_tr r
theorem nms_word {x : Str} (h : NmS x) : 32 ∉ tl x ∧ x.length ≤ 100 := by
  obtain ⟨k, rfl, hk⟩ := h
  rw [tl_mks, len_mks]
  exact ⟨hk.noblank, by have := hk.2.1; omega⟩
theorem order_n {w : Str} {ns : List Str} (h1 : w ∉ [("hold" : Str), "part", "free"]) (h2 : w ≠ "right") (hN : dIn NAMES w = some (ns.length : Int)) (hns : ∀ n ∈ ns, NmS n) (hw : 32 ∉ tl w ∧ w.length ≤ 100) (hl : ns.length ≤ 10) :
    m_order_of (Txt.join " " (w :: ns), ()) = some (w :: ns) := by
  unfold m_order_of
  rw [split_words (by simp) (fun x hx => by
    rcases List.mem_cons.mp hx with e | e
    · rw [e]; exact hw
    · exact nms_word (hns x e)) (by rw [List.length_cons]; omega)]
  have e0 : atI (w :: ns) (0 : Int) = some w := G.at0 _ _
  have e1 : cutA (w :: ns) (some (1 : Int)) none = ns := cut_from (w :: ns) 1
  simp only [bs]
  rw [e0, e1]
  simp only [bs]
  rw [decide_eq_false h1, if_f, decide_eq_false h2, if_f, hN, decide_eq_true rfl]
  simp only [bs]
  rw [cards_all hns (by omega)]
  simp only [bs]
  rw [all_tr]
  rfl
end GZ

/-! the first row of what the desk is told; rows of blanks behind it -/
namespace GZ
open PySem PySem.Builtin PySem.Builtin.Str PySem.StrLaws TL L2 FK MS GR
open GD (m_read_book m_tidy GF Rw NmS)
theorem word2 (wb w x : Str) (h : tl wb = tl w ++ [32]) : wb ++ x = Txt.join " " [w, x] := by
  rw [join_eq]
  refine ext_tl ?_
  show tl (wb ++ x) = tl (w ++ " " ++ x)
  rw [tl_append, tl_append, tl_append, h, show tl (" " : Str) = [32] from by decide +kernel]
theorem nms10 {x : Str} (h : NmS x) : 10 ∉ tl x ∧ x.length ≤ 12 := by
  obtain ⟨k, rfl, hk⟩ := h
  rw [tl_mks, len_mks]
  exact ⟨GD.nm10 hk, hk.2.1⟩
theorem head_ok {wb x : Str} (hx : NmS x) (h10 : 10 ∉ tl wb) (hl : wb.length ≤ 10) : 10 ∉ tl (wb ++ x) ∧ (wb ++ x).length ≤ 1000 := by
  obtain ⟨h1, h2⟩ := nms10 hx
  refine ⟨?_, ?_⟩
  · rw [tl_append]
    exact fun m => (List.mem_append.mp m).elim h10 h1
  · rw [len_tl, tl_append, List.length_append, ← len_tl, ← len_tl]
    omega
theorem rws {rs : List (Str × Option Fc)} (h : ∀ p ∈ rs, Rw p) : ∀ x ∈ rs.map (·.1), 10 ∉ tl x ∧ x.length ≤ 101 := fun x hx => by
  obtain ⟨p, hp, rfl⟩ := List.mem_map.mp hx
  exact ⟨(h p hp).nl, (h p hp).len⟩
theorem order_1 {w x : Str} (h1 : w ∉ [("hold" : Str), "part", "free"]) (h2 : w ≠ "right") (hN : dIn NAMES w = some 1) (hw : 32 ∉ tl w ∧ w.length ≤ 100) (hx : NmS x) : m_order_of (Txt.join " " [w, x], ()) = some [w, x] :=
  order_n h1 h2 hN (fun n hn => by rw [List.mem_singleton.mp hn]; exact hx) hw (by simp)
theorem order_book {x : Str} (hx : NmS x) : m_order_of (("book " : Str) ++ x, ()) = some [("book" : Str), x] := by
  rw [word2 "book " "book" x (by decide +kernel)]
  exact order_1 (by decide +kernel) (by decide +kernel) (by decide +kernel) (by decide +kernel) hx
theorem order_show {x : Str} (hx : NmS x) : m_order_of (("show " : Str) ++ x, ()) = some [("show" : Str), x] := by
  rw [word2 "show " "show" x (by decide +kernel)]
  exact order_1 (by decide +kernel) (by decide +kernel) (by decide +kernel) (by decide +kernel) hx
theorem bof_ok {d : Dk} {x : Str} {bk : List Fc} (hb : dGet d.b.l x = some bk) : GZ.m_Desk__book_of (d, (x, ())) = some bk := by
  unfold GZ.m_Desk__book_of dHas
  rw [hb]
  show ifM (some false) _ _ = _
  rw [if_f]
def blankRows : List Str := ["", "  "]
theorem blank_rows {rs : List Str} (h : ∀ y ∈ rs, y ∈ blankRows) : ∀ y ∈ rs, 10 ∉ tl y ∧ y.length ≤ 101 := fun y hy => by
  have all : ∀ y ∈ blankRows, 10 ∉ tl y ∧ y.length ≤ 101 := by decide +kernel
  exact all y (h y hy)
theorem need_ok (rs : List Str) (h : ∀ x ∈ rs, x ∈ blankRows) : m_need_no_rows (rs, ((2 : Int), ())) = some () := by
  have step : ∀ (k : Nat) (r : List Str), (∀ x ∈ r, x ∈ blankRows) → forS b_need_no_rows_1 (enumF k r) () = some () := by
    intro k r
    induction r generalizing k with
    | nil => intro _; rfl
    | cons x r ih =>
      intro hr
      have all : ∀ x ∈ blankRows, b_need_no_rows_1 () ((0 : Int), x) = some () := by decide +kernel
      show (b_need_no_rows_1 () ((k : Int), x)).bind _ = _
      have e : b_need_no_rows_1 () ((k : Int), x) = some () := all x (hr x List.mem_cons_self)
      rw [e, bs]
      exact ih (k + 1) fun y hy => hr y (List.mem_cons_of_mem _ hy)
  unfold m_need_no_rows
  simp only [bs]
  unfold enumL
  rw [step 0 rs h]
  rfl
theorem dT (h : Decidable True) : @decide True h = true := decide_eq_true trivial
theorem cutT {α : Type} (a : α) (l : List α) : cutA (a :: l) (some (1 : Int)) none = l := cut_from (a :: l) 1
/-- the text of a book's order -/
theorem book_text {x r : Str} (hx : x.length ≤ 100) (hr : r.length ≤ 50000) {β : Type} (k : Str → Option β) : (Option.bind (Option.bind (Option.bind (sAdd ("book " : Str) x) fun (t22 : Str) => (sAdd t22 ("\n" : Str))) fun (t29 : Str) => (sAdd t29 r)) k) = k (("book " : Str) ++ x ++ "\n" ++ r) := by
  have b1 : ("book " : Str).length = 5 := by decide
  have b2 : ("\n" : Str).length = 1 := by decide
  obtain ⟨a, ea, ha⟩ := okAdd (x := ("book " : Str)) (y := x) (by omega)
  rw [ea]
  simp only [bs]
  obtain ⟨b, eb, hb⟩ := okAdd (x := a) (y := ("\n" : Str)) (by omega)
  rw [eb]
  simp only [bs]
  obtain ⟨c, ec, hc⟩ := okAdd (x := b) (y := r) (by omega)
  rw [ec]
  simp only [bs]
  rw [hc.1, hb.1, ha.1]
theorem add_text {w x : Str} (hw : w.length ≤ 1000) (hx : x.length ≤ 1000) : sAdd w x = some (w ++ x) := if_pos (by omega)
end GZ

namespace K51
open PySem PySem.Builtin PySem.Builtin.Str PySem.StrLaws TL L2 FK MS GR GZ
open GD (m_read_book m_tidy GF Rw NmS)
theorem cell_g : m__law_cell_at = G.m__law_cell_at := rfl
theorem card_g : m__law_card = GZ.m__law_card := rfl
theorem fact_g : m__law_fact = GZ.m__law_fact := rfl
theorem rows_g : m__law_rows = GZ.m__law_rows := rfl
theorem shown_g : m__law_shown = GZ.m__law_shown := rfl
theorem book_g : m__law_book = GC.m__law_book := rfl
theorem order_g : m_order_of = GZ.m_order_of := rfl
theorem by_g : m_book_by = GZ.m_book_by := rfl
theorem need_g : m_need_no_rows = GZ.m_need_no_rows := rfl
theorem bof_g : m_Desk__book_of = GZ.m_Desk__book_of := rfl
theorem show_g : m_show_book = GZ.m_show_book := rfl
theorem say_bookG (d : Dk) {x : Str} (hx : NmS x) {rs : List (Str × Option Fc)} (h : ∀ p ∈ rs, Rw p) (hn : rs.length ≤ 400) {T : List Fc} (hT : tdy (rs.filterMap (·.2)) = some T) (hd : d.b.l.length ≤ 1000) :
    m_Desk__say d (Txt.join "\n" (("book " ++ x) :: rs.map (·.1)), ()) = some (({ d with b := ⟨dPut d.b.l x T⟩ } : Dk), ("ok" : Str)) := by
  obtain ⟨h1, h2⟩ := head_ok (wb := "book ") hx (by decide +kernel) (by decide +kernel)
  unfold m_Desk__say
  rw [order_g, by_g, split_rows h1 h2 (rws h) (by rw [List.length_map]; exact hn)]
  simp only [bs]
  rw [G.at0]
  simp only [bs]
  rw [order_book hx]
  simp only [bs]
  rw [G.at0, G.at1]
  simp only [bs]
  rw [dT, if_t, cutT, by_ok h hn, hT]
  simp only [bs]
  unfold dkPut dSet
  rw [if_pos (by omega)]
  rfl
theorem say_show (d : Dk) {x : Str} (hx : NmS x) {rs : List Str} (h : ∀ y ∈ rs, y ∈ blankRows) (hn : rs.length ≤ 100) {bk : List Fc} (hb : dGet d.b.l x = some bk) (hl : bk.length ≤ 400) (hg : ∀ f ∈ bk, GF f) :
    m_Desk__say d (Txt.join "\n" (("show " ++ x) :: rs), ()) = some (d, sh bk) := by
  obtain ⟨h1, h2⟩ := head_ok (wb := "show ") hx (by decide +kernel) (by decide +kernel)
  unfold m_Desk__say
  rw [order_g, need_g, bof_g, split_rows h1 h2 (blank_rows h) (by omega)]
  simp only [bs]
  rw [G.at0]
  simp only [bs]
  rw [order_show hx]
  simp only [bs]
  rw [G.at0, G.at1]
  simp only [bs]
  rw [decide_eq_false (show ¬ ("show" : Str) = "book" by decide), if_f, decide_eq_false (show ¬ ("show" : Str) = "rules" by decide), if_f, decide_eq_false (show ¬ ("show" : Str) = "right" by decide), if_f, cutT, need_ok rs h]
  simp only [bs]
  rw [decide_eq_false (show ¬ ("show" : Str) = "pour" by decide), if_f, bof_ok hb]
  simp only [bs]
  rw [decide_eq_false (show ¬ ("show" : Str) ∈ [("hold" : Str), "part", "free"] by decide), if_f]
  unfold m_Desk__asked zOf
  rw [show_g]
  simp only [bs]
  rw [G.at0]
  simp only [bs]
  rw [dT, if_t, show_eq hl hg]
  rfl
theorem zst {β : Type} (d : Dk) (x : Str) (f g : Dk → Option β) : zIf (zB (some (d, x)) fun d t => some (d, !decide (t = x))) f g = g d := by
  show zIf (some (d, !decide (x = x))) f g = _
  rw [decide_eq_true rfl]
  rfl
theorem zan (d : Dk) (f : Dk → Option (Dk × Bool)) : zAnd (some (d, true)) f = f d := rfl
theorem tell (d : Dk) {x : Str} (hx : NmS x) {fs : List Fc} (c : Int) (hf : ∀ f ∈ fs, GF f) (hl : fs.length ≤ 40) (hd : d.b.l.length ≤ 1000) :
    (((((sAdd ("book " : Str) x).bind fun t22 => sAdd t22 ("\n" : Str)).bind fun t29 => (GZ.m__law_rows (fs, c, ())).bind fun t30 => sAdd t29 t30).bind fun t31 => some (t31, ())).bind fun t33 => m_Desk__say d t33) = some (({ d with b := ⟨dPut d.b.l x (tb fs)⟩ } : Dk), ("ok" : Str)) := by
  have hr := rowsL_rw (c := c) fs 0 hf
  have hn := rowsL_len (c := c) fs 0
  rw [rows_ok fs c hf (by omega)]
  simp only [bs]
  rw [Option.bind_assoc, book_text (by have := (nms10 hx).2; omega) (rows_join_len hr (by omega))]
  simp only [bs]
  rw [nz_join]
  refine say_bookG d hx (nz_rw hr) (nz_len (by omega)) ?_ hd
  rw [nz_fm, rowsL_fm]
  refine tdy_tb (Nat.le_trans (dd_len_le fun x h => h) (by omega))
theorem ask (d : Dk) {x : Str} (hx : NmS x) {bk : List Fc} (hb : dGet d.b.l x = some bk) (hl : bk.length ≤ 400) (hg : ∀ f ∈ bk, GF f) : (((sAdd ("show " : Str) x).bind fun t31 => some (t31, ())).bind fun t62 => m_Desk__say d t62) = some (d, sh bk) := by
  rw [add_text (by decide) (by have := (nms10 hx).2; omega)]
  simp only [bs]
  have := say_show d hx (rs := []) (fun y hy => by cases hy) (by decide) hb hl hg
  exact this
theorem ask2 (d : Dk) {x : Str} (hx : NmS x) {bk : List Fc} (hb : dGet d.b.l x = some bk) (hl : bk.length ≤ 400) (hg : ∀ f ∈ bk, GF f) : ((((sAdd ("show " : Str) x).bind fun t72 => sAdd t72 ("\n  " : Str)).bind fun t31 => some (t31, ())).bind fun t62 => m_Desk__say d t62) = some (d, sh bk) := by
  have h12 := (nms10 hx).2
  obtain ⟨a, ea, ha⟩ := okAdd (x := ("show " : Str)) (y := x) (by show 5 + x.length ≤ _; omega)
  rw [ea]
  simp only [bs]
  rw [add_text (by rw [ha.2]; show 5 + x.length ≤ _; omega) (by decide)]
  simp only [bs]
  have := say_show d hx (rs := ["  "]) (fun y hy => by rw [List.mem_singleton.mp hy]; decide) (by decide) hb hl hg
  rw [ha.1]
  rw [join_eq] at this
  have e : ("show " : Str) ++ x ++ ("\n  " : Str) = Str.join "\n" [("show " : Str) ++ x, "  "] := by
    refine ext_tl ?_
    show tl (("show " : Str) ++ x ++ ("\n  " : Str)) = tl (("show " : Str) ++ x ++ ("\n" : Str) ++ ("  " : Str))
    rw [tl_append, tl_append (_ ++ _), tl_append (("show " : Str) ++ x), List.append_assoc]
    congr 1
  rw [e]
  exact this
theorem shb {fs : List Fc} (hf : ∀ f ∈ fs, GF f) (hl : fs.length ≤ 40) : (((GC.m__law_book (fs, ())).bind fun t66 => some (t66, ())).bind GZ.m__law_shown) = some (sh (tb fs)) := by
  rw [law_book_eq (by omega)]
  simp only [bs]
  exact shown_eq (by have := tb_len fs; omega) fun f h => hf f (mem_tb.mp h)
theorem law_true (ns : List Int) (_h : ns.length ≤ 63) : m_law (⟨ns⟩, ()) = some true := by
  obtain ⟨s, es, _⟩ := G.cell_ok ⟨ns⟩ 0 (by decide)
  obtain ⟨w, ew, _⟩ := G.cell_ok ⟨ns⟩ 1 (by decide)
  refine okEq ?_
  unfold m_law
  rw [cell_g, card_g, fact_g, rows_g, shown_g, book_g]
  simp only [es, ew, bs]
  have hc : (cutA ns (some 2) (some 42)).length ≤ 40 := cut_mid ns 2 42 (by decide) (by decide)
  have hmany : (1 : Int) + w % 6 = (((1 + w % 6).toNat : Nat) : Int) := by omega
  rw [hmany]
  refine (okMap (Q := fun f => GF f) (by omega) fun x _ => (fact_ok s (1 + w % 6).toNat x (by omega) (by omega)).mono fun f h => h.gf).bind fun fs ⟨hl, hf⟩ => ?_
  obtain ⟨k, ek, e0, k0, k1⟩ := okMod (x := w / 6) (show (0 : Int) < (fs.length : Int) + 1 by omega)
  rw [ek]
  simp only [bs]
  generalize hfew : cutA fs none (some k) = few
  have hfew2 : ∀ f ∈ few, GF f := fun f h => hf f (G.mem_cut (hfew ▸ h))
  have hfewl : few.length ≤ 40 := by
    rw [← hfew]
    have := cut_len fs none (some k)
    omega
  have e1 : GZ.m__law_card (s / 7, (1, ())) = some (card (s / 7) 1) := card_ok (s / 7) (k := 1) (by decide)
  have e2 : GZ.m__law_card (s / 7, (2, ())) = some (card (s / 7) 2) := card_ok (s / 7) (k := 2) (by decide)
  have n1 : NmS (card (s / 7) 1) := ⟨_, rfl, card_nm (s / 7) (by decide)⟩
  have n2 : NmS (card (s / 7) 2) := ⟨_, rfl, card_nm (s / 7) (by decide)⟩
  have ne : card (s / 7) 1 ≠ card (s / 7) 2 := fun e => absurd (card_inj _ e) (by decide)
  rw [e1, e2]
  simp only [bs]
  generalize card (s / 7) 1 = one at n1 ne ⊢
  generalize card (s / 7) 2 = other at n2 ne ⊢
  have hrev : ∀ f ∈ fs.reverse, GF f := fun f h => hf f (List.mem_reverse.mp h)
  have tl1 : (tb few).length ≤ 400 := by have := tb_len few; omega
  have tl2 : (tb fs).length ≤ 400 := by have := tb_len fs; omega
  have tg1 : ∀ f ∈ tb few, GF f := fun f h => hfew2 f (mem_tb.mp h)
  have tg2 : ∀ f ∈ tb fs, GF f := fun f h => hf f (mem_tb.mp h)
  have erev : tb fs.reverse = tb fs := tb_eq fun f => List.mem_reverse
  have l1 := GK.len_put_ ([] : List (Str × Bo)) one (tb few)
  rw [List.length_nil] at l1
  rw [tell _ n1 (w / 60) hfew2 hfewl (by decide), zst, tell _ n2 (w / 120) hrev (by rw [List.length_reverse]; omega) (by show (dPut [] one (tb few)).length ≤ 1000; omega), zst, erev]
  have d1 : dGet (dPut (dPut ([] : List (Str × Bo)) one (tb few)) other (tb fs)) one = some (tb few) := by rw [GK.dget_put_, if_neg ne, GK.dget_put_, if_pos rfl]
  have d2 : dGet (dPut (dPut ([] : List (Str × Bo)) one (tb few)) other (tb fs)) other = some (tb fs) := by rw [GK.dget_put_, if_pos rfl]
  have l2 := GK.len_put_ (dPut ([] : List (Str × Bo)) one (tb few)) other (tb fs)
  rw [ask _ n1 d1 tl1 tg1, shb hfew2 hfewl]
  simp only [bs]
  rw [zst, ask2 _ n2 d2 tl2 tg2, shb hf (by omega)]
  simp only [bs]
  rw [zst, tell _ n1 3 hf (by omega) (by show (dPut (dPut [] one (tb few)) other (tb fs)).length ≤ 1000; omega), zst]
  have d3 : dGet (dPut (dPut (dPut ([] : List (Str × Bo)) one (tb few)) other (tb fs)) one (tb fs)) one = some (tb fs) := by rw [GK.dget_put_, if_pos rfl]
  rw [ask _ n1 d3 tl2 tg2]
  simp only [bs]
  rw [zst]
  have l3 := GK.len_put_ (dPut (dPut ([] : List (Str × Bo)) one (tb few)) other (tb fs)) one (tb fs)
  have last : ∀ d : Dk, d.b.l.length ≤ 1000 → (((sAdd ("book " : Str) other).bind fun t31 => some (t31, ())).bind fun t33 => m_Desk__say d t33) = some (({ d with b := ⟨dPut d.b.l other (tb [])⟩ } : Dk), ("ok" : Str)) := fun d hd => by
    rw [add_text (by decide) (by have := (nms10 n2).2; omega)]
    simp only [bs]
    exact say_bookG d n2 (rs := []) (fun p h => by cases h) (by decide) (tdy_tb (by decide)) hd
  rw [last _ (by show (dPut (dPut (dPut [] one (tb few)) other (tb fs)) one (tb fs)).length ≤ 1000; omega)]
  show Ok (Option.bind (zAnd (some (_, decide (("ok" : Str) = "ok"))) _) _) _
  rw [decide_eq_true rfl]
  rw [zan]
  rw [ask _ n2 (bk := tb []) (by rw [GK.dget_put_, if_pos rfl]) (by have := tb_len []; rw [List.length_nil] at this; omega) (fun f h => absurd (mem_tb.mp h) (by simp))]
  exact .ret (show decide (sh (tb []) = "") = true by decide +kernel)
end K51

namespace K51
open PySem PySem.Spec PyProof.Rows L2 FK
def hd__law_cell_at : He.FnD := ⟨(("_law_cell_at" : Str), none), ("_law_cell_at" : Str), ("_law_cell_at" : Str), defArgs s__law_cell_at, defBody s__law_cell_at, defScope s__law_cell_at⟩
def hd__law_card : He.FnD := ⟨(("_law_card" : Str), none), ("_law_card" : Str), ("_law_card" : Str), defArgs s__law_card, defBody s__law_card, defScope s__law_card⟩
def hd__law_great : He.FnD := ⟨(("_law_great" : Str), none), ("_law_great" : Str), ("_law_great" : Str), defArgs s__law_great, defBody s__law_great, defScope s__law_great⟩
def hd__law_text : He.FnD := ⟨(("_law_text" : Str), none), ("_law_text" : Str), ("_law_text" : Str), defArgs s__law_text, defBody s__law_text, defScope s__law_text⟩
def hd__law_fact : He.FnD := ⟨(("_law_fact" : Str), none), ("_law_fact" : Str), ("_law_fact" : Str), defArgs s__law_fact, defBody s__law_fact, defScope s__law_fact⟩
def hd_is_card : He.FnD := ⟨(("is_card" : Str), none), ("is_card" : Str), ("is_card" : Str), defArgs s_is_card, defBody s_is_card, defScope s_is_card⟩
def hd_order_of : He.FnD := ⟨(("order_of" : Str), none), ("order_of" : Str), ("order_of" : Str), defArgs s_order_of, defBody s_order_of, defScope s_order_of⟩
def hd_is_passed_by : He.FnD := ⟨(("is_passed_by" : Str), none), ("is_passed_by" : Str), ("is_passed_by" : Str), defArgs s_is_passed_by, defBody s_is_passed_by, defScope s_is_passed_by⟩
def hd_is_text : He.FnD := ⟨(("is_text" : Str), none), ("is_text" : Str), ("is_text" : Str), defArgs s_is_text, defBody s_is_text, defScope s_is_text⟩
def hd_fact_of : He.FnD := ⟨(("fact_of" : Str), none), ("fact_of" : Str), ("fact_of" : Str), defArgs s_fact_of, defBody s_fact_of, defScope s_fact_of⟩
def hd_fact_at : He.FnD := ⟨(("fact_at" : Str), none), ("fact_at" : Str), ("fact_at" : Str), defArgs s_fact_at, defBody s_fact_at, defScope s_fact_at⟩
def hd_tidy : He.FnD := ⟨(("tidy" : Str), none), ("tidy" : Str), ("tidy" : Str), defArgs s_tidy, defBody s_tidy, defScope s_tidy⟩
def hd_read_book : He.FnD := ⟨(("read_book" : Str), none), ("read_book" : Str), ("read_book" : Str), defArgs s_read_book, defBody s_read_book, defScope s_read_book⟩
def hd_book_by : He.FnD := ⟨(("book_by" : Str), none), ("book_by" : Str), ("book_by" : Str), defArgs s_book_by, defBody s_book_by, defScope s_book_by⟩
def hd_need_no_rows : He.FnD := ⟨(("need_no_rows" : Str), none), ("need_no_rows" : Str), ("need_no_rows" : Str), defArgs s_need_no_rows, defBody s_need_no_rows, defScope s_need_no_rows⟩
def hd_Desk__book_of : He.FnD := ⟨(("Desk" : Str), some ("book_of" : Str)), ("book_of" : Str), ("Desk.book_of" : Str), defArgs s_Desk__book_of, defBody s_Desk__book_of, defScope s_Desk__book_of⟩
def hd_show_book : He.FnD := ⟨(("show_book" : Str), none), ("show_book" : Str), ("show_book" : Str), defArgs s_show_book, defBody s_show_book, defScope s_show_book⟩
def hd_Desk__asked : He.FnD := ⟨(("Desk" : Str), some ("asked" : Str)), ("asked" : Str), ("Desk.asked" : Str), defArgs s_Desk__asked, defBody s_Desk__asked, defScope s_Desk__asked⟩
def hd_Desk__say : He.FnD := ⟨(("Desk" : Str), some ("say" : Str)), ("say" : Str), ("Desk.say" : Str), defArgs s_Desk__say, defBody s_Desk__say, defScope s_Desk__say⟩
def hd__law_rows : He.FnD := ⟨(("_law_rows" : Str), none), ("_law_rows" : Str), ("_law_rows" : Str), defArgs s__law_rows, defBody s__law_rows, defScope s__law_rows⟩
def hd__law_shown : He.FnD := ⟨(("_law_shown" : Str), none), ("_law_shown" : Str), ("_law_shown" : Str), defArgs s__law_shown, defBody s__law_shown, defScope s__law_shown⟩
def hd__law_book : He.FnD := ⟨(("_law_book" : Str), none), ("_law_book" : Str), ("_law_book" : Str), defArgs s__law_book, defBody s__law_book, defScope s__law_book⟩
def hd_law : He.FnD := ⟨(("law" : Str), none), ("law" : Str), ("law" : Str), defArgs s_law, defBody s_law, defScope s_law⟩
def hd_init_NoRow : He.FnD := ⟨(("NoRow" : Str), some "__init__"), "__init__", ("NoRow.__init__" : Str), defArgs si_NoRow, defBody si_NoRow, defScope si_NoRow⟩
def hd_init_Desk : He.FnD := ⟨(("Desk" : Str), some "__init__"), "__init__", ("Desk.__init__" : Str), defArgs si_Desk, defBody si_Desk, defScope si_Desk⟩
def hkFn0 : List (He.FnD) := [hd__law_cell_at, hd__law_card, hd__law_great, hd__law_text, hd__law_fact, hd_is_card, hd_order_of, hd_is_passed_by, hd_is_text, hd_fact_of, hd_fact_at, hd_tidy, hd_read_book, hd_book_by, hd_need_no_rows, hd_Desk__book_of, hd_show_book, hd_Desk__asked, hd_Desk__say, hd__law_rows, hd__law_shown, hd__law_book, hd_law, hd_init_NoRow, hd_init_Desk]
def hkFn : List (He.FnD) := hkFn0
def hkFs0 : List (PySem.W.Frag → Bool) := [fun K => decide (PySem.W.nsIn K mainGlobals ("_law_cell_at" : Str) = some (some (.ref (He.fAd K (("_law_cell_at" : Str), none))))), fun K => PySem.W.keepIn K (.ref (He.fAd K (("_law_cell_at" : Str), none))), fun K => decide (PySem.W.nsIn K mainGlobals ("_law_card" : Str) = some (some (.ref (He.fAd K (("_law_card" : Str), none))))), fun K => PySem.W.keepIn K (.ref (He.fAd K (("_law_card" : Str), none))), fun K => decide (PySem.W.nsIn K mainGlobals ("_law_great" : Str) = some (some (.ref (He.fAd K (("_law_great" : Str), none))))), fun K => PySem.W.keepIn K (.ref (He.fAd K (("_law_great" : Str), none))), fun K => decide (PySem.W.nsIn K mainGlobals ("_law_text" : Str) = some (some (.ref (He.fAd K (("_law_text" : Str), none))))), fun K => PySem.W.keepIn K (.ref (He.fAd K (("_law_text" : Str), none))), fun K => decide (PySem.W.nsIn K mainGlobals ("_law_fact" : Str) = some (some (.ref (He.fAd K (("_law_fact" : Str), none))))), fun K => PySem.W.keepIn K (.ref (He.fAd K (("_law_fact" : Str), none))), fun K => decide (PySem.W.nsIn K mainGlobals ("is_card" : Str) = some (some (.ref (He.fAd K (("is_card" : Str), none))))), fun K => PySem.W.keepIn K (.ref (He.fAd K (("is_card" : Str), none))), fun K => decide (PySem.W.nsIn K mainGlobals ("order_of" : Str) = some (some (.ref (He.fAd K (("order_of" : Str), none))))), fun K => PySem.W.keepIn K (.ref (He.fAd K (("order_of" : Str), none))), fun K => decide (PySem.W.nsIn K mainGlobals ("is_passed_by" : Str) = some (some (.ref (He.fAd K (("is_passed_by" : Str), none))))), fun K => PySem.W.keepIn K (.ref (He.fAd K (("is_passed_by" : Str), none))), fun K => decide (PySem.W.nsIn K mainGlobals ("is_text" : Str) = some (some (.ref (He.fAd K (("is_text" : Str), none))))), fun K => PySem.W.keepIn K (.ref (He.fAd K (("is_text" : Str), none))), fun K => decide (PySem.W.nsIn K mainGlobals ("fact_of" : Str) = some (some (.ref (He.fAd K (("fact_of" : Str), none))))), fun K => PySem.W.keepIn K (.ref (He.fAd K (("fact_of" : Str), none))), fun K => decide (PySem.W.nsIn K mainGlobals ("fact_at" : Str) = some (some (.ref (He.fAd K (("fact_at" : Str), none))))), fun K => PySem.W.keepIn K (.ref (He.fAd K (("fact_at" : Str), none))), fun K => decide (PySem.W.nsIn K mainGlobals ("tidy" : Str) = some (some (.ref (He.fAd K (("tidy" : Str), none))))), fun K => PySem.W.keepIn K (.ref (He.fAd K (("tidy" : Str), none))), fun K => decide (PySem.W.nsIn K mainGlobals ("read_book" : Str) = some (some (.ref (He.fAd K (("read_book" : Str), none))))), fun K => PySem.W.keepIn K (.ref (He.fAd K (("read_book" : Str), none))), fun K => decide (PySem.W.nsIn K mainGlobals ("book_by" : Str) = some (some (.ref (He.fAd K (("book_by" : Str), none))))), fun K => PySem.W.keepIn K (.ref (He.fAd K (("book_by" : Str), none))), fun K => decide (PySem.W.nsIn K mainGlobals ("need_no_rows" : Str) = some (some (.ref (He.fAd K (("need_no_rows" : Str), none))))), fun K => PySem.W.keepIn K (.ref (He.fAd K (("need_no_rows" : Str), none)))]
def hkFs1 : List (PySem.W.Frag → Bool) := [fun K => PySem.W.keepIn K (.ref (He.fAd K (("Desk" : Str), some ("book_of" : Str)))), fun K => decide (PySem.W.nsIn K mainGlobals ("show_book" : Str) = some (some (.ref (He.fAd K (("show_book" : Str), none))))), fun K => PySem.W.keepIn K (.ref (He.fAd K (("show_book" : Str), none))), fun K => PySem.W.keepIn K (.ref (He.fAd K (("Desk" : Str), some ("asked" : Str)))), fun K => PySem.W.keepIn K (.ref (He.fAd K (("Desk" : Str), some ("say" : Str)))), fun K => decide (PySem.W.nsIn K mainGlobals ("_law_rows" : Str) = some (some (.ref (He.fAd K (("_law_rows" : Str), none))))), fun K => PySem.W.keepIn K (.ref (He.fAd K (("_law_rows" : Str), none))), fun K => decide (PySem.W.nsIn K mainGlobals ("_law_shown" : Str) = some (some (.ref (He.fAd K (("_law_shown" : Str), none))))), fun K => PySem.W.keepIn K (.ref (He.fAd K (("_law_shown" : Str), none))), fun K => decide (PySem.W.nsIn K mainGlobals ("_law_book" : Str) = some (some (.ref (He.fAd K (("_law_book" : Str), none))))), fun K => PySem.W.keepIn K (.ref (He.fAd K (("_law_book" : Str), none))), fun K => decide (PySem.W.nsIn K mainGlobals ("law" : Str) = some (some (.ref (He.fAd K (("law" : Str), none))))), fun K => PySem.W.keepIn K (.ref (He.fAd K (("law" : Str), none))), fun K => decide (PySem.W.nsIn K mainGlobals "Desk" = some (some (.ref (He.ga K ("Desk" : Str))))), fun K => decide (PySem.W.nsIn K mainGlobals "NoRow" = some (some (.ref (He.ga K ("NoRow" : Str))))), fun K => decide (PySem.W.nsIn K mainGlobals "FolkError" = some (some (.ref (He.ga K ("FolkError" : Str))))), fun K => PySem.W.keepIn K (.ref (He.ga K ("NoRow" : Str))), fun K => decide (PySem.W.subIn K (.ref (He.ga K ("NoRow" : Str))) (.type "BaseException") = some true), fun K => decide (PySem.W.typeIn K (.ref (He.ga K ("NoRow" : Str))) = some (.type "type")), fun K => excB K (He.ga K ("NoRow" : Str)), fun K => decide (PySem.W.findIn K (.ref (He.ga K ("NoRow" : Str))) "__setattr__" = some (some (.builtin "object.__setattr__"))), fun K => decide (PySem.W.findIn K (.ref (He.ga K ("NoRow" : Str))) "__init__" = some (some (.ref (He.fAd K (("NoRow" : Str), some "__init__"))))), fun K => decide (PySem.W.typeIn K (.ref (He.fAd K (("NoRow" : Str), some "__init__"))) = some (.type "function")), fun K => PySem.W.keepIn K (.ref (He.fAd K (("NoRow" : Str), some "__init__"))), fun K => decide (PySem.W.findIn K (.ref (He.ga K ("NoRow" : Str))) "row" = some none), fun K => decide (PySem.W.specialIn K (.builtin "object.__class__") "__get__" = some (some (.builtin "getset_descriptor.__get__"))), fun K => decide (PySem.W.takesIn K (.builtin "object.__class__") = some true), fun K => PySem.W.isClsIn K (He.ga K ("NoRow" : Str)), fun K => decide (PySem.W.findIn K (.ref (He.ga K ("NoRow" : Str))) "__getattribute__" = some (some (.builtin "BaseException.__getattribute__"))), fun K => decide (PySem.W.findIn K (.ref (He.ga K ("NoRow" : Str))) "__getattr__" = some none)]
def hkFs2 : List (PySem.W.Frag → Bool) := [fun K => decide (PySem.W.findIn K (.ref (He.ga K ("NoRow" : Str))) "__class__" = some (some (.builtin "object.__class__"))), fun K => decide (PySem.W.mroIn K (He.ga K ("NoRow" : Str)) (.type "object") = some true), fun K => PySem.W.hasDictIn K (He.ga K ("NoRow" : Str)), fun K => decide (PySem.W.subIn K (.ref (He.ga K ("NoRow" : Str))) (.ref (He.ga K ("NoRow" : Str))) = some true), fun K => decide (PySem.W.subIn K (.ref (He.ga K ("NoRow" : Str))) (.ref (He.ga K ("NoRow" : Str))) = some true), fun K => PySem.W.keepIn K (.ref (He.ga K ("Desk" : Str))), fun K => PySem.W.plainGet K (He.ga K ("Desk" : Str)) Str.empty, fun K => PySem.W.hasDictIn K (He.ga K ("Desk" : Str)), fun K => PySem.W.plainOver K (He.ga K ("Desk" : Str)), fun K => decide (PySem.W.findIn K (.ref (He.ga K ("Desk" : Str))) "__setattr__" = some (some (.builtin "object.__setattr__"))), fun K => decide (PySem.W.findIn K (.ref (He.ga K ("Desk" : Str))) "books" = some none), fun K => decide (PySem.W.findIn K (.ref (He.ga K ("Desk" : Str))) "rules" = some none), fun K => PySem.W.makesIn K (He.ga K ("Desk" : Str)), fun K => decide (PySem.W.findIn K (.ref (He.ga K ("Desk" : Str))) "__init__" = some (some (.ref (He.fAd K (("Desk" : Str), some "__init__"))))), fun K => PySem.W.isFn K (.ref (He.fAd K (("Desk" : Str), some "__init__"))), fun K => PySem.W.keepIn K (.ref (He.fAd K (("Desk" : Str), some "__init__"))), fun K => decide (PySem.W.findIn K (.ref (He.ga K ("Desk" : Str))) "book_of" = some (some (.ref (He.fAd K (("Desk" : Str), some ("book_of" : Str)))))), fun K => PySem.W.isFn K (.ref (He.fAd K (("Desk" : Str), some ("book_of" : Str)))), fun K => decide (PySem.W.findIn K (.ref (He.ga K ("Desk" : Str))) "asked" = some (some (.ref (He.fAd K (("Desk" : Str), some ("asked" : Str)))))), fun K => PySem.W.isFn K (.ref (He.fAd K (("Desk" : Str), some ("asked" : Str)))), fun K => decide (PySem.W.findIn K (.ref (He.ga K ("Desk" : Str))) "say" = some (some (.ref (He.fAd K (("Desk" : Str), some ("say" : Str)))))), fun K => PySem.W.isFn K (.ref (He.fAd K (("Desk" : Str), some ("say" : Str)))), fun K => decide (PySem.W.nsIn K mainGlobals "all" = some none), fun K => decide (PySem.W.nsIn K mainGlobals "enumerate" = some none), fun K => decide (PySem.W.nsIn K mainGlobals "len" = some none), fun K => decide (PySem.W.nsIn K mainGlobals "list" = some none), fun K => decide (PySem.W.nsIn K mainGlobals "max" = some none), fun K => decide (PySem.W.nsIn K mainGlobals "min" = some none), fun K => decide (PySem.W.nsIn K mainGlobals "reversed" = some none), fun K => decide (PySem.W.nsIn K mainGlobals "set" = some none)]
def hkFs3 : List (PySem.W.Frag → Bool) := [fun K => decide (PySem.W.nsIn K mainGlobals "sorted" = some none), fun K => decide (PySem.W.nsIn K mainGlobals "FIELDS" = some (some (.ref (He.ga K "FIELDS")))), fun K => He.tupB K "FIELDS" ([("name" : Str), ("former" : Str), ("way" : Str), ("day" : Str), ("mark" : Str)].map He.Dv.str), fun K => decide (PySem.W.nsIn K mainGlobals "BY_HAND" = some (some (.ref (He.ga K "BY_HAND")))), fun K => He.tupB K "BY_HAND" ([("same" : Str), ("apart" : Str)].map He.Dv.str), fun K => (He.Fa.str "LETTERS" ("abcdefghijklmnopqrstuvwxyz" : Str)).ok K, fun K => decide (PySem.W.nsIn K mainGlobals "NAMES" = some (some (.ref (He.ga K "NAMES")))), fun K => intB K (He.ga K "NAMES") ("book" : Str) 1, fun K => intB K (He.ga K "NAMES") ("rules" : Str) 0, fun K => intB K (He.ga K "NAMES") ("show" : Str) 1, fun K => intB K (He.ga K "NAMES") ("pour" : Str) 4, fun K => intB K (He.ga K "NAMES") ("groups" : Str) 1, fun K => intB K (He.ga K "NAMES") ("loss" : Str) 1, fun K => intB K (He.ga K "NAMES") ("told" : Str) 2]
def hkFs : List (PySem.W.Frag → Bool) := hkFs0 ++ (hkFs1 ++ (hkFs2 ++ (hkFs3)))
def hkTs : List He.Tab := [(fun K => He.ga K "NAMES", [("book" : Str), ("rules" : Str), ("show" : Str), ("pour" : Str), ("groups" : Str), ("loss" : Str), ("told" : Str)])]
def hkLo0 : List (Str) := [("FolkError" : Str), ("NoRow" : Str), ("Odds" : Str), ("TooMany" : Str), ("NoPair" : Str), ("NoText" : Str), ("NoName" : Str), ("FIELDS" : Str), ("BY_HAND" : Str), ("tidy" : Str), ("cards_of" : Str), ("texts_of" : Str), ("keeps" : Str), ("loss_of" : Str), ("neighbours" : Str), ("part_from" : Str), ("parts_of" : Str), ("case_of" : Str), ("MOST" : Str), ("lost_so_far" : Str), ("searched" : Str), ("numbered" : Str), ("best_of" : Str), ("friends" : Str), ("chain_of" : Str), ("root_of" : Str), ("parents_of" : Str), ("blocks_of" : Str), ("weight_of" : Str), ("weights_of" : Str)]
def hkLo1 : List (Str) := [("places_of" : Str), ("ordered" : Str), ("book_case" : Str), ("groups_of" : Str), ("book_loss" : Str), ("texts_told" : Str), ("without_pair" : Str), ("set_same" : Str), ("set_apart" : Str), ("set_free" : Str), ("put_right" : Str), ("LETTERS" : Str), ("is_card" : Str), ("is_text" : Str), ("is_passed_by" : Str), ("fact_of" : Str), ("fact_at" : Str), ("read_book" : Str), ("show_book" : Str), ("poured_all" : Str), ("poured" : Str), ("GREAT" : Str), ("SMALL" : Str), ("small" : Str), ("plain_of" : Str), ("is_like" : Str), ("rows_of" : Str), ("distance" : Str), ("is_near" : Str), ("GREATEST" : Str)]
def hkLo2 : List (Str) := [("Rule" : Str), ("Same" : Str), ("some_like" : Str), ("Like" : Str), ("Near" : Str), ("Other" : Str), ("Former" : Str), ("number_by" : Str), ("rule_by" : Str), ("read_rule" : Str), ("rule_at" : Str), ("read_rules" : Str), ("NAMES" : Str), ("order_of" : Str), ("need_no_rows" : Str), ("book_by" : Str), ("rules_by" : Str), ("texts_by" : Str), ("group_with" : Str), ("shown" : Str), ("Desk" : Str), ("_law_cell_at" : Str), ("_law_card" : Str), ("_law_text" : Str), ("_law_great" : Str), ("_law_fact" : Str), ("_law_book" : Str), ("_law_rows" : Str), ("_law_shown" : Str)]
def hkLo : List (Str) := hkLo0 ++ (hkLo1 ++ (hkLo2))
def hkXs0 : List (Str) := [("_law_cell_at" : Str), ("_law_card" : Str), ("_law_great" : Str), ("_law_text" : Str), ("_law_fact" : Str), ("is_card" : Str), ("order_of" : Str), ("is_passed_by" : Str), ("is_text" : Str), ("fact_of" : Str), ("fact_at" : Str), ("tidy" : Str), ("read_book" : Str), ("book_by" : Str), ("need_no_rows" : Str), ("Desk" : Str), ("show_book" : Str), ("_law_rows" : Str), ("_law_shown" : Str), ("_law_book" : Str), ("law" : Str), ("NoRow" : Str), ("FolkError" : Str), ("FIELDS" : Str), ("BY_HAND" : Str), ("NAMES" : Str)]
def hkXs : List (Str) := hkXs0
abbrev hkH : PySem.W.Hook := hookM 4 hkXs hkFs hkFn hkTs
def hkOb (s : PySem.W.SharedT) : AlM := obsMG 4 hkXs hkFs hkFn hkTs (HandSHeadRun.getT s)
theorem hkOb_eq (s : PySem.W.SharedT) : hkOb s = hkH.obs s.abs := obsMG_eq (HandSHeadRun.getT_eq s)
set_option maxHeartbeats 0 in
theorem hkRun_false (w : World) : HandSHeadRun.RunEq (PySem.W.OpenLaw.row PySem.Challenge.rw_folk_k51_books_at_a_desk) (PySem.W.view (PySem.W.OpenLaw.row PySem.Challenge.rw_folk_k51_books_at_a_desk).prog [105]) hkH hkOb 12000 hkLo (w.withFollow "special-get-raises" false) := by
  intro os
  kernel_rfl
set_option maxHeartbeats 0 in
theorem hkRun_true (w : World) : HandSHeadRun.RunEq (PySem.W.OpenLaw.row PySem.Challenge.rw_folk_k51_books_at_a_desk) (PySem.W.view (PySem.W.OpenLaw.row PySem.Challenge.rw_folk_k51_books_at_a_desk).prog [105]) hkH hkOb 12000 hkLo (w.withFollow "special-get-raises" true) := by
  intro os
  kernel_rfl
theorem hkRun (w : World) : HandSHeadRun.RunEq (PySem.W.OpenLaw.row PySem.Challenge.rw_folk_k51_books_at_a_desk) (PySem.W.view (PySem.W.OpenLaw.row PySem.Challenge.rw_folk_k51_books_at_a_desk).prog [105]) hkH hkOb 12000 hkLo w := PySem.W.byRow2 "special-get-raises" (P := fun w => HandSHeadRun.RunEq (PySem.W.OpenLaw.row PySem.Challenge.rw_folk_k51_books_at_a_desk) (PySem.W.view (PySem.W.OpenLaw.row PySem.Challenge.rw_folk_k51_books_at_a_desk).prog [105]) hkH hkOb 12000 hkLo w) hkRun_false hkRun_true w
set_option maxHeartbeats 0 in
theorem hkAll {w : World} {K : PySem.W.Frag} {h : Heap} {mg : Str → Option Value} {fa : Addr} (X : K.In h) (G : h.Ns mainGlobals mg) (hfa : mg "law" = some (.ref fa)) (c : SaysM hkFs hkFn hkTs w K) : ∃ fd : FuncData, (∀ (s : Shared) (v : Value), BindsTo s fd ⟨[v], []⟩ [("_law_script", v)]) ∧ ∀ base : Heap, K.In base → base.Ns mainGlobals mg → FnOk (PySem.Challenge.rw_folk_k51_books_at_a_desk).prog w K mg base CX0 8 fa fd ["_law_script"] (spV K m_law) := by
  have a1 : PySem.W.nsIn K mainGlobals ("_law_cell_at" : Str) = some (some (.ref (He.fAd K (("_law_cell_at" : Str), none)))) := of_decide_eq_true (c.fact 0)
  obtain ⟨_, _, _, _, _, _, _, _, _, l1, c1⟩ := c.def_ 0 (d := hd__law_cell_at) rfl
  have k1 : PySem.W.keepIn K (.ref (He.fAd K (("_law_cell_at" : Str), none))) = true := c.fact 1
  have a2 : PySem.W.nsIn K mainGlobals ("_law_card" : Str) = some (some (.ref (He.fAd K (("_law_card" : Str), none)))) := of_decide_eq_true (c.fact 2)
  obtain ⟨_, _, _, _, _, _, _, _, _, l2, c2⟩ := c.def_ 1 (d := hd__law_card) rfl
  have k2 : PySem.W.keepIn K (.ref (He.fAd K (("_law_card" : Str), none))) = true := c.fact 3
  have a3 : PySem.W.nsIn K mainGlobals ("_law_great" : Str) = some (some (.ref (He.fAd K (("_law_great" : Str), none)))) := of_decide_eq_true (c.fact 4)
  obtain ⟨_, _, _, _, _, _, _, _, _, l3, c3⟩ := c.def_ 2 (d := hd__law_great) rfl
  have k3 : PySem.W.keepIn K (.ref (He.fAd K (("_law_great" : Str), none))) = true := c.fact 5
  have a4 : PySem.W.nsIn K mainGlobals ("_law_text" : Str) = some (some (.ref (He.fAd K (("_law_text" : Str), none)))) := of_decide_eq_true (c.fact 6)
  obtain ⟨_, _, _, _, _, _, _, _, _, l4, c4⟩ := c.def_ 3 (d := hd__law_text) rfl
  have k4 : PySem.W.keepIn K (.ref (He.fAd K (("_law_text" : Str), none))) = true := c.fact 7
  have a5 : PySem.W.nsIn K mainGlobals ("_law_fact" : Str) = some (some (.ref (He.fAd K (("_law_fact" : Str), none)))) := of_decide_eq_true (c.fact 8)
  obtain ⟨_, _, _, _, _, _, _, _, _, l5, c5⟩ := c.def_ 4 (d := hd__law_fact) rfl
  have k5 : PySem.W.keepIn K (.ref (He.fAd K (("_law_fact" : Str), none))) = true := c.fact 9
  have a6 : PySem.W.nsIn K mainGlobals ("is_card" : Str) = some (some (.ref (He.fAd K (("is_card" : Str), none)))) := of_decide_eq_true (c.fact 10)
  obtain ⟨_, _, _, _, _, _, _, _, _, l6, c6⟩ := c.def_ 5 (d := hd_is_card) rfl
  have k6 : PySem.W.keepIn K (.ref (He.fAd K (("is_card" : Str), none))) = true := c.fact 11
  have a7 : PySem.W.nsIn K mainGlobals ("order_of" : Str) = some (some (.ref (He.fAd K (("order_of" : Str), none)))) := of_decide_eq_true (c.fact 12)
  obtain ⟨_, _, _, _, _, _, _, _, _, l7, c7⟩ := c.def_ 6 (d := hd_order_of) rfl
  have k7 : PySem.W.keepIn K (.ref (He.fAd K (("order_of" : Str), none))) = true := c.fact 13
  have a8 : PySem.W.nsIn K mainGlobals ("is_passed_by" : Str) = some (some (.ref (He.fAd K (("is_passed_by" : Str), none)))) := of_decide_eq_true (c.fact 14)
  obtain ⟨_, _, _, _, _, _, _, _, _, l8, c8⟩ := c.def_ 7 (d := hd_is_passed_by) rfl
  have k8 : PySem.W.keepIn K (.ref (He.fAd K (("is_passed_by" : Str), none))) = true := c.fact 15
  have a9 : PySem.W.nsIn K mainGlobals ("is_text" : Str) = some (some (.ref (He.fAd K (("is_text" : Str), none)))) := of_decide_eq_true (c.fact 16)
  obtain ⟨_, _, _, _, _, _, _, _, _, l9, c9⟩ := c.def_ 8 (d := hd_is_text) rfl
  have k9 : PySem.W.keepIn K (.ref (He.fAd K (("is_text" : Str), none))) = true := c.fact 17
  have a10 : PySem.W.nsIn K mainGlobals ("fact_of" : Str) = some (some (.ref (He.fAd K (("fact_of" : Str), none)))) := of_decide_eq_true (c.fact 18)
  obtain ⟨_, _, _, _, _, _, _, _, _, l10, c10⟩ := c.def_ 9 (d := hd_fact_of) rfl
  have k10 : PySem.W.keepIn K (.ref (He.fAd K (("fact_of" : Str), none))) = true := c.fact 19
  have a11 : PySem.W.nsIn K mainGlobals ("fact_at" : Str) = some (some (.ref (He.fAd K (("fact_at" : Str), none)))) := of_decide_eq_true (c.fact 20)
  obtain ⟨_, _, _, _, _, _, _, _, _, l11, c11⟩ := c.def_ 10 (d := hd_fact_at) rfl
  have k11 : PySem.W.keepIn K (.ref (He.fAd K (("fact_at" : Str), none))) = true := c.fact 21
  have a12 : PySem.W.nsIn K mainGlobals ("tidy" : Str) = some (some (.ref (He.fAd K (("tidy" : Str), none)))) := of_decide_eq_true (c.fact 22)
  obtain ⟨_, _, _, _, _, _, _, _, _, l12, c12⟩ := c.def_ 11 (d := hd_tidy) rfl
  have k12 : PySem.W.keepIn K (.ref (He.fAd K (("tidy" : Str), none))) = true := c.fact 23
  have a13 : PySem.W.nsIn K mainGlobals ("read_book" : Str) = some (some (.ref (He.fAd K (("read_book" : Str), none)))) := of_decide_eq_true (c.fact 24)
  obtain ⟨_, _, _, _, _, _, _, _, _, l13, c13⟩ := c.def_ 12 (d := hd_read_book) rfl
  have k13 : PySem.W.keepIn K (.ref (He.fAd K (("read_book" : Str), none))) = true := c.fact 25
  have a14 : PySem.W.nsIn K mainGlobals ("book_by" : Str) = some (some (.ref (He.fAd K (("book_by" : Str), none)))) := of_decide_eq_true (c.fact 26)
  obtain ⟨_, _, _, _, _, _, _, _, _, l14, c14⟩ := c.def_ 13 (d := hd_book_by) rfl
  have k14 : PySem.W.keepIn K (.ref (He.fAd K (("book_by" : Str), none))) = true := c.fact 27
  have a15 : PySem.W.nsIn K mainGlobals ("need_no_rows" : Str) = some (some (.ref (He.fAd K (("need_no_rows" : Str), none)))) := of_decide_eq_true (c.fact 28)
  obtain ⟨_, _, _, _, _, _, _, _, _, l15, c15⟩ := c.def_ 14 (d := hd_need_no_rows) rfl
  have k15 : PySem.W.keepIn K (.ref (He.fAd K (("need_no_rows" : Str), none))) = true := c.fact 29
  obtain ⟨_, _, _, _, _, _, _, _, _, l16, c16⟩ := c.def_ 15 (d := hd_Desk__book_of) rfl
  have k16 : PySem.W.keepIn K (.ref (He.fAd K (("Desk" : Str), some ("book_of" : Str)))) = true := c.fact 30
  have a17 : PySem.W.nsIn K mainGlobals ("show_book" : Str) = some (some (.ref (He.fAd K (("show_book" : Str), none)))) := of_decide_eq_true (c.fact 31)
  obtain ⟨_, _, _, _, _, _, _, _, _, l17, c17⟩ := c.def_ 16 (d := hd_show_book) rfl
  have k17 : PySem.W.keepIn K (.ref (He.fAd K (("show_book" : Str), none))) = true := c.fact 32
  obtain ⟨_, _, _, _, _, _, _, _, _, l18, c18⟩ := c.def_ 17 (d := hd_Desk__asked) rfl
  have k18 : PySem.W.keepIn K (.ref (He.fAd K (("Desk" : Str), some ("asked" : Str)))) = true := c.fact 33
  obtain ⟨_, _, _, _, _, _, _, _, _, l19, c19⟩ := c.def_ 18 (d := hd_Desk__say) rfl
  have k19 : PySem.W.keepIn K (.ref (He.fAd K (("Desk" : Str), some ("say" : Str)))) = true := c.fact 34
  have a20 : PySem.W.nsIn K mainGlobals ("_law_rows" : Str) = some (some (.ref (He.fAd K (("_law_rows" : Str), none)))) := of_decide_eq_true (c.fact 35)
  obtain ⟨_, _, _, _, _, _, _, _, _, l20, c20⟩ := c.def_ 19 (d := hd__law_rows) rfl
  have k20 : PySem.W.keepIn K (.ref (He.fAd K (("_law_rows" : Str), none))) = true := c.fact 36
  have a21 : PySem.W.nsIn K mainGlobals ("_law_shown" : Str) = some (some (.ref (He.fAd K (("_law_shown" : Str), none)))) := of_decide_eq_true (c.fact 37)
  obtain ⟨_, _, _, _, _, _, _, _, _, l21, c21⟩ := c.def_ 20 (d := hd__law_shown) rfl
  have k21 : PySem.W.keepIn K (.ref (He.fAd K (("_law_shown" : Str), none))) = true := c.fact 38
  have a22 : PySem.W.nsIn K mainGlobals ("_law_book" : Str) = some (some (.ref (He.fAd K (("_law_book" : Str), none)))) := of_decide_eq_true (c.fact 39)
  obtain ⟨_, _, _, _, _, _, _, _, _, l22, c22⟩ := c.def_ 21 (d := hd__law_book) rfl
  have k22 : PySem.W.keepIn K (.ref (He.fAd K (("_law_book" : Str), none))) = true := c.fact 40
  have a23 : PySem.W.nsIn K mainGlobals ("law" : Str) = some (some (.ref (He.fAd K (("law" : Str), none)))) := of_decide_eq_true (c.fact 41)
  obtain ⟨_, _, _, _, _, _, _, _, _, l23, c23⟩ := c.def_ 22 (d := hd_law) rfl
  have k23 : PySem.W.keepIn K (.ref (He.fAd K (("law" : Str), none))) = true := c.fact 42
  obtain ⟨_, _, _, _, _, _, _, _, _, il_NoRow, ic_NoRow⟩ := c.def_ 23 (d := hd_init_NoRow) rfl
  obtain ⟨_, _, _, _, _, _, _, _, _, il_Desk, ic_Desk⟩ := c.def_ 24 (d := hd_init_Desk) rfl
  have ns_Desk : PySem.W.nsIn K mainGlobals "Desk" = some (some (.ref (He.ga K ("Desk" : Str)))) := of_decide_eq_true (c.fact 43)
  have ns_NoRow : PySem.W.nsIn K mainGlobals "NoRow" = some (some (.ref (He.ga K ("NoRow" : Str)))) := of_decide_eq_true (c.fact 44)
  have ns_FolkError : PySem.W.nsIn K mainGlobals "FolkError" = some (some (.ref (He.ga K ("FolkError" : Str)))) := of_decide_eq_true (c.fact 45)
  have kp_NoRow : PySem.W.keepIn K (.ref (He.ga K ("NoRow" : Str))) = true := c.fact 46
  have eb_NoRow : PySem.W.subIn K (.ref (He.ga K ("NoRow" : Str))) (.type "BaseException") = some true := of_decide_eq_true (c.fact 47)
  have ty_NoRow : PySem.W.typeIn K (.ref (He.ga K ("NoRow" : Str))) = some (.type "type") := of_decide_eq_true (c.fact 48)
  have xl_NoRow : ∃ nm q N bs bm sn sub ab col dd k0 k1 k2 k3 k5, K.lookup (He.ga K ("NoRow" : Str)) = some (excClassObj nm q (He.ga K ("NoRow" : Str)) N bs bm true sn sub ab col dd k0 k1 k2 k3 k5 "ValueError.__new__") ∧ PySem.HandSPX.refsVE bm = true := excB_ok (c.fact 49)
  have sa_NoRow : PySem.W.findIn K (.ref (He.ga K ("NoRow" : Str))) "__setattr__" = some (some (.builtin "object.__setattr__")) := of_decide_eq_true (c.fact 50)
  have ii_NoRow : PySem.W.findIn K (.ref (He.ga K ("NoRow" : Str))) "__init__" = some (some (.ref (He.fAd K (("NoRow" : Str), some "__init__")))) := of_decide_eq_true (c.fact 51)
  have it_NoRow : PySem.W.typeIn K (.ref (He.fAd K (("NoRow" : Str), some "__init__"))) = some (.type "function") := of_decide_eq_true (c.fact 52)
  have ik_NoRow : PySem.W.keepIn K (.ref (He.fAd K (("NoRow" : Str), some "__init__"))) = true := c.fact 53
  have no_NoRow : PySem.W.findIn K (.ref (He.ga K ("NoRow" : Str))) "row" = some none := of_decide_eq_true (c.fact 54)
  have oc_sp : PySem.W.specialIn K (.builtin "object.__class__") "__get__" = some (some (.builtin "getset_descriptor.__get__")) := of_decide_eq_true (c.fact 55)
  have oc_tk : PySem.W.takesIn K (.builtin "object.__class__") = some true := of_decide_eq_true (c.fact 56)
  have ka_NoRow : PySem.W.isClsIn K (He.ga K ("NoRow" : Str)) = true := c.fact 57
  have kb_NoRow : PySem.W.findIn K (.ref (He.ga K ("NoRow" : Str))) "__getattribute__" = some (some (.builtin "BaseException.__getattribute__")) := of_decide_eq_true (c.fact 58)
  have kc_NoRow : PySem.W.findIn K (.ref (He.ga K ("NoRow" : Str))) "__getattr__" = some none := of_decide_eq_true (c.fact 59)
  have kd_NoRow : PySem.W.findIn K (.ref (He.ga K ("NoRow" : Str))) "__class__" = some (some (.builtin "object.__class__")) := of_decide_eq_true (c.fact 60)
  have ke_NoRow : PySem.W.mroIn K (He.ga K ("NoRow" : Str)) (.type "object") = some true := of_decide_eq_true (c.fact 61)
  have kf_NoRow : PySem.W.hasDictIn K (He.ga K ("NoRow" : Str)) = true := c.fact 62
  have k_NoRow_NoRow : PySem.W.subIn K (.ref (He.ga K ("NoRow" : Str))) (.ref (He.ga K ("NoRow" : Str))) = some true := of_decide_eq_true (c.fact 63)
  have se_NoRow : PySem.W.subIn K (.ref (He.ga K ("NoRow" : Str))) (.ref (He.ga K ("NoRow" : Str))) = some true := of_decide_eq_true (c.fact 64)
  have kp_Desk : PySem.W.keepIn K (.ref (He.ga K ("Desk" : Str))) = true := c.fact 65
  have rg_Desk : PySem.W.plainGet K (He.ga K ("Desk" : Str)) Str.empty = true := c.fact 66
  have rh_Desk : PySem.W.hasDictIn K (He.ga K ("Desk" : Str)) = true := c.fact 67
  have ro_Desk : PySem.W.plainOver K (He.ga K ("Desk" : Str)) = true := c.fact 68
  have ra_Desk : PySem.W.findIn K (.ref (He.ga K ("Desk" : Str))) "__setattr__" = some (some (.builtin "object.__setattr__")) := of_decide_eq_true (c.fact 69)
  have db_Desk : PySem.W.findIn K (.ref (He.ga K ("Desk" : Str))) "books" = some none := of_decide_eq_true (c.fact 70)
  have dr_Desk : PySem.W.findIn K (.ref (He.ga K ("Desk" : Str))) "rules" = some none := of_decide_eq_true (c.fact 71)
  have rk_Desk : PySem.W.makesIn K (He.ga K ("Desk" : Str)) = true := c.fact 72
  have ii_Desk : PySem.W.findIn K (.ref (He.ga K ("Desk" : Str))) "__init__" = some (some (.ref (He.fAd K (("Desk" : Str), some "__init__")))) := of_decide_eq_true (c.fact 73)
  have fi_Desk : PySem.W.isFn K (.ref (He.fAd K (("Desk" : Str), some "__init__"))) = true := c.fact 74
  have ik_Desk : PySem.W.keepIn K (.ref (He.fAd K (("Desk" : Str), some "__init__"))) = true := c.fact 75
  have mf_Desk_book_of : PySem.W.findIn K (.ref (He.ga K ("Desk" : Str))) "book_of" = some (some (.ref (He.fAd K (("Desk" : Str), some ("book_of" : Str))))) := of_decide_eq_true (c.fact 76)
  have mi_Desk__book_of : PySem.W.isFn K (.ref (He.fAd K (("Desk" : Str), some ("book_of" : Str)))) = true := c.fact 77
  have mf_Desk_asked : PySem.W.findIn K (.ref (He.ga K ("Desk" : Str))) "asked" = some (some (.ref (He.fAd K (("Desk" : Str), some ("asked" : Str))))) := of_decide_eq_true (c.fact 78)
  have mi_Desk__asked : PySem.W.isFn K (.ref (He.fAd K (("Desk" : Str), some ("asked" : Str)))) = true := c.fact 79
  have mf_Desk_say : PySem.W.findIn K (.ref (He.ga K ("Desk" : Str))) "say" = some (some (.ref (He.fAd K (("Desk" : Str), some ("say" : Str))))) := of_decide_eq_true (c.fact 80)
  have mi_Desk__say : PySem.W.isFn K (.ref (He.fAd K (("Desk" : Str), some ("say" : Str)))) = true := c.fact 81
  have z1 : PySem.W.nsIn K mainGlobals "all" = some none := of_decide_eq_true (c.fact 82)
  have z2 : PySem.W.nsIn K mainGlobals "enumerate" = some none := of_decide_eq_true (c.fact 83)
  have z3 : PySem.W.nsIn K mainGlobals "len" = some none := of_decide_eq_true (c.fact 84)
  have z4 : PySem.W.nsIn K mainGlobals "list" = some none := of_decide_eq_true (c.fact 85)
  have z5 : PySem.W.nsIn K mainGlobals "max" = some none := of_decide_eq_true (c.fact 86)
  have z6 : PySem.W.nsIn K mainGlobals "min" = some none := of_decide_eq_true (c.fact 87)
  have z7 : PySem.W.nsIn K mainGlobals "reversed" = some none := of_decide_eq_true (c.fact 88)
  have z8 : PySem.W.nsIn K mainGlobals "set" = some none := of_decide_eq_true (c.fact 89)
  have z9 : PySem.W.nsIn K mainGlobals "sorted" = some none := of_decide_eq_true (c.fact 90)
  have g1 : PySem.W.nsIn K mainGlobals "FIELDS" = some (some (.ref (He.ga K "FIELDS"))) := of_decide_eq_true (c.fact 91)
  have y1 : WTup K mg "FIELDS" [("name" : Str), ("former" : Str), ("way" : Str), ("day" : Str), ("mark" : Str)] := wtup_of (PySem.W.mg_of X G g1) (c.fact 92)
  have g2 : PySem.W.nsIn K mainGlobals "BY_HAND" = some (some (.ref (He.ga K "BY_HAND"))) := of_decide_eq_true (c.fact 93)
  have y2 : WTup K mg "BY_HAND" [("same" : Str), ("apart" : Str)] := wtup_of (PySem.W.mg_of X G g2) (c.fact 94)
  have y3 : ∃ t, mg "LETTERS" = some (.str ("abcdefghijklmnopqrstuvwxyz" : Str) t) := He.str_ok X G (c.fact 95)
  have g4 : PySem.W.nsIn K mainGlobals "NAMES" = some (some (.ref (He.ga K "NAMES"))) := of_decide_eq_true (c.fact 96)
  have v4_0 : ∃ t, PySem.W.nsIn K (He.ga K "NAMES") ("book" : Str) = some (some (.int 1 t)) := intB_ok (c.fact 97)
  have v4_1 : ∃ t, PySem.W.nsIn K (He.ga K "NAMES") ("rules" : Str) = some (some (.int 0 t)) := intB_ok (c.fact 98)
  have v4_2 : ∃ t, PySem.W.nsIn K (He.ga K "NAMES") ("show" : Str) = some (some (.int 1 t)) := intB_ok (c.fact 99)
  have v4_3 : ∃ t, PySem.W.nsIn K (He.ga K "NAMES") ("pour" : Str) = some (some (.int 4 t)) := intB_ok (c.fact 100)
  have v4_4 : ∃ t, PySem.W.nsIn K (He.ga K "NAMES") ("groups" : Str) = some (some (.int 1 t)) := intB_ok (c.fact 101)
  have v4_5 : ∃ t, PySem.W.nsIn K (He.ga K "NAMES") ("loss" : Str) = some (some (.int 1 t)) := intB_ok (c.fact 102)
  have v4_6 : ∃ t, PySem.W.nsIn K (He.ga K "NAMES") ("told" : Str) = some (some (.int 2 t)) := intB_ok (c.fact 103)
  have y4 : WDct K w mg "NAMES" [(("book" : Str), 1), (("rules" : Str), 0), (("show" : Str), 1), (("pour" : Str), 4), (("groups" : Str), 1), (("loss" : Str), 1), (("told" : Str), 2)] := wdct_of (PySem.W.mg_of X G g4) (c.tab 0 (t := (fun K => He.ga K "NAMES", [("book" : Str), ("rules" : Str), ("show" : Str), ("pour" : Str), ("groups" : Str), ("loss" : Str), ("told" : Str)])) rfl) (List.forall_mem_cons.mpr ⟨v4_0, List.forall_mem_cons.mpr ⟨v4_1, List.forall_mem_cons.mpr ⟨v4_2, List.forall_mem_cons.mpr ⟨v4_3, List.forall_mem_cons.mpr ⟨v4_4, List.forall_mem_cons.mpr ⟨v4_5, List.forall_mem_cons.mpr ⟨v4_6, fun _ h => nomatch h⟩⟩⟩⟩⟩⟩⟩) (by decide)
  exact all_mk (l := PySem.Challenge.rw_folk_k51_books_at_a_desk) X G hfa a1 l1 c1 k1 a2 l2 c2 k2 a3 l3 c3 k3 a4 l4 c4 k4 a5 l5 c5 k5 a6 l6 c6 k6 a7 l7 c7 k7 a8 l8 c8 k8 a9 l9 c9 k9 a10 l10 c10 k10 a11 l11 c11 k11 a12 l12 c12 k12 a13 l13 c13 k13 a14 l14 c14 k14 a15 l15 c15 k15 l16 c16 k16 a17 l17 c17 k17 l18 c18 k18 l19 c19 k19 a20 l20 c20 k20 a21 l21 c21 k21 a22 l22 c22 k22 a23 l23 c23 k23 ns_Desk ns_NoRow ns_FolkError kp_NoRow eb_NoRow ty_NoRow xl_NoRow sa_NoRow ii_NoRow it_NoRow il_NoRow ic_NoRow ik_NoRow no_NoRow oc_sp oc_tk ka_NoRow kb_NoRow kc_NoRow kd_NoRow ke_NoRow kf_NoRow k_NoRow_NoRow se_NoRow kp_Desk rg_Desk rh_Desk ro_Desk ra_Desk db_Desk dr_Desk rk_Desk ii_Desk fi_Desk il_Desk ic_Desk ik_Desk mf_Desk_book_of mi_Desk__book_of mf_Desk_asked mi_Desk__asked mf_Desk_say mi_Desk__say z1 z2 z3 z4 z5 z6 z7 z8 z9 y1 y2 y3 y4
end K51
open PySem PySem.W PySem.Calls PyProof.Rows
set_option maxHeartbeats 0 in
theorem PySem.Challenge.cw_folk_k51_books_at_a_desk_holds : PySem.Challenge.rw_folk_k51_books_at_a_desk.Holds := by
  w_on; o_law
  refine HandSHeadRun.head_any (r := (PySem.W.OpenLaw.row PySem.Challenge.rw_folk_k51_books_at_a_desk)) (q := view (PySem.W.OpenLaw.row PySem.Challenge.rw_folk_k51_books_at_a_desk).prog [105]) (H := K51.hkH) (ob := K51.hkOb) (M := 12000) (loose := K51.hkLo) (d := HandSHeadRun.topDef (PySem.W.OpenLaw.row PySem.Challenge.rw_folk_k51_books_at_a_desk).prog 105) (kwd := []) K51.hkOb_eq
    (by kernel_rfl) (fun s => by kernel_rfl) K51.hkRun (by kernel_rfl) (by kernel_rfl) (by kernel_rfl) (by rfl) (by first | assumption | decide +kernel) (by decide +kernel) ⟨rfl, rfl, rfl, rfl, rfl, by decide +kernel⟩ ?hw ?hc
  case hw => w_witness2
  case hc =>
    refine L2.walk_ofE (l := PySem.Challenge.rw_folk_k51_books_at_a_desk) (n := 63) (k := 8) (x := "_law_script") (CX := L2.CX0) rfl (by decide) (by kernel_rfl) ⟨rfl, by decide, by decide⟩ ?F (fun _ _ _ _ z => z)
    intro w mg fa h Y G hmg0
    obtain ⟨K, KX, c⟩ := Y
    have hmg : mg ("law" : PySem.Str) = some (.ref fa) := by
      have e : (HandSHeadRun.topDef (PySem.W.OpenLaw.row PySem.Challenge.rw_folk_k51_books_at_a_desk).prog 105).name = ("law" : PySem.Str) := by kernel_rfl
      rw [← e]
      exact hmg0
    obtain ⟨fd, hb, hF⟩ := K51.hkAll KX G hmg c
    exact ⟨K, fd, FK.spV K K51.m_law, KX, hb, fun H a ns hl _ hS => FK.law_in hS (K51.law_true ns hl), hF⟩
