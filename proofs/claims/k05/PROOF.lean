import PyProof.Rows.All
import Wide.All
import OpenK.AllK
import Wide.FinOn
import HandS.Base
import HandS.Call
import HandS.List
import HandS.Comp
import HandS.Exc
import HandS.HeadHook1
import HandS.HeadHook2
import KE.KDictKeyed
import KE.KeyNested
import KE.SortData
import HandS.Text
import HandS.Deep
import HandS.TupAny
import HandS.Wide
import HandS.More
import HandS.Flow
import HandS.Steps
import HandS.Star
import HandS.IsInst
import HandS.RaiseMore
import PyProof.ReprRoads
import HandS.TupMul
import HandS.Iter
import HandS.ExcOwn
import HandS.CallSlots
import HandS.Ends
import HandS.HeadEnd
import HandS.Defaults
import HandS.Head0
import HandS.Head1
import HandS.Head2
import HandS.HeadHook4
import HandS.Style
import HandS.WordsExc
import HandS.Dict
import KE.KDictWalk
import KE.KPairComp
import KE.GoesMore
import HandS.SetFor
import HandS.HeadHook3
import PySem.Challenge.RW_whoselines_k05_rows_counted
set_option Elab.async false
set_option linter.all false
set_option autoImplicit false
set_option maxRecDepth 100000
/-! WvA: values as deep data with an owner's flag, and how a state of the hand layer bears them. -/
namespace Wv
open PySem PySem.Spec PyProof.Rows L2

inductive PV where
  | non
  | bl (b : Bool)
  | int (i : Int)
  | str (s : Str)
  | tup (xs : List PV)
  | lst (o : Bool) (xs : List PV)
  | dct (o : Bool) (kvs : List (PV × PV))
  | obj (o : Bool) (C : Str) (fs : List (Str × PV))
  | exc (C : Str) (fs : List (Str × PV))
  deriving Inhabited

/-- what is fixed through a law's run -/
structure Zt where
  P : Program
  w : World
  K : PySem.W.Frag
  io : List Nat

/-- a dict object by its entries -/
def dictAt (a : Addr) (es : Nat × List DictEntry) : Heap → Prop := fun h => h.get? a = some { cls := .type "dict", data := .dict es.2.toArray es.1 }

mutual
/-- a key as the library knows it -/
def PV.key : PV → Option NestedKey
  | .non => some .none
  | .bl b => some (.num (if b then 1 else 0))
  | .int i => some (.num i)
  | .str s => some (.text s)
  | .tup xs => match PV.keys xs with
    | some ks => some (.tup ks)
    | none => none
  | _ => none
def PV.keys : List PV → Option (List NestedKey)
  | [] => some []
  | x :: xs => match PV.key x, PV.keys xs with
    | some k, some ks => some (k :: ks)
    | _, _ => none
end

/-- a text as the model holds it -/
def sOk (s : Str) : Bool := PyData.strOk s && decide (s.length ≤ 16777216)
mutual
/-- x stands for d; nothing of it is ever changed (G: what is never changed) -/
def Rep (Z : Zt) (G : Hp) : PV → V → Prop
  | .non, x => x = .non
  | .bl b, x => x = .bl b
  | .int i, x => x = .int i
  | .str s, x => x = .str s ∧ sOk s = true
  | .tup xs, x => ∃ a vs, x = .ref a ∧ SqT Z.K G a vs ∧ Reps Z G xs vs
  | .lst false xs, x => ∃ a vs, x = .ref a ∧ SqL Z.K G a vs ∧ Reps Z G xs vs
  | .dct false kvs, x => ∃ a es, x = .ref a ∧ G a = some (.ext (dictAt a es)) ∧ (a == sysModules) = false ∧ (es.2.length ≤ sizeLine ∧ (kvs.map fun p => p.1.key).Nodup) ∧ RepKV Z G kvs es.2
  | .obj false C fs, x => ∃ a dx vfs, x = .ref a ∧ G a = some (.ins (He.ga Z.K C) dx vfs) ∧ RepFs Z G fs vfs
  | _, _ => False
def Reps (Z : Zt) (G : Hp) : List PV → List V → Prop
  | [], vs => vs = []
  | d :: ds, vs => ∃ v r, vs = v :: r ∧ Rep Z G d v ∧ Reps Z G ds r
def RepKV (Z : Zt) (G : Hp) : List (PV × PV) → List DictEntry → Prop
  | [], es => es = []
  | (k, d) :: kvs, es => ∃ e r, es = e :: r ∧ (∃ n, k.key = some n ∧ e.hash = n.hash Z.w) ∧ (∃ x, RelV x e.key ∧ Rep Z G k x) ∧ (∃ x, RelV x e.val ∧ Rep Z G d x) ∧ RepKV Z G kvs r
def RepFs (Z : Zt) (G : Hp) : List (Str × PV) → List (Str × V) → Prop
  | [], vs => vs = []
  | (f, d) :: fs, vs => ∃ v r, vs = (f, v) :: r ∧ Rep Z G d v ∧ RepFs Z G fs r
end

/-- more stands -/
def Sub (G G' : Hp) : Prop := ∀ a o, G a = some o → G' a = some o
theorem Sub.refl (G : Hp) : Sub G G := fun _ _ h => h
theorem Sub.trans {A B C : Hp} (x : Sub A B) (y : Sub B C) : Sub A C := fun a o h => y a o (x a o h)
theorem sub_sqT {K : PySem.W.Frag} {G G' : Hp} (k : Sub G G') {a : Addr} {vs : List V} (h : SqT K G a vs) : SqT K G' a vs := by
  rcases h with (h | ⟨o, h⟩) | h
  · exact .inl (.inl (k _ _ h))
  · exact .inl (.inr ⟨o, k _ _ h⟩)
  · exact .inr h
theorem sub_rd {G G' : Hp} (k : Sub G G') {a : Addr} {u : HO} (h : Rd G a u) : Rd G' a u := by
  rcases h with h | ⟨o, h⟩
  · exact .inl (k _ _ h)
  · exact .inr ⟨o, k _ _ h⟩

theorem sub_sqL {K : PySem.W.Frag} {G G' : Hp} (k : Sub G G') {a : Addr} {vs : List V} (h : SqL K G a vs) : SqL K G' a vs := by
  rcases h with h | h
  · exact .inl (sub_rd k h)
  · exact .inr h
mutual
theorem Rep.sub {Z : Zt} {G G' : Hp} (k : Sub G G') : ∀ (d : PV) (x : V), Rep Z G d x → Rep Z G' d x
  | .non, _, h => h
  | .bl _, _, h => h
  | .int _, _, h => h
  | .str _, _, h => h
  | .tup xs, x, h => by
    simp only [Rep] at h ⊢
    obtain ⟨a, vs, e, s, r⟩ := h
    exact ⟨a, vs, e, sub_sqT k s, Reps.sub k xs vs r⟩
  | .lst false xs, x, h => by
    simp only [Rep] at h ⊢
    obtain ⟨a, vs, e, s, r⟩ := h
    exact ⟨a, vs, e, sub_sqL k s, Reps.sub k xs vs r⟩
  | .dct false kvs, x, h => by
    simp only [Rep] at h ⊢
    obtain ⟨a, es, e, s, y, z, r⟩ := h
    exact ⟨a, es, e, k _ _ s, y, z, RepKV.sub k kvs _ r⟩
  | .obj false C fs, x, h => by
    simp only [Rep] at h ⊢
    obtain ⟨a, dx, vs, e, s, r⟩ := h
    exact ⟨a, dx, vs, e, k _ _ s, RepFs.sub k fs vs r⟩
  | .lst true _, _, h => by simp only [Rep] at h
  | .dct true _, _, h => by simp only [Rep] at h
  | .obj true _ _, _, h => by simp only [Rep] at h
  | .exc _ _, _, h => by simp only [Rep] at h
theorem Reps.sub {Z : Zt} {G G' : Hp} (k : Sub G G') : ∀ (ds : List PV) (xs : List V), Reps Z G ds xs → Reps Z G' ds xs
  | [], _, h => by simp only [Reps] at h ⊢; exact h
  | d :: ds, xs, h => by
    simp only [Reps] at h ⊢
    obtain ⟨v, r, e, h1, h2⟩ := h
    exact ⟨v, r, e, Rep.sub k d v h1, Reps.sub k ds r h2⟩
theorem RepKV.sub {Z : Zt} {G G' : Hp} (k : Sub G G') : ∀ (ds : List (PV × PV)) (xs : List DictEntry), RepKV Z G ds xs → RepKV Z G' ds xs
  | [], _, h => by simp only [RepKV] at h ⊢; exact h
  | (p, d) :: ds, xs, h => by
    simp only [RepKV] at h ⊢
    obtain ⟨e, r, e1, h1, ⟨x, rx, hx⟩, ⟨y, ry, hy⟩, h2⟩ := h
    exact ⟨e, r, e1, h1, ⟨x, rx, Rep.sub k p x hx⟩, ⟨y, ry, Rep.sub k d y hy⟩, RepKV.sub k ds r h2⟩
theorem RepFs.sub {Z : Zt} {G G' : Hp} (k : Sub G G') : ∀ (ds : List (Str × PV)) (xs : List (Str × V)), RepFs Z G ds xs → RepFs Z G' ds xs
  | [], _, h => by simp only [RepFs] at h ⊢; exact h
  | (f, d) :: ds, xs, h => by
    simp only [RepFs] at h ⊢
    obtain ⟨v, r, e, h1, h2⟩ := h
    exact ⟨v, r, e, Rep.sub k d v h1, RepFs.sub k ds r h2⟩
end
end Wv

set_option Elab.async false
set_option linter.all false
set_option autoImplicit false
set_option maxRecDepth 100000
/-! WvB: owners, the relation of a state of slots with a state of the hand layer. -/
namespace Wv
open PySem PySem.Spec PyProof.Rows L2
abbrev St := L2.St

abbrev Tag := Nat × Nat
abbrev Own := Addr → Option Tag
abbrev Sl := List (Option PV)

/-- what is fixed while a def runs: the entry, what its caller lends, the exception of a suite -/
structure Fr where
  Z : Zt
  H0 : Hp
  O0 : Own
  G0 : Hp
  vs0 : List V
  xc : Option (Addr × Value × Option Addr)

/-- an exception of the own class C with these fields -/
def ExcIs (Z : Zt) (G : Hp) (cls : Value) (d : Option Addr) (C : Str) (fs : List (Str × PV)) : Prop :=
  cls = .ref (He.ga Z.K C) ∧ (fs = [] ∨ ∃ dd vfs, d = some dd ∧ G dd = some (.xd vfs) ∧ RepFs Z G fs vfs)
theorem ExcIs.sub {Z : Zt} {G G' : Hp} {cls : Value} {d : Option Addr} {C : Str} {fs : List (Str × PV)} (k : Sub G G') (h : ExcIs Z G cls d C fs) : ExcIs Z G' cls d C fs := by
  obtain ⟨h1, h2⟩ := h
  refine ⟨h1, ?_⟩
  rcases h2 with h2 | ⟨dd, vfs, e, g, r⟩
  · exact .inl h2
  · exact .inr ⟨dd, vfs, e, k _ _ g, RepFs.sub k _ _ r⟩

/-- a value without parts of its own that can be changed, or one list or dict that can -/
def RepL (F : Fr) (G : Hp) (O : Own) (H : Hp) (t : Tag) : PV → V → Prop
  | .lst true xs, x => ∃ a vs, x = .ref a ∧ O a = some t ∧ H a = some (.lst vs) ∧ Reps F.Z G xs vs
  | .dct true kvs, x => ∃ a es, x = .ref a ∧ O a = some t ∧ H a = some (.ext (dictAt a es)) ∧ (a == sysModules) = false ∧ (es.2.length ≤ sizeLine ∧ (kvs.map fun p => p.1.key).Nodup) ∧ RepKV F.Z G kvs es.2
  | .exc C fs, x => ∃ a cls d, F.xc = some (a, cls, d) ∧ x = .ref a ∧ ExcIs F.Z G cls d C fs
  | d, x => Rep F.Z G d x
def RepOF (F : Fr) (G : Hp) (O : Own) (H : Hp) (k : Nat) : Nat → List (Str × PV) → List (Str × V) → Prop
  | _, [], vs => vs = []
  | j, (f, d) :: fs, vs => ∃ v r, vs = (f, v) :: r ∧ RepL F G O H (k, j) d v ∧ RepOF F G O H k (j + 1) fs r
def RepO (F : Fr) (G : Hp) (O : Own) (H : Hp) (k : Nat) : PV → V → Prop
  | .obj true C fs, x => ∃ a dx vfs, x = .ref a ∧ O a = some (k, 0) ∧ H a = some (.ins (He.ga F.Z.K C) dx vfs) ∧ RepOF F G O H k 1 fs vfs
  | d, x => RepL F G O H (k, 0) d x

def PV.frzL : PV → PV
  | .lst true xs => .lst false xs
  | .dct true kvs => .dct false kvs
  | d => d
def PV.frz : PV → PV
  | .obj true C fs => .obj false C (fs.map fun p => (p.1, p.2.frzL))
  | d => d.frzL

theorem RepL.mono {F : Fr} {G G' : Hp} {O O' : Own} {H H' : Hp} {t t' : Tag} (k : Sub G G') (ko : ∀ a o, O a = some t → H a = some o → O' a = some t' ∧ H' a = some o) : ∀ (d : PV) (x : V), RepL F G O H t d x → RepL F G' O' H' t' d x := by
  intro d x h
  cases d with
  | lst o xs =>
    cases o with
    | true =>
      obtain ⟨a, vs, e, ha, hh, r⟩ := h
      obtain ⟨h1, h2⟩ := ko a _ ha hh
      exact ⟨a, vs, e, h1, h2, Reps.sub k _ _ r⟩
    | false => exact Rep.sub k _ _ h
  | dct o kvs =>
    cases o with
    | true =>
      obtain ⟨a, es, e, ha, hh, y, z, r⟩ := h
      obtain ⟨h1, h2⟩ := ko a _ ha hh
      exact ⟨a, es, e, h1, h2, y, z, RepKV.sub k _ _ r⟩
    | false => exact Rep.sub k _ _ h
  | exc C fs =>
    obtain ⟨a, cls, d, e1, e2, r⟩ := h
    exact ⟨a, cls, d, e1, e2, r.sub k⟩
  | non => exact Rep.sub k _ _ h
  | bl b => exact Rep.sub k _ _ h
  | int i => exact Rep.sub k _ _ h
  | str s => exact Rep.sub k _ _ h
  | tup xs => exact Rep.sub k _ _ h
  | obj o C fs => exact Rep.sub k _ _ h
theorem RepOF.mono {F : Fr} {G G' : Hp} {O O' : Own} {H H' : Hp} {n n' : Nat} (k : Sub G G') (ko : ∀ a o j, O a = some (n, j) → H a = some o → O' a = some (n', j) ∧ H' a = some o) : ∀ (fs : List (Str × PV)) (j : Nat) (xs : List (Str × V)), RepOF F G O H n j fs xs → RepOF F G' O' H' n' j fs xs
  | [], _, _, h => h
  | (f, d) :: fs, j, xs, h => by
    obtain ⟨v, r, e, h1, h2⟩ := h
    exact ⟨v, r, e, RepL.mono k (fun a o => ko a o j) d v h1, RepOF.mono k ko fs (j + 1) r h2⟩
theorem RepO.mono {F : Fr} {G G' : Hp} {O O' : Own} {H H' : Hp} {n n' : Nat} (k : Sub G G') (ko : ∀ a o j, O a = some (n, j) → H a = some o → O' a = some (n', j) ∧ H' a = some o) (d : PV) (x : V) (h : RepO F G O H n d x) : RepO F G' O' H' n' d x := by
  cases d with
  | obj o C fs =>
    cases o with
    | true =>
      obtain ⟨a, dx, vfs, e, ha, hh, r⟩ := h
      obtain ⟨h1, h2⟩ := ko a _ 0 ha hh
      exact ⟨a, dx, vfs, e, h1, h2, RepOF.mono k ko _ _ _ r⟩
    | false => exact RepL.mono (t := (n, 0)) (t' := (n', 0)) k (fun a o => ko a o 0) (.obj false C fs) x (show RepL F G O H (n, 0) (.obj false C fs) x from h)
  | lst o xs => exact RepL.mono (t := (n, 0)) (t' := (n', 0)) k (fun a o => ko a o 0) (.lst o xs) x (show RepL F G O H (n, 0) (.lst o xs) x from h)
  | dct o xs => exact RepL.mono (t := (n, 0)) (t' := (n', 0)) k (fun a o => ko a o 0) (.dct o xs) x (show RepL F G O H (n, 0) (.dct o xs) x from h)
  | exc C fs => exact RepL.mono (t := (n, 0)) (t' := (n', 0)) k (fun a o => ko a o 0) (.exc C fs) x (show RepL F G O H (n, 0) (.exc C fs) x from h)
  | non => exact RepL.mono (t := (n, 0)) (t' := (n', 0)) k (fun a o => ko a o 0) .non x (show RepL F G O H (n, 0) .non x from h)
  | bl b => exact RepL.mono (t := (n, 0)) (t' := (n', 0)) k (fun a o => ko a o 0) (.bl b) x (show RepL F G O H (n, 0) (.bl b) x from h)
  | int i => exact RepL.mono (t := (n, 0)) (t' := (n', 0)) k (fun a o => ko a o 0) (.int i) x (show RepL F G O H (n, 0) (.int i) x from h)
  | str s => exact RepL.mono (t := (n, 0)) (t' := (n', 0)) k (fun a o => ko a o 0) (.str s) x (show RepL F G O H (n, 0) (.str s) x from h)
  | tup xs => exact RepL.mono (t := (n, 0)) (t' := (n', 0)) k (fun a o => ko a o 0) (.tup xs) x (show RepL F G O H (n, 0) (.tup xs) x from h)

/-- frozen: what the owner t had stands in G' -/
theorem RepL.freeze {F : Fr} {G G' : Hp} {O : Own} {H : Hp} {t : Tag} (k : Sub G G') (ko : ∀ a o, O a = some t → H a = some o → G' a = some o) (d : PV) (x : V) (h : RepL F G O H t d x) (ne : ∀ C fs, d ≠ .exc C fs) : Rep F.Z G' d.frzL x := by
  cases d with
  | lst o xs =>
    cases o with
    | true =>
      obtain ⟨a, vs, e, ha, hh, r⟩ := h
      show Rep F.Z G' (.lst false xs) x
      simp only [Rep]
      exact ⟨a, vs, e, .inl (.inl (ko a _ ha hh)), Reps.sub k _ _ r⟩
    | false => exact Rep.sub k _ _ h
  | dct o kvs =>
    cases o with
    | true =>
      obtain ⟨a, es, e, ha, hh, y, z, r⟩ := h
      show Rep F.Z G' (.dct false kvs) x
      simp only [Rep]
      exact ⟨a, es, e, ko a _ ha hh, y, z, RepKV.sub k _ _ r⟩
    | false => exact Rep.sub k _ _ h
  | exc C fs => exact absurd rfl (ne C fs)
  | non => exact Rep.sub k _ _ h
  | bl b => exact Rep.sub k _ _ h
  | int i => exact Rep.sub k _ _ h
  | str s => exact Rep.sub k _ _ h
  | tup xs => exact Rep.sub k _ _ h
  | obj o C fs => exact Rep.sub k _ _ h
theorem RepOF.freeze {F : Fr} {G G' : Hp} {O : Own} {H : Hp} {n : Nat} (k : Sub G G') (ko : ∀ a o j, O a = some (n, j) → H a = some o → G' a = some o) : ∀ (fs : List (Str × PV)) (j : Nat) (xs : List (Str × V)), (∀ p ∈ fs, ∀ C ds, p.2 ≠ .exc C ds) → RepOF F G O H n j fs xs → RepFs F.Z G' (fs.map fun p => (p.1, p.2.frzL)) xs
  | [], _, _, _, h => by
    show RepFs F.Z G' [] _
    simp only [RepFs]
    exact h
  | (f, d) :: fs, j, xs, ne, h => by
    obtain ⟨v, r, e, h1, h2⟩ := h
    show RepFs F.Z G' ((f, d.frzL) :: fs.map fun p => (p.1, p.2.frzL)) xs
    simp only [RepFs]
    exact ⟨v, r, e, h1.freeze k (fun a o => ko a o j) _ _ (ne _ List.mem_cons_self), RepOF.freeze k ko fs (j + 1) r (fun p hp => ne p (List.mem_cons_of_mem _ hp)) h2⟩
def PV.isE : PV → Bool
  | .exc _ _ => true
  | _ => false
/-- what may be put into another thing: no exception -/
def PV.calm : PV → Bool
  | .exc _ _ => false
  | .obj true _ fs => fs.all fun p => !p.2.isE
  | _ => true
theorem isE_ne {d : PV} (h : d.isE = false) : ∀ C fs, d ≠ .exc C fs := by
  rintro C fs rfl
  cases h
theorem RepO.freeze {F : Fr} {G G' : Hp} {O : Own} {H : Hp} {n : Nat} (k : Sub G G') (ko : ∀ a o j, O a = some (n, j) → H a = some o → G' a = some o) (d : PV) (x : V) (h : RepO F G O H n d x) (c : d.calm = true) : Rep F.Z G' d.frz x := by
  have leaf : ∀ e : PV, e.isE = false → RepL F G O H (n, 0) e x → Rep F.Z G' e.frzL x := fun e ne q => q.freeze k (fun a o => ko a o 0) _ _ (isE_ne ne)
  cases d with
  | obj o C fs =>
    cases o with
    | true =>
      obtain ⟨a, dx, vfs, e, ha, hh, r⟩ := h
      show Rep F.Z G' (.obj false C (fs.map fun p => (p.1, p.2.frzL))) x
      simp only [Rep]
      refine ⟨a, dx, vfs, e, ko a _ 0 ha hh, RepOF.freeze k ko fs 1 vfs (fun p hp => isE_ne ?_) r⟩
      have c' : (fs.all fun p => !p.2.isE) = true := c
      have := List.all_eq_true.mp c' p hp
      simpa using this
    | false => exact leaf (.obj false C fs) rfl h
  | lst o xs => exact leaf (.lst o xs) rfl h
  | dct o xs => exact leaf (.dct o xs) rfl h
  | exc C fs => cases c
  | non => exact leaf .non rfl h
  | bl b => exact leaf (.bl b) rfl h
  | int i => exact leaf (.int i) rfl h
  | str s => exact leaf (.str s) rfl h
  | tup xs => exact leaf (.tup xs) rfl h
/-- a frozen value is nobody's -/
theorem Rep.toO {F : Fr} {G : Hp} {O : Own} {H : Hp} {n : Nat} {d : PV} {x : V} (h : Rep F.Z G d x) : RepO F G O H n d x := by
  cases d with
  | obj o C fs =>
    cases o with
    | true => simp only [Rep] at h
    | false => exact h
  | lst o xs =>
    cases o with
    | true => simp only [Rep] at h
    | false => exact h
  | dct o xs =>
    cases o with
    | true => simp only [Rep] at h
    | false => exact h
  | exc C fs => simp only [Rep] at h
  | non => exact h
  | bl b => exact h
  | int i => exact h
  | str s => exact h
  | tup xs => exact h

structure Rel (F : Fr) (G : Hp) (O : Own) (ρ : Sl) (ts : List (PV × V)) (σ : St) (H : Hp) : Prop where
  len : ρ.length = σ.length
  gh : Sub G H
  g0 : Sub F.G0 G
  own : ∀ a t, O a = some t → G a = none ∧ (∃ o, H a = some o) ∧ (F.H0 a = none ∨ ∃ t0, F.O0 a = some t0)
  frm : ∀ a o, F.H0 a = some o → F.O0 a = none → H a = some o
  sl : ∀ i d, ρ[i]? = some (some d) → ∃ v, σ[i]? = some (some v) ∧ RepO F G O H i d v
  tp : ∀ j p, ts[j]? = some p → RepO F G O H (ρ.length + j) p.1 p.2
  io : ∀ i ∈ F.Z.io, ∃ v, F.vs0[i]? = some v ∧ σ[i]? = some (some v)
  gn : ∀ a o, G a = some o → F.G0 a = some o ∨ F.H0 a = none ∨ ∃ t0, F.O0 a = some t0

end Wv

set_option Elab.async false
set_option linter.all false
set_option autoImplicit false
set_option maxRecDepth 100000
/-! WvC: moves of the relation. -/
namespace Wv
open PySem PySem.Spec PyProof.Rows L2

theorem get_last {α : Type} (l : List α) (x : α) : (l ++ [x])[l.length]? = some x := by simp
theorem get_snoc {α : Type} {l : List α} {x y : α} {j : Nat} (h : (l ++ [x])[j]? = some y) : (j < l.length ∧ l[j]? = some y) ∨ (j = l.length ∧ y = x) := by
  by_cases q : j < l.length
  · rw [List.getElem?_append_left q] at h
    exact .inl ⟨q, h⟩
  · rw [List.getElem?_append_right (by omega)] at h
    by_cases z : j = l.length
    · subst z
      simp at h
      exact .inr ⟨rfl, h.symm⟩
    · have : j - l.length ≥ 1 := by omega
      rw [List.getElem?_eq_none (by simpa using this)] at h
      cases h
theorem get_lt {α : Type} {l : List α} {x : α} {j : Nat} (h : l[j]? = some x) : j < l.length := (List.getElem?_eq_some_iff.mp h).1

section
variable {F : Fr} {G : Hp} {O : Own} {ρ : Sl} {ts : List (PV × V)} {σ : St} {H : Hp}

theorem Rel.pop {p : PV × V} (R : Rel F G O ρ (ts ++ [p]) σ H) : Rel F G O ρ ts σ H :=
  ⟨R.len, R.gh, R.g0, R.own, R.frm, R.sl, fun j q e => R.tp j q (by rw [List.getElem?_append_left (get_lt e)]; exact e), R.io, R.gn⟩
theorem Rel.top {d : PV} {x : V} (R : Rel F G O ρ (ts ++ [(d, x)]) σ H) : RepO F G O H (ρ.length + ts.length) d x := R.tp ts.length (d, x) (get_last _ _)
theorem Rel.push {d : PV} {x : V} (R : Rel F G O ρ ts σ H) (h : RepO F G O H (ρ.length + ts.length) d x) : Rel F G O ρ (ts ++ [(d, x)]) σ H :=
  ⟨R.len, R.gh, R.g0, R.own, R.frm, R.sl, fun j p e => by
    rcases get_snoc e with ⟨_, e⟩ | ⟨rfl, rfl⟩
    · exact R.tp j p e
    · exact h, R.io, R.gn⟩
theorem Rel.pushF {d : PV} {x : V} (R : Rel F G O ρ ts σ H) (h : Rep F.Z G d x) : Rel F G O ρ (ts ++ [(d, x)]) σ H := R.push h.toO

/-! ### freezing -/
def frzG (O : Own) (H G : Hp) (k : Nat) : Hp := fun a => match O a with
  | some (n, _) => if n = k then H a else G a
  | none => G a
def frzO (O : Own) (k : Nat) : Own := fun a => match O a with
  | some (n, j) => if n = k then none else some (n, j)
  | none => none
theorem frzG_at {k : Nat} {a : Addr} {o : HO} {j : Nat} (h : O a = some (k, j)) (e : H a = some o) : frzG O H G k a = some o := by
  unfold frzG
  rw [h]
  simp [e]
theorem frzO_at {k n j : Nat} {a : Addr} (h : O a = some (n, j)) (ne : n ≠ k) : frzO O k a = some (n, j) := by
  unfold frzO
  rw [h]
  simp [ne]
theorem frzO_of {k : Nat} {a : Addr} {t : Tag} (h : frzO O k a = some t) : O a = some t ∧ t.1 ≠ k := by
  unfold frzO at h
  cases e : O a with
  | none => rw [e] at h; cases h
  | some p =>
    obtain ⟨n, j⟩ := p
    rw [e] at h
    by_cases z : n = k
    · simp [z] at h
    · simp [z] at h
      subst h
      exact ⟨rfl, z⟩
theorem frzG_ne {k : Nat} {a : Addr} (h : ∀ j, O a ≠ some (k, j)) : frzG O H G k a = G a := by
  unfold frzG
  cases e : O a with
  | none => rfl
  | some p =>
    obtain ⟨n, j⟩ := p
    by_cases z : n = k
    · subst z
      exact absurd e (h j)
    · simp [z]
theorem Rel.frzSub (R : Rel F G O ρ ts σ H) (k : Nat) : Sub G (frzG O H G k) := fun a o h => by
  rw [frzG_ne]
  · exact h
  · intro j e
    rw [(R.own a _ e).1] at h
    cases h
/-- all but the owner k stay -/
theorem Rel.frzMono (R : Rel F G O ρ ts σ H) {k n : Nat} (ne : n ≠ k) {d : PV} {x : V} (h : RepO F G O H n d x) : RepO F (frzG O H G k) (frzO O k) H n d x :=
  h.mono (R.frzSub k) fun a o j e q => ⟨frzO_at e ne, q⟩
theorem Rel.frzCore (R : Rel F G O ρ ts σ H) (k : Nat) : Sub (frzG O H G k) H ∧ Sub F.G0 (frzG O H G k) ∧ (∀ a t, frzO O k a = some t → frzG O H G k a = none ∧ (∃ o, H a = some o) ∧ (F.H0 a = none ∨ ∃ t0, F.O0 a = some t0)) := by
  refine ⟨fun a o h => ?_, R.g0.trans (R.frzSub k), fun a t e => ?_⟩
  · by_cases q : ∃ j, O a = some (k, j)
    · obtain ⟨j, q⟩ := q
      obtain ⟨_, ⟨o', e'⟩, _⟩ := R.own a _ q
      rw [frzG_at q e'] at h
      rw [e', h]
    · rw [frzG_ne fun j e => q ⟨j, e⟩] at h
      exact R.gh a o h
  · obtain ⟨e', ne⟩ := frzO_of e
    obtain ⟨h1, h2, h3⟩ := R.own a t e'
    refine ⟨?_, h2, h3⟩
    rw [frzG_ne fun j z => ne (by rw [e'] at z; exact congrArg Prod.fst (Option.some.inj z))]
    exact h1
theorem Rel.frzGn (R : Rel F G O ρ ts σ H) (k : Nat) (a : Addr) (o : HO) (h : frzG O H G k a = some o) : F.G0 a = some o ∨ F.H0 a = none ∨ ∃ t0, F.O0 a = some t0 := by
  by_cases q : ∃ j, O a = some (k, j)
  · obtain ⟨j, q⟩ := q
    exact .inr (R.own a _ q).2.2
  · rw [frzG_ne fun j e => q ⟨j, e⟩] at h
    exact R.gn a o h
/-- the last value is frozen -/
theorem Rel.frzTop {d : PV} {x : V} (R : Rel F G O ρ (ts ++ [(d, x)]) σ H) (c : d.calm = true) :
    Rel F (frzG O H G (ρ.length + ts.length)) (frzO O (ρ.length + ts.length)) ρ (ts ++ [(d.frz, x)]) σ H ∧ Rep F.Z (frzG O H G (ρ.length + ts.length)) d.frz x := by
  have q : Rep F.Z (frzG O H G (ρ.length + ts.length)) d.frz x := R.top.freeze (R.frzSub _) (fun a o j e h => frzG_at e h) _ _ c
  obtain ⟨c1, c2, c3⟩ := R.frzCore (ρ.length + ts.length)
  refine ⟨⟨R.len, c1, c2, c3, R.frm, fun i d e => ?_, fun j p e => ?_, R.io, R.frzGn _⟩, q⟩
  · obtain ⟨v, h1, h2⟩ := R.sl i d e
    exact ⟨v, h1, R.frzMono (by have := get_lt e; omega) h2⟩
  · rcases get_snoc e with ⟨l, e⟩ | ⟨rfl, rfl⟩
    · exact R.frzMono (by omega) (R.pop.tp j p e)
    · exact q.toO
/-- a slot is frozen -/
theorem Rel.frzSlot {i : Nat} {d : PV} (R : Rel F G O ρ ts σ H) (e : ρ[i]? = some (some d)) (c : d.calm = true) :
    ∃ x, σ[i]? = some (some x) ∧ Rel F (frzG O H G i) (frzO O i) (ρ.set i (some d.frz)) ts σ H ∧ Rep F.Z (frzG O H G i) d.frz x := by
  obtain ⟨x, hx, r⟩ := R.sl i d e
  have li := get_lt e
  have q : Rep F.Z (frzG O H G i) d.frz x := r.freeze (R.frzSub _) (fun a o j e h => frzG_at e h) _ _ c
  obtain ⟨c1, c2, c3⟩ := R.frzCore i
  refine ⟨x, hx, ⟨by simpa using R.len, c1, c2, c3, R.frm, fun j d' e' => ?_, fun j p e' => ?_, R.io, R.frzGn _⟩, q⟩
  · by_cases z : i = j
    · subst z
      rw [List.getElem?_set_self li] at e'
      cases e'
      exact ⟨x, hx, q.toO⟩
    · rw [List.getElem?_set_ne z] at e'
      obtain ⟨v, h1, h2⟩ := R.sl j d' e'
      exact ⟨v, h1, R.frzMono (Ne.symm z) h2⟩
  · rw [List.length_set]
    exact R.frzMono (by omega) (R.tp j p e')

/-! ### new objects -/
theorem Rel.newH0 (R : Rel F G O ρ ts σ H) {p : Addr} (hp : H p = none) : F.H0 p = none ∨ ∃ t0, F.O0 p = some t0 := by
  cases e : F.H0 p with
  | none => exact .inl rfl
  | some o =>
    cases q : F.O0 p with
    | none => rw [R.frm p o e q] at hp; cases hp
    | some t => exact .inr ⟨t, rfl⟩
theorem Rel.newG (R : Rel F G O ρ ts σ H) {p : Addr} (hp : H p = none) : G p = none := by
  cases e : G p with
  | none => rfl
  | some o => rw [R.gh p o e] at hp; cases hp
theorem Rel.newO (R : Rel F G O ρ ts σ H) {p : Addr} (hp : H p = none) : O p = none := by
  cases e : O p with
  | none => rfl
  | some t =>
    obtain ⟨_, ⟨o, h⟩, _⟩ := R.own p t e
    rw [h] at hp
    cases hp
/-- the heap changes at addresses that nobody here has -/
theorem Rel.heap {H' : Hp} (R : Rel F G O ρ ts σ H) (k : ∀ a o, H a = some o → H' a = some o) : Rel F G O ρ ts σ H' :=
  ⟨R.len, fun a o h => k _ _ (R.gh a o h), R.g0, fun a t e => let ⟨h1, ⟨o, h2⟩, h3⟩ := R.own a t e; ⟨h1, ⟨o, k _ _ h2⟩, h3⟩, fun a o h q => k _ _ (R.frm a o h q), fun i d e => let ⟨v, h1, h2⟩ := R.sl i d e; ⟨v, h1, h2.mono (Sub.refl G) fun a o j e q => ⟨e, k _ _ q⟩⟩,
    fun j p e => (R.tp j p e).mono (Sub.refl G) fun a o j e q => ⟨e, k _ _ q⟩, R.io, R.gn⟩
theorem sub_upd {p : Addr} {o : HO} (hp : H p = none) : Sub H (upd H p o) := fun a u h => by rw [upd_ne (ne_of_none h hp)]; exact h
/-- a new object that never changes -/
theorem Rel.layF (R : Rel F G O ρ ts σ H) {p : Addr} {o : HO} (hp : H p = none) : Rel F (upd G p o) O ρ ts σ (upd H p o) := by
  have R1 := R.heap (H' := upd H p o) (sub_upd hp)
  have sg : Sub G (upd G p o) := sub_upd (R.newG hp)
  refine ⟨R.len, fun a u h => ?_, R.g0.trans sg, fun a t e => ?_, R1.frm, fun i d e => ?_, fun j q e => ?_, R.io, fun a u h => ?_⟩
  · by_cases z : a = p
    · subst z
      rw [upd_same] at h ⊢
      exact h
    · rw [upd_ne z] at h ⊢
      exact R.gh a u h
  · obtain ⟨h1, h2, h3⟩ := R1.own a t e
    refine ⟨?_, h2, h3⟩
    rw [upd_ne fun z => by rw [z, R.newO hp] at e; cases e]
    exact h1
  · obtain ⟨v, h1, h2⟩ := R1.sl i d e
    exact ⟨v, h1, h2.mono sg fun a o j e q => ⟨e, q⟩⟩
  · exact (R1.tp j q e).mono sg fun a o j e q => ⟨e, q⟩
  · by_cases z : a = p
    · subst z
      exact .inr (R.newH0 hp)
    · rw [upd_ne z] at h
      exact R.gn a u h
/-- a new object of the next value -/
def own1 (O : Own) (p : Addr) (t : Tag) : Own := fun a => if a = p then some t else O a
theorem own1_same {p : Addr} {t : Tag} : own1 O p t p = some t := by simp [own1]
theorem own1_ne {p a : Addr} {t : Tag} (h : a ≠ p) : own1 O p t a = O a := by simp [own1, h]
theorem Rel.layO (R : Rel F G O ρ ts σ H) {p : Addr} {o : HO} {d : PV} (hp : H p = none)
    (r : RepO F G (own1 O p (ρ.length + ts.length, 0)) (upd H p o) (ρ.length + ts.length) d (.ref p)) :
    Rel F G (own1 O p (ρ.length + ts.length, 0)) ρ (ts ++ [(d, .ref p)]) σ (upd H p o) := by
  have R1 := R.heap (H' := upd H p o) (sub_upd hp)
  have ko : ∀ {a : Addr} {t : Tag}, O a = some t → own1 O p (ρ.length + ts.length, 0) a = some t := fun {a t} e => by
    rw [own1_ne fun z => by rw [z, R.newO hp] at e; cases e]
    exact e
  have R2 : Rel F G (own1 O p (ρ.length + ts.length, 0)) ρ ts σ (upd H p o) := by
    refine ⟨R.len, R1.gh, R.g0, fun a t e => ?_, R1.frm, fun i d e => ?_, fun j q e => ?_, R.io, R.gn⟩
    · by_cases z : a = p
      · subst z
        exact ⟨R.newG hp, ⟨o, upd_same⟩, R.newH0 hp⟩
      · rw [own1_ne z] at e
        exact R1.own a t e
    · obtain ⟨v, h1, h2⟩ := R1.sl i d e
      exact ⟨v, h1, h2.mono (Sub.refl G) fun a o j e q => ⟨ko e, q⟩⟩
    · exact (R1.tp j q e).mono (Sub.refl G) fun a o j e q => ⟨ko e, q⟩
  exact R2.push r

/-! ### writing -/
theorem Rel.write (R : Rel F G O ρ ts σ H) {a : Addr} {o : HO} {i j : Nat} {d d' : PV} {v : V} (e : ρ[i]? = some (some d)) (hv : σ[i]? = some (some v)) (ho : O a = some (i, j)) (r : RepO F G O (upd H a o) i d' v) :
    Rel F G O (ρ.set i (some d')) ts σ (upd H a o) := by
  have li := get_lt e
  obtain ⟨g1, _, g3⟩ := R.own a _ ho
  have kp : ∀ {b : Addr} {n m : Nat} {u : HO}, n ≠ i → O b = some (n, m) → H b = some u → upd H a o b = some u := fun {b n m u} ne e q => by
    rw [upd_ne fun z => by subst z; rw [ho] at e; cases e; exact ne rfl]
    exact q
  refine ⟨by simpa using R.len, fun b u h => ?_, R.g0, fun b t q => ?_, fun b u h q => ?_, fun k c q => ?_, fun k p q => ?_, R.io, R.gn⟩
  · rw [upd_ne fun z => by subst z; rw [g1] at h; cases h]
    exact R.gh b u h
  · obtain ⟨h1, ⟨u, h2⟩, h3⟩ := R.own b t q
    refine ⟨h1, ?_, h3⟩
    by_cases z : b = a
    · exact ⟨o, by rw [z, upd_same]⟩
    · exact ⟨u, by rw [upd_ne z]; exact h2⟩
  · rw [upd_ne fun z => by
      subst z
      rcases g3 with g3 | ⟨t0, g3⟩
      · rw [g3] at h; cases h
      · rw [g3] at q; cases q]
    exact R.frm b u h q
  · by_cases z : i = k
    · subst z
      rw [List.getElem?_set_self li] at q
      cases q
      exact ⟨v, hv, r⟩
    · rw [List.getElem?_set_ne z] at q
      obtain ⟨w, h1, h2⟩ := R.sl k c q
      exact ⟨w, h1, h2.mono (Sub.refl G) fun b u m e q => ⟨e, kp (Ne.symm z) e q⟩⟩
  · rw [List.length_set]
    exact (R.tp k p q).mono (Sub.refl G) fun b u m e q => ⟨e, kp (by omega) e q⟩

/-! ### storing -/
def retag (O : Own) (k i : Nat) : Own := fun a => match O a with
  | some (n, j) => if n = k then some (i, j) else some (n, j)
  | none => none
theorem retag_at {k i j : Nat} {a : Addr} (h : O a = some (k, j)) : retag O k i a = some (i, j) := by simp [retag, h]
theorem retag_ne {k i n j : Nat} {a : Addr} (h : O a = some (n, j)) (ne : n ≠ k) : retag O k i a = some (n, j) := by simp [retag, h, ne]
theorem retag_of {k i : Nat} {a : Addr} {t : Tag} (h : retag O k i a = some t) : ∃ t', O a = some t' := by
  unfold retag at h
  cases e : O a with
  | none => rw [e] at h; cases h
  | some p => exact ⟨p, rfl⟩
/-- the last value goes into a slot -/
theorem Rel.store {d : PV} {x : V} {i : Nat} (R : Rel F G O ρ (ts ++ [(d, x)]) σ H) (li : i < ρ.length) (ni : i ∉ F.Z.io) :
    Rel F G (retag O (ρ.length + ts.length) i) (ρ.set i (some d)) ts (σ.set i (some x)) H := by
  have lσ : i < σ.length := by rw [← R.len]; exact li
  refine ⟨by simpa using R.len, R.gh, R.g0, fun a t e => ?_, R.frm, fun k c q => ?_, fun k p q => ?_, fun k hk => ?_, R.gn⟩
  · obtain ⟨t', e'⟩ := retag_of e
    exact R.own a t' e'
  · by_cases z : i = k
    · subst z
      rw [List.getElem?_set_self li] at q
      cases q
      exact ⟨x, List.getElem?_set_self lσ, R.top.mono (Sub.refl G) fun a o j e q => ⟨retag_at e, q⟩⟩
    · rw [List.getElem?_set_ne z] at q
      obtain ⟨v, h1, h2⟩ := R.sl k c q
      refine ⟨v, by rw [List.getElem?_set_ne z]; exact h1, h2.mono (Sub.refl G) fun a o j e q => ⟨retag_ne e ?_, q⟩⟩
      have := get_lt ‹ρ[k]? = some (some c)›
      omega
  · rw [List.length_set]
    exact (R.pop.tp k p q).mono (Sub.refl G) fun a o j e h => ⟨retag_ne e (by have := get_lt q; omega), h⟩
  · obtain ⟨v, h1, h2⟩ := R.io k hk
    exact ⟨v, h1, by rw [List.getElem?_set_ne fun z => ni (by rw [z]; exact hk)]; exact h2⟩
/-- a slot is forgotten -/
theorem Rel.kill (R : Rel F G O ρ ts σ H) (i : Nat) : Rel F G O (ρ.set i none) ts σ H :=
  ⟨by simpa using R.len, R.gh, R.g0, R.own, R.frm, fun k c q => by
    by_cases z : i = k
    · subst z
      by_cases l : i < ρ.length
      · rw [List.getElem?_set_self l] at q; cases q
      · rw [List.getElem?_eq_none (by simpa using l)] at q; cases q
    · rw [List.getElem?_set_ne z] at q
      exact R.sl k c q, fun j p q => by rw [List.length_set]; exact R.tp j p q, R.io, R.gn⟩
/-- a slot's value is moved to the end -/
theorem Rel.move {i : Nat} {d : PV} (R : Rel F G O ρ ts σ H) (e : ρ[i]? = some (some d)) : ∃ x, σ[i]? = some (some x) ∧ Rel F G (retag O i (ρ.length + ts.length)) (ρ.set i none) (ts ++ [(d, x)]) σ H := by
  obtain ⟨x, hx, r⟩ := R.sl i d e
  have li := get_lt e
  have R1 : Rel F G (retag O i (ρ.length + ts.length)) (ρ.set i none) ts σ H := by
    refine ⟨by simpa using R.len, R.gh, R.g0, fun a t q => ?_, R.frm, fun k c q => ?_, fun k p q => ?_, R.io, R.gn⟩
    · obtain ⟨t', e'⟩ := retag_of q
      exact R.own a t' e'
    · by_cases z : i = k
      · subst z
        rw [List.getElem?_set_self li] at q
        cases q
      · rw [List.getElem?_set_ne z] at q
        obtain ⟨v, h1, h2⟩ := R.sl k c q
        exact ⟨v, h1, h2.mono (Sub.refl G) fun a o j e q => ⟨retag_ne e (Ne.symm z), q⟩⟩
    · rw [List.length_set]
      exact (R.tp k p q).mono (Sub.refl G) fun a o j e q => ⟨retag_ne e (by omega), q⟩
  refine ⟨x, hx, R1.push ?_⟩
  rw [List.length_set]
  exact r.mono (Sub.refl G) fun a o j e q => ⟨retag_at e, q⟩
end
end Wv

set_option Elab.async false
set_option linter.all false
set_option autoImplicit false
set_option maxRecDepth 100000
/-! WvD: what code computes, as a function of the slots; the judgements over the hand layer's. -/
namespace Wv
open PySem PySem.Spec PyProof.Rows L2

inductive Res (α : Type) where
  | ok (a : α) (ρ : Sl)
  | exc (C : Str) (fs : List (Str × PV)) (ρ : Sl)
  | bad
abbrev M (α : Type) := Sl → Res α
def M.ret {α : Type} (a : α) : M α := fun ρ => .ok a ρ
def M.bind {α β : Type} (f : M α) (g : α → M β) : M β := fun ρ => match f ρ with
  | .ok a ρ' => g a ρ'
  | .exc C fs ρ' => .exc C fs ρ'
  | .bad => .bad
instance : Monad M where
  pure := M.ret
  bind := M.bind
theorem bind_def {α β : Type} (f : M α) (g : α → M β) : (f >>= g) = M.bind f g := rfl
theorem pure_def {α : Type} (a : α) : (pure a : M α) = M.ret a := rfl
theorem M.bind_ok {α β : Type} {f : M α} {g : α → M β} {ρ ρ' : Sl} {a : α} (h : f ρ = .ok a ρ') : M.bind f g ρ = g a ρ' := by
  unfold M.bind
  rw [h]
/-- a result that is there, or nothing is known -/
def ofO {α : Type} : Option α → M α
  | some a => M.ret a
  | none => fun _ => .bad

inductive Out where
  | nx (ρ : Sl)
  | rt (v : PV) (ρ : Sl)
  | bk (ρ : Sl)
  | ct (ρ : Sl)
  | exc (C : Str) (fs : List (Str × PV)) (ρ : Sl)
  | bad
abbrev SM := Sl → Out

/-! ### what is wanted behind -/
def ExcQ (Z : Zt) (W : WX) (F : Fr) (ts : List (PV × V)) (σ : St) (C : Str) (fs : List (Str × PV)) (ρ' : Sl) : Prop :=
  ∀ G' O' H' cls d, Rel F G' O' ρ' ts σ H' → ExcIs Z G' cls d C fs → W cls d σ H'
def PostE (W : WX) (F : Fr) (ts : List (PV × V)) (σ : St) (Q : VK) : Res PV → Prop
  | .ok v ρ' => ∀ G' O' H' x, Rel F G' O' ρ' (ts ++ [(v, x)]) σ H' → Q x H'
  | .exc C fs ρ' => ExcQ F.Z W F ts σ C fs ρ'
  | .bad => False
def PostB (W : WX) (F : Fr) (ts : List (PV × V)) (σ : St) (Q : Bool → Hp → Prop) : Res Bool → Prop
  | .ok b ρ' => ∀ G' O' H', Rel F G' O' ρ' ts σ H' → Q b H'
  | .exc C fs ρ' => ExcQ F.Z W F ts σ C fs ρ'
  | .bad => False
def PostA (W : WX) (F : Fr) (ts : List (PV × V)) (σ : St) (Q : List V → Hp → Prop) : Res (List PV) → Prop
  | .ok vs ρ' => ∀ G' O' H' xs, Reps F.Z G' vs xs → Rel F G' O' ρ' (ts ++ vs.zip xs) σ H' → Q xs H'
  | .exc C fs ρ' => ExcQ F.Z W F ts σ C fs ρ'
  | .bad => False
def T (Z : Zt) (W : WX) (f : M PV) : TE := fun σ H Q => ∃ F G O ρ ts, F.Z = Z ∧ Rel F G O ρ ts σ H ∧ PostE W F ts σ Q (f ρ)
def TB (Z : Zt) (W : WX) (f : M Bool) : TT := fun σ H Q => ∃ F G O ρ ts, F.Z = Z ∧ Rel F G O ρ ts σ H ∧ PostB W F ts σ Q (f ρ)
def TAr (Z : Zt) (W : WX) (f : M (List PV)) : TA := fun σ H Q => ∃ F G O ρ ts, F.Z = Z ∧ Rel F G O ρ ts σ H ∧ PostA W F ts σ Q (f ρ)
abbrev _root_.L2.Cx.zt (X : Cx) (io : List Nat) : Zt := ⟨X.prog, X.w, X.K, io⟩
def EJ (X : Cx) (io : List Nat) (W : WX) (e : Expr) (f : M PV) : Prop := PE X e (T (X.zt io) W f)
def BJ (X : Cx) (io : List Nat) (W : WX) (e : Expr) (f : M Bool) : Prop := PT X e (TB (X.zt io) W f)
def AJ (X : Cx) (io : List Nat) (W : WX) (es : List Expr) (f : M (List PV)) : Prop := PA X es (TAr (X.zt io) W f)

theorem PE.imp {X : Cx} {e : Expr} {t t' : TE} (h : PE X e t) (k : ∀ σ H Q, t' σ H Q → t σ H Q) : PE X e t' := ⟨fun pins s σ H Q I w => h.run pins s σ H Q I (k σ H Q w)⟩
theorem PT.imp {X : Cx} {e : Expr} {t t' : TT} (h : PT X e t) (k : ∀ σ H Q, t' σ H Q → t σ H Q) : PT X e t' := ⟨fun pins s σ H Q I w => h.run pins s σ H Q I (k σ H Q w)⟩
theorem PA.imp {X : Cx} {es : List Expr} {t t' : TA} (h : PA X es t) (k : ∀ σ H Q, t' σ H Q → t σ H Q) : PA X es t' := ⟨fun pos pins s σ H Q I w => h.run pos pins s σ H Q I (k σ H Q w)⟩

theorem Rel.drop {F : Fr} {G : Hp} {O : Own} {ρ : Sl} {ts us : List (PV × V)} {σ : St} {H : Hp} (R : Rel F G O ρ (ts ++ us) σ H) : Rel F G O ρ ts σ H :=
  ⟨R.len, R.gh, R.g0, R.own, R.frm, R.sl, fun j q e => R.tp j q (by rw [List.getElem?_append_left (get_lt e)]; exact e), R.io, R.gn⟩

section
variable {W : WX} {F : Fr} {ts : List (PV × V)} {σ : St} {ρ : Sl}
theorem ExcQ.up {Z : Zt} {C : Str} {fs : List (Str × PV)} (us : List (PV × V)) (h : ExcQ Z W F ts σ C fs ρ) : ExcQ Z W F (ts ++ us) σ C fs ρ := fun G' O' H' cls d R e => h G' O' H' cls d R.drop e
/-- the first of two computations, with some more values standing -/
theorem PostE.bind {Q : VK} {f : M PV} {g : PV → M PV} (us : List (PV × V)) (P : PostE W F ts σ Q (M.bind f g ρ)) :
    PostE W F (ts ++ us) σ (fun x H1 => ∃ G1 O1 ρ1 v, Rel F G1 O1 ρ1 (ts ++ us ++ [(v, x)]) σ H1 ∧ PostE W F ts σ Q (g v ρ1)) (f ρ) := by
  unfold M.bind at P
  cases e : f ρ with
  | ok v ρ' => rw [e] at P; exact fun G' O' H' x R => ⟨G', O', ρ', v, R, P⟩
  | exc C fs ρ' => rw [e] at P; exact ExcQ.up us P
  | bad => rw [e] at P; exact P
theorem PostE.bindB {Q : VK} {f : M Bool} {g : Bool → M PV} (us : List (PV × V)) (P : PostE W F ts σ Q (M.bind f g ρ)) :
    PostB W F (ts ++ us) σ (fun b H1 => ∃ G1 O1 ρ1, Rel F G1 O1 ρ1 (ts ++ us) σ H1 ∧ PostE W F ts σ Q (g b ρ1)) (f ρ) := by
  unfold M.bind at P
  cases e : f ρ with
  | ok v ρ' => rw [e] at P; exact fun G' O' H' R => ⟨G', O', ρ', R, P⟩
  | exc C fs ρ' => rw [e] at P; exact ExcQ.up us P
  | bad => rw [e] at P; exact P
theorem PostE.bindA {Q : VK} {f : M (List PV)} {g : List PV → M PV} (us : List (PV × V)) (P : PostE W F ts σ Q (M.bind f g ρ)) :
    PostA W F (ts ++ us) σ (fun xs H1 => ∃ G1 O1 ρ1 vs, Reps F.Z G1 vs xs ∧ Rel F G1 O1 ρ1 (ts ++ us ++ vs.zip xs) σ H1 ∧ PostE W F ts σ Q (g vs ρ1)) (f ρ) := by
  unfold M.bind at P
  cases e : f ρ with
  | ok v ρ' => rw [e] at P; exact fun G' O' H' xs l R => ⟨G', O', ρ', v, l, R, P⟩
  | exc C fs ρ' => rw [e] at P; exact ExcQ.up us P
  | bad => rw [e] at P; exact P
theorem PostB.bind {Q : Bool → Hp → Prop} {f : M PV} {g : PV → M Bool} (us : List (PV × V)) (P : PostB W F ts σ Q (M.bind f g ρ)) :
    PostE W F (ts ++ us) σ (fun x H1 => ∃ G1 O1 ρ1 v, Rel F G1 O1 ρ1 (ts ++ us ++ [(v, x)]) σ H1 ∧ PostB W F ts σ Q (g v ρ1)) (f ρ) := by
  unfold M.bind at P
  cases e : f ρ with
  | ok v ρ' => rw [e] at P; exact fun G' O' H' x R => ⟨G', O', ρ', v, R, P⟩
  | exc C fs ρ' => rw [e] at P; exact ExcQ.up us P
  | bad => rw [e] at P; exact P
theorem PostB.bindB {Q : Bool → Hp → Prop} {f : M Bool} {g : Bool → M Bool} (P : PostB W F ts σ Q (M.bind f g ρ)) :
    PostB W F ts σ (fun b H1 => ∃ G1 O1 ρ1, Rel F G1 O1 ρ1 ts σ H1 ∧ PostB W F ts σ Q (g b ρ1)) (f ρ) := by
  unfold M.bind at P
  cases e : f ρ with
  | ok v ρ' => rw [e] at P; exact fun G' O' H' R => ⟨G', O', ρ', R, P⟩
  | exc C fs ρ' => rw [e] at P; exact P
  | bad => rw [e] at P; exact P
theorem PostA.bind {Q : List V → Hp → Prop} {f : M PV} {g : PV → M (List PV)} (us : List (PV × V)) (P : PostA W F ts σ Q (M.bind f g ρ)) :
    PostE W F (ts ++ us) σ (fun x H1 => ∃ G1 O1 ρ1 v, Rel F G1 O1 ρ1 (ts ++ us ++ [(v, x)]) σ H1 ∧ PostA W F ts σ Q (g v ρ1)) (f ρ) := by
  unfold M.bind at P
  cases e : f ρ with
  | ok v ρ' => rw [e] at P; exact fun G' O' H' x R => ⟨G', O', ρ', v, R, P⟩
  | exc C fs ρ' => rw [e] at P; exact ExcQ.up us P
  | bad => rw [e] at P; exact P
theorem PostA.bindA {Q : List V → Hp → Prop} {f : M (List PV)} {g : List PV → M (List PV)} (us : List (PV × V)) (P : PostA W F ts σ Q (M.bind f g ρ)) :
    PostA W F (ts ++ us) σ (fun xs H1 => ∃ G1 O1 ρ1 vs, Reps F.Z G1 vs xs ∧ Rel F G1 O1 ρ1 (ts ++ us ++ vs.zip xs) σ H1 ∧ PostA W F ts σ Q (g vs ρ1)) (f ρ) := by
  unfold M.bind at P
  cases e : f ρ with
  | ok v ρ' => rw [e] at P; exact fun G' O' H' xs l R => ⟨G', O', ρ', v, l, R, P⟩
  | exc C fs ρ' => rw [e] at P; exact ExcQ.up us P
  | bad => rw [e] at P; exact P
end

/-! ### constants and names -/
def eK (v : PV) : M PV := M.ret v
def PV.own : PV → Bool
  | .lst true _ => true
  | .dct true _ => true
  | .obj true _ _ => true
  | _ => false
/-- the value of a slot: from now on it never changes -/
def eV (i : Nat) : M PV := fun ρ => match ρ[i]? with
  | some (some d) => if d.own then (if d.calm then .ok d.frz (ρ.set i (some d.frz)) else .bad) else .ok d ρ
  | _ => .bad
theorem RepO.free {F : Fr} {G : Hp} {O : Own} {H : Hp} {n k : Nat} {d : PV} {x : V} (h : RepO F G O H n d x) (f : d.own = false) : RepO F G O H k d x := by
  cases d with
  | obj o C fs =>
    cases o with
    | true => cases f
    | false => exact h
  | lst o xs =>
    cases o with
    | true => cases f
    | false => exact h
  | dct o xs =>
    cases o with
    | true => cases f
    | false => exact h
  | exc C fs => exact h
  | non => exact h
  | bl b => exact h
  | int i => exact h
  | str s => exact h
  | tup xs => exact h
section
variable {X : Cx} {io : List Nat} {W : WX}
theorem ej_const {v : PV} {x : V} {e : Expr} (h : PE X e (tC x)) (r : ∀ Z G, Rep Z G v x) : EJ X io W e (eK v) :=
  PE.imp h fun σ H Q ⟨F, G, O, ρ, ts, hZ, R, P⟩ => P G O H x (R.pushF (r _ _))
theorem ej_non {j pos} : EJ X io W (.Constant .none j pos) (eK .non) := ej_const pe_non fun _ _ => by simp only [Rep]
theorem ej_bl {b j pos} : EJ X io W (.Constant (.bool b) j pos) (eK (.bl b)) := ej_const pe_bl fun _ _ => by simp only [Rep]
theorem ej_int {i j pos} : EJ X io W (.Constant (.int i) j pos) (eK (.int i)) := ej_const pe_int fun _ _ => by simp only [Rep]
theorem ej_str {s j pos} (h : sOk s = true := by decide +kernel) : EJ X io W (.Constant (.str s) j pos) (eK (.str s)) := ej_const pe_str fun _ _ => by simp only [Rep, h, and_self]
theorem ej_v {i : Nat} {x : Str} {pos : Pos} (hN : X.N[i]? = some x) (hv : Vis X.env.scope x) (hd : (x == ("__debug__" : Str)) = false := by decide) (hcd : (x == ("__classdict__" : Str)) = false := by decide) : EJ X io W (.Name x pos) (eV i) := by
  refine PE.imp (pe_var hN hv hd hcd) ?_
  rintro σ H Q ⟨F, G, O, ρ, ts, hZ, R, P⟩
  unfold eV at P
  cases e : ρ[i]? with
  | none => rw [e] at P; exact P.elim
  | some od =>
    cases od with
    | none => rw [e] at P; exact P.elim
    | some d =>
      rw [e] at P
      simp only at P
      by_cases ho : d.own = true
      · rw [if_pos ho] at P
        by_cases hc : d.calm = true
        · rw [if_pos hc] at P
          obtain ⟨v, hv, R1, r⟩ := R.frzSlot e hc
          exact ⟨v, hv, P _ _ _ _ (R1.pushF r)⟩
        · rw [if_neg hc] at P; exact P.elim
      · rw [if_neg ho] at P
        obtain ⟨v, hv, r⟩ := R.sl i d e
        exact ⟨v, hv, P _ _ _ _ (R.push (r.free (by simpa using ho)))⟩
end
end Wv

set_option Elab.async false
set_option linter.all false
set_option autoImplicit false
set_option maxRecDepth 100000
/-! WvE: operators. -/
namespace Wv
open PySem PySem.Spec PyProof.Rows L2

def bad {α : Type} : M α := fun _ => .bad

/-! ### as plain data -/
mutual
def PV.data : PV → Option PyData
  | .non => some .none
  | .bl b => some (.bool b)
  | .int i => some (.int i)
  | .str s => some (.str s)
  | .tup xs => (PV.datas xs).map PyData.tuple
  | .lst _ xs => (PV.datas xs).map PyData.list
  | .dct _ _ => none
  | .obj _ _ _ => none
  | .exc _ _ => none
def PV.datas : List PV → Option (List PyData)
  | [] => some []
  | x :: xs => (PV.data x).bind fun d => (PV.datas xs).map fun ds => d :: ds
end
mutual
theorem rep_data {Z : Zt} {G H : Hp} (k : Sub G H) : ∀ (d : PV) (x : V) (p : PyData), Rep Z G d x → d.data = some p → Dp Z.K H x p ∧ p.canLay0 = true
  | .non, x, p, h, e => by
    simp only [Rep] at h
    simp only [PV.data, Option.some.injEq] at e
    subst h e
    exact ⟨.non, rfl⟩
  | .bl b, x, p, h, e => by
    simp only [Rep] at h
    simp only [PV.data, Option.some.injEq] at e
    subst h e
    exact ⟨.bl b, rfl⟩
  | .int i, x, p, h, e => by
    simp only [Rep] at h
    simp only [PV.data, Option.some.injEq] at e
    subst h e
    exact ⟨.int i, rfl⟩
  | .str s, x, p, h, e => by
    simp only [Rep] at h
    simp only [PV.data, Option.some.injEq] at e
    obtain ⟨h1, o⟩ := h
    subst h1 e
    exact ⟨.str s, by simpa [PyData.canLay0] using (Bool.and_eq_true_iff.mp o).1⟩
  | .tup xs, x, p, h, e => by
    simp only [Rep] at h
    simp only [PV.data, Option.map_eq_some_iff] at e
    obtain ⟨a, vs, rfl, q, r⟩ := h
    obtain ⟨ds, e, rfl⟩ := e
    obtain ⟨h1, h2⟩ := reps_data k xs vs ds r e
    exact ⟨.tup (sub_sqT k q) h1, by simpa [PyData.canLay0] using h2⟩
  | .lst false xs, x, p, h, e => by
    simp only [Rep] at h
    simp only [PV.data, Option.map_eq_some_iff] at e
    obtain ⟨a, vs, rfl, q, r⟩ := h
    obtain ⟨ds, e, rfl⟩ := e
    obtain ⟨h1, h2⟩ := reps_data k xs vs ds r e
    exact ⟨.lst (sub_sqL k q) h1, by simpa [PyData.canLay0] using h2⟩
  | .lst true xs, x, p, h, e => by simp only [Rep] at h
  | .dct _ _, x, p, h, e => by simp only [PV.data] at e; cases e
  | .obj _ _ _, x, p, h, e => by simp only [PV.data] at e; cases e
  | .exc _ _, x, p, h, e => by simp only [PV.data] at e; cases e
theorem reps_data {Z : Zt} {G H : Hp} (k : Sub G H) : ∀ (ds : List PV) (xs : List V) (ps : List PyData), Reps Z G ds xs → PV.datas ds = some ps → DpAll Z.K H xs ps ∧ PyData.canLayAll0 ps = true
  | [], xs, ps, h, e => by
    simp only [Reps] at h
    simp only [PV.datas, Option.some.injEq] at e
    subst h e
    exact ⟨.nil, rfl⟩
  | d :: ds, xs, ps, h, e => by
    simp only [Reps] at h
    simp only [PV.datas, Option.bind_eq_some_iff, Option.map_eq_some_iff] at e
    obtain ⟨v, r, rfl, h1, h2⟩ := h
    obtain ⟨p, e1, q, e2, rfl⟩ := e
    obtain ⟨a1, a2⟩ := rep_data k d v p h1 e1
    obtain ⟨b1, b2⟩ := reps_data k ds r q h2 e2
    exact ⟨.cons a1 b1, by simp [PyData.canLayAll0, a2, b2]⟩
end
theorem repO_data {F : Fr} {G H : Hp} {O : Own} {n : Nat} (k : Sub G H) {d : PV} {x : V} {p : PyData} (h : RepO F G O H n d x) (e : d.data = some p) : Dp F.Z.K H x p ∧ p.canLay0 = true := by
  cases d with
  | lst o xs =>
    cases o with
    | true =>
      obtain ⟨a, vs, rfl, _, q, r⟩ := h
      simp only [PV.data, Option.map_eq_some_iff] at e
      obtain ⟨ds, e, rfl⟩ := e
      obtain ⟨h1, h2⟩ := reps_data k xs vs ds r e
      exact ⟨.lst (SqL.of q) h1, by simpa [PyData.canLay0] using h2⟩
    | false => exact rep_data k (.lst false xs) x p h e
  | dct o kvs => simp only [PV.data] at e; cases e
  | obj o C fs => simp only [PV.data] at e; cases e
  | exc C fs => simp only [PV.data] at e; cases e
  | non => exact rep_data k .non x p h e
  | bl b => exact rep_data k (.bl b) x p h e
  | int i => exact rep_data k (.int i) x p h e
  | str s => exact rep_data k (.str s) x p h e
  | tup xs => exact rep_data k (.tup xs) x p h e

/-! ### what a value is, seen from its data -/
section
variable {F : Fr} {G H : Hp} {O : Own} {n : Nat} {x : V}
theorem repO_int {i : Int} (h : RepO F G O H n (.int i) x) : x = .int i := by
  have h' : Rep F.Z G (.int i) x := h
  simpa only [Rep] using h'
theorem repO_bl {b : Bool} (h : RepO F G O H n (.bl b) x) : x = .bl b := by
  have h' : Rep F.Z G (.bl b) x := h
  simpa only [Rep] using h'
theorem repO_non (h : RepO F G O H n .non x) : x = .non := by
  have h' : Rep F.Z G .non x := h
  simpa only [Rep] using h'
theorem repO_str {s : Str} (h : RepO F G O H n (.str s) x) : x = .str s ∧ sOk s = true := by
  have h' : Rep F.Z G (.str s) x := h
  simpa only [Rep] using h'
theorem repO_tup {xs : List PV} (k : Sub G H) (h : RepO F G O H n (.tup xs) x) : ∃ a vs, x = .ref a ∧ SqT F.Z.K H a vs ∧ Reps F.Z G xs vs := by
  have h' : Rep F.Z G (.tup xs) x := h
  simp only [Rep] at h'
  obtain ⟨a, vs, e, q, r⟩ := h'
  exact ⟨a, vs, e, sub_sqT k q, r⟩
theorem repO_lst {o : Bool} {xs : List PV} (k : Sub G H) (h : RepO F G O H n (.lst o xs) x) : ∃ a vs, x = .ref a ∧ SqL F.Z.K H a vs ∧ Reps F.Z G xs vs := by
  cases o with
  | true =>
    obtain ⟨a, vs, e, _, q, r⟩ := h
    exact ⟨a, vs, e, .inl (.inl q), r⟩
  | false =>
    have h' : Rep F.Z G (.lst false xs) x := h
    simp only [Rep] at h'
    obtain ⟨a, vs, e, q, r⟩ := h'
    exact ⟨a, vs, e, sub_sqL k q, r⟩
end
theorem Reps.length {Z : Zt} {G : Hp} : ∀ {ds : List PV} {xs : List V}, Reps Z G ds xs → ds.length = xs.length
  | [], _, h => by simp only [Reps] at h; subst h; rfl
  | d :: ds, _, h => by
    simp only [Reps] at h
    obtain ⟨v, r, rfl, _, h2⟩ := h
    simp [Reps.length h2]
theorem Reps.append {Z : Zt} {G : Hp} : ∀ {ds es : List PV} {xs ys : List V}, Reps Z G ds xs → Reps Z G es ys → Reps Z G (ds ++ es) (xs ++ ys)
  | [], _, _, _, h, k => by simp only [Reps] at h; subst h; exact k
  | d :: ds, _, _, _, h, k => by
    simp only [Reps] at h
    obtain ⟨v, r, rfl, h1, h2⟩ := h
    show Reps Z G (d :: (ds ++ _)) (v :: (r ++ _))
    simp only [Reps]
    exact ⟨v, _, rfl, h1, Reps.append h2 k⟩
theorem Reps.get {Z : Zt} {G : Hp} : ∀ {ds : List PV} {xs : List V} {i : Nat} {d : PV}, Reps Z G ds xs → ds[i]? = some d → ∃ x, xs[i]? = some x ∧ Rep Z G d x
  | [], _, _, _, _, e => by simp at e
  | d :: ds, _, 0, _, h, e => by
    simp only [Reps] at h
    obtain ⟨v, r, rfl, h1, _⟩ := h
    simp at e
    subst e
    exact ⟨v, rfl, h1⟩
  | d :: ds, _, i + 1, _, h, e => by
    simp only [Reps] at h
    obtain ⟨v, r, rfl, _, h2⟩ := h
    obtain ⟨x, hx, q⟩ := Reps.get (i := i) h2 (by simpa using e)
    exact ⟨x, by simpa using hx, q⟩
theorem Reps.take {Z : Zt} {G : Hp} : ∀ {ds : List PV} {xs : List V} (n : Nat), Reps Z G ds xs → Reps Z G (ds.take n) (xs.take n)
  | _, _, 0, _ => by simp only [List.take_zero, Reps]
  | [], _, n + 1, h => by simp only [Reps] at h; subst h; simp only [List.take_nil, Reps]
  | d :: ds, _, n + 1, h => by
    simp only [Reps] at h
    obtain ⟨v, r, rfl, h1, h2⟩ := h
    simp only [List.take_succ_cons, Reps]
    exact ⟨v, _, rfl, h1, Reps.take n h2⟩
theorem Reps.drop {Z : Zt} {G : Hp} : ∀ {ds : List PV} {xs : List V} (n : Nat), Reps Z G ds xs → Reps Z G (ds.drop n) (xs.drop n)
  | _, _, 0, h => h
  | [], _, n + 1, h => by simp only [Reps] at h; subst h; simp only [List.drop_nil, Reps]
  | d :: ds, _, n + 1, h => by
    simp only [Reps] at h
    obtain ⟨v, r, rfl, _, h2⟩ := h
    simpa using Reps.drop n h2
theorem Reps.set {Z : Zt} {G : Hp} {d : PV} {x : V} (q : Rep Z G d x) : ∀ {ds : List PV} {xs : List V} (i : Nat), Reps Z G ds xs → Reps Z G (ds.set i d) (xs.set i x)
  | [], _, _, h => by simp only [Reps] at h; subst h; simp only [List.set_nil, Reps]
  | _ :: _, _, 0, h => by
    simp only [Reps] at h
    obtain ⟨v, r, rfl, _, h2⟩ := h
    simp only [List.set_cons_zero, Reps]
    exact ⟨x, _, rfl, q, h2⟩
  | e :: ds, _, i + 1, h => by
    simp only [Reps] at h
    obtain ⟨v, r, rfl, h1, h2⟩ := h
    simp only [List.set_cons_succ, Reps]
    exact ⟨v, _, rfl, h1, Reps.set q i h2⟩
theorem Reps.one {Z : Zt} {G : Hp} {d : PV} {x : V} (h : Rep Z G d x) : Reps Z G [d] [x] := by
  simp only [Reps]
  exact ⟨x, [], rfl, h, rfl⟩
theorem Reps.replicate {Z : Zt} {G : Hp} {ds : List PV} {xs : List V} (h : Reps Z G ds xs) : ∀ n, Reps Z G (List.replicate n ds).flatten (List.replicate n xs).flatten
  | 0 => by simp only [List.replicate, List.flatten_nil, Reps]
  | n + 1 => by
    simp only [List.replicate_succ, List.flatten_cons]
    exact h.append (Reps.replicate h n)

/-! ### two operands -/
def eBin (op : PV → PV → M PV) (f g : M PV) : M PV := M.bind f fun x => M.bind g fun y => op x y
/-- r is shown from what op gives -/
def OpS (Z : Zt) (W : WX) (r : R2) (op : PV → PV → M PV) : Prop :=
  ∀ F G O ρ ts σ H Q dx dy x y k l, F.Z = Z → Rel F G O ρ ts σ H → RepO F G O H k dx x → RepO F G O H l dy y → PostE W F ts σ Q (op dx dy ρ) → r x y H Q
section
variable {F : Fr} {G : Hp} {O : Own} {ρ : Sl} {ts : List (PV × V)} {σ : St} {H : Hp} {p q : PV × V}
theorem Rel.pop2 (R : Rel F G O ρ (ts ++ [p] ++ [q]) σ H) : Rel F G O ρ ts σ H := R.pop.pop
theorem Rel.snd {d e : PV} {x y : V} (R : Rel F G O ρ (ts ++ [(d, x)] ++ [(e, y)]) σ H) : RepO F G O H (ρ.length + ts.length) d x ∧ RepO F G O H (ρ.length + (ts.length + 1)) e y := by
  refine ⟨R.pop.top, ?_⟩
  have := R.top
  simpa using this
end
section
variable {X : Cx} {io : List Nat} {W : WX} {a b : Expr} {f g : M PV} {pos : Pos} {r : R2} {op : PV → PV → M PV}
theorem t_op (hs : OpS (X.zt io) W r op) : ∀ σ H Q, T (X.zt io) W (eBin op f g) σ H Q → tOp r (T (X.zt io) W f) (T (X.zt io) W g) σ H Q := by
  rintro σ H Q ⟨F, G, O, ρ, ts, hZ, R, P⟩
  have P1 := PostE.bind (W := W) (F := F) (ts := ts) (σ := σ) (ρ := ρ) [] P
  simp only [List.append_nil] at P1
  refine ⟨F, G, O, ρ, ts, hZ, R, ?_⟩
  revert P1
  cases f ρ with
  | bad => exact fun z => z
  | exc C fs ρ' => exact fun z => z
  | ok v ρ' =>
    intro P1 G' O' H' x R'
    obtain ⟨G1, O1, ρ1, v1, R1, P2⟩ := P1 G' O' H' x R'
    have P3 := PostE.bind (W := W) (F := F) (ts := ts) (σ := σ) (ρ := ρ1) [(v1, x)] P2
    refine ⟨F, G1, O1, ρ1, ts ++ [(v1, x)], hZ, R1, ?_⟩
    revert P3
    cases g ρ1 with
    | bad => exact fun z => z
    | exc C fs ρ' => exact fun z => z
    | ok w ρ2 =>
      intro P3 G2 O2 H2 y R2
      obtain ⟨G3, O3, ρ3, v3, R3, P4⟩ := P3 G2 O2 H2 y R2
      exact hs F G3 O3 ρ3 ts σ H2 Q v1 v3 x y _ _ hZ R3.pop2 R3.snd.1 R3.snd.2 P4
theorem ej_bin {o : Operator} (ho : OpR X (binaryOp o) r) (hs : OpS (X.zt io) W r op) (ha : EJ X io W a f) (hb : EJ X io W b g) : EJ X io W (.BinOp a o b pos) (eBin op f g) :=
  PE.imp (pe_op ho ha hb) (t_op hs)
theorem ej_cmp {o : CmpOp} (ho : OpR X (compareOp o) r) (hs : OpS (X.zt io) W r op) (ha : EJ X io W a f) (hb : EJ X io W b g) (hm : behindInMarks o b = false := by first | exact nomark _ | rfl) : EJ X io W (.Compare a [o] [b] pos) (eBin op f g) :=
  PE.imp (pe_cmpR ho ha hb hm) (t_op hs)
end
section
variable {W : WX} {F : Fr} {G : Hp} {O : Own} {ρ : Sl} {ts : List (PV × V)} {σ : St} {H : Hp} {Q : VK} {p q : PV × V}
theorem PostE.val (R : Rel F G O ρ ts σ H) {v : PV} {x : V} (P : PostE W F ts σ Q (M.ret v ρ)) (h : Rep F.Z G v x) : Q x H := P G O H x (R.pushF h)
theorem PostE.newLst (R : Rel F G O ρ ts σ H) {xs : List PV} {vs : List V} (P : PostE W F ts σ Q (M.ret (.lst true xs) ρ)) (h : Reps F.Z G xs vs) {a : Addr} (ha : H a = none) : Q (.ref a) (upd H a (.lst vs)) :=
  P _ _ _ _ (R.layO (d := .lst true xs) ha ⟨a, vs, rfl, own1_same, upd_same, h⟩)
theorem PostE.newTup (R : Rel F G O ρ ts σ H) {xs : List PV} {vs : List V} (P : PostE W F ts σ Q (M.ret (.tup xs) ρ)) (h : Reps F.Z G xs vs) {a : Addr} (ha : H a = none) : Q (.ref a) (upd H a (.tup vs)) := by
  have R1 := R.layF (p := a) (o := .tup vs) ha
  refine P _ _ _ _ (R1.pushF ?_)
  simp only [Rep]
  exact ⟨a, vs, rfl, SqT.of upd_same, Reps.sub (sub_upd (R.newG ha)) _ _ h⟩
end
theorem sOk_len {a : Str} (h : sOk a = true) : a.length ≤ sizeLine := by
  have := of_decide_eq_true (Bool.and_eq_true_iff.mp h).2
  rw [sizeLine_eq]
  exact this
theorem sOk_of {a : Str} (h1 : PyData.strOk a = true) (h2 : a.length ≤ sizeLine) : sOk a = true := by
  rw [sizeLine_eq] at h2
  exact Bool.and_eq_true_iff.mpr ⟨h1, decide_eq_true h2⟩
theorem sOk_append {a b : Str} (ha : sOk a = true) (hb : sOk b = true) (hl : a.length + b.length ≤ sizeLine) : sOk (a ++ b) = true := by
  refine sOk_of ?_ (by rw [strLen_append]; exact hl)
  show ((a.cps ++ b.cps).all fun c => decide (c < 0x110000)) = true
  have ha' : (a.cps.all fun c => decide (c < 0x110000)) = true := (Bool.and_eq_true_iff.mp ha).1
  have hb' : (b.cps.all fun c => decide (c < 0x110000)) = true := (Bool.and_eq_true_iff.mp hb).1
  rw [Array.all_append, ha', hb']
  rfl

/-! ### + - * // % ** -/
def opAdd : PV → PV → M PV
  | .int i, .int j => M.ret (.int (i + j))
  | .str s, .str t => if s.length + t.length ≤ sizeLine then M.ret (.str (s ++ t)) else bad
  | .lst _ xs, .lst _ ys => if xs.length + ys.length ≤ sizeLine then M.ret (.lst true (xs ++ ys)) else bad
  | .tup xs, .tup ys => if xs.length + ys.length ≤ sizeLine then M.ret (.tup (xs ++ ys)) else bad
  | _, _ => bad
def rCatL (K : PySem.W.Frag) : R2 := fun x y H Q => ∃ l b xs zs, x = .ref l ∧ y = .ref b ∧ SqL K H l xs ∧ SqL K H b zs ∧ xs.length + zs.length ≤ sizeLine ∧ ∀ p, H p = none → Q (.ref p) (upd H p (.lst (xs ++ zs)))
theorem or_catL {X : Cx} : OpR X (binaryOp .Add) (rCatL X.K) := by
  intro pins s σ H x y v u Q I rx ry h
  obtain ⟨l, b, xs, zs, rfl, rfl, hH, hB, hz, q⟩ := h
  cases rx
  cases ry
  obtain ⟨its, r, ⟨⟨c1, d1, x1, sl1⟩, n, e, hc1, hd1, hx1⟩, z1⟩ := I.list hH
  obtain ⟨its2, r2, ⟨⟨c2, d2, x2, sl2⟩, n2, e2, hc2, hd2, hx2⟩, z2⟩ := I.list hB
  have k1 := r.length
  have k2 := r2.length
  simp only at hc1 hd1 hx1 hc2 hd2 hx2
  subst hc1 hd1 hx1 hc2 hd2 hx2
  refine concat_meets ⟨_, e, rfl⟩ ⟨_, e2, rfl⟩ noFill_list_add seq_list_add PySem.F.slot_list_add PySem.F.entry_list_add (PySem.F.args_list_add_2 _ _) (PyProof.Rows.list_addW l b its.toArray its2.toArray n n2 none none sl1 sl2 (by rw [List.size_toArray, List.size_toArray]; omega)) ⟨e, e2, ?_⟩
  have ea : its.toArray ++ its2.toArray = (its ++ its2).toArray := by simp
  rw [ea]
  exact ⟨.ref _, _, I.lnew (t' := s.toks) (r.append r2) (by rw [List.length_append]; omega), rfl, q _ I.fresh⟩

section
variable {Z : Zt} {io : List Nat} {W : WX} {X : Cx}
abbrev rAddA (K : PySem.W.Frag) : R2 := fun x y H Q => rI0 (fun i j => .int (i + j)) x y H Q ∨ ((fun x y H Q => ∃ i j, x = V.str i ∧ y = .str j ∧ i.length + j.length ≤ sizeLine ∧ Q (.str (i ++ j)) H : R2) x y H Q ∨ (rCatL K x y H Q ∨ rCatA K x y H Q))
theorem or_add : OpR X (binaryOp .Add) (rAddA X.K) := OpR.or op_add (OpR.or op_add_str (OpR.or or_catL op_catA))
theorem os_add : OpS Z W (rAddA Z.K) opAdd := fun F G O ρ ts σ H Q dx dy x y k l hZ R hx hy P => by
  unfold opAdd at P
  split at P
  · exact .inl ⟨_, _, repO_int hx, repO_int hy, P.val R (by simp only [Rep])⟩
  · split at P
    · obtain ⟨e1, o1⟩ := repO_str hx
      obtain ⟨e2, o2⟩ := repO_str hy
      exact .inr (.inl ⟨_, _, e1, e2, by assumption, P.val R (by simp only [Rep, true_and]; exact sOk_append o1 o2 (by assumption))⟩)
    · exact P.elim
  · split at P
    · obtain ⟨a, vs, e1, q1, r1⟩ := repO_lst R.gh hx
      obtain ⟨b, us, e2, q2, r2⟩ := repO_lst R.gh hy
      rw [hZ] at q1 q2
      exact .inr (.inr (.inl ⟨a, b, vs, us, e1, e2, q1, q2, by rw [← r1.length, ← r2.length]; assumption, fun p hp => P.newLst R (r1.append r2) hp⟩))
    · exact P.elim
  · split at P
    · obtain ⟨a, vs, e1, q1, r1⟩ := repO_tup R.gh hx
      obtain ⟨b, us, e2, q2, r2⟩ := repO_tup R.gh hy
      rw [hZ] at q1 q2
      refine .inr (.inr (.inr ⟨a, b, vs, us, e1, e2, q1, q2, by rw [← r1.length, ← r2.length]; assumption, fun z => ?_, fun _ z => ?_, fun _ _ p hp => P.newTup R (r1.append r2) hp⟩))
      · subst z
        have l := r1.length
        rename_i xs ys _
        obtain rfl : xs = [] := List.eq_nil_of_length_eq_zero l
        rw [← e2]
        exact P _ _ _ _ (R.push (RepO.free hy rfl))
      · subst z
        have l := r2.length
        rename_i xs ys _ _
        obtain rfl : ys = [] := List.eq_nil_of_length_eq_zero l
        rw [← e1]
        rw [List.append_nil] at P
        exact P _ _ _ _ (R.push (RepO.free hx rfl))
    · exact P.elim
  · exact P.elim

def opSub : PV → PV → M PV
  | .int i, .int j => M.ret (.int (i - j))
  | _, _ => bad
theorem os_sub : OpS Z W (rI0 fun i j => .int (i - j)) opSub := fun F G O ρ ts σ H Q dx dy x y k l hZ R hx hy P => by
  unfold opSub at P
  split at P
  · exact ⟨_, _, repO_int hx, repO_int hy, P.val R (by simp only [Rep])⟩
  · exact P.elim

def mulOk (i j : Int) : Bool := decide (i.natAbs < 18446744073709551616) || decide (j.natAbs < 18446744073709551616)
theorem mulOk_fits {i j : Int} (h : mulOk i j = true) : IntMulOk i j := by
  unfold mulOk at h
  rw [Bool.or_eq_true, decide_eq_true_eq, decide_eq_true_eq] at h
  rcases h with h | h
  · exact .of_left (intBits_le_64 (by omega) (by omega))
  · exact .of_right (intBits_le_64 (by omega) (by omega))
def strRep (s : Str) : Nat → Str
  | 0 => Str.empty
  | n + 1 => s ++ strRep s n
def opMul : PV → PV → M PV
  | .int i, .int j => if mulOk i j then M.ret (.int (i * j)) else bad
  | .lst _ xs, .int k => if xs.length * k.toNat ≤ sizeLine ∧ -(2 ^ 63) ≤ k ∧ k < 2 ^ 63 then M.ret (.lst true (List.replicate k.toNat xs).flatten) else bad
  | .tup xs, .int k => if xs.length = 1 ∧ 1 ≤ k ∧ k ≤ 1000 then M.ret (.tup (List.replicate k.toNat xs).flatten) else bad
  | _, _ => bad
theorem or_mulI : OpR X (binaryOp .Mult) (rI (fun i j => mulOk i j = true) fun i j => .int (i * j)) := opI fun i j t u s Q E hc q => mul_int q (mulOk_fits hc)

def opDiv : PV → PV → M PV
  | .int i, .int j => if 0 < j ∧ j < 18446744073709551616 then M.ret (.int (i / j)) else bad
  | _, _ => bad
theorem os_div : OpS Z W (rI CDivW fun i j => .int (i / j)) opDiv := fun F G O ρ ts σ H Q dx dy x y k l hZ R hx hy P => by
  unfold opDiv at P
  split at P
  · split at P
    · rename_i i j h
      refine ⟨_, _, repO_int hx, repO_int hy, ⟨h.1, ?_⟩, P.val R (by simp only [Rep])⟩
      have : j.natAbs.log2 < 64 := (Nat.log2_lt (by omega)).mpr (by omega)
      omega
    · exact P.elim
  · exact P.elim
def opMod : PV → PV → M PV
  | .int i, .int j => if 0 < j then M.ret (.int (i % j)) else bad
  | _, _ => bad
theorem os_mod : OpS Z W (rI (fun _ j => 0 < j) fun i j => .int (i % j)) opMod := fun F G O ρ ts σ H Q dx dy x y k l hZ R hx hy P => by
  unfold opMod at P
  split at P
  · split at P
    · exact ⟨_, _, repO_int hx, repO_int hy, by assumption, P.val R (by simp only [Rep])⟩
    · exact P.elim
  · exact P.elim
def opPow : PV → PV → M PV
  | .int i, .int j => if 0 ≤ j ∧ (Builtin.Int.intBits i : Int) * j ≤ 134217728 then M.ret (.int (i ^ j.toNat)) else bad
  | _, _ => bad
theorem or_powI : OpR X (binaryOp .Pow) (rI (fun i j => 0 ≤ j ∧ (Builtin.Int.intBits i : Int) * j ≤ 134217728) fun i j => .int (i ^ j.toNat)) := opI fun i j t u s Q E hc q => PyProof.Rows.pow_int hc.1 hc.2 q
theorem os_pow : OpS Z W (rI (fun i j => 0 ≤ j ∧ (Builtin.Int.intBits i : Int) * j ≤ 134217728) fun i j => .int (i ^ j.toNat)) opPow := fun F G O ρ ts σ H Q dx dy x y k l hZ R hx hy P => by
  unfold opPow at P
  split at P
  · split at P
    · exact ⟨_, _, repO_int hx, repO_int hy, by assumption, P.val R (by simp only [Rep])⟩
    · exact P.elim
  · exact P.elim

/-! ### comparisons -/
def opEq (d e : PV) : M PV := match d.data, e.data with
  | some p, some q => if p.depth ≤ 60 ∧ q.depth ≤ 60 then M.ret (.bl (PyData.eqv p q)) else bad
  | _, _ => bad
def opNe (d e : PV) : M PV := match d.data, e.data with
  | some p, some q => if p.depth ≤ 60 ∧ q.depth ≤ 60 then M.ret (.bl (!PyData.eqv p q)) else bad
  | _, _ => bad
theorem shaped_of {p : PyData} (h : p.canLay0 = true) (d : p.depth ≤ 60) : SeqAt.shaped p = true := by
  unfold SeqAt.shaped
  rw [h, decide_eq_true (show p.depth ≤ 64 by omega)]
  rfl
theorem os_eq : OpS Z W (rEqD Z.K) opEq := fun F G O ρ ts σ H Q dx dy x y k l hZ R hx hy P => by
  unfold opEq at P
  cases e1 : dx.data with
  | none => simp only [e1] at P; exact P.elim
  | some p =>
    cases e2 : dy.data with
    | none => simp only [e1, e2] at P; exact P.elim
    | some q =>
      simp only [e1, e2] at P
      by_cases h : p.depth ≤ 60 ∧ q.depth ≤ 60
      · rw [if_pos h] at P
        obtain ⟨d1, c1⟩ := repO_data R.gh hx e1
        obtain ⟨d2, c2⟩ := repO_data R.gh hy e2
        rw [hZ] at d1 d2
        exact ⟨_, _, d1, d2, shaped_of c1 h.1, shaped_of c2 h.2, P.val R (by simp only [Rep])⟩
      · rw [if_neg h] at P
        exact P.elim
theorem os_ne : OpS Z W (rNeD Z.K) opNe := fun F G O ρ ts σ H Q dx dy x y k l hZ R hx hy P => by
  unfold opNe at P
  cases e1 : dx.data with
  | none => simp only [e1] at P; exact P.elim
  | some p =>
    cases e2 : dy.data with
    | none => simp only [e1, e2] at P; exact P.elim
    | some q =>
      simp only [e1, e2] at P
      by_cases h : p.depth ≤ 60 ∧ q.depth ≤ 60
      · rw [if_pos h] at P
        obtain ⟨d1, c1⟩ := repO_data R.gh hx e1
        obtain ⟨d2, c2⟩ := repO_data R.gh hy e2
        rw [hZ] at d1 d2
        exact ⟨_, _, d1, d2, shaped_of c1 h.1, shaped_of c2 h.2, P.val R (by simp only [Rep])⟩
      · rw [if_neg h] at P
        exact P.elim
def strLt (s t : Str) : Bool := decide (s.cps.toList < t.cps.toList)
def opLt : PV → PV → M PV
  | .int i, .int j => M.ret (.bl (decide (i < j)))
  | .str s, .str t => M.ret (.bl (strLt s t))
  | _, _ => bad
def opLe : PV → PV → M PV
  | .int i, .int j => M.ret (.bl (decide (i ≤ j)))
  | .str s, .str t => M.ret (.bl (!strLt t s))
  | _, _ => bad
def opGt : PV → PV → M PV
  | .int i, .int j => M.ret (.bl (decide (j < i)))
  | .str s, .str t => M.ret (.bl (strLt t s))
  | _, _ => bad
def opGe : PV → PV → M PV
  | .int i, .int j => M.ret (.bl (decide (j ≤ i)))
  | .str s, .str t => M.ret (.bl (!strLt s t))
  | _, _ => bad
abbrev rCs (gi : Int → Int → Bool) (gs : Str → Str → Bool) : R2 := fun x y H Q => rI0 (fun i j => .bl (gi i j)) x y H Q ∨ (∃ i j, x = V.str i ∧ y = .str j ∧ Q (.bl (gs i j)) H)
theorem or_lt : OpR X (compareOp .Lt) (rCs (fun i j => decide (i < j)) fun i j => strLt i j) := OpR.or op_lt op_lt_str
theorem or_le : OpR X (compareOp .LtE) (rCs (fun i j => decide (i ≤ j)) fun i j => !strLt j i) := OpR.or op_le op_le_str
theorem or_gt : OpR X (compareOp .Gt) (rCs (fun i j => decide (j < i)) fun i j => strLt j i) := OpR.or op_gt op_gt_str
theorem or_ge : OpR X (compareOp .GtE) (rCs (fun i j => decide (j ≤ i)) fun i j => !strLt i j) := OpR.or op_ge op_ge_str
theorem os_lt : OpS Z W (rCs (fun i j => decide (i < j)) fun i j => strLt i j) opLt := fun F G O ρ ts σ H Q dx dy x y k l hZ R hx hy P => by
  unfold opLt at P
  split at P
  · exact .inl ⟨_, _, repO_int hx, repO_int hy, P.val R (by simp only [Rep])⟩
  · exact .inr ⟨_, _, (repO_str hx).1, (repO_str hy).1, P.val R (by simp only [Rep])⟩
  · exact P.elim
theorem os_le : OpS Z W (rCs (fun i j => decide (i ≤ j)) fun i j => !strLt j i) opLe := fun F G O ρ ts σ H Q dx dy x y k l hZ R hx hy P => by
  unfold opLe at P
  split at P
  · exact .inl ⟨_, _, repO_int hx, repO_int hy, P.val R (by simp only [Rep])⟩
  · exact .inr ⟨_, _, (repO_str hx).1, (repO_str hy).1, P.val R (by simp only [Rep])⟩
  · exact P.elim
theorem os_gt : OpS Z W (rCs (fun i j => decide (j < i)) fun i j => strLt j i) opGt := fun F G O ρ ts σ H Q dx dy x y k l hZ R hx hy P => by
  unfold opGt at P
  split at P
  · exact .inl ⟨_, _, repO_int hx, repO_int hy, P.val R (by simp only [Rep])⟩
  · exact .inr ⟨_, _, (repO_str hx).1, (repO_str hy).1, P.val R (by simp only [Rep])⟩
  · exact P.elim
theorem os_ge : OpS Z W (rCs (fun i j => decide (j ≤ i)) fun i j => !strLt i j) opGe := fun F G O ρ ts σ H Q dx dy x y k l hZ R hx hy P => by
  unfold opGe at P
  split at P
  · exact .inl ⟨_, _, repO_int hx, repO_int hy, P.val R (by simp only [Rep])⟩
  · exact .inr ⟨_, _, (repO_str hx).1, (repO_str hy).1, P.val R (by simp only [Rep])⟩
  · exact P.elim
def PV.isNon : PV → Bool
  | .non => true
  | _ => false
theorem repO_isNon {F : Fr} {G H : Hp} {O : Own} {n : Nat} {d : PV} {x : V} (h : RepO F G O H n d x) : decide (x = V.non) = d.isNon := by
  have nr : ∀ {a : Addr}, x = V.ref a → decide (x = V.non) = false := fun e => by subst e; rfl
  cases d with
  | non => obtain rfl := repO_non h; rfl
  | bl b => obtain rfl := repO_bl h; rfl
  | int i => obtain rfl := repO_int h; rfl
  | str s => obtain ⟨rfl, _⟩ := repO_str h; rfl
  | tup xs =>
    have h' : Rep F.Z G (.tup xs) x := h
    simp only [Rep] at h'
    obtain ⟨a, _, e, _⟩ := h'
    exact nr e
  | lst o xs =>
    cases o with
    | true => obtain ⟨a, _, e, _⟩ := h; exact nr e
    | false =>
      have h' : Rep F.Z G (.lst false xs) x := h
      simp only [Rep] at h'
      obtain ⟨a, _, e, _⟩ := h'
      exact nr e
  | dct o xs =>
    cases o with
    | true => obtain ⟨a, _, e, _⟩ := h; exact nr e
    | false =>
      have h' : Rep F.Z G (.dct false xs) x := h
      simp only [Rep] at h'
      obtain ⟨a, _, e, _⟩ := h'
      exact nr e
  | obj o C xs =>
    cases o with
    | true => obtain ⟨a, _, _, e, _⟩ := h; exact nr e
    | false =>
      have h' : Rep F.Z G (.obj false C xs) x := h
      simp only [Rep] at h'
      obtain ⟨a, _, _, e, _⟩ := h'
      exact nr e
  | exc C xs => obtain ⟨a, _, _, _, e, _⟩ := h; exact nr e
def opIs (d e : PV) : M PV := match e with
  | .non => M.ret (.bl d.isNon)
  | _ => bad
def opIsNot (d e : PV) : M PV := match e with
  | .non => M.ret (.bl (!d.isNon))
  | _ => bad
theorem os_is : OpS Z W (fun x y H Q => y = .non ∧ Q (.bl (decide (x = .non))) H) opIs := fun F G O ρ ts σ H Q dx dy x y k l hZ R hx hy P => by
  unfold opIs at P
  split at P
  · rw [repO_isNon hx]
    exact ⟨repO_non hy, P.val R (by simp only [Rep])⟩
  · exact P.elim
theorem os_isnot : OpS Z W (fun x y H Q => y = .non ∧ Q (.bl (!decide (x = .non))) H) opIsNot := fun F G O ρ ts σ H Q dx dy x y k l hZ R hx hy P => by
  unfold opIsNot at P
  split at P
  · rw [repO_isNon hx]
    exact ⟨repO_non hy, P.val R (by simp only [Rep])⟩
  · exact P.elim
end
end Wv

set_option Elab.async false
set_option linter.all false
set_option autoImplicit false
set_option maxRecDepth 100000
/-! WvF: truth, tests, displays, items, slices. -/
namespace Wv
open PySem PySem.Spec PyProof.Rows L2

/-! ### one operand -/
def eUn (op : PV → M PV) (f : M PV) : M PV := M.bind f op
abbrev R1 := V → Hp → VK → Prop
def UnS (Z : Zt) (W : WX) (r : R1) (op : PV → M PV) : Prop :=
  ∀ F G O ρ ts σ H Q dx x k, F.Z = Z → Rel F G O ρ ts σ H → RepO F G O H k dx x → PostE W F ts σ Q (op dx ρ) → r x H Q
section
variable {X : Cx} {io : List Nat} {W : WX} {a b c : Expr} {rest : List Expr} {f g h : M PV} {pos : Pos}
theorem t_un {r : R1} {op : PV → M PV} (hs : UnS (X.zt io) W r op) : ∀ σ H Q, T (X.zt io) W (eUn op f) σ H Q → tUn r (T (X.zt io) W f) σ H Q := by
  rintro σ H Q ⟨F, G, O, ρ, ts, hZ, R, P⟩
  have P1 := PostE.bind (W := W) (F := F) (ts := ts) (σ := σ) (ρ := ρ) [] P
  simp only [List.append_nil] at P1
  refine ⟨F, G, O, ρ, ts, hZ, R, ?_⟩
  revert P1
  cases f ρ with
  | bad => exact fun z => z
  | exc C fs ρ' => exact fun z => z
  | ok v ρ' =>
    intro P1 G' O' H' x R'
    obtain ⟨G1, O1, ρ1, v1, R1, P2⟩ := P1 G' O' H' x R'
    exact hs F G1 O1 ρ1 ts σ H' Q v1 x _ hZ R1.pop R1.top P2
/-- the same, as one step for any rule of this form -/
theorem t_un' {r : R1} {op : PV → M PV} (hs : UnS (X.zt io) W r op) {σ : St} {H : Hp} {Q : VK} (h : T (X.zt io) W (eUn op f) σ H Q) : T (X.zt io) W f σ H fun x H1 => r x H1 Q := t_un hs σ H Q h

def opNeg : PV → M PV
  | .int i => M.ret (.int (-i))
  | _ => bad
theorem us_neg {Z : Zt} : UnS Z W (rU fun i => .int (-i)) opNeg := fun F G O ρ ts σ H Q dx x k hZ R hx P => by
  unfold opNeg at P
  split at P
  · exact ⟨_, repO_int hx, P.val R (by simp only [Rep])⟩
  · exact P.elim
theorem ej_neg (ha : EJ X io W a f) : EJ X io W (.UnaryOp .USub a pos) (eUn opNeg f) := PE.imp (pe_un un_neg ha) (t_un us_neg)

/-! ### truth -/
def PV.truth : PV → Option Bool
  | .non => some false
  | .bl b => some b
  | .int i => some (i != 0)
  | .str s => some ((s.length : Int) != 0)
  | .tup xs => some (!xs.isEmpty)
  | .lst _ xs => some (!xs.isEmpty)
  | _ => none
theorem isEmpty_len {α β : Type} {xs : List α} {ys : List β} (h : xs.length = ys.length) : xs.isEmpty = ys.isEmpty := by
  cases xs <;> cases ys <;> simp_all
theorem repO_truth {F : Fr} {G H : Hp} {O : Own} {n : Nat} {d : PV} {x : V} {b : Bool} (k : Sub G H) (h : RepO F G O H n d x) (e : d.truth = some b) : TruV F.Z.K x H b := by
  cases d with
  | non => obtain rfl := repO_non h; simp only [PV.truth, Option.some.injEq] at e; exact e.symm
  | bl c => obtain rfl := repO_bl h; simp only [PV.truth, Option.some.injEq] at e; exact e.symm
  | int i => obtain rfl := repO_int h; simp only [PV.truth, Option.some.injEq] at e; exact e.symm
  | str s =>
    obtain ⟨rfl, o⟩ := repO_str h
    simp only [PV.truth, Option.some.injEq] at e
    exact ⟨sOk_len o, e.symm⟩
  | tup xs =>
    obtain ⟨a, vs, rfl, q, r⟩ := repO_tup k h
    simp only [PV.truth, Option.some.injEq] at e
    exact .inr (.inl ⟨vs, q, by rw [← e, isEmpty_len r.length]⟩)
  | lst o xs =>
    obtain ⟨a, vs, rfl, q, r⟩ := repO_lst k h
    simp only [PV.truth, Option.some.injEq] at e
    exact .inl ⟨vs, q, by rw [← e, isEmpty_len r.length]⟩
  | dct o xs => cases e
  | obj o C xs => cases e
  | exc C xs => cases e
def opNot (v : PV) : M PV := match v.truth with
  | some b => M.ret (.bl (!b))
  | none => bad
theorem ej_not (ha : EJ X io W a f) : EJ X io W (.UnaryOp .Not a pos) (eUn opNot f) := by
  refine PE.imp (pe_notT ha) fun σ H Q => t_un (r := fun x H Q => ∃ k, TruV (X.zt io).K x H k ∧ Q (.bl (!k)) H) ?_ σ H Q
  intro F G O ρ ts σ H Q dx x k hZ R hx P
  unfold opNot at P
  cases e : dx.truth with
  | none => rw [e] at P; exact P.elim
  | some b =>
    rw [e] at P
    have t := repO_truth R.gh hx e
    rw [hZ] at t
    exact ⟨b, t, P.val R (by simp only [Rep])⟩
def eAnd (f g : M PV) : M PV := M.bind f fun v => match v.truth with
  | some true => g
  | some false => M.ret v
  | none => bad
def eOr (f g : M PV) : M PV := M.bind f fun v => match v.truth with
  | some true => M.ret v
  | some false => g
  | none => bad
theorem ej_one {op : BoolOp} (ha : EJ X io W a f) : EJ X io W (.BoolOp op [a] pos) f := pe_one ha
theorem T.bindK {F : Fr} {G : Hp} {O : Own} {ρ : Sl} {ts : List (PV × V)} {σ : St} {H : Hp} {Q : VK} {Q1 : VK} {k : PV → M PV} (hZ : F.Z = (X.zt io)) (R : Rel F G O ρ ts σ H) (P : PostE W F ts σ Q (M.bind f k ρ))
    (h : ∀ G1 O1 H1 ρ1 v x, Rel F G1 O1 ρ1 (ts ++ [(v, x)]) σ H1 → PostE W F ts σ Q (k v ρ1) → Q1 x H1) : T (X.zt io) W f σ H Q1 := by
  have P1 := PostE.bind (W := W) (F := F) (ts := ts) (σ := σ) (ρ := ρ) [] P
  simp only [List.append_nil] at P1
  refine ⟨F, G, O, ρ, ts, hZ, R, ?_⟩
  revert P1
  cases f ρ with
  | bad => exact fun z => z
  | exc C fs ρ' => exact fun z => z
  | ok v ρ' =>
    intro P1 G' O' H' x R'
    obtain ⟨G1, O1, ρ1, v1, R1, P2⟩ := P1 G' O' H' x R'
    exact h G1 O1 H' ρ1 v1 x R1 P2
theorem T.bindU {F : Fr} {G : Hp} {O : Own} {ρ : Sl} {ts us : List (PV × V)} {σ : St} {H : Hp} {Q : VK} {Q1 : VK} {k : PV → M PV} (hZ : F.Z = (X.zt io)) (R : Rel F G O ρ (ts ++ us) σ H) (P : PostE W F ts σ Q (M.bind f k ρ))
    (h : ∀ G1 O1 H1 ρ1 v x, Rel F G1 O1 ρ1 (ts ++ us ++ [(v, x)]) σ H1 → PostE W F ts σ Q (k v ρ1) → Q1 x H1) : T (X.zt io) W f σ H Q1 := by
  have P1 := PostE.bind (W := W) (F := F) (ts := ts) (σ := σ) (ρ := ρ) us P
  refine ⟨F, G, O, ρ, ts ++ us, hZ, R, ?_⟩
  revert P1
  cases f ρ with
  | bad => exact fun z => z
  | exc C fs ρ' => exact fun z => z
  | ok v ρ' =>
    intro P1 G' O' H' x R'
    obtain ⟨G1, O1, ρ1, v1, R1, P2⟩ := P1 G' O' H' x R'
    exact h G1 O1 H' ρ1 v1 x R1 P2
theorem ej_and (ha : EJ X io W a f) (hb : EJ X io W (.BoolOp .And (b :: rest) pos) g) : EJ X io W (.BoolOp .And (a :: b :: rest) pos) (eAnd f g) := by
  refine PE.imp (pe_andT ha hb) ?_
  rintro σ H Q ⟨F, G, O, ρ, ts, hZ, R, P⟩
  refine T.bindK hZ R P fun G1 O1 H1 ρ1 v x R1 P1 => ?_
  cases e : v.truth with
  | none => rw [e] at P1; exact P1.elim
  | some k =>
    rw [e] at P1
    have t := repO_truth R1.gh R1.top e
    rw [hZ] at t
    refine ⟨k, t, ?_⟩
    cases k with
    | true => exact ⟨F, G1, O1, ρ1, ts, hZ, R1.pop, P1⟩
    | false => exact P1 _ _ _ _ R1
theorem ej_or (ha : EJ X io W a f) (hb : EJ X io W (.BoolOp .Or (b :: rest) pos) g) : EJ X io W (.BoolOp .Or (a :: b :: rest) pos) (eOr f g) := by
  refine PE.imp (pe_orT ha hb) ?_
  rintro σ H Q ⟨F, G, O, ρ, ts, hZ, R, P⟩
  refine T.bindK hZ R P fun G1 O1 H1 ρ1 v x R1 P1 => ?_
  cases e : v.truth with
  | none => rw [e] at P1; exact P1.elim
  | some k =>
    rw [e] at P1
    have t := repO_truth R1.gh R1.top e
    rw [hZ] at t
    refine ⟨k, t, ?_⟩
    cases k with
    | true => exact P1 _ _ _ _ R1
    | false => exact ⟨F, G1, O1, ρ1, ts, hZ, R1.pop, P1⟩

/-! ### tests -/
def BW (X : Cx) (io : List Nat) (W : WX) (e : Expr) (f : M Bool) : Prop := PW X e (TB (X.zt io) W f)
def bT (f : M PV) : M Bool := M.bind f fun v => ofO v.truth
def PV.bool : PV → Option Bool
  | .bl b => some b
  | _ => none
def bV (f : M PV) : M Bool := M.bind f fun v => ofO v.bool
theorem BT.bindK {F : Fr} {G : Hp} {O : Own} {ρ : Sl} {ts : List (PV × V)} {σ : St} {H : Hp} {Q : Bool → Hp → Prop} {Q1 : VK} {k : PV → M Bool} (hZ : F.Z = (X.zt io)) (R : Rel F G O ρ ts σ H) (P : PostB W F ts σ Q (M.bind f k ρ))
    (h : ∀ G1 O1 H1 ρ1 v x, Rel F G1 O1 ρ1 (ts ++ [(v, x)]) σ H1 → PostB W F ts σ Q (k v ρ1) → Q1 x H1) : T (X.zt io) W f σ H Q1 := by
  have P1 := PostB.bind (W := W) (F := F) (ts := ts) (σ := σ) (ρ := ρ) [] P
  simp only [List.append_nil] at P1
  refine ⟨F, G, O, ρ, ts, hZ, R, ?_⟩
  revert P1
  cases f ρ with
  | bad => exact fun z => z
  | exc C fs ρ' => exact fun z => z
  | ok v ρ' =>
    intro P1 G' O' H' x R'
    obtain ⟨G1, O1, ρ1, v1, R1, P2⟩ := P1 G' O' H' x R'
    exact h G1 O1 H' ρ1 v1 x R1 P2
theorem bj_truth (ha : EJ X io W a f) (he : ∀ whole, isTrue a X.env whole = (do let v ← whole; standAt a.pos; holding [v] (truthy v)) := by intro _; rfl) : BJ X io W a (bT f) := by
  refine PT.imp (pt_truth ha he) ?_
  rintro σ H Q ⟨F, G, O, ρ, ts, hZ, R, P⟩
  refine BT.bindK hZ R P fun G1 O1 H1 ρ1 v x R1 P1 => ?_
  cases e : v.truth with
  | none => rw [e] at P1; exact P1.elim
  | some k =>
    rw [e] at P1
    have t := repO_truth R1.gh R1.top e
    rw [hZ] at t
    exact ⟨k, t, P1 _ _ _ R1.pop⟩
theorem t_boolV {σ : St} {H : Hp} {Q : Bool → Hp → Prop} (h : TB (X.zt io) W (bV f) σ H Q) : T (X.zt io) W f σ H fun z H' => ∃ k, z = .bl k ∧ Q k H' := by
  obtain ⟨F, G, O, ρ, ts, hZ, R, P⟩ := h
  refine BT.bindK hZ R P fun G1 O1 H1 ρ1 v x R1 P1 => ?_
  cases v with
  | bl b =>
    obtain rfl := repO_bl R1.top
    exact ⟨b, rfl, P1 _ _ _ R1.pop⟩
  | _ => exact P1.elim
theorem bj_cmp {o : CmpOp} {r : R2} {op : PV → PV → M PV} (ho : OpR X (compareOp o) r) (hs : OpS (X.zt io) W r op) (ha : EJ X io W a f) (hb : EJ X io W b g) (hm : behindInMarks o b = false := by first | exact nomark _ | rfl) :
    BJ X io W (.Compare a [o] [b] pos) (bV (eBin op f g)) :=
  PT.imp (pt_cmpR ho ha hb hm) fun σ H Q h => t_op hs σ H _ (t_boolV h)
def bAnd (p q : M Bool) : M Bool := M.bind p fun b => match b with
  | true => q
  | false => M.ret false
def bOr (p q : M Bool) : M Bool := M.bind p fun b => match b with
  | true => M.ret true
  | false => q
def bNot (p : M Bool) : M Bool := M.bind p fun b => M.ret (!b)
theorem BB.bindK {F : Fr} {G : Hp} {O : Own} {ρ : Sl} {ts : List (PV × V)} {σ : St} {H : Hp} {Q Q1 : Bool → Hp → Prop} {p : M Bool} {k : Bool → M Bool} (hZ : F.Z = (X.zt io)) (R : Rel F G O ρ ts σ H) (P : PostB W F ts σ Q (M.bind p k ρ))
    (h : ∀ G1 O1 H1 ρ1 b, Rel F G1 O1 ρ1 ts σ H1 → PostB W F ts σ Q (k b ρ1) → Q1 b H1) : TB (X.zt io) W p σ H Q1 := by
  have P1 := PostB.bindB (W := W) (F := F) (ts := ts) (σ := σ) (ρ := ρ) P
  refine ⟨F, G, O, ρ, ts, hZ, R, ?_⟩
  revert P1
  cases p ρ with
  | bad => exact fun z => z
  | exc C fs ρ' => exact fun z => z
  | ok v ρ' =>
    intro P1 G' O' H' R'
    obtain ⟨G1, O1, ρ1, R1, P2⟩ := P1 G' O' H' R'
    exact h G1 O1 H' ρ1 v R1 P2
theorem PW.imp {e : Expr} {t t' : TT} (h : PW X e t) (k : ∀ σ H Q, t' σ H Q → t σ H Q) : PW X e t' := ⟨fun w pins s σ H Q I hw => h.run w pins s σ H Q I (k σ H Q hw)⟩
variable {p q : M Bool}
theorem bw_and1 (ha : BJ X io W a p) : BW X io W (.BoolOp .And [a] pos) p := pw_and1 ha
theorem bw_or1 (ha : BJ X io W a p) : BW X io W (.BoolOp .Or [a] pos) p := pw_or1 ha
theorem bw_and (ha : BJ X io W a p) (hb : BW X io W (.BoolOp .And (b :: rest) pos) q) : BW X io W (.BoolOp .And (a :: b :: rest) pos) (bAnd p q) := by
  refine PW.imp (pw_and ha hb) ?_
  rintro σ H Q ⟨F, G, O, ρ, ts, hZ, R, P⟩
  refine BB.bindK hZ R P fun G1 O1 H1 ρ1 b R1 P1 => ?_
  cases b with
  | true => exact ⟨F, G1, O1, ρ1, ts, hZ, R1, P1⟩
  | false => exact P1 _ _ _ R1
theorem bw_or (ha : BJ X io W a p) (hb : BW X io W (.BoolOp .Or (b :: rest) pos) q) : BW X io W (.BoolOp .Or (a :: b :: rest) pos) (bOr p q) := by
  refine PW.imp (pw_or ha hb) ?_
  rintro σ H Q ⟨F, G, O, ρ, ts, hZ, R, P⟩
  refine BB.bindK hZ R P fun G1 O1 H1 ρ1 b R1 P1 => ?_
  cases b with
  | true => exact P1 _ _ _ R1
  | false => exact ⟨F, G1, O1, ρ1, ts, hZ, R1, P1⟩
theorem bw_pt {e : Expr} (h : BW X io W e p) : BJ X io W e p := PW.pt h
theorem bj_not (ha : BJ X io W a p) : BJ X io W (.UnaryOp .Not a pos) (bNot p) := by
  refine PT.imp (pt_not ha) ?_
  rintro σ H Q ⟨F, G, O, ρ, ts, hZ, R, P⟩
  exact BB.bindK hZ R P fun G1 O1 H1 ρ1 b R1 P1 => P1 _ _ _ R1
def eIf (p : M Bool) (f g : M PV) : M PV := M.bind p fun b => match b with
  | true => f
  | false => g
theorem TB.bindE {F : Fr} {G : Hp} {O : Own} {ρ : Sl} {ts : List (PV × V)} {σ : St} {H : Hp} {Q : VK} {Q1 : Bool → Hp → Prop} {k : Bool → M PV} (hZ : F.Z = (X.zt io)) (R : Rel F G O ρ ts σ H) (P : PostE W F ts σ Q (M.bind p k ρ))
    (h : ∀ G1 O1 H1 ρ1 b, Rel F G1 O1 ρ1 ts σ H1 → PostE W F ts σ Q (k b ρ1) → Q1 b H1) : TB (X.zt io) W p σ H Q1 := by
  have P1 := PostE.bindB (W := W) (F := F) (ts := ts) (σ := σ) (ρ := ρ) [] P
  simp only [List.append_nil] at P1
  refine ⟨F, G, O, ρ, ts, hZ, R, ?_⟩
  revert P1
  cases p ρ with
  | bad => exact fun z => z
  | exc C fs ρ' => exact fun z => z
  | ok v ρ' =>
    intro P1 G' O' H' R'
    obtain ⟨G1, O1, ρ1, R1, P2⟩ := P1 G' O' H' R'
    exact h G1 O1 H' ρ1 v R1 P2
theorem ej_if (hc : BJ X io W c p) (ha : EJ X io W a f) (hb : EJ X io W b g) : EJ X io W (.IfExp c a b pos) (eIf p f g) := by
  refine PE.imp (pe_ifExp hc ha hb) ?_
  rintro σ H Q ⟨F, G, O, ρ, ts, hZ, R, P⟩
  refine TB.bindE hZ R P fun G1 O1 H1 ρ1 b R1 P1 => ?_
  cases b with
  | true => exact ⟨F, G1, O1, ρ1, ts, hZ, R1, P1⟩
  | false => exact ⟨F, G1, O1, ρ1, ts, hZ, R1, P1⟩

/-! ### a chain of two comparisons -/
def eChn (op op' : PV → PV → M PV) (f g h : M PV) : M PV := M.bind f fun x => M.bind g fun y => M.bind (op x y) fun z => match z with
  | .bl true => M.bind h fun w => op' y w
  | .bl false => M.ret (.bl false)
  | _ => bad

theorem t_chn {r r' : R2} {op op' : PV → PV → M PV} (hs : OpS (X.zt io) W r op) (hs' : OpS (X.zt io) W r' op') {σ : St} {H : Hp} {Q : VK} (P0 : T (X.zt io) W (eChn op op' f g h) σ H Q) : tChain r r' (T (X.zt io) W f) (T (X.zt io) W g) (T (X.zt io) W h) σ H Q := by
  obtain ⟨F, G, O, ρ, ts, hZ, R, P⟩ := P0
  refine T.bindK hZ R P fun G1 O1 H1 ρ1 dx x R1 P1 => T.bindU (us := [(dx, x)]) hZ R1 P1 fun G2 O2 H2 ρ2 dy y R2 P2 => ?_
  have hx := R2.snd.1
  have hy := R2.snd.2
  have e : ts ++ [(dx, x)] ++ [(dy, y)] = ts ++ [(dx, x), (dy, y)] := by simp
  rw [e] at R2
  have P3 := PostE.bind (W := W) (F := F) (ts := ts) (σ := σ) (ρ := ρ2) [(dx, x), (dy, y)] P2
  have key : PostE W F (ts ++ [(dx, x), (dy, y)]) σ (fun z H3 => ∃ k, z = V.bl k ∧ (if k = true then T (X.zt io) W h σ H3 fun w' H4 => r' y w' H4 Q else Q (.bl false) H3)) (op dx dy ρ2) := by
    revert P3
    cases op dx dy ρ2 with
    | bad => exact fun z => z
    | exc C fs ρ' => exact fun z => z
    | ok v ρ3 =>
      intro P3 G' O' H' z R3
      obtain ⟨G4, O4, ρ4, v4, R4, P4⟩ := P3 G' O' H' z R3
      cases v4 with
      | bl b =>
        obtain rfl := repO_bl R4.top
        cases b with
        | true =>
          refine ⟨true, rfl, ?_⟩
          rw [if_pos rfl]
          have hy4 : RepO F G4 O4 H' (ρ4.length + (ts.length + 1)) dy y := by
            have := R4.tp (ts.length + 1) (dy, y) (by rw [List.append_assoc]; simp)
            simpa using this
          have R5 : Rel F G4 O4 ρ4 (ts ++ [(dx, x), (dy, y)]) σ H' := R4.pop
          refine T.bindU (us := [(dx, x), (dy, y)]) hZ R5 P4 fun G6 O6 H6 ρ6 dw w6 R6 P6 => ?_
          have hy6 : RepO F G6 O6 H6 (ρ6.length + (ts.length + 1)) dy y := by
            have := R6.tp (ts.length + 1) (dy, y) (by rw [List.append_assoc]; simp)
            simpa using this
          exact hs' F G6 O6 ρ6 ts σ H6 Q dy dw y w6 _ _ hZ R6.pop.drop hy6 R6.top P6
        | false =>
          refine ⟨false, rfl, ?_⟩
          rw [if_neg Bool.false_ne_true]
          exact P4.val R4.pop.drop (by simp only [Rep])
      | _ => exact P4.elim
  exact hs F G2 O2 ρ2 (ts ++ [(dx, x), (dy, y)]) σ H2 _ dx dy x y _ _ hZ R2 hx hy key
theorem ej_chn {o o' : CmpOp} {r r' : R2} {op op' : PV → PV → M PV} (ho : OpR X (compareOp o) r) (hs : OpS (X.zt io) W r op) (ho' : OpR X (compareOp o') r') (hs' : OpS (X.zt io) W r' op') (ha : EJ X io W a f) (hb : EJ X io W b g) (hc : EJ X io W c h)
    (hm : lastMarks [o, o'] [b, c] = false := by with_unfolding_all rfl) : EJ X io W (.Compare a [o, o'] [b, c] pos) (eChn op op' f g h) :=
  PE.imp (pe_chain ho ho' ha hb hc hm) fun σ H Q q => t_chn hs hs' q
theorem bj_chn {o o' : CmpOp} {r r' : R2} {op op' : PV → PV → M PV} (ho : OpR X (compareOp o) r) (hs : OpS (X.zt io) W r op) (ho' : OpR X (compareOp o') r') (hs' : OpS (X.zt io) W r' op') (ha : EJ X io W a f) (hb : EJ X io W b g) (hc : EJ X io W c h)
    (hm : lastMarks [o, o'] [b, c] = false := by with_unfolding_all rfl) : BJ X io W (.Compare a [o, o'] [b, c] pos) (bV (eChn op op' f g h)) :=
  PT.imp (pt_chain ho ho' ha hb hc hm) fun σ H Q q => t_chn hs hs' (t_boolV q)

/-! ### argument lists, displays -/
def frzM (v : PV) : M PV := if v.calm then M.ret v.frz else bad
def aNil : M (List PV) := M.ret []
def aCons (f : M PV) (g : M (List PV)) : M (List PV) := M.bind f fun x => M.bind (frzM x) fun y => M.bind g fun ys => M.ret (y :: ys)
theorem aj_nil : AJ X io W [] aNil := PA.imp pa_nil fun σ H Q ⟨F, G, O, ρ, ts, hZ, R, P⟩ => P G O H [] (by simp only [Reps]) (by simpa using R)
theorem AT.bindK {F : Fr} {G : Hp} {O : Own} {ρ : Sl} {ts us : List (PV × V)} {σ : St} {H : Hp} {Q : List V → Hp → Prop} {Q1 : VK} {k : PV → M (List PV)} (hZ : F.Z = (X.zt io)) (R : Rel F G O ρ (ts ++ us) σ H) (P : PostA W F ts σ Q (M.bind f k ρ))
    (h : ∀ G1 O1 H1 ρ1 v x, Rel F G1 O1 ρ1 (ts ++ us ++ [(v, x)]) σ H1 → PostA W F ts σ Q (k v ρ1) → Q1 x H1) : T (X.zt io) W f σ H Q1 := by
  have P1 := PostA.bind (W := W) (F := F) (ts := ts) (σ := σ) (ρ := ρ) us P
  refine ⟨F, G, O, ρ, ts ++ us, hZ, R, ?_⟩
  revert P1
  cases f ρ with
  | bad => exact fun z => z
  | exc C fs ρ' => exact fun z => z
  | ok v ρ' =>
    intro P1 G' O' H' x R'
    obtain ⟨G1, O1, ρ1, v1, R1, P2⟩ := P1 G' O' H' x R'
    exact h G1 O1 H' ρ1 v1 x R1 P2
theorem AA.bindU {F : Fr} {G : Hp} {O : Own} {ρ : Sl} {ts us : List (PV × V)} {σ : St} {H : Hp} {Q Q1 : List V → Hp → Prop} {g : M (List PV)} {k : List PV → M (List PV)} (hZ : F.Z = (X.zt io)) (R : Rel F G O ρ (ts ++ us) σ H) (P : PostA W F ts σ Q (M.bind g k ρ))
    (h : ∀ G1 O1 H1 ρ1 vs xs, Reps F.Z G1 vs xs → Rel F G1 O1 ρ1 (ts ++ us ++ vs.zip xs) σ H1 → PostA W F ts σ Q (k vs ρ1) → Q1 xs H1) : TAr (X.zt io) W g σ H Q1 := by
  have P1 := PostA.bindA (W := W) (F := F) (ts := ts) (σ := σ) (ρ := ρ) us P
  refine ⟨F, G, O, ρ, ts ++ us, hZ, R, ?_⟩
  revert P1
  cases g ρ with
  | bad => exact fun z => z
  | exc C fs ρ' => exact fun z => z
  | ok v ρ' =>
    intro P1 G' O' H' xs r R'
    obtain ⟨G1, O1, ρ1, v1, r1, R1, P2⟩ := P1 G' O' H' xs r R'
    exact h G1 O1 H' ρ1 v1 xs r1 R1 P2
theorem ET.bindA {F : Fr} {G : Hp} {O : Own} {ρ : Sl} {ts us : List (PV × V)} {σ : St} {H : Hp} {Q : VK} {Q1 : List V → Hp → Prop} {g : M (List PV)} {k : List PV → M PV} (hZ : F.Z = (X.zt io)) (R : Rel F G O ρ (ts ++ us) σ H) (P : PostE W F ts σ Q (M.bind g k ρ))
    (h : ∀ G1 O1 H1 ρ1 vs xs, Reps F.Z G1 vs xs → Rel F G1 O1 ρ1 (ts ++ us ++ vs.zip xs) σ H1 → PostE W F ts σ Q (k vs ρ1) → Q1 xs H1) : TAr (X.zt io) W g σ H Q1 := by
  have P1 := PostE.bindA (W := W) (F := F) (ts := ts) (σ := σ) (ρ := ρ) us P
  refine ⟨F, G, O, ρ, ts ++ us, hZ, R, ?_⟩
  revert P1
  cases g ρ with
  | bad => exact fun z => z
  | exc C fs ρ' => exact fun z => z
  | ok v ρ' =>
    intro P1 G' O' H' xs r R'
    obtain ⟨G1, O1, ρ1, v1, r1, R1, P2⟩ := P1 G' O' H' xs r R'
    exact h G1 O1 H' ρ1 v1 xs r1 R1 P2
theorem repO_frz {F : Fr} {G H : Hp} {O : Own} {n : Nat} {v : PV} {x : V} (c : v.calm = true) (q3 : RepO F G O H n v.frz x) : Rep F.Z G v.frz x := by
  cases v with
  | lst o xs => cases o <;> exact q3
  | dct o xs => cases o <;> exact q3
  | obj o C xs => cases o <;> exact q3
  | exc C xs => cases c
  | non => exact q3
  | bl b => exact q3
  | int i => exact q3
  | str s => exact q3
  | tup xs => exact q3
theorem aj_cons {es : List Expr} {g : M (List PV)} (ha : EJ X io W a f) (hr : AJ X io W es g) (hs : starEach (a :: es) X.env = (false, eval a X.env) :: starEach es X.env := by rfl) : AJ X io W (a :: es) (aCons f g) := by
  refine PA.imp (pa_cons ha hr hs) ?_
  rintro σ H Q ⟨F, G, O, ρ, ts, hZ, R, P⟩
  refine AT.bindK (us := []) hZ (by simpa using R) P fun G1 O1 H1 ρ1 v x R1 P1 => ?_
  by_cases c : v.calm = true
  · have e : frzM v ρ1 = .ok v.frz ρ1 := by unfold frzM; rw [if_pos c]; rfl
    rw [M.bind_ok e] at P1
    rw [List.append_nil] at R1
    obtain ⟨R2, q⟩ := R1.frzTop c
    refine AA.bindU (us := [(v.frz, x)]) hZ R2 P1 fun G3 O3 H3 ρ3 vs xs r3 R3 P3 => ?_
    have e3 : ts ++ [(v.frz, x)] ++ vs.zip xs = ts ++ (v.frz :: vs).zip (x :: xs) := by simp
    rw [e3] at R3
    refine P3 G3 O3 H3 (x :: xs) ?_ R3
    simp only [Reps]
    have q3 : RepO F G3 O3 H3 (ρ3.length + ts.length) v.frz x := by
      have := R3.tp ts.length (v.frz, x) (by simp)
      exact this
    exact ⟨x, xs, rfl, repO_frz c q3, r3⟩
  · have e : frzM v ρ1 = .bad := by unfold frzM; rw [if_neg c]; rfl
    unfold M.bind at P1
    rw [e] at P1
    exact P1.elim
def lenOk (n : Nat) : Bool := decide (n ≤ 16777216)
theorem lenOk_le {n : Nat} (h : lenOk n = true) : n ≤ sizeLine := by rw [sizeLine_eq]; exact of_decide_eq_true h
def eTup (g : M (List PV)) : M PV := M.bind g fun xs => if lenOk xs.length then M.ret (.tup xs) else bad
def eLst (g : M (List PV)) : M PV := M.bind g fun xs => if lenOk xs.length then M.ret (.lst true xs) else bad
theorem ej_tup {es : List Expr} {x1} {g : M (List PV)} (h : AJ X io W es g) : EJ X io W (.Tuple es x1 pos) (eTup g) := by
  refine PE.imp (pe_tup h) ?_
  rintro σ H Q ⟨F, G, O, ρ, ts, hZ, R, P⟩
  refine ET.bindA (us := []) hZ (by simpa using R) P fun G1 O1 H1 ρ1 vs xs r R1 P1 => ?_
  rw [List.append_nil] at R1
  split at P1
  · exact ⟨by rw [← r.length]; exact lenOk_le (by assumption), fun p hp => P1.newTup R1.drop r hp⟩
  · exact P1.elim
theorem ej_lst {es : List Expr} {g : M (List PV)} (h : AJ X io W es g) : EJ X io W (.List es pos) (eLst g) := by
  refine PE.imp (pe_lst h) ?_
  rintro σ H Q ⟨F, G, O, ρ, ts, hZ, R, P⟩
  refine ET.bindA (us := []) hZ (by simpa using R) P fun G1 O1 H1 ρ1 vs xs r R1 P1 => ?_
  rw [List.append_nil] at R1
  split at P1
  · exact ⟨by rw [← r.length]; exact lenOk_le (by assumption), fun p hp => P1.newLst R1.drop r hp⟩
  · exact P1.elim
end
end Wv

set_option Elab.async false
set_option linter.all false
set_option autoImplicit false
set_option maxRecDepth 100000
/-! WvG: items, slices, membership, names that are only looked at. -/
namespace Wv
open PySem PySem.Spec PyProof.Rows L2

theorem reps_atI {Z : Zt} {G : Hp} {ds : List PV} {xs : List V} {i : Int} {d : PV} (h : Reps Z G ds xs) (e : atI ds i = some d) : ∃ x, atI xs i = some x ∧ Rep Z G d x := by
  unfold atI at e ⊢
  rw [← h.length]
  cases q : ixN ds.length i with
  | none => rw [q] at e; cases e
  | some j =>
    rw [q] at e
    exact h.get (i := j) e
theorem sOk_chr {s : Str} {i : Int} {c : Nat} (h : sOk s = true) (e : atI s.cps.toList i = some c) : sOk ⟨#[c]⟩ = true := by
  have hc : c ∈ s.cps.toList := by
    unfold atI at e
    cases q : ixN s.cps.toList.length i with
    | none => rw [q] at e; cases e
    | some j => rw [q] at e; exact List.mem_of_getElem? e
  have h1 : (s.cps.all fun c => decide (c < 0x110000)) = true := (Bool.and_eq_true_iff.mp h).1
  have h2 : c < 0x110000 := by
    rw [Array.all_eq_true] at h1
    obtain ⟨n, hn, e2⟩ := List.mem_iff_getElem.mp hc
    have := h1 n (by simpa using hn)
    simp only [decide_eq_true_eq] at this
    simpa [← e2] using this
  refine sOk_of ?_ ?_
  · show ((#[c] : Array Nat).all fun c => decide (c < 0x110000)) = true
    simp [h2]
  · rw [sizeLine_eq]
    exact (by decide : (1 : Nat) ≤ 16777216)
def opIdx : PV → PV → M PV
  | .lst _ xs, .int i => ofO (atI xs i)
  | .tup xs, .int i => ofO (atI xs i)
  | .str s, .int i => match atI s.cps.toList i with
    | some c => M.ret (.str ⟨#[c]⟩)
    | none => bad
  | _, _ => bad
section
variable {X : Cx} {io : List Nat} {W : WX} {a b : Expr} {f g : M PV} {pos : Pos}
theorem os_idx {Z : Zt} : OpS Z W (rIx Z.K) opIdx := fun F G O ρ ts σ H Q dx dy x y k l hZ R hx hy P => by
  unfold opIdx at P
  split at P
  · rename_i o xs i
    obtain ⟨p, vs, e, q, r⟩ := repO_lst R.gh hx
    cases z : atI xs i with
    | none => rw [z] at P; exact P.elim
    | some d =>
      rw [z] at P
      obtain ⟨v, hv, rv⟩ := reps_atI r z
      rw [hZ] at q
      exact .inl ⟨p, vs, i, v, e, repO_int hy, q, hv, P.val R rv⟩
  · rename_i xs i
    obtain ⟨p, vs, e, q, r⟩ := repO_tup R.gh hx
    rw [hZ] at q
    cases z : atI xs i with
    | none => rw [z] at P; exact P.elim
    | some d =>
      rw [z] at P
      obtain ⟨v, hv, rv⟩ := reps_atI r z
      exact .inr (.inl ⟨p, vs, i, v, e, repO_int hy, q, hv, P.val R rv⟩)
  · rename_i s i
    obtain ⟨e, o⟩ := repO_str hx
    cases z : atI s.cps.toList i with
    | none => rw [z] at P; exact P.elim
    | some c =>
      rw [z] at P
      exact .inr (.inr ⟨s, i, c, e, repO_int hy, sOk_len o, z, P.val R (by simp only [Rep, true_and]; exact sOk_chr o z)⟩)
  · exact P.elim
theorem ej_idx (ha : EJ X io W a f) (hb : EJ X io W b g) (hs : PlainIx b := by exact fun _ _ => rfl) : EJ X io W (.Subscript a b pos) (eBin opIdx f g) :=
  PE.imp (pe_ix ix_seq ha hb hs) (t_op os_idx)

/-! ### slices -/
def cutL {α : Type} (xs : List α) (lo hi : Option Int) : List α := (xs.drop (HT.sIx xs.length 0 lo)).take (HT.sIx xs.length xs.length hi - HT.sIx xs.length 0 lo)
theorem cutV_eq (xs : List V) (lo hi : Option Int) : cutV xs lo hi = cutL xs lo hi := rfl
theorem Reps.cut {Z : Zt} {G : Hp} {ds : List PV} {xs : List V} (h : Reps Z G ds xs) (lo hi : Option Int) : Reps Z G (cutL ds lo hi) (cutV xs lo hi) := by
  unfold cutL cutV
  rw [← h.length]
  exact (h.drop _).take _
theorem sOk_cut {s : Str} (h : sOk s = true) (lo hi : Option Int) : sOk (cutS s lo hi) = true := by
  have h1 : (s.cps.all fun c => decide (c < 0x110000)) = true := (Bool.and_eq_true_iff.mp h).1
  have sub : ∀ c ∈ (cutS s lo hi).cps.toList, c ∈ s.cps.toList := fun c hc => by
    unfold cutS at hc
    simp only at hc
    exact List.mem_of_mem_drop (List.mem_of_mem_take hc)
  refine sOk_of ?_ ?_
  · show ((cutS s lo hi).cps.all fun c => decide (c < 0x110000)) = true
    rw [← Array.all_toList, List.all_eq_true]
    rw [← Array.all_toList, List.all_eq_true] at h1
    exact fun c hc => h1 c (sub c hc)
  · refine Nat.le_trans ?_ (sOk_len h)
    show (cutS s lo hi).cps.size ≤ s.cps.size
    unfold cutS
    simp only [List.size_toArray, List.length_take, List.length_drop, Array.length_toList]
    omega
def opSlc : PV → Option Int → Option Int → M PV
  | .lst _ xs, lo, hi => M.ret (.lst true (cutL xs lo hi))
  | .tup xs, lo, hi => M.ret (.tup (cutL xs lo hi))
  | .str s, lo, hi => M.ret (.str (cutS s lo hi))
  | _, _, _ => bad
abbrev rSlAll (K : PySem.W.Frag) : V → Option Int → Option Int → Hp → VK → Prop := fun x lo hi H Q => rSlL K x lo hi H Q ∨ (rSlA K x lo hi H Q ∨ rSlS x lo hi H Q)
theorem sl_all : SlR X (rSlAll X.K) := SlR.or sl_list (SlR.or sl_tupA sl_str)
theorem cut_whole {xs : List PV} {lo hi : Option Int} (h : HT.sIx xs.length 0 lo = 0 ∧ HT.sIx xs.length xs.length hi = xs.length) : cutL xs lo hi = xs := by
  unfold cutL
  rw [h.1, h.2]
  simp
theorem slS {Z : Zt} {F : Fr} {G : Hp} {O : Own} {ρ : Sl} {ts : List (PV × V)} {σ : St} {H : Hp} {Q : VK} {d : PV} {x : V} {k : Nat} {lo hi : Option Int} (hZ : F.Z = Z) (R : Rel F G O ρ ts σ H) (hx : RepO F G O H k d x) (P : PostE W F ts σ Q (opSlc d lo hi ρ)) : rSlAll Z.K x lo hi H Q := by
  unfold opSlc at P
  split at P
  · obtain ⟨p, vs, e, q, r⟩ := repO_lst R.gh hx
    rw [hZ] at q
    exact .inl ⟨p, vs, e, q, fun a ha => P.newLst R (r.cut _ _) ha⟩
  · rename_i xs
    obtain ⟨p, vs, e, q, r⟩ := repO_tup R.gh hx
    rw [hZ] at q
    refine .inr (.inl ⟨p, vs, e, q, fun z => ?_, fun _ a ha => P.newTup R (r.cut _ _) ha⟩)
    rw [← r.length] at z
    rw [cut_whole z] at P
    rw [← e]
    exact P _ _ _ _ (R.push (RepO.free hx rfl))
  · obtain ⟨e, o⟩ := repO_str hx
    exact .inr (.inr ⟨_, e, sOk_len o, P.val R (by simp only [Rep, true_and]; exact sOk_cut o _ _)⟩)
  · exact P.elim
/-- a slice's bound -/
def PV.toI : PV → Option Int
  | .int i => some i
  | _ => none
def eSl0 (f : M PV) : M PV := M.bind f fun x => opSlc x none none
def eSlL (f g : M PV) : M PV := M.bind f fun x => M.bind g fun y => M.bind (ofO y.toI) fun i => opSlc x (some i) none
def eSlH (f g : M PV) : M PV := M.bind f fun x => M.bind g fun y => M.bind (ofO y.toI) fun i => opSlc x none (some i)
def eSlB (f g h : M PV) : M PV := M.bind f fun x => M.bind g fun y => M.bind (ofO y.toI) fun i => M.bind h fun z => M.bind (ofO z.toI) fun j => opSlc x (some i) (some j)
theorem toI_of {F : Fr} {G : Hp} {O : Own} {H : Hp} {n : Nat} {d : PV} {x : V} {ts : List (PV × V)} {σ : St} {Q : VK} {ρ : Sl} {k : Int → M PV} (r : RepO F G O H n d x) (P : PostE W F ts σ Q (M.bind (ofO d.toI) k ρ)) : ∃ i, x = .int i ∧ d = .int i ∧ PostE W F ts σ Q (k i ρ) := by
  cases d with
  | int i => exact ⟨i, repO_int r, rfl, P⟩
  | _ => exact P.elim
theorem ej_sl0 (ha : EJ X io W a f) {p2 : Pos} : EJ X io W (.Subscript a (.Slice none none none p2) pos) (eSl0 f) := by
  refine PE.imp (pe_slice sl_all ha po_none po_none) ?_
  rintro σ H Q ⟨F, G, O, ρ, ts, hZ, R, P⟩
  exact T.bindK hZ R P fun G1 O1 H1 ρ1 v x R1 P1 => slS hZ R1.pop R1.top P1
theorem ej_slL (ha : EJ X io W a f) (hb : EJ X io W b g) {p2 : Pos} : EJ X io W (.Subscript a (.Slice (some b) none none p2) pos) (eSlL f g) := by
  refine PE.imp (pe_slice sl_all ha (po_some hb) po_none) ?_
  rintro σ H Q ⟨F, G, O, ρ, ts, hZ, R, P⟩
  refine T.bindK hZ R P fun G1 O1 H1 ρ1 v x R1 P1 => T.bindU (us := [(v, x)]) hZ R1 P1 fun G2 O2 H2 ρ2 w y R2 P2 => ?_
  obtain ⟨i, rfl, rfl, P3⟩ := toI_of R2.top P2
  exact ⟨i, rfl, slS hZ R2.pop2 R2.snd.1 P3⟩
theorem ej_slH (ha : EJ X io W a f) (hb : EJ X io W b g) {p2 : Pos} : EJ X io W (.Subscript a (.Slice none (some b) none p2) pos) (eSlH f g) := by
  refine PE.imp (pe_slice sl_all ha po_none (po_some hb)) ?_
  rintro σ H Q ⟨F, G, O, ρ, ts, hZ, R, P⟩
  refine T.bindK hZ R P fun G1 O1 H1 ρ1 v x R1 P1 => T.bindU (us := [(v, x)]) hZ R1 P1 fun G2 O2 H2 ρ2 w y R2 P2 => ?_
  obtain ⟨i, rfl, rfl, P3⟩ := toI_of R2.top P2
  exact ⟨i, rfl, slS hZ R2.pop2 R2.snd.1 P3⟩
theorem ej_slB {c : Expr} {h : M PV} (ha : EJ X io W a f) (hb : EJ X io W b g) (hc : EJ X io W c h) {p2 : Pos} : EJ X io W (.Subscript a (.Slice (some b) (some c) none p2) pos) (eSlB f g h) := by
  refine PE.imp (pe_slice sl_all ha (po_some hb) (po_some hc)) ?_
  rintro σ H Q ⟨F, G, O, ρ, ts, hZ, R, P⟩
  refine T.bindK hZ R P fun G1 O1 H1 ρ1 v x R1 P1 => T.bindU (us := [(v, x)]) hZ R1 P1 fun G2 O2 H2 ρ2 w y R2 P2 => ?_
  obtain ⟨i, rfl, rfl, P3⟩ := toI_of R2.top P2
  refine ⟨i, rfl, T.bindU (us := [(v, x)]) hZ R2.pop P3 fun G4 O4 H4 ρ4 w4 y4 R4 P4 => ?_⟩
  obtain ⟨j, rfl, rfl, P5⟩ := toI_of R4.top P4
  exact ⟨j, rfl, slS hZ R4.pop2 R4.snd.1 P5⟩

/-! ### in, not in -/
def strIn (a b : Str) : Bool := match a.cps.toList with
  | [c] => decide (c ∈ b.cps.toList)
  | _ => !(Builtin.Str.occurrences b a 0 b.length 1).isEmpty
theorem strIn_eq (a b : Str) : strIn a b = !(Builtin.Str.occurrences b a 0 b.length 1).isEmpty := by
  unfold strIn
  split
  · rename_i c e
    have ea : a = ⟨#[c]⟩ := by
      obtain ⟨l⟩ := a
      have : l = #[c] := by
        apply Array.toList_inj.mp
        simpa using e
      rw [this]
    rw [ea]
    exact (PySem.StrLaws.found_one b c).symm
  · rfl
def inData (d : PV) (xs : List PV) : Option Bool := match d.data, PV.datas xs with
  | some p, some qs => if p.depth ≤ 60 then some (qs.any fun z => PyData.eqv z p) else none
  | _, _ => none
def opIn : PV → PV → M PV
  | .str a, .str b => M.ret (.bl (strIn a b))
  | d, .lst _ xs => M.bind (ofO (inData d xs)) fun b => M.ret (.bl b)
  | d, .tup xs => M.bind (ofO (inData d xs)) fun b => M.ret (.bl b)
  | _, _ => bad
def opNotIn : PV → PV → M PV
  | .str a, .str b => M.ret (.bl (!strIn a b))
  | d, .lst _ xs => M.bind (ofO (inData d xs)) fun b => M.ret (.bl (!b))
  | d, .tup xs => M.bind (ofO (inData d xs)) fun b => M.ret (.bl (!b))
  | _, _ => bad
/-- x in a list or a tuple of data -/
def rInA (K : PySem.W.Frag) (neg : Bool) : R2 := fun x y H Q => ∃ d ds, Dp K H x d ∧ (Dp K H y (.list ds) ∨ Dp K H y (.tuple ds)) ∧ d.canLay0 = true ∧ PyData.canLayAll0 ds = true ∧ d.depth ≤ 60 ∧ Q (.bl (if neg then !ds.any (fun z => PyData.eqv z d) else ds.any fun z => PyData.eqv z d)) H
theorem or_inA (hu : X.A.units + 65 < cLine) : OpR X (compareOp .In) (rInA X.K false) := by
  intro pins s σ H x y v u Q I rx ry h
  obtain ⟨d, ds, hd, he, sd, se, dd, q⟩ := h
  obtain ⟨as, r1⟩ := Dp.reads I d x v hd rx
  have hm : X.A.units + 1 + min (PyData.depthAll ds) d.depth < cLine := by
    have := Nat.min_le_right (PyData.depthAll ds) d.depth
    omega
  rcases he with he | he
  · obtain ⟨bs, r2⟩ := Dp.reads I (.list ds) y u he ry
    exact SeqAt.in_list_reads r2 r1 se sd hm ⟨.bl _, H, I, rfl, q⟩
  · obtain ⟨bs, r2⟩ := Dp.reads I (.tuple ds) y u he ry
    exact SeqAt.in_tuple_reads r2 r1 se sd hm ⟨.bl _, H, I, rfl, q⟩
theorem or_notInA (hu : X.A.units + 65 < cLine) : OpR X (compareOp .NotIn) (rInA X.K true) := by
  intro pins s σ H x y v u Q I rx ry h
  obtain ⟨d, ds, hd, he, sd, se, dd, q⟩ := h
  obtain ⟨as, r1⟩ := Dp.reads I d x v hd rx
  have hm : X.A.units + 1 + min (PyData.depthAll ds) d.depth < cLine := by
    have := Nat.min_le_right (PyData.depthAll ds) d.depth
    omega
  rcases he with he | he
  · obtain ⟨bs, r2⟩ := Dp.reads I (.list ds) y u he ry
    exact SeqAt.notIn_list_reads r2 r1 se sd hm ⟨.bl _, H, I, rfl, q⟩
  · obtain ⟨bs, r2⟩ := Dp.reads I (.tuple ds) y u he ry
    exact SeqAt.notIn_tuple_reads r2 r1 se sd hm ⟨.bl _, H, I, rfl, q⟩
abbrev rInS : R2 := fun x y H Q => ∃ i j, x = V.str i ∧ y = .str j ∧ Q (.bl (!(Builtin.Str.occurrences j i 0 j.length 1).isEmpty)) H
abbrev rNotInS : R2 := fun x y H Q => ∃ i j, x = V.str i ∧ y = .str j ∧ Q (.bl (!(!(Builtin.Str.occurrences j i 0 j.length 1).isEmpty))) H
theorem or_in (hu : X.A.units + 65 < cLine) : OpR X (compareOp .In) (fun x y H Q => rInS x y H Q ∨ rInA X.K false x y H Q) := OpR.or op_in_str (or_inA hu)
theorem or_notIn (hu : X.A.units + 65 < cLine) : OpR X (compareOp .NotIn) (fun x y H Q => rNotInS x y H Q ∨ rInA X.K true x y H Q) := OpR.or op_notin_str (or_notInA hu)
theorem inData_of {F : Fr} {G H : Hp} {O : Own} {k : Nat} {d : PV} {x : V} {xs : List PV} {vs : List V} {b : Bool} (s : Sub G H) (hx : RepO F G O H k d x) (r : Reps F.Z G xs vs) (e : inData d xs = some b) :
    ∃ p qs, Dp F.Z.K H x p ∧ DpAll F.Z.K H vs qs ∧ p.canLay0 = true ∧ PyData.canLayAll0 qs = true ∧ p.depth ≤ 60 ∧ b = qs.any fun z => PyData.eqv z p := by
  unfold inData at e
  cases e1 : d.data with
  | none => simp only [e1] at e; cases e
  | some p =>
    cases e2 : PV.datas xs with
    | none => simp only [e1, e2] at e; cases e
    | some qs =>
      simp only [e1, e2] at e
      split at e
      · rename_i hd
        cases e
        obtain ⟨a1, a2⟩ := repO_data s hx e1
        obtain ⟨b1, b2⟩ := reps_data s _ _ _ r e2
        exact ⟨p, qs, a1, b1, a2, b2, hd, rfl⟩
      · cases e
theorem os_in {Z : Zt} : OpS Z W (fun x y H Q => rInS x y H Q ∨ rInA Z.K false x y H Q) opIn := fun F G O ρ ts σ H Q dx dy x y k l hZ R hx hy P => by
  unfold opIn at P
  split at P
  · rw [strIn_eq] at P
    exact .inl ⟨_, _, (repO_str hx).1, (repO_str hy).1, P.val R (by simp only [Rep])⟩
  · rename_i o xs
    obtain ⟨a, vs, e, q, r⟩ := repO_lst R.gh hy
    cases z : inData dx xs with
    | none => rw [z] at P; exact P.elim
    | some b =>
      rw [z] at P
      obtain ⟨p, qs, d1, d2, c1, c2, dp, eb⟩ := inData_of R.gh hx r z
      rw [hZ] at d1 d2 q
      refine .inr ⟨p, qs, d1, .inl ?_, c1, c2, dp, ?_⟩
      · rw [e]; exact .lst q d2
      · rw [if_neg (by decide), ← eb]
        exact PostE.val R (v := .bl b) P (by simp only [Rep])
  · rename_i xs
    obtain ⟨a, vs, e, q, r⟩ := repO_tup R.gh hy
    cases z : inData dx xs with
    | none => rw [z] at P; exact P.elim
    | some b =>
      rw [z] at P
      obtain ⟨p, qs, d1, d2, c1, c2, dp, eb⟩ := inData_of R.gh hx r z
      rw [hZ] at d1 d2 q
      refine .inr ⟨p, qs, d1, .inr ?_, c1, c2, dp, ?_⟩
      · rw [e]; exact .tup q d2
      · rw [if_neg (by decide), ← eb]
        exact PostE.val R (v := .bl b) P (by simp only [Rep])
  · exact P.elim
theorem os_notIn {Z : Zt} : OpS Z W (fun x y H Q => rNotInS x y H Q ∨ rInA Z.K true x y H Q) opNotIn := fun F G O ρ ts σ H Q dx dy x y k l hZ R hx hy P => by
  unfold opNotIn at P
  split at P
  · rw [strIn_eq] at P
    exact .inl ⟨_, _, (repO_str hx).1, (repO_str hy).1, P.val R (by simp only [Rep])⟩
  · rename_i o xs
    obtain ⟨a, vs, e, q, r⟩ := repO_lst R.gh hy
    cases z : inData dx xs with
    | none => rw [z] at P; exact P.elim
    | some b =>
      rw [z] at P
      obtain ⟨p, qs, d1, d2, c1, c2, dp, eb⟩ := inData_of R.gh hx r z
      rw [hZ] at d1 d2 q
      refine .inr ⟨p, qs, d1, .inl ?_, c1, c2, dp, ?_⟩
      · rw [e]; exact .lst q d2
      · rw [if_pos rfl, ← eb]
        exact PostE.val R (v := .bl (!b)) P (by simp only [Rep])
  · rename_i xs
    obtain ⟨a, vs, e, q, r⟩ := repO_tup R.gh hy
    cases z : inData dx xs with
    | none => rw [z] at P; exact P.elim
    | some b =>
      rw [z] at P
      obtain ⟨p, qs, d1, d2, c1, c2, dp, eb⟩ := inData_of R.gh hx r z
      rw [hZ] at d1 d2 q
      refine .inr ⟨p, qs, d1, .inr ?_, c1, c2, dp, ?_⟩
      · rw [e]; exact .tup q d2
      · rw [if_pos rfl, ← eb]
        exact PostE.val R (v := .bl (!b)) P (by simp only [Rep])
  · exact P.elim
end
end Wv

set_option Elab.async false
set_option linter.all false
set_option autoImplicit false
set_option maxRecDepth 100000
/-! WvH: statements. -/
namespace Wv
open PySem PySem.Spec PyProof.Rows L2

def PostS (W : WX) (F : Fr) (ts : List (PV × V)) (D : Ends) : Out → Prop
  | .nx ρ' => ∀ G' O' σ' H', Rel F G' O' ρ' ts σ' H' → D.nx σ' H'
  | .rt v ρ' => ∀ G' O' σ' H' x, Rel F G' O' ρ' (ts ++ [(v, x)]) σ' H' → D.rt x H'
  | .bk ρ' => ∀ G' O' σ' H', Rel F G' O' ρ' ts σ' H' → D.bk σ' H'
  | .ct ρ' => ∀ G' O' σ' H', Rel F G' O' ρ' ts σ' H' → D.ct σ' H'
  | .exc C fs ρ' => ∀ σ', ExcQ F.Z W F ts σ' C fs ρ'
  | .bad => False
def TSt (Z : Zt) (W : WX) (f : SM) : TS := fun D σ H => ∃ F G O ρ ts, F.Z = Z ∧ Rel F G O ρ ts σ H ∧ PostS W F ts D (f ρ)
def SJ (X : Cx) (io : List Nat) (W : WX) (st : Stmt) (f : SM) : Prop := PS X st (TSt (X.zt io) W f)
def SSJ (X : Cx) (io : List Nat) (W : WX) (st : List Stmt) (f : SM) : Prop := PSs X st (TSt (X.zt io) W f)
theorem PS.imp {X : Cx} {e : Stmt} {t t' : TS} (h : PS X e t) (k : ∀ D σ H, t' D σ H → t D σ H) : PS X e t' := ⟨fun pins s σ H D I w => h.run pins s σ H D I (k D σ H w)⟩
theorem PSs.imp {X : Cx} {e : List Stmt} {t t' : TS} (h : PSs X e t) (k : ∀ D σ H, t' D σ H → t D σ H) : PSs X e t' := ⟨fun pins s σ H D I w => h.run pins s σ H D I (k D σ H w)⟩

/-- an expression, then what its value leads to -/
def sE {α : Type} (f : M α) (k : α → SM) : SM := fun ρ => match f ρ with
  | .ok v ρ' => k v ρ'
  | .exc C fs ρ' => .exc C fs ρ'
  | .bad => .bad
def sNil : SM := .nx
def sSeq (f g : SM) : SM := fun ρ => match f ρ with
  | .nx ρ' => g ρ'
  | o => o
def sBad : SM := fun _ => .bad
section
variable {X : Cx} {io : List Nat} {W : WX} {st : Stmt} {rest : List Stmt} {a b c : Expr} {f g : SM} {u v : M PV} {pos : Pos}
theorem ExcQ.to {F : Fr} {ts us : List (PV × V)} {D : Ends} {C : Str} {fs : List (Str × PV)} {ρ : Sl} {σ : St} (h : PostS W F ts D (.exc C fs ρ)) : ExcQ F.Z W F (ts ++ us) σ C fs ρ := ExcQ.up us (h σ)
theorem ST.bindU {F : Fr} {G : Hp} {O : Own} {ρ : Sl} {ts us : List (PV × V)} {σ : St} {H : Hp} {D : Ends} {Q1 : VK} {k : PV → SM} (hZ : F.Z = (X.zt io)) (R : Rel F G O ρ (ts ++ us) σ H) (P : PostS W F ts D (sE u k ρ))
    (h : ∀ G1 O1 H1 ρ1 w x, Rel F G1 O1 ρ1 (ts ++ us ++ [(w, x)]) σ H1 → PostS W F ts D (k w ρ1) → Q1 x H1) : T (X.zt io) W u σ H Q1 := by
  refine ⟨F, G, O, ρ, ts ++ us, hZ, R, ?_⟩
  unfold sE at P
  cases e : u ρ with
  | bad => rw [e] at P; exact P
  | exc C fs ρ' => rw [e] at P; exact ExcQ.to P
  | ok w ρ' => rw [e] at P; exact fun G' O' H' x R' => h G' O' H' ρ' w x R' P
theorem ST.bindK {F : Fr} {G : Hp} {O : Own} {ρ : Sl} {ts : List (PV × V)} {σ : St} {H : Hp} {D : Ends} {Q1 : VK} {k : PV → SM} (hZ : F.Z = (X.zt io)) (R : Rel F G O ρ ts σ H) (P : PostS W F ts D (sE u k ρ))
    (h : ∀ G1 O1 H1 ρ1 w x, Rel F G1 O1 ρ1 (ts ++ [(w, x)]) σ H1 → PostS W F ts D (k w ρ1) → Q1 x H1) : T (X.zt io) W u σ H Q1 :=
  ST.bindU (us := []) hZ (by simpa using R) P fun G1 O1 H1 ρ1 w x R1 P1 => h G1 O1 H1 ρ1 w x (by simpa using R1) P1
theorem ST.bindB {F : Fr} {G : Hp} {O : Own} {ρ : Sl} {ts : List (PV × V)} {σ : St} {H : Hp} {D : Ends} {p : M Bool} {Q1 : Bool → Hp → Prop} {k : Bool → SM} (hZ : F.Z = (X.zt io)) (R : Rel F G O ρ ts σ H) (P : PostS W F ts D (sE p k ρ))
    (h : ∀ G1 O1 H1 ρ1 w, Rel F G1 O1 ρ1 ts σ H1 → PostS W F ts D (k w ρ1) → Q1 w H1) : TB (X.zt io) W p σ H Q1 := by
  refine ⟨F, G, O, ρ, ts, hZ, R, ?_⟩
  unfold sE at P
  cases e : p ρ with
  | bad => rw [e] at P; exact P
  | exc C fs ρ' => rw [e] at P; exact P σ
  | ok w ρ' => rw [e] at P; exact fun G' O' H' R' => h G' O' H' ρ' w R' P
theorem ssj_nil : SSJ X io W [] sNil := PSs.imp pss_nil fun D σ H ⟨F, G, O, ρ, ts, hZ, R, P⟩ => P _ _ _ _ R
theorem ssj_cons (h1 : SJ X io W st f) (h2 : SSJ X io W rest g) : SSJ X io W (st :: rest) (sSeq f g) := by
  refine PSs.imp (pss_cons h1 h2) ?_
  rintro D σ H ⟨F, G, O, ρ, ts, hZ, R, P⟩
  refine ⟨F, G, O, ρ, ts, hZ, R, ?_⟩
  unfold sSeq at P
  cases e : f ρ with
  | nx ρ' => rw [e] at P; exact fun G' O' σ' H' R' => ⟨F, G', O', ρ', ts, hZ, R', P⟩
  | rt w ρ' => rw [e] at P; exact P
  | bk ρ' => rw [e] at P; exact P
  | ct ρ' => rw [e] at P; exact P
  | exc C fs ρ' => rw [e] at P; exact P
  | bad => rw [e] at P; exact P
theorem ssj_one (h1 : SJ X io W st f) : SSJ X io W [st] f := PSs.imp (pss_one h1) fun D σ H h => h
theorem sj_pass : SJ X io W (.Pass pos) sNil := PS.imp ps_pass fun D σ H ⟨F, G, O, ρ, ts, hZ, R, P⟩ => P _ _ _ _ R
theorem sj_doc {x j pos'} : SJ X io W (.Expr (.Constant (.str x) j pos) pos') sNil := PS.imp ps_doc fun D σ H ⟨F, G, O, ρ, ts, hZ, R, P⟩ => P _ _ _ _ R
theorem sj_break : SJ X io W (.Break pos) .bk := PS.imp ps_break fun D σ H ⟨F, G, O, ρ, ts, hZ, R, P⟩ => P _ _ _ _ R
theorem sj_cont : SJ X io W (.Continue pos) .ct := PS.imp ps_continue fun D σ H ⟨F, G, O, ρ, ts, hZ, R, P⟩ => P _ _ _ _ R
/-- code that nothing is known of: it must not be reached -/
theorem sj_bad : SJ X io W st sBad := PS.imp ps_never fun D σ H ⟨F, G, O, ρ, ts, hZ, R, P⟩ => P
def sDrop (u : M PV) : SM := sE u fun _ => .nx
theorem sj_expr (h : EJ X io W a u) (hs : swapsWith a none pos.line X.env = pure false := by rfl) : SJ X io W (.Expr a pos) (sDrop u) := by
  refine PS.imp (ps_expr h hs) ?_
  rintro D σ H ⟨F, G, O, ρ, ts, hZ, R, P⟩
  exact ST.bindK hZ R P fun G1 O1 H1 ρ1 w x R1 P1 => P1 _ _ _ _ R1.pop
def sRet (u : M PV) : SM := sE u fun v => .rt v
theorem sj_ret (h : EJ X io W a u) : SJ X io W (.Return (some a) pos) (sRet u) := by
  refine PS.imp (ps_ret h) ?_
  rintro D σ H ⟨F, G, O, ρ, ts, hZ, R, P⟩
  exact ST.bindK hZ R P fun G1 O1 H1 ρ1 w x R1 P1 => P1 _ _ _ _ _ R1
def sRetN : SM := fun ρ => .rt .non ρ
theorem sj_retN : SJ X io W (.Return none pos) sRetN := PS.imp ps_retN fun D σ H ⟨F, G, O, ρ, ts, hZ, R, P⟩ => P G O σ H V.non (R.pushF (by simp only [Rep]))
def sIf (p : M Bool) (f g : SM) : SM := sE p fun b => match b with
  | true => f
  | false => g
theorem sj_if {xs ys : List Stmt} {p : M Bool} (hc : BJ X io W c p) (ha : SSJ X io W xs f) (hb : SSJ X io W ys g) : SJ X io W (.If c xs ys pos) (sIf p f g) := by
  refine PS.imp (ps_if hc ha hb) ?_
  rintro D σ H ⟨F, G, O, ρ, ts, hZ, R, P⟩
  refine ST.bindB hZ R P fun G1 O1 H1 ρ1 w R1 P1 => ?_
  cases w with
  | true => exact ⟨F, G1, O1, ρ1, ts, hZ, R1, P1⟩
  | false => exact ⟨F, G1, O1, ρ1, ts, hZ, R1, P1⟩

/-! ### targets -/
abbrev Gt := PV → Sl → Option Sl
/-- only slots of js are other -/
def Same (js : List Nat) (σ σ' : St) : Prop := σ'.length = σ.length ∧ ∀ j, j ∉ js → σ'[j]? = σ[j]?
def TGt (Z : Zt) (js : List Nat) (g : Gt) : TG := fun x σ H Q => ∃ F G O ρ ts d, F.Z = Z ∧ Rel F G O ρ (ts ++ [(d, x)]) σ H ∧ match g d ρ with
  | some ρ' => ∀ G' O' σ' H', Rel F G' O' ρ' ts σ' H' → Same js σ σ' → Q σ' H'
  | none => False
def TGl (Z : Zt) (js : List Nat) (g : List PV → Sl → Option Sl) : TGs := fun xs σ H Q => ∃ F G O ρ ts ds, F.Z = Z ∧ Rel F G O ρ (ts ++ ds.zip xs) σ H ∧ Reps F.Z G ds xs ∧ match g ds ρ with
  | some ρ' => ∀ G' O' σ' H', Rel F G' O' ρ' ts σ' H' → Same js σ σ' → Q σ' H'
  | none => False
def GJ (X : Cx) (io : List Nat) (tg : Expr) (js : List Nat) (g : Gt) : Prop := PG X tg (TGt (X.zt io) js g)
def GsJ (X : Cx) (io : List Nat) (tgs : List Expr) (js : List Nat) (g : List PV → Sl → Option Sl) : Prop := PGs X tgs (TGl (X.zt io) js g)
theorem PG.imp {e : Expr} {t t' : TG} (h : PG X e t) (k : ∀ x σ H Q, t' x σ H Q → t x σ H Q) : PG X e t' := ⟨fun pins s σ H v w Q I r q => h.run pins s σ H v w Q I r (k v σ H Q q)⟩
theorem PGs.imp {e : List Expr} {t t' : TGs} (h : PGs X e t) (k : ∀ x σ H Q, t' x σ H Q → t x σ H Q) : PGs X e t' := ⟨fun pins s σ H v w Q I r q => h.run pins s σ H v w Q I r (k v σ H Q q)⟩
def gtN (i : Nat) : Gt := fun d ρ => if i < ρ.length then some (ρ.set i (some d)) else none
theorem gj_name {i : Nat} {x : Str} (hN : X.N.Nodup) (hi : X.N[i]? = some x) (hx : Loc X.env.scope x) (hio : i ∉ io := by decide) (hf : X.fn x = true ∨ X.env.scope.names.lookup x = some .local := by first | exact .inl rfl | exact .inr rfl | assumption) : GJ X io (.Name x pos) [i] (gtN i) := by
  refine PG.imp (pg_name hN hi hx hf) ?_
  rintro y σ H Q ⟨F, G, O, ρ, ts, d, hZ, R, P⟩
  unfold gtN at P
  by_cases l : i < ρ.length
  · rw [if_pos l] at P
    exact P _ _ _ _ (R.store l (by rw [hZ]; exact hio)) ⟨by simp, fun j hj => by rw [List.getElem?_set_ne]; rintro rfl; exact hj (List.mem_singleton.mpr rfl)⟩
  · rw [if_neg l] at P
    exact P.elim
def gtNil : List PV → Sl → Option Sl
  | [], ρ => some ρ
  | _ :: _, _ => none
def gtCons (g : Gt) (gs : List PV → Sl → Option Sl) : List PV → Sl → Option Sl
  | [], _ => none
  | d :: ds, ρ => (g d ρ).bind (gs ds)
def gtTup (gs : List PV → Sl → Option Sl) : Gt := fun d ρ => match d with
  | .tup ds => gs ds ρ
  | _ => none
theorem gsj_nil : GsJ X io [] [] gtNil := by
  refine PGs.imp pgs_nil ?_
  rintro xs σ H Q ⟨F, G, O, ρ, ts, ds, hZ, R, r, P⟩
  cases ds with
  | nil =>
    simp only [Reps] at r
    subst r
    exact ⟨rfl, P _ _ _ _ (by simpa using R) ⟨rfl, fun _ _ => rfl⟩⟩
  | cons d ds => exact P.elim
theorem rep_free {Z : Zt} {G : Hp} {d : PV} {x : V} (h : Rep Z G d x) : d.own = false ∧ d.isE = false := by
  cases d with
  | lst o xs => cases o with
    | true => simp only [Rep] at h
    | false => exact ⟨rfl, rfl⟩
  | dct o xs => cases o with
    | true => simp only [Rep] at h
    | false => exact ⟨rfl, rfl⟩
  | obj o C xs => cases o with
    | true => simp only [Rep] at h
    | false => exact ⟨rfl, rfl⟩
  | exc C xs => simp only [Rep] at h
  | _ => exact ⟨rfl, rfl⟩
theorem repO_rep {F : Fr} {G H : Hp} {O : Own} {n : Nat} {d : PV} {x : V} (h : RepO F G O H n d x) (f : d.own = false) (e : d.isE = false) : Rep F.Z G d x := by
  cases d with
  | lst o xs => cases o with
    | true => cases f
    | false => exact h
  | dct o xs => cases o with
    | true => cases f
    | false => exact h
  | obj o C xs => cases o with
    | true => cases f
    | false => exact h
  | exc C xs => cases e
  | non => exact h
  | bl b => exact h
  | int i => exact h
  | str s => exact h
  | tup xs => exact h
/-- what stood as values is still represented -/
theorem Rel.again {F : Fr} {G G' : Hp} {O' : Own} {ρ' : Sl} {ts : List (PV × V)} {σ' : St} {H' : Hp} : ∀ {ds : List PV} {xs : List V} {us : List (PV × V)}, Reps F.Z G ds xs → Rel F G' O' ρ' (ts ++ us ++ ds.zip xs) σ' H' → Reps F.Z G' ds xs
  | [], xs, us, r, R => by simp only [Reps] at r ⊢; exact r
  | d :: ds, xs, us, r, R => by
    simp only [Reps] at r
    obtain ⟨x, ys, rfl, h1, h2⟩ := r
    have e : ts ++ us ++ (d :: ds).zip (x :: ys) = ts ++ (us ++ [(d, x)]) ++ ds.zip ys := by simp
    rw [e] at R
    have q : RepO F G' O' H' (ρ'.length + (ts ++ us).length) d x := by
      have := R.tp (ts ++ us).length (d, x) (by simp)
      exact this
    simp only [Reps]
    exact ⟨x, ys, rfl, repO_rep q (rep_free h1).1 (rep_free h1).2, Rel.again h2 R⟩
theorem Rel.pushAll {F : Fr} {G : Hp} {O : Own} {ρ : Sl} {σ : St} {H : Hp} : ∀ {ds : List PV} {us : List (PV × V)} {ys : List V}, Rel F G O ρ us σ H → Reps F.Z G ds ys → Rel F G O ρ (us ++ ds.zip ys) σ H
  | [], us, ys, R, _ => by simpa using R
  | d :: ds, us, ys, R, rq => by
    simp only [Reps] at rq
    obtain ⟨x, zs, rfl, q1, q2⟩ := rq
    have e : us ++ (d :: ds).zip (x :: zs) = us ++ [(d, x)] ++ ds.zip zs := by simp
    rw [e]
    exact (R.pushF q1).pushAll q2
theorem gsj_cons {tg : Expr} {tgs : List Expr} {g : Gt} {gs : List PV → Sl → Option Sl} {js ks : List Nat} (h1 : GJ X io tg js g) (h2 : GsJ X io tgs ks gs) (hs : (assignEach (tg :: tgs) X.env).map (·.2) = assign tg X.env :: (assignEach tgs X.env).map (·.2) := by rfl) : GsJ X io (tg :: tgs) (js ++ ks) (gtCons g gs) := by
  refine PGs.imp (pgs_cons h1 h2 hs) ?_
  rintro xs σ H Q ⟨F, G, O, ρ, ts, ds, hZ, R, r, P⟩
  cases ds with
  | nil => exact P.elim
  | cons d ds =>
    simp only [Reps] at r
    obtain ⟨x, ys, rfl, r1, r2⟩ := r
    have e : ts ++ (d :: ds).zip (x :: ys) = ts ++ [(d, x)] ++ ds.zip ys := by simp
    rw [e] at R
    refine ⟨x, ys, rfl, ?_⟩
    simp only [gtCons] at P
    refine ⟨F, G, O, ρ, ts ++ [(d, x)] ++ ds.zip ys, d, hZ, R.pushF r1, ?_⟩
    cases z : g d ρ with
    | none => simp only [z, Option.bind] at P
    | some ρ1 =>
      simp only [z, Option.bind] at P
      intro G' O' σ' H' R' same1
      have rr : Reps F.Z G' ds ys := Rel.again (us := [(d, x)]) r2 R'
      have R2 : Rel F G' O' ρ1 (ts ++ ds.zip ys) σ' H' := by
        have R3 : Rel F G' O' ρ1 ts σ' H' := R'.drop.drop
        exact R3.pushAll rr
      refine ⟨F, G', O', ρ1, ts, ds, hZ, R2, rr, ?_⟩
      cases z2 : gs ds ρ1 with
      | none => rw [z2] at P; exact P
      | some ρ2 =>
        rw [z2] at P
        exact fun G2 O2 σ2 H2 R2 same2 => P _ _ _ _ R2 ⟨same2.1.trans same1.1, fun j hj => (same2.2 j fun q => hj (List.mem_append_right _ q)).trans (same1.2 j fun q => hj (List.mem_append_left _ q))⟩
theorem gj_tup {tgs : List Expr} {js : List Nat} {k : Nat} {gs : List PV → Sl → Option Sl} {n : Nat} (hc : X.calm = true) (h : GsJ X io tgs js gs) (hn : (assignEach tgs X.env).length = n := by rfl) (hst : (assignEach tgs X.env).findIdx? (·.1) = none := by rfl) :
    GJ X io (.Tuple tgs k pos) js (fun d ρ => match d with
      | .tup ds => if ds.length = n then gs ds ρ else none
      | _ => none) := by
  refine PG.imp (pg_tup hc h hn hst) ?_
  rintro y σ H Q ⟨F, G, O, ρ, ts, d, hZ, R, P⟩
  cases d with
  | tup ds =>
    obtain ⟨a, vs, e, q, r⟩ := repO_tup R.gh R.top
    simp only at P
    by_cases l : ds.length = n
    · rw [if_pos l] at P
      rw [hZ] at q
      refine ⟨a, vs, e, q, by rw [← r.length]; exact l, F, G, O, ρ, ts, ds, hZ, ?_, r, P⟩
      exact R.pop.pushAll r
    · rw [if_neg l] at P
      exact P.elim
  | _ => exact P.elim
def sAsg (g : Gt) (u : M PV) : SM := sE u fun v ρ => match g v ρ with
  | some ρ' => .nx ρ'
  | none => .bad
theorem asg_post {js : List Nat} {F : Fr} {G : Hp} {O : Own} {ρ : Sl} {ts : List (PV × V)} {σ : St} {H : Hp} {D : Ends} {g : Gt} {w : PV} {x : V} (hZ : F.Z = (X.zt io)) (R : Rel F G O ρ (ts ++ [(w, x)]) σ H)
    (P : PostS W F ts D (match g w ρ with
      | some ρ' => .nx ρ'
      | none => .bad)) : TGt (X.zt io) js g x σ H D.nx := by
  refine ⟨F, G, O, ρ, ts, w, hZ, R, ?_⟩
  cases e : g w ρ with
  | none => rw [e] at P; exact P
  | some ρ' => rw [e] at P; exact fun G' O' σ' H' R' _ => P _ _ _ _ R'
theorem sj_asg {tg : Expr} {js : List Nat} {g : Gt} (he : EJ X io W a u) (hg : GJ X io tg js g) (hs : swapsWithSole [tg] a pos.line X.env = pure false := by rfl) (hw : swappedStores [tg] a X.env = pure none := by rfl)
    (h1 : (assignEach [tg] X.env).map (·.2) = [assign tg X.env] := by rfl) : SJ X io W (.Assign [tg] a pos) (sAsg g u) := by
  refine PS.imp (ps_asg he hg hs hw h1) ?_
  rintro D σ H ⟨F, G, O, ρ, ts, hZ, R, P⟩
  exact ST.bindK hZ R P fun G1 O1 H1 ρ1 w x R1 P1 => asg_post hZ R1 P1
theorem sj_set {i : Nat} {x : Str} {pos' : Pos} (hN : X.N.Nodup) (hi : X.N[i]? = some x) (hx : Loc X.env.scope x) (he : EJ X io W a u) (hio : i ∉ io := by decide) (hs : swapsWith a (some (.Name x pos')) pos.line X.env = pure false := by rfl)
    (hf : X.fn x = true ∨ X.env.scope.names.lookup x = some .local := by first | exact .inl rfl | exact .inr rfl | assumption) : SJ X io W (.Assign [.Name x pos'] a pos) (sAsg (gtN i) u) := by
  refine PS.imp (ps_set hN hi hx he hs hf) ?_
  rintro D σ H ⟨F, G, O, ρ, ts, hZ, R, P⟩
  refine ST.bindK hZ R P fun G1 O1 H1 ρ1 w y R1 P1 => ?_
  unfold gtN at P1
  by_cases l : i < ρ1.length
  · rw [if_pos l] at P1
    exact P1 _ _ _ _ (R1.store l (by rw [hZ]; exact hio))
  · rw [if_neg l] at P1
    exact P1.elim
end
end Wv

set_option Elab.async false
set_option linter.all false
set_option autoImplicit false
set_option maxRecDepth 100000
/-! WvI: several targets, stores into lists, growing lists. -/
namespace Wv
open PySem PySem.Spec PyProof.Rows L2

/-! ### several values, not frozen -/
def PostU (W : WX) (F : Fr) (ts : List (PV × V)) (σ : St) (Q : List V → Hp → Prop) : Res (List PV) → Prop
  | .ok vs ρ' => ∀ G' O' H' xs, xs.length = vs.length → Rel F G' O' ρ' (ts ++ vs.zip xs) σ H' → Q xs H'
  | .exc C fs ρ' => ExcQ F.Z W F ts σ C fs ρ'
  | .bad => False
def TAu (Z : Zt) (W : WX) (f : M (List PV)) : TA := fun σ H Q => ∃ F G O ρ ts, F.Z = Z ∧ Rel F G O ρ ts σ H ∧ PostU W F ts σ Q (f ρ)
def UJ (X : Cx) (io : List Nat) (W : WX) (es : List Expr) (f : M (List PV)) : Prop := PA X es (TAu (X.zt io) W f)
def uCons (f : M PV) (g : M (List PV)) : M (List PV) := M.bind f fun x => M.bind g fun ys => M.ret (x :: ys)
section
variable {X : Cx} {io : List Nat} {W : WX} {st : Stmt} {a b c : Expr} {es : List Expr} {u v : M PV} {g : M (List PV)} {pos : Pos}
theorem uj_nil : UJ X io W [] aNil := PA.imp pa_nil fun σ H Q ⟨F, G, O, ρ, ts, hZ, R, P⟩ => P G O H [] rfl (by simpa using R)
theorem uj_cons (ha : EJ X io W a u) (hr : UJ X io W es g) (hs : starEach (a :: es) X.env = (false, eval a X.env) :: starEach es X.env := by rfl) : UJ X io W (a :: es) (uCons u g) := by
  refine PA.imp (pa_cons ha hr hs) ?_
  rintro σ H Q ⟨F, G, O, ρ, ts, hZ, R, P⟩
  refine ⟨F, G, O, ρ, ts, hZ, R, ?_⟩
  unfold uCons M.bind at P
  cases e : u ρ with
  | bad => rw [e] at P; exact P
  | exc C fs ρ' => rw [e] at P; exact P
  | ok w ρ1 =>
    rw [e] at P
    intro G1 O1 H1 x R1
    refine ⟨F, G1, O1, ρ1, ts ++ [(w, x)], hZ, R1, ?_⟩
    cases e2 : g ρ1 with
    | bad => simp only [e2] at P; exact P
    | exc C fs ρ' => simp only [e2] at P; exact ExcQ.up _ P
    | ok ws ρ2 =>
      simp only [e2] at P
      intro G2 O2 H2 xs l R2
      have e3 : ts ++ [(w, x)] ++ ws.zip xs = ts ++ (w :: ws).zip (x :: xs) := by simp
      rw [e3] at R2
      exact P G2 O2 H2 (x :: xs) (by simp [l]) R2
end
/-- one of the values goes into a slot -/
def retagAt (O : Own) (k i : Nat) : Own := fun a => match O a with
  | some (n, j) => if n = k then some (i, j) else if k < n then some (n - 1, j) else some (n, j)
  | none => none
theorem Rel.storeAt {F : Fr} {G : Hp} {O : Own} {ρ : Sl} {ts us : List (PV × V)} {σ : St} {H : Hp} {d : PV} {x : V} {i : Nat} (R : Rel F G O ρ (ts ++ [(d, x)] ++ us) σ H) (li : i < ρ.length) (ni : i ∉ F.Z.io) :
    Rel F G (retagAt O (ρ.length + ts.length) i) (ρ.set i (some d)) (ts ++ us) (σ.set i (some x)) H := by
  have lσ : i < σ.length := by rw [← R.len]; exact li
  have k1 : ∀ {a : Addr} {n j : Nat}, O a = some (n, j) → n < ρ.length + ts.length → retagAt O (ρ.length + ts.length) i a = some (n, j) := fun {a n j} e h => by
    simp only [retagAt, e]
    rw [if_neg (by omega), if_neg (by omega)]
  have k2 : ∀ {a : Addr} {n j : Nat}, O a = some (n, j) → ρ.length + ts.length < n → retagAt O (ρ.length + ts.length) i a = some (n - 1, j) := fun {a n j} e h => by
    simp only [retagAt, e]
    rw [if_neg (by omega), if_pos h]
  have k0 : ∀ {a : Addr} {j : Nat}, O a = some (ρ.length + ts.length, j) → retagAt O (ρ.length + ts.length) i a = some (i, j) := fun {a j} e => by
    simp only [retagAt, e, if_true]
  refine ⟨by simpa using R.len, R.gh, R.g0, fun a t e => ?_, R.frm, fun k c q => ?_, fun k p q => ?_, fun k hk => ?_, R.gn⟩
  · have : ∃ t', O a = some t' := by
      unfold retagAt at e
      cases z : O a with
      | none => rw [z] at e; cases e
      | some p => exact ⟨p, rfl⟩
    obtain ⟨t', e'⟩ := this
    exact R.own a t' e'
  · by_cases z : i = k
    · subst z
      rw [List.getElem?_set_self li] at q
      cases q
      have r : RepO F G O H (ρ.length + ts.length) d x := R.tp ts.length (d, x) (by simp)
      exact ⟨x, List.getElem?_set_self lσ, r.mono (Sub.refl G) fun a o j e h => ⟨k0 e, h⟩⟩
    · rw [List.getElem?_set_ne z] at q
      obtain ⟨v, h1, h2⟩ := R.sl k c q
      exact ⟨v, by rw [List.getElem?_set_ne z]; exact h1, h2.mono (Sub.refl G) fun a o j e h => ⟨k1 e (by have := get_lt q; omega), h⟩⟩
  · rw [List.length_set]
    by_cases z : k < ts.length
    · rw [List.getElem?_append_left z] at q
      have r : RepO F G O H (ρ.length + k) p.1 p.2 := R.tp k p (by rw [List.append_assoc, List.getElem?_append_left z]; exact q)
      exact r.mono (Sub.refl G) fun a o j e h => ⟨k1 e (by omega), h⟩
    · rw [List.getElem?_append_right (by omega)] at q
      have r : RepO F G O H (ρ.length + (k + 1)) p.1 p.2 := R.tp (k + 1) p (by
        rw [List.getElem?_append_right (by simp; omega)]
        have e : k + 1 - (ts ++ [(d, x)]).length = k - ts.length := by simp <;> omega
        rw [e]
        exact q)
      refine r.mono (Sub.refl G) fun a o j e h => ⟨?_, h⟩
      rw [k2 e (by omega)]
      simp
  · obtain ⟨v, h1, h2⟩ := R.io k hk
    exact ⟨v, h1, by rw [List.getElem?_set_ne fun z => ni (by rw [z]; exact hk)]; exact h2⟩
def setAll : List Nat → List PV → Sl → Option Sl
  | [], [], ρ => some ρ
  | i :: is, v :: vs, ρ => if i < ρ.length then setAll is vs (ρ.set i (some v)) else none
  | _, _, _ => none
def gNames : List Nat → TGs
  | [] => gNil
  | i :: is => gCons (gName i) (gNames is)
theorem storeAll {F : Fr} {G : Hp} {ts : List (PV × V)} {H : Hp} {Q : St → Hp → Prop} : ∀ {is : List Nat} {vs : List PV} {xs : List V} {O : Own} {ρ ρ' : Sl} {σ : St}, Rel F G O ρ (ts ++ vs.zip xs) σ H → xs.length = vs.length → setAll is vs ρ = some ρ' → (∀ i ∈ is, i ∉ F.Z.io) →
    (∀ G' O' σ' H', Rel F G' O' ρ' ts σ' H' → Q σ' H') → gNames is xs σ H Q
  | [], [], xs, O, ρ, ρ', σ, R, l, e, _, h => by
    cases xs with
    | nil =>
      cases e
      exact ⟨rfl, h _ _ _ _ (by simpa using R)⟩
    | cons x xs => cases l
  | i :: is, v :: vs, xs, O, ρ, ρ', σ, R, l, e, ni, h => by
    cases xs with
    | nil => cases l
    | cons x xs =>
      unfold setAll at e
      by_cases li : i < ρ.length
      · rw [if_pos li] at e
        have e3 : ts ++ (v :: vs).zip (x :: xs) = ts ++ [(v, x)] ++ vs.zip xs := by simp
        rw [e3] at R
        exact ⟨x, xs, rfl, storeAll (R.storeAt li (ni i List.mem_cons_self)) (by simpa using l) e (fun j hj => ni j (List.mem_cons_of_mem _ hj)) h⟩
      · rw [if_neg li] at e
        cases e
  | [], _ :: _, _, _, _, _, _, _, _, e, _, _ => by cases e
  | _ :: _, [], _, _, _, _, _, _, _, e, _, _ => by cases e
def sPar (is : List Nat) (g : M (List PV)) : SM := sE g fun vs ρ => match setAll is vs ρ with
  | some ρ' => .nx ρ'
  | none => .bad
section
variable {X : Cx} {io : List Nat} {W : WX} {st : Stmt} {a b c : Expr} {es : List Expr} {u v : M PV} {g : M (List PV)} {pos : Pos}
theorem SU.bind {F : Fr} {G : Hp} {O : Own} {ρ : Sl} {ts : List (PV × V)} {σ : St} {H : Hp} {D : Ends} {Q1 : List V → Hp → Prop} {k : List PV → SM} (hZ : F.Z = (X.zt io)) (R : Rel F G O ρ ts σ H) (P : PostS W F ts D (sE g k ρ))
    (h : ∀ G1 O1 H1 ρ1 vs xs, xs.length = vs.length → Rel F G1 O1 ρ1 (ts ++ vs.zip xs) σ H1 → PostS W F ts D (k vs ρ1) → Q1 xs H1) : TAu (X.zt io) W g σ H Q1 := by
  refine ⟨F, G, O, ρ, ts, hZ, R, ?_⟩
  unfold sE at P
  cases e : g ρ with
  | bad => rw [e] at P; exact P
  | exc C fs ρ' => rw [e] at P; exact P σ
  | ok w ρ' => rw [e] at P; exact fun G' O' H' xs l R' => h G' O' H' ρ' w xs l R' P
theorem SA.bind {F : Fr} {G : Hp} {O : Own} {ρ : Sl} {ts us : List (PV × V)} {σ : St} {H : Hp} {D : Ends} {Q1 : List V → Hp → Prop} {k : List PV → SM} (hZ : F.Z = (X.zt io)) (R : Rel F G O ρ (ts ++ us) σ H) (P : PostS W F ts D (sE g k ρ))
    (h : ∀ G1 O1 H1 ρ1 vs xs, Reps F.Z G1 vs xs → Rel F G1 O1 ρ1 (ts ++ us ++ vs.zip xs) σ H1 → PostS W F ts D (k vs ρ1) → Q1 xs H1) : TAr (X.zt io) W g σ H Q1 := by
  refine ⟨F, G, O, ρ, ts ++ us, hZ, R, ?_⟩
  unfold sE at P
  cases e : g ρ with
  | bad => rw [e] at P; exact P
  | exc C fs ρ' => rw [e] at P; exact ExcQ.to P
  | ok w ρ' => rw [e] at P; exact fun G' O' H' xs r R' => h G' O' H' ρ' w xs r R' P
/-- a, b = e1, e2 by a tuple that is made and taken apart -/
theorem sj_parT {tgs : List Expr} {is : List Nat} {k k2 : Nat} {pt pt2 : Pos} {n : Nat} (hc : X.calm = true) (ha : UJ X io W es g) (hg : PGs X tgs (gNames is)) (hio : ∀ i ∈ is, i ∉ io := by decide) (hn : (assignEach tgs X.env).length = n := by rfl) (hst : (assignEach tgs X.env).findIdx? (·.1) = none := by rfl) (hl : is.length = n := by rfl) (hl2 : n ≤ 1000 := by decide)
    (hs : swapsWithSole [.Tuple tgs k pt] (.Tuple es k2 pt2) pos.line X.env = pure false := by rfl) (hw : swappedStores [.Tuple tgs k pt] (.Tuple es k2 pt2) X.env = pure none := by rfl)
    (h1 : (assignEach [.Tuple tgs k pt] X.env).map (·.2) = [assign (.Tuple tgs k pt) X.env] := by rfl) : SJ X io W (.Assign [.Tuple tgs k pt] (.Tuple es k2 pt2) pos) (sPar is g) := by
  refine PS.imp (ps_asg (pe_tup ha) (pg_tup hc hg hn hst) hs hw h1) ?_
  rintro D σ H ⟨F, G, O, ρ, ts, hZ, R, P⟩
  refine SU.bind hZ R P fun G1 O1 H1 ρ1 vs xs l R1 P1 => ?_
  cases e : setAll is vs ρ1 with
  | none => rw [e] at P1; exact P1.elim
  | some ρ2 =>
    rw [e] at P1
    have len : ∀ {is : List Nat} {vs : List PV} {ρ ρ' : Sl}, setAll is vs ρ = some ρ' → is.length = vs.length := by
      intro is
      induction is with
      | nil => intro vs ρ ρ' e; cases vs with
        | nil => rfl
        | cons v vs => cases e
      | cons i is ih => intro vs ρ ρ' e; cases vs with
        | nil => cases e
        | cons v vs =>
          unfold setAll at e
          split at e
          · simp [ih e]
          · cases e
    have ll := len e
    have lx : xs.length = n := by omega
    refine ⟨by rw [lx]; exact Nat.le_trans hl2 (by rw [sizeLine_eq]; decide), fun p hp => ⟨p, xs, rfl, SqT.of upd_same, lx, ?_⟩⟩
    exact storeAll (R1.heap (sub_upd hp)) l e (by rw [hZ]; exact hio) P1
/-- .. by stores from the right -/
theorem sj_par2 {i j : Nat} {x y : Str} {px py pt : Pos} {kt k2 : Nat} {pt2 : Pos} (hc : X.calm = true) (hN : X.N.Nodup) (hi : X.N[i]? = some x) (hj : X.N[j]? = some y) (hij : i ≠ j)
    (hx : X.env.scope.names.lookup x = some .local) (hy : X.env.scope.names.lookup y = some .local) (ha : UJ X io W [a, b] g) (hio : ∀ k ∈ [i, j], k ∉ io := by decide)
    (hw : swappedStores [.Tuple [.Name x px, .Name y py] kt pt] (.Tuple [a, b] k2 pt2) X.env = pure (some [x, y]) := by rfl)
    (hs : swapsWithSole [.Tuple [.Name x px, .Name y py] kt pt] (.Tuple [a, b] k2 pt2) pos.line X.env = pure false := by rfl) :
    SJ X io W (.Assign [.Tuple [.Name x px, .Name y py] kt pt] (.Tuple [a, b] k2 pt2) pos) (sPar [i, j] g) := by
  refine PS.imp (ps_par hc hN hi hj hij hx hy ha hw hs) ?_
  rintro D σ H ⟨F, G, O, ρ, ts, hZ, R, P⟩
  refine SU.bind hZ R P fun G1 O1 H1 ρ1 vs xs l R1 P1 => ?_
  cases e : setAll [i, j] vs ρ1 with
  | none => rw [e] at P1; exact P1.elim
  | some ρ2 =>
    rw [e] at P1
    obtain ⟨x1, r1, e1, x2, r2, e2, e3, q⟩ := storeAll (Q := D.nx) R1 l e (by rw [hZ]; exact hio) P1
    subst e3 e2
    exact ⟨x1, x2, e1, q⟩
end
end Wv

set_option Elab.async false
set_option linter.all false
set_option autoImplicit false
set_option maxRecDepth 100000
/-! WvJ: names that are only looked at; stores into lists; growing lists. -/
namespace Wv
open PySem PySem.Spec PyProof.Rows L2

def eUnB (op : PV → M PV) (i : Nat) : M PV := fun ρ => match ρ[i]? with
  | some (some d) => op d ρ
  | _ => .bad
def eBinL (op : PV → PV → M PV) (i : Nat) (g : M PV) : M PV := fun ρ => match ρ[i]? with
  | some (some _) => M.bind g (fun y ρ' => match ρ'[i]? with
    | some (some d) => op d y ρ'
    | _ => .bad) ρ
  | _ => .bad
def eBinR (op : PV → PV → M PV) (f : M PV) (i : Nat) : M PV := M.bind f fun x ρ' => match ρ'[i]? with
  | some (some d) => op x d ρ'
  | _ => .bad
section
variable {X : Cx} {io : List Nat} {W : WX} {a b : Expr} {f g : M PV} {pos : Pos} {i : Nat}
theorem slot_get {F : Fr} {G : Hp} {O : Own} {ρ : Sl} {ts : List (PV × V)} {σ : St} {H : Hp} {Q : VK} {k : PV → Res PV} (R : Rel F G O ρ ts σ H) (P : PostE W F ts σ Q (match ρ[i]? with
    | some (some d) => k d
    | _ => .bad)) : ∃ d v, ρ[i]? = some (some d) ∧ σ[i]? = some (some v) ∧ RepO F G O H i d v ∧ PostE W F ts σ Q (k d) := by
  cases e : ρ[i]? with
  | none => rw [e] at P; exact P.elim
  | some o =>
    cases o with
    | none => rw [e] at P; exact P.elim
    | some d =>
      rw [e] at P
      obtain ⟨v, h1, h2⟩ := R.sl i d e
      exact ⟨d, v, rfl, h1, h2, P⟩
theorem t_unB {r : R1} {op : PV → M PV} (hs : UnS (X.zt io) W r op) {σ : St} {H : Hp} {Q : VK} (h : T (X.zt io) W (eUnB op i) σ H Q) : ∃ v, σ[i]? = some (some v) ∧ r v H Q := by
  obtain ⟨F, G, O, ρ, ts, hZ, R, P⟩ := h
  obtain ⟨d, v, e, h1, h2, P1⟩ := slot_get R P
  exact ⟨v, h1, hs F G O ρ ts σ H Q d v i hZ R h2 P1⟩
theorem t_opL {r : R2} {op : PV → PV → M PV} (hs : OpS (X.zt io) W r op) {σ : St} {H : Hp} {Q : VK} (h : T (X.zt io) W (eBinL op i g) σ H Q) : tOp r (tVar i) (T (X.zt io) W g) σ H Q := by
  obtain ⟨F, G, O, ρ, ts, hZ, R, P⟩ := h
  obtain ⟨d, v, e, h1, h2, P1⟩ := slot_get R P
  refine ⟨v, h1, ?_⟩
  refine T.bindK hZ R P1 fun G1 O1 H1 ρ1 w y R1 P2 => ?_
  obtain ⟨d', v', e', h1', h2', P3⟩ := slot_get (i := i) (k := fun d => op d w ρ1) R1.pop P2
  rw [h1] at h1'
  cases h1'
  exact hs F G1 O1 ρ1 ts σ H1 Q d' w v y i _ hZ R1.pop h2' R1.top P3
theorem t_opR {r : R2} {op : PV → PV → M PV} (hs : OpS (X.zt io) W r op) {σ : St} {H : Hp} {Q : VK} (h : T (X.zt io) W (eBinR op f i) σ H Q) : tOp r (T (X.zt io) W f) (tVar i) σ H Q := by
  obtain ⟨F, G, O, ρ, ts, hZ, R, P⟩ := h
  refine T.bindK hZ R P fun G1 O1 H1 ρ1 w y R1 P2 => ?_
  obtain ⟨d', v', e', h1', h2', P3⟩ := slot_get (i := i) (k := fun d => op w d ρ1) R1.pop P2
  exact ⟨v', h1', hs F G1 O1 ρ1 ts σ H1 Q w d' y v' _ i hZ R1.pop R1.top h2' P3⟩
variable {x : Str} {px : Pos}
theorem ej_idxL (hN : X.N[i]? = some x) (hv : Vis X.env.scope x) (hb : EJ X io W b g) (hs : PlainIx b := by exact fun _ _ => rfl) (hd : (x == ("__debug__" : Str)) = false := by decide) (hcd : (x == ("__classdict__" : Str)) = false := by decide) : EJ X io W (.Subscript (.Name x px) b pos) (eBinL opIdx i g) :=
  PE.imp (pe_ix ix_seq (pe_var hN hv hd hcd) hb hs) fun σ H Q h => t_opL os_idx h
theorem ej_cmpL {o : CmpOp} {r : R2} {op : PV → PV → M PV} (ho : OpR X (compareOp o) r) (hs : OpS (X.zt io) W r op) (hN : X.N[i]? = some x) (hv : Vis X.env.scope x) (hb : EJ X io W b g) (hm : behindInMarks o b = false := by first | exact nomark _ | rfl) (hd : (x == ("__debug__" : Str)) = false := by decide) (hcd : (x == ("__classdict__" : Str)) = false := by decide) :
    EJ X io W (.Compare (.Name x px) [o] [b] pos) (eBinL op i g) := PE.imp (pe_cmpR ho (pe_var hN hv hd hcd) hb hm) fun σ H Q h => t_opL hs h
theorem ej_cmpR {o : CmpOp} {r : R2} {op : PV → PV → M PV} (ho : OpR X (compareOp o) r) (hs : OpS (X.zt io) W r op) (ha : EJ X io W a f) (hN : X.N[i]? = some x) (hv : Vis X.env.scope x) (hm : behindInMarks o (.Name x px) = false := by first | exact nomark _ | rfl) (hd : (x == ("__debug__" : Str)) = false := by decide) (hcd : (x == ("__classdict__" : Str)) = false := by decide) :
    EJ X io W (.Compare a [o] [.Name x px] pos) (eBinR op f i) := PE.imp (pe_cmpR ho ha (pe_var hN hv hd hcd) hm) fun σ H Q h => t_opR hs h
theorem bj_cmpL {o : CmpOp} {r : R2} {op : PV → PV → M PV} (ho : OpR X (compareOp o) r) (hs : OpS (X.zt io) W r op) (hN : X.N[i]? = some x) (hv : Vis X.env.scope x) (hb : EJ X io W b g) (hm : behindInMarks o b = false := by first | exact nomark _ | rfl) (hd : (x == ("__debug__" : Str)) = false := by decide) (hcd : (x == ("__classdict__" : Str)) = false := by decide) :
    BJ X io W (.Compare (.Name x px) [o] [b] pos) (bV (eBinL op i g)) := PT.imp (pt_cmpR ho (pe_var hN hv hd hcd) hb hm) fun σ H Q h => t_opL hs (t_boolV h)
theorem bj_cmpR {o : CmpOp} {r : R2} {op : PV → PV → M PV} (ho : OpR X (compareOp o) r) (hs : OpS (X.zt io) W r op) (ha : EJ X io W a f) (hN : X.N[i]? = some x) (hv : Vis X.env.scope x) (hm : behindInMarks o (.Name x px) = false := by first | exact nomark _ | rfl) (hd : (x == ("__debug__" : Str)) = false := by decide) (hcd : (x == ("__classdict__" : Str)) = false := by decide) :
    BJ X io W (.Compare a [o] [.Name x px] pos) (bV (eBinR op f i)) := PT.imp (pt_cmpR ho ha (pe_var hN hv hd hcd) hm) fun σ H Q h => t_opR hs (t_boolV h)
end

/-! ### a change of an owned list -/
/-- op on the content of a slot, by frozen values: the answer and the new content -/
def mCall (op : PV → List PV → Option (PV × PV)) (i : Nat) (g : M (List PV)) : M PV := fun ρ => match ρ[i]? with
  | some (some d0) => if d0.own then M.bind g (fun vs ρ' => match ρ'[i]? with
    | some (some d) => match op d vs with
      | some (y, d') => .ok y (ρ'.set i (some d'))
      | none => .bad
    | _ => .bad) ρ else .bad
  | _ => .bad
/-- what op asks of a method's rule -/
def MutS (Z : Zt) (r : V → List V → Hp → VK → Prop) (op : PV → List PV → Option (PV × PV)) : Prop :=
  ∀ F G O (ρ : Sl) ts σ H (Q : VK) d vs y d' i x xs, F.Z = Z → Rel F G O ρ ts σ H → ρ[i]? = some (some d) → σ[i]? = some (some x) → RepO F G O H i d x → Reps F.Z G vs xs → op d vs = some (y, d') →
    (∀ G' O' H' z, Rel F G' O' (ρ.set i (some d')) (ts ++ [(y, z)]) σ H' → Q z H') → r x xs H Q
section
variable {X : Cx} {io : List Nat} {W : WX} {a b e : Expr} {es : List Expr} {f g : M PV} {ga : M (List PV)} {pos apos px : Pos} {i : Nat} {x : Str}
theorem own_lst {F : Fr} {G : Hp} {O : Own} {H : Hp} {xs : List PV} {v : V} (h : RepO F G O H i (.lst true xs) v) : ∃ a vs, v = .ref a ∧ O a = some (i, 0) ∧ H a = some (.lst vs) ∧ Reps F.Z G xs vs := h
/-- new items in an owned list -/
theorem Rel.relist {F : Fr} {G : Hp} {O : Own} {ρ : Sl} {ts : List (PV × V)} {σ : St} {H : Hp} {d : PV} {v : V} {a : Addr} {ys : List PV} {ws : List V} (R : Rel F G O ρ ts σ H) (e : ρ[i]? = some (some d)) (hv : σ[i]? = some (some v)) (ev : v = .ref a) (ho : O a = some (i, 0)) (r : Reps F.Z G ys ws) :
    Rel F G O (ρ.set i (some (.lst true ys))) ts σ (upd H a (.lst ws)) := R.write e hv ho (show RepO F G O (upd H a (.lst ws)) i (.lst true ys) v from ⟨a, ws, ev, ho, upd_same, r⟩)
def muAppend : PV → List PV → Option (PV × PV)
  | .lst true xs, [y] => if lenOk (xs.length + 1) then some (.non, .lst true (xs ++ [y])) else none
  | _, _ => none
theorem mu_append {Z : Zt} : MutS Z rAppend muAppend := fun F G O ρ ts σ H Q d vs y d' i x xs hZ R e hv hx rv ho hQ => by
  unfold muAppend at ho
  split at ho
  · rename_i zs z
    split at ho
    · rename_i hl
      cases ho
      obtain ⟨a, ws, ea, oa, ha, r⟩ := own_lst hx
      simp only [Reps] at rv
      obtain ⟨w, _, rfl, rw1, rfl⟩ := rv
      refine ⟨a, ws, w, ea, rfl, ha, ?_, ?_⟩
      · have := lenOk_le hl
        rw [← r.length]
        omega
      · exact hQ _ _ _ _ ((R.relist e hv ea oa (r.append (Reps.one rw1))).pushF (by simp only [Rep]))
    · cases ho
  · cases ho
def muExtend : PV → List PV → Option (PV × PV)
  | .lst true xs, [.lst false ys] => if lenOk (xs.length + ys.length) then some (.non, .lst true (xs ++ ys)) else none
  | _, _ => none
def rExtA (K : PySem.W.Frag) : V → List V → Hp → VK → Prop := fun x vs H Q => ∃ l b xs zs, x = .ref l ∧ vs = [.ref b] ∧ H l = some (.lst xs) ∧ SqL K H b zs ∧ xs.length + zs.length ≤ sizeLine ∧ Q .non (upd H l (.lst (xs ++ zs)))
theorem list_extendW (l : Addr) (its : Array Value) (n : Nat) (b : Addr) (its2 : Array Value) (n2 : Nat) (sl2 : Array (Option Value)) (h0 : ¬(!its.isEmpty && Builtin.List.listTooLong (its.size + its2.size)) = true) (h1 : its.size ≤ sizeLine) (h2 : its.size + its2.size ≤ sizeLine + 1) :
    Meets (Builtin.«list.extend» ⟨[.ref l, .ref b], []⟩) (fun _ R s => s.heap.get? l = some { cls := .type "list", dict := none, data := .seq its n, slots := #[] } ∧ s.heap.get? b = some { cls := .type "list", dict := none, data := .seq its2 n2, slots := sl2 } ∧
      R (.ok (.ret Value.none)) { s with heap := s.heap.update l (Obj.mapSeq fun x => x ++ its2), toks := s.toks }) :=
  .of_wp fun prog w A R s h => by
    obtain ⟨hp, gg, dd, tk, oo⟩ := s; obtain ⟨hl, hb, h⟩ := h
    have f1 := AutoSeq1.idx_int
    have f2 := AutoSeq1.sub_tuple_tuple
    have f3 := AutoSeq1.sub_list_list
    have f4 := AutoSeq1.sub_tuple_list
    have f5 := AutoSeq1.sub_list_tuple
    have hz' : (its ++ its2).size ≤ sizeLine + 1 := by rw [Array.size_append]; omega
    wp_walk using (wpAny_updateSeq hl rfl (hz := h1) (_hz' := hz')), AutoSeq1.wpAny_loadPart' hl, AutoSeq1.wpAny_loadPart' hb
    exact ⟨_, rfl, h⟩
theorem mtw_extend : MtM X "list.extend" (rExtA X.K) := by
  intro pins s σ H v vs w us Q I rx rv q0
  obtain ⟨l, b, xs, zs, rfl, rfl, h1, h2, hz, q⟩ := q0
  cases rx
  obtain ⟨u, rfl, ru⟩ := rv.one
  cases ru
  obtain ⟨z, its, n, r, hl, e⟩ := I.lstM h1
  obtain ⟨its2, r2, ⟨⟨c2, d2, x2, sl2⟩, n2, e2, hc2, hd2, hx2⟩, z2⟩ := I.list h2
  simp only at hc2 hd2 hx2
  subst hc2 hd2 hx2
  have hl2 := r2.length
  have hsz : its.toArray.size + its2.toArray.size ≤ sizeLine := by rw [List.size_toArray, List.size_toArray]; omega
  have hlong : ¬ (!its.toArray.isEmpty && Builtin.List.listTooLong (its.toArray.size + its2.toArray.size)) = true := by rw [notLongL hsz, Bool.and_false]; exact Bool.false_ne_true
  refine call_meets F.slot_list_extend ⟨_, e, rfl⟩ F.entry_list_extend (F.args_list_extend_2 _ _) (list_extendW l its.toArray n b its2.toArray n2 sl2 hlong (by rw [List.size_toArray]; omega) (by omega)) ⟨e, e2, ?_⟩
  exact ⟨.non, _, I.lset (its' := its ++ its2) h1 e (by simp) (r.append r2) (by rw [List.length_append]; omega), rfl, q⟩
theorem mu_extend {Z : Zt} : MutS Z (rExtA Z.K) muExtend := fun F G O ρ ts σ H Q d vs y d' i x xs hZ R e hv hx rv ho hQ => by
  unfold muExtend at ho
  split at ho
  · rename_i zs ys
    split at ho
    · rename_i hl
      cases ho
      obtain ⟨a, ws, ea, oa, ha, r⟩ := own_lst hx
      simp only [Reps] at rv
      obtain ⟨w, _, rfl, rw1, rfl⟩ := rv
      simp only [Rep] at rw1
      obtain ⟨b, us, rfl, hb, ru⟩ := rw1
      rw [hZ] at hb
      refine ⟨a, b, ws, us, ea, rfl, ha, sub_sqL R.gh hb, ?_, ?_⟩
      · have := lenOk_le hl
        rw [← r.length, ← ru.length]
        omega
      · exact hQ _ _ _ _ ((R.relist e hv ea oa (r.append ru)).pushF (by simp only [Rep]))
    · cases ho
  · cases ho
def muInsert : PV → List PV → Option (PV × PV)
  | .lst true xs, [.int k, y] => if lenOk (xs.length + 1) ∧ 0 ≤ k ∧ k < 9223372036854775808 then some (.non, .lst true (xs.take k.toNat ++ [y] ++ xs.drop k.toNat)) else none
  | _, _ => none
theorem mu_insert {Z : Zt} : MutS Z (fun x vs H Q => ∃ (l : Addr) (xs : List V) (i : Int) (y : V), x = .ref l ∧ vs = [.int i, y] ∧ H l = some (.lst xs) ∧ xs.length < sizeLine ∧ 0 ≤ i ∧ i < 2 ^ 63 ∧ Q .non (upd H l (.lst (xs.take i.toNat ++ [y] ++ xs.drop i.toNat)))) muInsert := fun F G O ρ ts σ H Q d vs y d' i x xs hZ R e hv hx rv ho hQ => by
  unfold muInsert at ho
  split at ho
  · rename_i zs k z
    split at ho
    · rename_i hl
      cases ho
      obtain ⟨a, ws, ea, oa, ha, r⟩ := own_lst hx
      simp only [Reps, Rep] at rv
      obtain ⟨_, _, rfl, rfl, w, _, rfl, rw1, rfl⟩ := rv
      refine ⟨a, ws, k, w, ea, rfl, ha, ?_, hl.2.1, by have := hl.2.2; omega, ?_⟩
      · have := lenOk_le hl.1
        rw [← r.length]
        omega
      · exact hQ _ _ _ _ ((R.relist e hv ea oa (((r.take _).append (Reps.one rw1)).append (r.drop _))).pushF (by simp only [Rep]))
    · cases ho
  · cases ho
def muPop : PV → List PV → Option (PV × PV)
  | .lst true xs, [] => match xs[xs.length - 1]? with
    | some y => some (y, .lst true xs.dropLast)
    | none => none
  | _, _ => none
theorem Reps.dropLast {Z : Zt} {G : Hp} {ds : List PV} {xs : List V} (h : Reps Z G ds xs) : Reps Z G ds.dropLast xs.dropLast := by
  rw [List.dropLast_eq_take, List.dropLast_eq_take, ← h.length]
  exact h.take _
theorem mu_pop {Z : Zt} : MutS Z rPop muPop := fun F G O ρ ts σ H Q d vs y d' i x xs hZ R e hv hx rv ho hQ => by
  unfold muPop at ho
  split at ho
  · rename_i zs
    split at ho
    · rename_i y' hy
      cases ho
      obtain ⟨a, ws, ea, oa, ha, r⟩ := own_lst hx
      simp only [Reps] at rv
      subst rv
      obtain ⟨w, hw, rw1⟩ := r.get hy
      refine ⟨a, ws, w, ea, rfl, ha, by rw [← r.length]; exact hw, ?_⟩
      exact hQ _ _ _ _ ((R.relist e hv ea oa r.dropLast).pushF rw1)
    · cases ho
  · cases ho
def muPopAt : PV → List PV → Option (PV × PV)
  | .lst true xs, [.int k] => match ixN xs.length k with
    | some j => match xs[j]? with
      | some y => if -9223372036854775808 ≤ k ∧ k < 9223372036854775808 then some (y, .lst true (xs.eraseIdx j)) else none
      | none => none
    | none => none
  | _, _ => none
theorem Reps.eraseIdx {Z : Zt} {G : Hp} : ∀ {ds : List PV} {xs : List V} (n : Nat), Reps Z G ds xs → Reps Z G (ds.eraseIdx n) (xs.eraseIdx n)
  | [], _, _, h => by simp only [Reps] at h; subst h; simp only [List.eraseIdx_nil, Reps]
  | d :: ds, _, 0, h => by
    simp only [Reps] at h
    obtain ⟨v, r, rfl, _, h2⟩ := h
    simpa using h2
  | d :: ds, _, n + 1, h => by
    simp only [Reps] at h
    obtain ⟨v, r, rfl, h1, h2⟩ := h
    simp only [List.eraseIdx_cons_succ, Reps]
    exact ⟨v, _, rfl, h1, Reps.eraseIdx n h2⟩
theorem mu_popAt {Z : Zt} : MutS Z rPopAt muPopAt := fun F G O ρ ts σ H Q d vs y d' i x xs hZ R e hv hx rv ho hQ => by
  unfold muPopAt at ho
  split at ho
  · rename_i zs k
    split at ho
    · rename_i j hj
      split at ho
      · rename_i y' hy
        split at ho
        · rename_i hk
          cases ho
          obtain ⟨a, ws, ea, oa, ha, r⟩ := own_lst hx
          simp only [Reps, Rep] at rv
          obtain ⟨_, _, rfl, rfl, rfl⟩ := rv
          obtain ⟨w, hw, rw1⟩ := r.get hy
          refine ⟨a, ws, k, j, w, ea, rfl, ha, by have := hk.1; omega, by have := hk.2; omega, by rw [← r.length]; exact (ixN_seq hj).1, hw, ?_⟩
          exact hQ _ _ _ _ ((R.relist e hv ea oa (r.eraseIdx j)).pushF rw1)
        · cases ho
      · cases ho
    · cases ho
  · cases ho
/-- x.m(e, ..), x a slot that owns a list -/
theorem t_mut {T1 : String} {r : V → List V → Hp → VK → Prop} {op : PV → List PV → Option (PV × PV)} (hT : T1 = "list") (hl : ∀ d vs p, op d vs = some p → ∃ xs, d = .lst true xs) (hs : MutS (X.zt io) r op) {σ : St} {H : Hp} {Q : VK} (h : T (X.zt io) W (mCall op i ga) σ H Q)
    (hfirst : ∀ (F : Fr) G O (ρ : Sl) ts, Rel F G O ρ ts σ H → ∀ d v, ρ[i]? = some (some d) → d.own = true → RepO F G O H i d v → tyV X.K T1 v H) : tBM X.K T1 r (tVar i) (TAr (X.zt io) W ga) σ H Q := by
  obtain ⟨F, G, O, ρ, ts, hZ, R, P⟩ := h
  unfold mCall at P
  cases e : ρ[i]? with
  | none => rw [e] at P; exact P.elim
  | some o =>
    cases o with
    | none => rw [e] at P; exact P.elim
    | some d =>
      rw [e] at P
      simp only at P
      by_cases ho : d.own = true
      · rw [if_pos ho] at P
        obtain ⟨v, h1, h2⟩ := R.sl i d e
        refine ⟨v, h1, hfirst F G O ρ ts R d v e ho h2, ?_⟩
        refine ET.bindA (us := []) hZ (by simpa using R) P fun G1 O1 H1 ρ1 vs xs rr R1 P1 => ?_
        rw [List.append_nil] at R1
        have R2 : Rel F G1 O1 ρ1 ts σ H1 := R1.drop
        obtain ⟨d', v', e', h1', h2', P2⟩ := slot_get (i := i) (k := fun d => match op d vs with
          | some (y, d') => Res.ok y (ρ1.set i (some d'))
          | none => .bad) R2 P1
        rw [h1] at h1'
        cases h1'
        cases z : op d' vs with
        | none => simp only [z] at P2; exact P2.elim
        | some p =>
          obtain ⟨y, d2⟩ := p
          simp only [z] at P2
          exact hs F G1 O1 ρ1 ts σ H1 Q d' vs y d2 i v xs hZ R2 e' h1 h2' rr z fun G' O' H' w R' => P2 G' O' H' w R'
      · rw [if_neg ho] at P
        exact P.elim
end
end Wv

set_option Elab.async false
set_option linter.all false
set_option autoImplicit false
set_option maxRecDepth 100000
/-! WvK: methods that change an owned list, stores of items, x op= e. -/
namespace Wv
open PySem PySem.Spec PyProof.Rows L2

/-- op on an owned list, by frozen values -/
def mLst (op : PV → List PV → Option (PV × PV)) (i : Nat) (g : M (List PV)) : M PV := fun ρ => match ρ[i]? with
  | some (some (.lst true _)) => M.bind g (fun vs ρ' => match ρ'[i]? with
    | some (some d) => match op d vs with
      | some (y, d') => .ok y (ρ'.set i (some d'))
      | none => .bad
    | _ => .bad) ρ
  | _ => .bad
section
variable {X : Cx} {io : List Nat} {W : WX} {a b e : Expr} {es : List Expr} {f g u v : M PV} {ga : M (List PV)} {pos apos cpos px : Pos} {i : Nat} {x : Str}
theorem tyV_own {F : Fr} {G : Hp} {O : Own} {H : Hp} {xs : List PV} {w : V} {K : PySem.W.Frag} (h : RepO F G O H i (.lst true xs) w) : tyV K "list" w H := by
  obtain ⟨a, vs, rfl, _, ha, _⟩ := own_lst h
  exact .inl ⟨rfl, vs, .inl (.inl ha)⟩
theorem t_mutL {r : V → List V → Hp → VK → Prop} {op : PV → List PV → Option (PV × PV)} (hs : MutS (X.zt io) r op) {σ : St} {H : Hp} {Q : VK} (h : T (X.zt io) W (mLst op i ga) σ H Q) : tBM X.K "list" r (tVar i) (TAr (X.zt io) W ga) σ H Q := by
  obtain ⟨F, G, O, ρ, ts, hZ, R, P⟩ := h
  unfold mLst at P
  split at P
  · rename_i xs e
    obtain ⟨w, h1, h2⟩ := R.sl i _ e
    refine ⟨w, h1, tyV_own h2, ?_⟩
    refine ET.bindA (us := []) hZ (by simpa using R) P fun G1 O1 H1 ρ1 vs xs rr R1 P1 => ?_
    rw [List.append_nil] at R1
    have R2 : Rel F G1 O1 ρ1 ts σ H1 := R1.drop
    obtain ⟨d', v', e', h1', h2', P2⟩ := slot_get (i := i) (k := fun d => match op d vs with
      | some (y, d') => Res.ok y (ρ1.set i (some d'))
      | none => .bad) R2 P1
    rw [h1] at h1'
    cases h1'
    cases z : op d' vs with
    | none => simp only [z] at P2; exact P2.elim
    | some p =>
      obtain ⟨y, d2⟩ := p
      simp only [z] at P2
      exact hs F G1 O1 ρ1 ts σ H1 Q d' vs y d2 i w xs hZ R2 e' h1 h2' rr z fun G' O' H' w R' => P2 G' O' H' w R'
  · exact P.elim
theorem ej_mutL {r : V → List V → Hp → VK → Prop} {op : PV → List PV → Option (PV × PV)} {name : Str} {id : String} (slot : Slot "list" name id) (hty : typeOf (.builtin id) = pure (.type "method_descriptor")) (hm : MtR X id r) (hs : MutS (X.zt io) r op)
    (hN : X.N[i]? = some x) (hv : Vis X.env.scope x) (ha : AJ X io W (e :: es) ga)
    (hbase : attributeBase (.Name x px) name X.env (eval (.Name x px) X.env) = eval (.Name x px) X.env := by rfl)
    (hfew : ((backTo cpos (starEach (e :: es) X.env)).all (fun x => !x.1) && (backToKw cpos (keywordEach [] X.env)).all (fun x => x.1.isSome)
      && decide ((e :: es).length + ([] : List Keyword).length + (if ([] : List Keyword).isEmpty then 0 else 1) < 30)) = true := by rfl)
    (hline : (apos.endLine == cpos.line) = true := by rfl) (hst : starEach (e :: es) X.env = (false, eval e X.env) :: starEach es X.env := by rfl) (hplain : (backTo cpos (starEach es X.env)).any (·.1) = false := by rfl)
    (hd : (x == ("__debug__" : Str)) = false := by decide) (hcd : (x == ("__classdict__" : Str)) = false := by decide) :
    EJ X io W (.Call (.Attribute (.Name x px) name apos) (e :: es) [] cpos) (mLst op i ga) :=
  PE.imp (pe_bm PySem.F.plainAttrs_list slot hty hm (pe_var hN hv hd hcd) ha hbase hfew hline hst hplain) fun σ H Q h => t_mutL hs h
theorem ej_mutL0 {r : V → List V → Hp → VK → Prop} {op : PV → List PV → Option (PV × PV)} {name : Str} {id : String} (slot : Slot "list" name id) (hty : typeOf (.builtin id) = pure (.type "method_descriptor")) (hm : MtR X id r) (hs : MutS (X.zt io) r op)
    (hN : X.N[i]? = some x) (hv : Vis X.env.scope x)
    (hbase : attributeBase (.Name x px) name X.env (eval (.Name x px) X.env) = eval (.Name x px) X.env := by rfl) (hline : (apos.endLine == cpos.line) = true := by rfl)
    (hd : (x == ("__debug__" : Str)) = false := by decide) (hcd : (x == ("__classdict__" : Str)) = false := by decide) :
    EJ X io W (.Call (.Attribute (.Name x px) name apos) [] [] cpos) (mLst op i aNil) := by
  refine PE.imp (pe_bm0 PySem.F.plainAttrs_list slot hty hm (pe_var hN hv hd hcd) hbase hline) fun σ H Q h => ?_
  obtain ⟨w, h1, ty, F, G, O, ρ, ts, hZ, R, P⟩ := t_mutL hs h
  exact ⟨w, h1, ty, P G O H [] (by simp only [Reps]) (by simpa using R)⟩
theorem ej_append (hN : X.N[i]? = some x) (hv : Vis X.env.scope x) (ha : EJ X io W e u)
    (hbase : attributeBase (.Name x px) "append" X.env (eval (.Name x px) X.env) = eval (.Name x px) X.env := by rfl)
    (hfew : ((backTo cpos (starEach [e] X.env)).all (fun x => !x.1) && (backToKw cpos (keywordEach [] X.env)).all (fun x => x.1.isSome)
      && decide (([e] : List Expr).length + ([] : List Keyword).length + (if ([] : List Keyword).isEmpty then 0 else 1) < 30)) = true := by rfl)
    (hline : (apos.endLine == cpos.line) = true := by rfl) (hst : starEach [e] X.env = (false, eval e X.env) :: starEach [] X.env := by rfl) (hplain : (backTo cpos (starEach [] X.env)).any (·.1) = false := by rfl)
    (hd : (x == ("__debug__" : Str)) = false := by decide) (hcd : (x == ("__classdict__" : Str)) = false := by decide) :
    EJ X io W (.Call (.Attribute (.Name x px) "append" apos) [e] [] cpos) (mLst muAppend i (aCons u aNil)) :=
  ej_mutL PySem.F.slot_list_append PySem.F.type_list_append mt_append mu_append hN hv (aj_cons ha aj_nil hst) hbase hfew hline hst hplain hd hcd
theorem ej_extend (hN : X.N[i]? = some x) (hv : Vis X.env.scope x) (ha : EJ X io W e u)
    (hbase : attributeBase (.Name x px) "extend" X.env (eval (.Name x px) X.env) = eval (.Name x px) X.env := by rfl)
    (hfew : ((backTo cpos (starEach [e] X.env)).all (fun x => !x.1) && (backToKw cpos (keywordEach [] X.env)).all (fun x => x.1.isSome)
      && decide (([e] : List Expr).length + ([] : List Keyword).length + (if ([] : List Keyword).isEmpty then 0 else 1) < 30)) = true := by rfl)
    (hline : (apos.endLine == cpos.line) = true := by rfl) (hst : starEach [e] X.env = (false, eval e X.env) :: starEach [] X.env := by rfl) (hplain : (backTo cpos (starEach [] X.env)).any (·.1) = false := by rfl)
    (hd : (x == ("__debug__" : Str)) = false := by decide) (hcd : (x == ("__classdict__" : Str)) = false := by decide) :
    EJ X io W (.Call (.Attribute (.Name x px) "extend" apos) [e] [] cpos) (mLst muExtend i (aCons u aNil)) :=
  ej_mutL PySem.F.slot_list_extend PySem.F.type_list_extend mtw_extend mu_extend hN hv (aj_cons ha aj_nil hst) hbase hfew hline hst hplain hd hcd
theorem ej_insert (hN : X.N[i]? = some x) (hv : Vis X.env.scope x) (ha : AJ X io W [a, e] ga)
    (hbase : attributeBase (.Name x px) "insert" X.env (eval (.Name x px) X.env) = eval (.Name x px) X.env := by rfl)
    (hfew : ((backTo cpos (starEach [a, e] X.env)).all (fun x => !x.1) && (backToKw cpos (keywordEach [] X.env)).all (fun x => x.1.isSome)
      && decide (([a, e] : List Expr).length + ([] : List Keyword).length + (if ([] : List Keyword).isEmpty then 0 else 1) < 30)) = true := by rfl)
    (hline : (apos.endLine == cpos.line) = true := by rfl) (hst : starEach [a, e] X.env = (false, eval a X.env) :: starEach [e] X.env := by rfl) (hplain : (backTo cpos (starEach [e] X.env)).any (·.1) = false := by rfl)
    (hd : (x == ("__debug__" : Str)) = false := by decide) (hcd : (x == ("__classdict__" : Str)) = false := by decide) :
    EJ X io W (.Call (.Attribute (.Name x px) "insert" apos) [a, e] [] cpos) (mLst muInsert i ga) :=
  ej_mutL PySem.F.slot_list_insert PySem.F.type_list_insert mt_insert mu_insert hN hv ha hbase hfew hline hst hplain hd hcd
theorem ej_pop (hN : X.N[i]? = some x) (hv : Vis X.env.scope x)
    (hbase : attributeBase (.Name x px) "pop" X.env (eval (.Name x px) X.env) = eval (.Name x px) X.env := by rfl) (hline : (apos.endLine == cpos.line) = true := by rfl)
    (hd : (x == ("__debug__" : Str)) = false := by decide) (hcd : (x == ("__classdict__" : Str)) = false := by decide) :
    EJ X io W (.Call (.Attribute (.Name x px) "pop" apos) [] [] cpos) (mLst muPop i aNil) :=
  ej_mutL0 PySem.F.slot_list_pop PySem.F.type_list_pop mt_pop mu_pop hN hv hbase hline hd hcd
theorem ej_popAt (hN : X.N[i]? = some x) (hv : Vis X.env.scope x) (ha : EJ X io W e u)
    (hbase : attributeBase (.Name x px) "pop" X.env (eval (.Name x px) X.env) = eval (.Name x px) X.env := by rfl)
    (hfew : ((backTo cpos (starEach [e] X.env)).all (fun x => !x.1) && (backToKw cpos (keywordEach [] X.env)).all (fun x => x.1.isSome)
      && decide (([e] : List Expr).length + ([] : List Keyword).length + (if ([] : List Keyword).isEmpty then 0 else 1) < 30)) = true := by rfl)
    (hline : (apos.endLine == cpos.line) = true := by rfl) (hst : starEach [e] X.env = (false, eval e X.env) :: starEach [] X.env := by rfl) (hplain : (backTo cpos (starEach [] X.env)).any (·.1) = false := by rfl)
    (hd : (x == ("__debug__" : Str)) = false := by decide) (hcd : (x == ("__classdict__" : Str)) = false := by decide) :
    EJ X io W (.Call (.Attribute (.Name x px) "pop" apos) [e] [] cpos) (mLst muPopAt i (aCons u aNil)) :=
  ej_mutL PySem.F.slot_list_pop PySem.F.type_list_pop mt_popAt mu_popAt hN hv (aj_cons ha aj_nil hst) hbase hfew hline hst hplain hd hcd

/-! ### x[k] = e -/
def setItemL (d k w : PV) : Option PV := match d, k with
  | .lst true xs, .int n => (ixN xs.length n).map fun j => .lst true (xs.set j w)
  | _, _ => none
def sStI (u : M PV) (i : Nat) (v : M PV) : SM := sE (M.bind u frzM) fun w ρ1 => match ρ1[i]? with
  | some (some _) => sE v (fun k ρ => match ρ[i]? with
    | some (some d) => match setItemL d k w with
      | some d' => .nx (ρ.set i (some d'))
      | none => .bad
    | _ => .bad) ρ1
  | _ => .bad
theorem ST.bindF {F : Fr} {G : Hp} {O : Own} {ρ : Sl} {ts : List (PV × V)} {σ : St} {H : Hp} {D : Ends} {Q1 : VK} {k : PV → SM} (hZ : F.Z = (X.zt io)) (R : Rel F G O ρ ts σ H) (P : PostS W F ts D (sE (M.bind u frzM) k ρ))
    (h : ∀ G1 O1 H1 ρ1 w x, Rel F G1 O1 ρ1 (ts ++ [(w, x)]) σ H1 → Rep F.Z G1 w x → PostS W F ts D (k w ρ1) → Q1 x H1) : T (X.zt io) W u σ H Q1 := by
  refine ⟨F, G, O, ρ, ts, hZ, R, ?_⟩
  unfold sE M.bind at P
  cases e : u ρ with
  | bad => rw [e] at P; exact P
  | exc C fs ρ' => rw [e] at P; exact P σ
  | ok w ρ' =>
    rw [e] at P
    simp only at P
    intro G' O' H' x R'
    by_cases c : w.calm = true
    · have e2 : frzM w ρ' = .ok w.frz ρ' := by unfold frzM; rw [if_pos c]; rfl
      rw [e2] at P
      obtain ⟨R2, q⟩ := R'.frzTop c
      exact h _ _ _ _ _ _ R2 q P
    · have e2 : frzM w ρ' = .bad := by unfold frzM; rw [if_neg c]; rfl
      rw [e2] at P
      exact P.elim
theorem Rel.retop {F : Fr} {G : Hp} {O : Own} {ρ : Sl} {ts : List (PV × V)} {σ : St} {H : Hp} {w : PV} {y : V} {p : PV × V} (f : w.own = false) (e : w.isE = false) (R : Rel F G O ρ (ts ++ [(w, y)] ++ [p]) σ H) : Rep F.Z G w y := by
  have := R.pop.top
  exact repO_rep this f e
theorem sj_setI (hN : X.N[i]? = some x) (hv : Vis X.env.scope x) (he : EJ X io W e u) (hk : EJ X io W a v)
    (ha : ∀ v, assign (.Subscript (.Name x px) a apos) X.env v = (do
      let ov ← holding [v] (eval (.Name x px) X.env)
      let iv ← holding [v, ov] (eval a X.env)
      standAt apos
      holding [v, ov, iv] (setItem ov iv v)
      release [v, ov, iv] []) := by intro _; rfl)
    (hs : swapsWithSole [.Subscript (.Name x px) a apos] e pos.line X.env = pure false := by rfl) (hw : swappedStores [.Subscript (.Name x px) a apos] e X.env = pure none := by rfl)
    (h1 : (assignEach [.Subscript (.Name x px) a apos] X.env).map (·.2) = [assign (.Subscript (.Name x px) a apos) X.env] := by rfl)
    (hd : (x == ("__debug__" : Str)) = false := by decide) (hcd : (x == ("__classdict__" : Str)) = false := by decide) :
    SJ X io W (.Assign [.Subscript (.Name x px) a apos] e pos) (sStI u i v) := by
  refine PS.imp (ps_asg he (pg_sub (pe_var hN hv hd hcd) hk set_list ha) hs hw h1) ?_
  rintro D σ H ⟨F, G, O, ρ, ts, hZ, R, P⟩
  refine ST.bindF hZ R P fun G1 O1 H1 ρ1 w y R1 rw1 P1 => ?_
  obtain ⟨ff, fe⟩ := rep_free rw1
  split at P1
  · rename_i d0 e0
    obtain ⟨z, hz, _⟩ := R1.sl i _ e0
    refine ⟨z, hz, ?_⟩
    refine ST.bindU (us := [(w, y)]) hZ R1 P1 fun G2 O2 H2 ρ2 k yk R2 P2 => ?_
    have hw2 := R2.retop ff fe
    have hk2 := R2.top
    have R3 : Rel F G2 O2 ρ2 ts σ H2 := R2.pop.pop
    split at P2
    · rename_i d e2
      cases q : setItemL d k w with
      | none => rw [q] at P2; exact P2.elim
      | some d' =>
        rw [q] at P2
        obtain ⟨v', hv', h2'⟩ := R3.sl i _ e2
        rw [hz] at hv'
        cases hv'
        unfold setItemL at q
        split at q
        · rename_i xs n
          simp only [Option.map_eq_some_iff] at q
          obtain ⟨j, hj, rfl⟩ := q
          obtain ⟨p, vs, rfl, oa, ha', r⟩ := own_lst h2'
          obtain rfl := repO_int hk2
          exact ⟨p, vs, n, j, rfl, rfl, ha', by rw [← r.length]; exact hj, P2 _ _ _ _ (R3.relist e2 hz rfl oa (Reps.set hw2 j r))⟩
        · cases q
    · exact P2.elim
  · exact P1.elim
end
end Wv

set_option Elab.async false
set_option linter.all false
set_option autoImplicit false
set_option maxRecDepth 100000
/-! WvL: calls of built-in functions. -/
namespace Wv
open PySem PySem.Spec PyProof.Rows L2

abbrev CR := List V → Hp → VK → Prop
section
variable {X : Cx} {io : List Nat} {W : WX} {a b e : Expr} {f g u v : M PV} {pos p px : Pos} {i : Nat} {x n : Str} {id : String} {r : CR} {op : PV → M PV} {op2 : PV → PV → M PV}
/-- f(e), a built-in function -/
theorem ej_b1 (hc : CallR X (.builtin id) r) (hs : UnS (X.zt io) W (fun x H Q => r [x] H Q) op) (hg : Gl X n) (hm : X.mg n = none) (hv : bootBuiltins n = some (.builtin id)) (ha : EJ X io W e f) (hn : n ≠ "__name__" := by decide) (hdb : (n == ("__debug__" : Str)) = false := by decide)
    (he : starEach [e] X.env = (false, eval e X.env) :: starEach [] X.env := by rfl) (hpl : (backTo pos (starEach [] X.env)).any (·.1) = false := by rfl) : EJ X io W (.Call (.Name n p) [e] [] pos) (eUn op f) :=
  PE.imp (pe_callB hc hg hm hv (pa_cons ha pa_nil he) hn hdb he hpl) fun σ H Q h => t_un hs σ H Q h
theorem ej_t1 (hc : CallR X (.type id) r) (hs : UnS (X.zt io) W (fun x H Q => r [x] H Q) op) (hg : Gl X n) (hm : X.mg n = none) (hv : bootBuiltins n = some (.type id)) (ha : EJ X io W e f) (hn : n ≠ "__name__" := by decide) (hdb : (n == ("__debug__" : Str)) = false := by decide)
    (he : starEach [e] X.env = (false, eval e X.env) :: starEach [] X.env := by rfl) (hpl : (backTo pos (starEach [] X.env)).any (·.1) = false := by rfl) : EJ X io W (.Call (.Name n p) [e] [] pos) (eUn op f) :=
  PE.imp (pe_callTy hc hg hm hv (pa_cons ha pa_nil he) hn hdb he hpl) fun σ H Q h => t_un hs σ H Q h
/-- f(x), x a name: looked at, not taken -/
theorem ej_b1v (hc : CallR X (.builtin id) r) (hs : UnS (X.zt io) W (fun x H Q => r [x] H Q) op) (hg : Gl X n) (hm : X.mg n = none) (hv : bootBuiltins n = some (.builtin id)) (hN : X.N[i]? = some x) (hvi : Vis X.env.scope x) (hn : n ≠ "__name__" := by decide) (hdb : (n == ("__debug__" : Str)) = false := by decide)
    (he : starEach [.Name x px] X.env = (false, eval (.Name x px) X.env) :: starEach [] X.env := by rfl) (hpl : (backTo pos (starEach [] X.env)).any (·.1) = false := by rfl)
    (hd : (x == ("__debug__" : Str)) = false := by decide) (hcd : (x == ("__classdict__" : Str)) = false := by decide) : EJ X io W (.Call (.Name n p) [.Name x px] [] pos) (eUnB op i) :=
  PE.imp (pe_callB hc hg hm hv (pa_cons (pe_var hN hvi hd hcd) pa_nil he) hn hdb he hpl) fun σ H Q h => t_unB hs h
theorem ej_t1v (hc : CallR X (.type id) r) (hs : UnS (X.zt io) W (fun x H Q => r [x] H Q) op) (hg : Gl X n) (hm : X.mg n = none) (hv : bootBuiltins n = some (.type id)) (hN : X.N[i]? = some x) (hvi : Vis X.env.scope x) (hn : n ≠ "__name__" := by decide) (hdb : (n == ("__debug__" : Str)) = false := by decide)
    (he : starEach [.Name x px] X.env = (false, eval (.Name x px) X.env) :: starEach [] X.env := by rfl) (hpl : (backTo pos (starEach [] X.env)).any (·.1) = false := by rfl)
    (hd : (x == ("__debug__" : Str)) = false := by decide) (hcd : (x == ("__classdict__" : Str)) = false := by decide) : EJ X io W (.Call (.Name n p) [.Name x px] [] pos) (eUnB op i) :=
  PE.imp (pe_callTy hc hg hm hv (pa_cons (pe_var hN hvi hd hcd) pa_nil he) hn hdb he hpl) fun σ H Q h => t_unB hs h
/-- f(a, b) -/
theorem ej_b2 (hc : CallR X (.builtin id) r) (hs : OpS (X.zt io) W (fun x y H Q => r [x, y] H Q) op2) (hg : Gl X n) (hm : X.mg n = none) (hv : bootBuiltins n = some (.builtin id)) (ha : EJ X io W a f) (hb : EJ X io W b g) (hn : n ≠ "__name__" := by decide) (hdb : (n == ("__debug__" : Str)) = false := by decide)
    (he : starEach [a, b] X.env = (false, eval a X.env) :: starEach [b] X.env := by rfl) (he2 : starEach [b] X.env = (false, eval b X.env) :: starEach [] X.env := by rfl) (hpl : (backTo pos (starEach [b] X.env)).any (·.1) = false := by rfl) :
    EJ X io W (.Call (.Name n p) [a, b] [] pos) (eBin op2 f g) :=
  PE.imp (pe_callB hc hg hm hv (pa_cons ha (pa_cons hb pa_nil he2) he) hn hdb he hpl) fun σ H Q h => t_op (r := fun x y H Q => r [x, y] H Q) hs σ H Q h
end

/-! ### what they do -/
section
variable {X : Cx} {Z : Zt} {W : WX}
def PV.len : PV → Option Nat
  | .str s => some s.length
  | .tup xs => some xs.length
  | .lst _ xs => some xs.length
  | _ => none
def opLen (d : PV) : M PV := M.bind (ofO d.len) fun n => M.ret (.int n)
abbrev rLen (K : PySem.W.Frag) : CR := fun xs H Q => (∃ p ys, xs = [.ref p] ∧ (SqL K H p ys ∨ SqT K H p ys) ∧ Q (.int ys.length) H) ∨ (∃ z, xs = [.str z] ∧ z.length ≤ sizeLine ∧ Q (.int z.length) H)
theorem cr_lenA : CallR X (.builtin "len") (rLen X.K) := CallR.or call_len_seq call_len_str
theorem us_len : UnS Z W (fun x H Q => rLen Z.K [x] H Q) opLen := fun F G O ρ ts σ H Q dx x k hZ R hx P => by
  unfold opLen at P
  cases dx with
  | str s =>
    obtain ⟨rfl, o⟩ := repO_str hx
    exact .inr ⟨s, rfl, sOk_len o, PostE.val R (v := .int s.length) P (by simp only [Rep])⟩
  | tup xs =>
    obtain ⟨a, vs, rfl, q, r⟩ := repO_tup R.gh hx
    rw [hZ] at q
    refine .inl ⟨a, vs, rfl, .inr q, ?_⟩
    rw [← r.length]
    exact PostE.val R (v := .int xs.length) P (by simp only [Rep])
  | lst o xs =>
    obtain ⟨a, vs, rfl, q, r⟩ := repO_lst R.gh hx
    rw [hZ] at q
    refine .inl ⟨a, vs, rfl, .inl q, ?_⟩
    rw [← r.length]
    exact PostE.val R (v := .int xs.length) P (by simp only [Rep])
  | _ => exact P.elim
def opAbs : PV → M PV
  | .int i => M.ret (.int (if i < 0 then -i else i))
  | _ => bad
abbrev rAbs : CR := fun xs H Q => ∃ i, xs = [.int i] ∧ Q (.int (if i < 0 then -i else i)) H
theorem us_abs : UnS Z W (fun x H Q => rAbs [x] H Q) opAbs := fun F G O ρ ts σ H Q dx x k hZ R hx P => by
  unfold opAbs at P
  split at P
  · exact ⟨_, by rw [repO_int hx], P.val R (by simp only [Rep])⟩
  · exact P.elim
def opInt : PV → M PV
  | .int i => M.ret (.int i)
  | .bl b => M.ret (.int (if b then 1 else 0))
  | _ => bad
abbrev rInt1 : CR := fun xs H Q => (∃ i, xs = [.int i] ∧ Q (.int i) H) ∨ ∃ k, xs = [.bl k] ∧ Q (.int (if k then 1 else 0)) H
theorem us_int : UnS Z W (fun x H Q => rInt1 [x] H Q) opInt := fun F G O ρ ts σ H Q dx x k hZ R hx P => by
  unfold opInt at P
  split at P
  · exact .inl ⟨_, by rw [repO_int hx], P.val R (by simp only [Rep])⟩
  · exact .inr ⟨_, by rw [repO_bl hx], P.val R (by simp only [Rep])⟩
  · exact P.elim
def opMax : PV → PV → M PV
  | .int i, .int j => M.ret (.int (if j > i then j else i))
  | _, _ => bad
def opMin : PV → PV → M PV
  | .int i, .int j => M.ret (.int (if j < i then j else i))
  | _, _ => bad
abbrev rMax2 : CR := fun xs H Q => ∃ i j, xs = [.int i, .int j] ∧ Q (.int (if j > i then j else i)) H
abbrev rMin2 : CR := fun xs H Q => ∃ i j, xs = [.int i, .int j] ∧ Q (.int (if j < i then j else i)) H
theorem os_max : OpS Z W (fun x y H Q => rMax2 [x, y] H Q) opMax := fun F G O ρ ts σ H Q dx dy x y k l hZ R hx hy P => by
  unfold opMax at P
  split at P
  · exact ⟨_, _, by rw [repO_int hx, repO_int hy], P.val R (by simp only [Rep])⟩
  · exact P.elim
theorem os_min : OpS Z W (fun x y H Q => rMin2 [x, y] H Q) opMin := fun F G O ρ ts σ H Q dx dy x y k l hZ R hx hy P => by
  unfold opMin at P
  split at P
  · exact ⟨_, _, by rw [repO_int hx, repO_int hy], P.val R (by simp only [Rep])⟩
  · exact P.elim
/-- digits -/
def intS (i : Int) : Str := Str.ofString (toString i)
theorem strOk_of {l : Array Nat} (h : ∀ c ∈ l.toList, c < 0x110000) : (l.all fun c => decide (c < 0x110000)) = true := by
  rw [← Array.all_toList, List.all_eq_true]
  exact fun c hc => decide_eq_true (h c hc)
theorem ofString_ok (z : String) : PyData.strOk (Str.ofString z) = true := by
  show ((Str.ofString z).cps.all fun c => decide (c < 0x110000)) = true
  refine strOk_of fun c hc => ?_
  rw [Str.ofString_eq_toList] at hc
  simp only [List.mem_map] at hc
  obtain ⟨k, hk, rfl⟩ := hc
  have := k.valid
  unfold UInt32.isValidChar Nat.isValidChar at this
  show k.val.toNat < 0x110000
  omega
def opStr : PV → M PV
  | .int i => if i.natAbs.log2 < 1920 then M.ret (.str (intS i)) else bad
  | .str s => M.ret (.str s)
  | _ => bad
abbrev rStr1 : CR := fun xs H Q => (∃ i, xs = [.int i] ∧ i.natAbs.log2 < 1920 ∧ Q (.str (toString i)) H) ∨ ∃ a, xs = [.str a] ∧ Q (.str a) H
theorem cr_str1 : CallR X (.type "str") rStr1 := CallR.or call_str_int SkE.call_str_str
theorem intS_ok {i : Int} (h : i.natAbs.log2 < 1920) : sOk (intS i) = true := sOk_of (ofString_ok _) (int_text_fits h)
theorem us_str : UnS Z W (fun x H Q => rStr1 [x] H Q) opStr := fun F G O ρ ts σ H Q dx x k hZ R hx P => by
  unfold opStr at P
  split at P
  · split at P
    · rename_i i hi
      exact .inl ⟨i, by rw [repO_int hx], hi, PostE.val R (v := .str (intS i)) P (by simp only [Rep]; exact ⟨rfl, intS_ok hi⟩)⟩
    · exact P.elim
  · obtain ⟨rfl, o⟩ := repO_str hx
    exact .inr ⟨_, rfl, P.val R (by simp only [Rep]; exact ⟨trivial, o⟩)⟩
  · exact P.elim
/-- the text of plain data -/
def opRepr (d : PV) : M PV := match d.data with
  | some p => if p.depth ≤ 60 ∧ p.showable = true ∧ sOk p.shown = true then M.ret (.str p.shown) else bad
  | none => bad
mutual
theorem noDict_of : ∀ (d : PV) (p : PyData), d.data = some p → p.hasDict = false
  | .non, p, e => by cases (show some PyData.none = some p from e); rfl
  | .bl b, p, e => by cases (show some (PyData.bool b) = some p from e); rfl
  | .int i, p, e => by cases (show some (PyData.int i) = some p from e); rfl
  | .str s, p, e => by cases (show some (PyData.str s) = some p from e); rfl
  | .tup xs, p, e => by
    simp only [PV.data, Option.map_eq_some_iff] at e
    obtain ⟨ds, e, rfl⟩ := e
    simpa [PyData.hasDict] using noDicts_of xs ds e
  | .lst o xs, p, e => by
    simp only [PV.data, Option.map_eq_some_iff] at e
    obtain ⟨ds, e, rfl⟩ := e
    simpa [PyData.hasDict] using noDicts_of xs ds e
  | .dct _ _, p, e => by simp only [PV.data] at e; cases e
  | .obj _ _ _, p, e => by simp only [PV.data] at e; cases e
  | .exc _ _, p, e => by simp only [PV.data] at e; cases e
theorem noDicts_of : ∀ (ds : List PV) (ps : List PyData), PV.datas ds = some ps → PyData.hasDictAll ps = false
  | [], ps, e => by
    simp only [PV.datas, Option.some.injEq] at e
    subst e
    rfl
  | d :: ds, ps, e => by
    simp only [PV.datas, Option.bind_eq_some_iff, Option.map_eq_some_iff] at e
    obtain ⟨p, e1, q, e2, rfl⟩ := e
    simp [PyData.hasDictAll, noDict_of d p e1, noDicts_of ds q e2]
end
def rRepr (K : PySem.W.Frag) : CR := fun xs H Q => ∃ x d, xs = [x] ∧ Dp K H x d ∧ d.depth ≤ 60 ∧ d.showable = true ∧ d.hasDict = false ∧ d.shown.length ≤ sizeLine ∧ Q (.str d.shown) H
theorem cr_repr (hg : X.A.guards = some []) (hu : X.A.units + 65 < cLine) : CallR X (.builtin "repr") (rRepr X.K) := by
  intro pins s σ H xs us Q I r h
  obtain ⟨x, d, rfl, hd, dp, sh, nd, hz, q⟩ := h
  obtain ⟨u, rfl, rx⟩ := vals1 r
  obtain ⟨as, rd⟩ := Dp.reads I d x u hd rx
  cases hd with
  | non => cases rx; exact PySem.P.repr_of_none ⟨.str _, H, I.tok _, ⟨_, rfl⟩, q⟩
  | bl b => cases rx; exact PySem.P.repr_of_bool ⟨.str _, H, I.tok _, ⟨_, rfl⟩, q⟩
  | int i =>
    obtain ⟨t, rfl⟩ := rx
    exact PySem.P.repr_of_int (by simpa [PyData.showable] using sh) ⟨.str _, H, I.tok _, ⟨_, rfl⟩, q⟩
  | str z =>
    obtain ⟨t, rfl⟩ := rx
    exact PySem.P.repr_of_str ⟨.str _, H, I.tok _, ⟨_, rfl⟩, q⟩ hz
  | lst h1 h2 =>
    cases rx
    exact repr_of_reads' rd sh (fun z => by rw [nd] at z; cases z) hg (by omega) (fun b o e => e) (fun h' u tk hk => ⟨.str _, H, I.kept hk, ⟨_, rfl⟩, q⟩) hz
  | tup h1 h2 =>
    cases rx
    exact repr_of_reads' rd sh (fun z => by rw [nd] at z; cases z) hg (by omega) (fun b o e => e) (fun h' u tk hk => ⟨.str _, H, I.kept hk, ⟨_, rfl⟩, q⟩) hz
theorem us_repr : UnS Z W (fun x H Q => rRepr Z.K [x] H Q) opRepr := fun F G O ρ ts σ H Q dx x k hZ R hx P => by
  unfold opRepr at P
  cases e : dx.data with
  | none => rw [e] at P; exact P.elim
  | some p =>
    rw [e] at P
    simp only at P
    split at P
    · rename_i h
      obtain ⟨d1, c1⟩ := repO_data R.gh hx e
      rw [hZ] at d1
      exact ⟨x, p, rfl, d1, h.1, h.2.1, noDict_of dx p e, sOk_len h.2.2, P.val R (by simp only [Rep]; exact ⟨trivial, h.2.2⟩)⟩
    · exact P.elim
end
end Wv

set_option Elab.async false
set_option linter.all false
set_option autoImplicit false
set_option maxRecDepth 100000
/-! WvM: what is walked; for. -/
namespace Wv
open PySem PySem.Spec PyProof.Rows L2

def midO (O : Own) (k l : Nat) : Own := fun a => match O a with
  | some (n, j) => if n = l then some (k, j) else if n < k then some (n, j) else none
  | none => none
theorem midO_top {O : Own} {k l j : Nat} {a : Addr} (h : O a = some (l, j)) : midO O k l a = some (k, j) := by simp [midO, h]
theorem midO_lt {O : Own} {k l n j : Nat} {a : Addr} (h : O a = some (n, j)) (h1 : n < k) (h2 : n ≠ l) : midO O k l a = some (n, j) := by simp [midO, h, h1, h2]
theorem midO_of {O : Own} {k l : Nat} {a : Addr} {t : Tag} (h : midO O k l a = some t) : ∃ t', O a = some t' := by
  unfold midO at h
  cases e : O a with
  | none => rw [e] at h; cases h
  | some p => exact ⟨p, rfl⟩
theorem Rel.mid {F : Fr} {G : Hp} {O : Own} {ρ : Sl} {ts us : List (PV × V)} {σ : St} {H : Hp} {p : PV × V} (R : Rel F G O ρ (ts ++ us ++ [p]) σ H) : ∃ O', Rel F G O' ρ (ts ++ [p]) σ H := by
  refine ⟨midO O (ρ.length + ts.length) (ρ.length + (ts ++ us).length), R.len, R.gh, R.g0, fun a t e => ?_, R.frm, fun i d e => ?_, fun j q e => ?_, R.io, R.gn⟩
  · obtain ⟨t', e'⟩ := midO_of e
    exact R.own a t' e'
  · obtain ⟨v, h1, h2⟩ := R.sl i d e
    have := get_lt e
    exact ⟨v, h1, h2.mono (Sub.refl G) fun a o j e q => ⟨midO_lt e (by omega) (by rw [List.length_append]; omega), q⟩⟩
  · rcases get_snoc e with ⟨l, e⟩ | ⟨rfl, rfl⟩
    · have r := R.drop.drop.tp j q e
      exact r.mono (Sub.refl G) fun a o j e q => ⟨midO_lt e (by omega) (by rw [List.length_append]; omega), q⟩
    · have r := R.top (d := q.1) (x := q.2)
      exact r.mono (Sub.refl G) fun a o j e q => ⟨midO_top e, q⟩

/-- the frame from here on -/
def Fr.at (F : Fr) (G : Hp) : Fr := ⟨F.Z, F.H0, F.O0, G, F.vs0, F.xc⟩
theorem RepL.at {F : Fr} {G0 G : Hp} {O : Own} {H : Hp} {t : Tag} {d : PV} {x : V} : RepL (F.at G0) G O H t d x ↔ RepL F G O H t d x := by
  cases d with
  | lst o xs => cases o <;> exact Iff.rfl
  | dct o kvs => cases o <;> exact Iff.rfl
  | _ => exact Iff.rfl
theorem RepOF.at {F : Fr} {G0 G : Hp} {O : Own} {H : Hp} {k : Nat} : ∀ {fs : List (Str × PV)} {j : Nat} {xs : List (Str × V)}, RepOF (F.at G0) G O H k j fs xs ↔ RepOF F G O H k j fs xs
  | [], _, _ => Iff.rfl
  | (f, d) :: fs, j, xs => by
    constructor
    · rintro ⟨v, r, e, h1, h2⟩
      exact ⟨v, r, e, RepL.at.mp h1, RepOF.at.mp h2⟩
    · rintro ⟨v, r, e, h1, h2⟩
      exact ⟨v, r, e, RepL.at.mpr h1, RepOF.at.mpr h2⟩
theorem RepO.at {F : Fr} {G0 G : Hp} {O : Own} {H : Hp} {k : Nat} {d : PV} {x : V} : RepO (F.at G0) G O H k d x ↔ RepO F G O H k d x := by
  cases d with
  | obj o C fs =>
    cases o with
    | true =>
      constructor
      · rintro ⟨a, dx, vfs, e, h1, h2, h3⟩
        exact ⟨a, dx, vfs, e, h1, h2, RepOF.at.mp h3⟩
      · rintro ⟨a, dx, vfs, e, h1, h2, h3⟩
        exact ⟨a, dx, vfs, e, h1, h2, RepOF.at.mpr h3⟩
    | false => exact Iff.rfl
  | lst o xs => cases o <;> exact Iff.rfl
  | dct o kvs => cases o <;> exact Iff.rfl
  | _ => exact Iff.rfl
theorem Rel.at {F : Fr} {G : Hp} {O : Own} {ρ : Sl} {ts : List (PV × V)} {σ : St} {H : Hp} (R : Rel F G O ρ ts σ H) : Rel (F.at G) G O ρ ts σ H :=
  ⟨R.len, R.gh, Sub.refl G, R.own, R.frm, fun i d e => let ⟨v, h1, h2⟩ := R.sl i d e; ⟨v, h1, RepO.at.mpr h2⟩, fun j p e => RepO.at.mpr (R.tp j p e), R.io, fun _ _ e => .inl e⟩
theorem Rel.unat {F : Fr} {G G1 : Hp} {O O1 : Own} {ρ ρ1 : Sl} {ts ts1 : List (PV × V)} {σ σ1 : St} {H H1 : Hp} (R1 : Rel F G1 O1 ρ1 ts1 σ1 H1) (R : Rel (F.at G1) G O ρ ts σ H) : Rel F G O ρ ts σ H :=
  ⟨R.len, R.gh, fun a o e => R.g0 a o (R1.g0 a o e), R.own, R.frm, fun i d e => let ⟨v, h1, h2⟩ := R.sl i d e; ⟨v, h1, RepO.at.mp h2⟩, fun j p e => RepO.at.mp (R.tp j p e), R.io, fun a o e => by
    rcases R.gn a o e with q | q
    · exact R1.gn a o q
    · exact .inr q⟩
theorem ExcQ.at {Z : Zt} {W : WX} {F : Fr} {G1 H1 : Hp} {O1 : Own} {ρ1 : Sl} {ts1 ts : List (PV × V)} {σ1 σ : St} (R1 : Rel F G1 O1 ρ1 ts1 σ1 H1) {C : Str} {fs : List (Str × PV)} {ρ' : Sl} (P : ExcQ Z W F ts σ C fs ρ') : ExcQ Z W (F.at G1) ts σ C fs ρ' :=
  fun G' O' H' cls d R e => P G' O' H' cls d (R1.unat R) e
theorem PostS.at {W : WX} {F : Fr} {G1 H1 : Hp} {O1 : Own} {ρ1 : Sl} {ts1 ts : List (PV × V)} {σ1 : St} (R1 : Rel F G1 O1 ρ1 ts1 σ1 H1) {D : Ends} : ∀ {o : Out}, PostS W F ts D o → PostS W (F.at G1) ts D o
  | .nx _, P => fun _ _ _ _ R => P _ _ _ _ (R1.unat R)
  | .rt _ _, P => fun _ _ _ _ _ R => P _ _ _ _ _ (R1.unat R)
  | .bk _, P => fun _ _ _ _ R => P _ _ _ _ (R1.unat R)
  | .ct _, P => fun _ _ _ _ R => P _ _ _ _ (R1.unat R)
  | .exc _ _ _, P => fun σ' => (P σ').at R1
  | .bad, P => P
theorem PostE.at {W : WX} {F : Fr} {G1 H1 : Hp} {O1 : Own} {ρ1 : Sl} {ts1 ts : List (PV × V)} {σ1 σ : St} (R1 : Rel F G1 O1 ρ1 ts1 σ1 H1) {Q : VK} : ∀ {o : Res PV}, PostE W F ts σ Q o → PostE W (F.at G1) ts σ Q o
  | .ok _ _, P => fun _ _ _ _ R => P _ _ _ _ (R1.unat R)
  | .exc _ _ _, P => ExcQ.at R1 P
  | .bad, P => P

/-- J walks the items xs, while us stand -/
def Wk (F : Fr) (J : It) (us : List (PV × V)) (xs : List PV) : Prop := ∀ G O ρ ts ws σ H, Rel F G O ρ (ts ++ us ++ ws) σ H →
  J.stop xs.length H ∧ ∀ i x, xs[i]? = some x → J.go i H ∧ ∀ y H2, J.yld i H y H2 → ∃ G2, Rel F G2 O ρ (ts ++ us ++ ws ++ [(x, y)]) σ H2
def PostI (W : WX) (F : Fr) (ts : List (PV × V)) (σ : St) (R : It → Hp → Prop) : Res (List PV) → Prop
  | .ok xs ρ' => ∀ G' O' H' J us, Rel F G' O' ρ' (ts ++ us) σ H' → Wk (F.at G') J us xs → R J H'
  | .exc C fs ρ' => ExcQ F.Z W F ts σ C fs ρ'
  | .bad => False
def TIt (Z : Zt) (W : WX) (u : M (List PV)) : TI := fun σ H R => ∃ F G O ρ ts, F.Z = Z ∧ Rel F G O ρ ts σ H ∧ PostI W F ts σ R (u ρ)
def IJ (X : Cx) (io : List Nat) (W : WX) (tg e : Expr) (u : M (List PV)) : Prop := PI X tg e (TIt (X.zt io) W u)
theorem PI.imp {X : Cx} {tg e : Expr} {t t' : TI} (h : PI X tg e t) (k : ∀ σ H Q, t' σ H Q → t σ H Q) : PI X tg e t' := ⟨fun pins s σ H R I w => h.run pins s σ H R I (k σ H R w)⟩

def sItems (g : Gt) (b : SM) : List PV → SM
  | [] => .nx
  | x :: r => fun ρ => match g x ρ with
    | none => .bad
    | some ρ1 => match b ρ1 with
      | .nx ρ2 => sItems g b r ρ2
      | .ct ρ2 => sItems g b r ρ2
      | .bk ρ2 => .nx ρ2
      | o => o
def sFor (u : M (List PV)) (g : Gt) (b : SM) : SM := sE u (sItems g b)
section
variable {X : Cx} {io : List Nat} {W : WX} {a b c : Expr} {f g h : M PV} {u : M (List PV)} {pos : Pos}
theorem sj_for {tg iter : Expr} {body : List Stmt} {js : List Nat} {gt : Gt} {sb : SM} (hp : PassesOwn (model X.prog X.w) X.A X.env X.xe) (hc : X.calm = true) (hi : IJ X io W tg iter u) (hg : GJ X io tg js gt) (hb : SSJ X io W body sb)
    (hs : ∀ x, foldedSetIterable iter X.env x = pure x := by intro _; rfl) : SJ X io W (.For tg iter body [] pos) (sFor u gt sb) := by
  refine PS.imp (ps_for hp hc hi hg hb hs) ?_
  rintro D σ H ⟨F, G, O, ρ, ts, hZ, R, P⟩
  unfold sFor sE at P
  refine ⟨F, G, O, ρ, ts, hZ, R, ?_⟩
  cases e : u ρ with
  | bad => rw [e] at P; exact P
  | exc C fs ρ' => rw [e] at P; exact P σ
  | ok xs ρ1 =>
    rw [e] at P
    intro G1 O1 H1 J us R1 wk
    obtain ⟨F, hZ, R1, P, wk⟩ : ∃ F', F'.Z = X.zt io ∧ Rel F' G1 O1 ρ1 (ts ++ us) σ H1 ∧ PostS W F' ts D (sItems gt sb xs ρ1) ∧ Wk F' J us xs := ⟨F.at G1, hZ, R1.at, P.at R1, wk⟩
    refine ⟨fun i m σ H => m = xs.length - i ∧ i ≤ xs.length ∧ ∃ G O ρ, Rel F G O ρ (ts ++ us) σ H ∧ PostS W F ts D (sItems gt sb (xs.drop i) ρ), ⟨xs.length, by simp, Nat.zero_le _, G1, O1, ρ1, R1, by simpa using P⟩, ?_⟩
    rintro i m σ2 H2 ⟨rfl, hi, G2, O2, ρ2, R2, P2⟩
    obtain ⟨w1, w2⟩ := wk _ _ _ _ [] _ _ (by simpa using R2)
    by_cases hlt : i < xs.length
    · obtain ⟨go, yl⟩ := w2 i xs[i] (by simp [hlt])
      refine .inr ⟨go, fun σ H => ∃ G O ρ, Rel F G O ρ (ts ++ us) σ H ∧ PostS W F ts D (sItems gt sb (xs.drop (i + 1)) ρ), fun σ' H' q => ⟨xs.length - (i + 1), by omega, rfl, hlt, q⟩, fun y H3 hy => ?_⟩
      obtain ⟨G3, R3⟩ := yl y H3 hy
      rw [List.append_nil] at R3
      rw [List.drop_eq_getElem_cons hlt] at P2
      unfold sItems at P2
      refine ⟨F, G3, O2, ρ2, ts ++ us, xs[i], hZ, R3, ?_⟩
      cases z : gt xs[i] ρ2 with
      | none => rw [z] at P2; exact P2
      | some ρ3 =>
        rw [z] at P2
        simp only at P2
        intro G4 O4 σ4 H4 R4 _
        refine ⟨F, G4, O4, ρ3, ts ++ us, hZ, R4, ?_⟩
        cases zb : sb ρ3 with
        | nx ρ5 => rw [zb] at P2; exact fun G' O' σ' H' R' => ⟨G', O', ρ5, R', P2⟩
        | ct ρ5 => rw [zb] at P2; exact fun G' O' σ' H' R' => ⟨G', O', ρ5, R', P2⟩
        | bk ρ5 => rw [zb] at P2; exact fun G' O' σ' H' R' => P2 _ _ _ _ R'.drop
        | rt v ρ5 =>
          rw [zb] at P2
          intro G' O' σ' H' x R'
          obtain ⟨O'', R''⟩ := R'.mid
          exact P2 _ _ _ _ _ R''
        | exc C fs ρ5 => rw [zb] at P2; exact fun σ' => ExcQ.up _ (P2 σ')
        | bad => rw [zb] at P2; exact P2
    · have : i = xs.length := by omega
      subst this
      rw [List.drop_length] at P2
      exact .inl ⟨w1, P2 _ _ _ _ R2.drop⟩

/-! ### walkers -/
theorem Rel.asF {F : Fr} {G : Hp} {O : Own} {ρ : Sl} {ts us ws : List (PV × V)} {σ : St} {H : Hp} {d : PV} {x : V} (R : Rel F G O ρ (ts ++ us ++ ws) σ H) {j : Nat} (e : us[j]? = some (d, x)) (f : d.own = false) (q : d.isE = false) : Rep F.Z G d x := by
  have := R.tp (ts.length + j) (d, x) (by
    rw [List.append_assoc, List.getElem?_append_right (by omega), Nat.add_sub_cancel_left, List.getElem?_append_left (get_lt e)]
    exact e)
  exact repO_rep this f q
theorem wk_list {F : Fr} {a : Addr} {xs : List PV} : Wk F (Itl F.Z.K a) [(.lst false xs, .ref a)] xs := by
  intro G O ρ ts ws σ H R
  have r := R.asF (j := 0) rfl rfl rfl
  simp only [Rep] at r
  obtain ⟨a', vs, e, q, rr⟩ := r
  cases e
  have q' : SqL F.Z.K H a vs := sub_sqL R.gh q
  refine ⟨⟨vs, q', by rw [← rr.length]; exact Nat.le_refl _⟩, fun i x hx => ?_⟩
  obtain ⟨v, hv, rv⟩ := rr.get hx
  refine ⟨⟨vs, v, q', hv⟩, fun y H2 hy => ?_⟩
  obtain ⟨rfl, hy⟩ := hy
  have := hy vs q'
  rw [hv] at this
  cases this
  exact ⟨G, R.pushF rv⟩
theorem wk_tup {F : Fr} {a : Addr} {xs : List PV} : Wk F (Itt F.Z.K a) [(.tup xs, .ref a)] xs := by
  intro G O ρ ts ws σ H R
  have r := R.asF (j := 0) rfl rfl rfl
  simp only [Rep] at r
  obtain ⟨a', vs, e, q, rr⟩ := r
  cases e
  have q' : SqT F.Z.K H a vs := sub_sqT R.gh q
  refine ⟨⟨vs, q', by rw [← rr.length]; exact Nat.le_refl _⟩, fun i x hx => ?_⟩
  obtain ⟨v, hv, rv⟩ := rr.get hx
  refine ⟨⟨vs, v, q', hv⟩, fun y H2 hy => ?_⟩
  obtain ⟨rfl, hy⟩ := hy
  have := hy vs q'
  rw [hv] at this
  cases this
  exact ⟨G, R.pushF rv⟩
theorem wk_range {F : Fr} {lo : Int} {n : Nat} : Wk F (Itr lo n) [] ((List.range n).map fun i => .int (lo + (i : Nat))) := by
  intro G O ρ ts ws σ H R
  refine ⟨by simp [Itr], fun i x hx => ?_⟩
  rw [List.getElem?_map] at hx
  cases z : (List.range n)[i]? with
  | none => rw [z] at hx; cases hx
  | some k =>
    rw [z] at hx
    cases hx
    have hk := List.getElem?_eq_some_iff.mp z
    obtain ⟨h1, h2⟩ := hk
    rw [List.getElem_range] at h2
    subst h2
    refine ⟨by simpa [Itr] using h1, fun y H2 hy => ?_⟩
    obtain ⟨rfl, rfl⟩ := hy
    refine ⟨G, ?_⟩
    exact R.pushF (by simp only [Rep])
/-- for x in a list or a tuple -/
def PV.items : PV → Option (List PV)
  | .tup xs => some xs
  | .lst _ xs => some xs
  | _ => none
def iSeq (f : M PV) : M (List PV) := M.bind f fun v => ofO v.items
def iSeqTI (K : PySem.W.Frag) (t : TE) : TI := fun σ H R => t σ H fun x H1 => ∃ a, x = .ref a ∧ ((∃ xs, SqL K H1 a xs) ∧ R (Itl K a) H1 ∨ (∃ xs, SqT K H1 a xs) ∧ R (Itt K a) H1)
theorem pi_seq {tg l : Expr} {tl : TE} (hl : PE X l tl) : PI X tg l (iSeqTI X.K tl) := by
  refine ⟨fun pins s σ H R I h => ?_⟩
  refine thn (hl.run pins s σ H _ I h) fun v s1 ⟨x, H1, I1, r1, q1⟩ => ?_
  obtain ⟨a, e, q⟩ := q1
  subst e
  cases r1
  rcases q with ⟨⟨xs, hq⟩, q⟩ | ⟨⟨xs, hq⟩, q⟩
  · obtain ⟨its, rv, p, hz⟩ := I1.list hq
    refine wpAny_pyIter_list p.isList ?_
    refine ⟨s1.heap.objs.size, [s1.heap.objs.size], _, _, H1, rfl, I1.kept (t' := s1.toks) fun b o e => Heap.get?_push_of_some _ e, turn_list a _, ⟨_, Heap.get?_push_size _ rfl, rfl, rfl⟩, fun b hb => ?_, q⟩
    have e : b = s1.heap.objs.size := by simpa using hb
    subst e
    exact I1.fpOk (Nat.le_refl _) (I1.hok.fresh (Nat.le_refl _))
  · obtain ⟨its, rv, p, hz⟩ := I1.tuple hq
    refine wpAny_pyIter_tuple (show s1.heap.IsTuple a its.toArray from p) ?_
    refine ⟨s1.heap.objs.size, [s1.heap.objs.size], _, _, H1, rfl, I1.kept (t' := s1.toks) fun b o e => Heap.get?_push_of_some _ e, turn_tuple a _, ⟨_, Heap.get?_push_size _ rfl, rfl, rfl⟩, fun b hb => ?_, q⟩
    have e : b = s1.heap.objs.size := by simpa using hb
    subst e
    exact I1.fpOk (Nat.le_refl _) (I1.hok.fresh (Nat.le_refl _))
theorem ij_seq {tg : Expr} (ha : EJ X io W a f) : IJ X io W tg a (iSeq f) := by
  refine PI.imp (pi_seq ha) ?_
  rintro σ H Q ⟨F, G, O, ρ, ts, hZ, R, P⟩
  refine ⟨F, G, O, ρ, ts, hZ, R, ?_⟩
  unfold iSeq M.bind at P
  cases e : f ρ with
  | bad => rw [e] at P; exact P
  | exc C fs ρ' => rw [e] at P; exact P
  | ok v ρ1 =>
    rw [e] at P
    intro G1 O1 H1 x R1
    cases v with
    | tup xs =>
      obtain ⟨p, vs, rfl, q, r⟩ := repO_tup R1.gh R1.top
      rw [hZ] at q
      refine ⟨p, rfl, .inr ⟨⟨vs, q⟩, ?_⟩⟩
      have w : Wk (F.at G1) (Itt F.Z.K p) [(.tup xs, .ref p)] xs := wk_tup
      rw [hZ] at w
      exact P _ _ _ _ _ R1 w
    | lst o xs =>
      obtain ⟨R2, r2⟩ := R1.frzTop (d := .lst o xs) rfl
      have r2' : Rep F.Z (frzG O1 H1 G1 (ρ1.length + ts.length)) (.lst false xs) x := by cases o <;> exact r2
      have R2' : Rel F (frzG O1 H1 G1 (ρ1.length + ts.length)) (frzO O1 (ρ1.length + ts.length)) ρ1 (ts ++ [(.lst false xs, x)]) σ H1 := by cases o <;> exact R2
      simp only [Rep] at r2'
      obtain ⟨p, vs, rfl, q, r⟩ := r2'
      have w : Wk (F.at (frzG O1 H1 G1 (ρ1.length + ts.length))) (Itl F.Z.K p) [(.lst false xs, .ref p)] xs := wk_list
      rw [hZ] at w q
      exact ⟨p, rfl, .inl ⟨⟨vs, sub_sqL R2'.gh q⟩, P _ _ _ _ _ R2' w⟩⟩
    | _ => exact P.elim
/-- range -/
def bd62 (i : Int) : Bool := decide (-4611686018427387904 ≤ i) && decide (i < 4611686018427387904)
def rngV (lo : Int) (n : Nat) : List PV := (List.range n).map fun i => .int (lo + (i : Nat))
def iRange1 (f : M PV) : M (List PV) := M.bind f fun v => match v with
  | .int j => if bd62 j then M.ret (rngV 0 j.toNat) else bad
  | _ => bad
def iRange2 (f g : M PV) : M (List PV) := M.bind f fun v => M.bind g fun w => match v, w with
  | .int i, .int j => if bd62 i && bd62 j then M.ret (rngV i (j - i).toNat) else bad
  | _, _ => bad
theorem bd62_of {i : Int} (h : bd62 i = true) : -(2 ^ 62) ≤ i ∧ i < 2 ^ 62 := by
  unfold bd62 at h
  simp only [Bool.and_eq_true, decide_eq_true_eq] at h
  omega
theorem IT.bindU {F : Fr} {G : Hp} {O : Own} {ρ : Sl} {ts us : List (PV × V)} {σ : St} {H : Hp} {R0 : It → Hp → Prop} {Q1 : VK} {k : PV → M (List PV)} (hZ : F.Z = (X.zt io)) (R : Rel F G O ρ (ts ++ us) σ H) (P : PostI W F ts σ R0 (M.bind f k ρ))
    (h : ∀ G1 O1 H1 ρ1 v x, Rel F G1 O1 ρ1 (ts ++ us ++ [(v, x)]) σ H1 → PostI W F ts σ R0 (k v ρ1) → Q1 x H1) : T (X.zt io) W f σ H Q1 := by
  refine ⟨F, G, O, ρ, ts ++ us, hZ, R, ?_⟩
  unfold M.bind at P
  cases e : f ρ with
  | bad => rw [e] at P; exact P
  | exc C fs ρ' => rw [e] at P; exact ExcQ.up us P
  | ok v ρ' => rw [e] at P; exact fun G' O' H' x R' => h G' O' H' ρ' v x R' P
theorem ij_range1 {tg : Expr} {p : Pos} (hg : Gl X "range") (hm : X.mg "range" = none) (ha : EJ X io W a f) (hs : starEach [a] X.env = [(false, eval a X.env)] := by rfl) : IJ X io W tg (.Call (.Name "range" p) [a] [] pos) (iRange1 f) := by
  refine PI.imp (pi_range1 hg hm (pa_cons ha pa_nil hs) hs) ?_
  rintro σ H Q ⟨F, G, O, ρ, ts, hZ, R, P⟩
  refine IT.bindU (us := []) hZ (by simpa using R) P fun G1 O1 H1 ρ1 v x R1 P1 => ?_
  cases v with
  | int j =>
    simp only at P1
    split at P1
    · rename_i hb
      obtain ⟨b1, b2⟩ := bd62_of hb
      obtain rfl := repO_int R1.top
      refine ⟨j, rfl, b1, b2, P1 _ _ _ _ [] (by simpa using R1.pop) ?_⟩
      have : Wk (F.at G1) (Itr 0 j.toNat) [] (rngV 0 j.toNat) := wk_range
      exact this
    · exact P1.elim
  | _ => exact P1.elim
theorem ij_range2 {tg : Expr} {p : Pos} (hg : Gl X "range") (hm : X.mg "range" = none) (ha : EJ X io W a f) (hb : EJ X io W b g) (hs : starEach [a, b] X.env = [(false, eval a X.env), (false, eval b X.env)] := by rfl) (hs2 : starEach [b] X.env = [(false, eval b X.env)] := by rfl) :
    IJ X io W tg (.Call (.Name "range" p) [a, b] [] pos) (iRange2 f g) := by
  refine PI.imp (pi_range2 hg hm (pa_cons ha (pa_cons hb pa_nil hs2) (by rw [hs, hs2])) hs hs2) ?_
  rintro σ H Q ⟨F, G, O, ρ, ts, hZ, R, P⟩
  refine IT.bindU (us := []) hZ (by simpa using R) P fun G1 O1 H1 ρ1 v x R1 P1 => IT.bindU (us := [(v, x)]) hZ (by simpa using R1) P1 fun G2 O2 H2 ρ2 w y R2 P2 => ?_
  have hx := R2.snd.1
  have hy := R2.snd.2
  cases v with
  | int i =>
    cases w with
    | int j =>
      simp only at P2
      split at P2
      · rename_i hb
        rw [Bool.and_eq_true] at hb
        obtain ⟨b1, b2⟩ := bd62_of hb.1
        obtain ⟨b3, b4⟩ := bd62_of hb.2
        obtain rfl := repO_int hx
        obtain rfl := repO_int hy
        refine ⟨i, j, rfl, ⟨b1, b2, b3, b4⟩, P2 _ _ _ _ [] (by simpa using R2.pop.pop) ?_⟩
        have : Wk (F.at G2) (Itr i (j - i).toNat) [] (rngV i (j - i).toNat) := wk_range
        exact this
      · exact P2.elim
    | _ => exact P2.elim
  | _ => exact P2.elim
end
end Wv

set_option Elab.async false
set_option linter.all false
set_option autoImplicit false
set_option maxRecDepth 100000
/-! WvN: list comprehensions. -/
namespace Wv
open PySem PySem.Spec PyProof.Rows L2

def wipS (ρ : Sl) : List Nat → Sl
  | [] => ρ
  | v :: vs => (wipS ρ vs).set v none
theorem wipS_length (ρ : Sl) : ∀ vs : List Nat, (wipS ρ vs).length = ρ.length
  | [] => rfl
  | v :: vs => by unfold wipS; rw [List.length_set, wipS_length ρ vs]
theorem wipS_get {ρ : Sl} {i : Nat} : ∀ {vs : List Nat}, (wipS ρ vs)[i]? = if i ∈ vs then (if i < ρ.length then some none else none) else ρ[i]?
  | [] => by simp [wipS]
  | v :: vs => by
    unfold wipS
    by_cases z : v = i
    · subst z
      by_cases l : v < ρ.length
      · rw [List.getElem?_set_self (by rw [wipS_length]; exact l)]
        simp [l]
      · rw [List.getElem?_eq_none (by rw [List.length_set, wipS_length]; omega)]
        simp [l]
    · rw [List.getElem?_set_ne z, wipS_get]
      simp [Ne.symm z]
theorem wipe_get {σ : St} {i : Nat} : ∀ {vs : List Nat}, (wipe σ vs)[i]? = if i ∈ vs then (if i < σ.length then some none else none) else σ[i]?
  | [] => by simp [wipe]
  | v :: vs => by
    unfold wipe
    by_cases z : v = i
    · subst z
      by_cases l : v < σ.length
      · rw [List.getElem?_set_self (by rw [wipe_length]; exact l)]
        simp [l]
      · rw [List.getElem?_eq_none (by rw [List.length_set, wipe_length]; omega)]
        simp [l]
    · rw [List.getElem?_set_ne z, wipe_get]
      simp [Ne.symm z]
theorem wipS_wipS {ρ : Sl} {vs : List Nat} : wipS (wipS ρ vs) vs = wipS ρ vs := by
  apply List.ext_getElem?
  intro i
  rw [wipS_get, wipS_get, wipS_length]
  by_cases h : i ∈ vs
  · simp [h]
  · simp [h]
theorem wipe_wipe {σ : St} {vs : List Nat} : wipe (wipe σ vs) vs = wipe σ vs := by
  apply List.ext_getElem?
  intro i
  rw [wipe_get, wipe_get, wipe_length]
  by_cases h : i ∈ vs
  · simp [h]
  · simp [h]
theorem wipe_same {σ σ' : St} {js vs : List Nat} (s : Same js σ σ') (h : ∀ j ∈ js, j ∈ vs) : wipe σ' vs = wipe σ vs := by
  apply List.ext_getElem?
  intro i
  rw [wipe_get, wipe_get, s.1]
  by_cases q : i ∈ vs
  · simp [q]
  · simp only [q, if_false]
    exact s.2 i fun z => q (h i z)
section
variable {F : Fr} {G : Hp} {O : Own} {ρ : Sl} {ts : List (PV × V)} {σ : St} {H : Hp}
theorem Rel.wipe (R : Rel F G O ρ ts σ H) {vs : List Nat} (hio : ∀ i ∈ F.Z.io, i ∉ vs) : Rel F G O (wipS ρ vs) ts (L2.wipe σ vs) H := by
  refine ⟨by rw [wipS_length, wipe_length]; exact R.len, R.gh, R.g0, R.own, R.frm, fun i d e => ?_, fun j p e => by rw [wipS_length]; exact R.tp j p e, fun i hi => ?_, R.gn⟩
  · rw [wipS_get] at e
    by_cases h : i ∈ vs
    · simp only [h, if_true] at e
      split at e <;> cases e
    · simp only [h, if_false] at e
      obtain ⟨v, h1, h2⟩ := R.sl i d e
      exact ⟨v, by rw [wipe_get]; simpa [h] using h1, h2⟩
  · obtain ⟨v, h1, h2⟩ := R.io i hi
    exact ⟨v, h1, by rw [wipe_get]; simpa [hio i hi] using h2⟩
theorem Rel.unwipe {vs : List Nat} (R : Rel F G O (wipS ρ vs) ts (L2.wipe σ vs) H) (hio : ∀ i ∈ F.Z.io, i ∉ vs) : Rel F G O (wipS ρ vs) ts σ H := by
  refine ⟨by have := R.len; rw [wipe_length] at this; exact this, R.gh, R.g0, R.own, R.frm, fun i d e => ?_, R.tp, fun i hi => ?_, R.gn⟩
  · obtain ⟨v, h1, h2⟩ := R.sl i d e
    rw [wipS_get] at e
    by_cases h : i ∈ vs
    · simp only [h, if_true] at e
      split at e <;> cases e
    · rw [wipe_get] at h1
      simp only [h, if_false] at h1
      exact ⟨v, h1, h2⟩
  · obtain ⟨v, h1, h2⟩ := R.io i hi
    rw [wipe_get] at h2
    simp only [hio i hi, if_false] at h2
    exact ⟨v, h1, h2⟩
end

/-- W of a comprehension's block: nothing is raised there -/
def W0 : WX := fun _ _ _ _ => False
/-- the turns of a comprehension -/
def lcItems (vs : List Nat) (g : Gt) (p : M Bool) (f : M PV) : List PV → List PV → M (List PV)
  | [], acc => M.ret acc
  | x :: r, acc => fun ρ => match g x (wipS ρ vs) with
    | none => .bad
    | some ρ1 => match p ρ1 with
      | .ok true ρ2 => match M.bind f frzM ρ2 with
        | .ok y ρ3 => if lenOk (acc.length + 1) then lcItems vs g p f r (acc ++ [y]) ρ3 else .bad
        | _ => .bad
      | .ok false ρ2 => lcItems vs g p f r acc ρ2
      | _ => .bad
def eLc (vs : List Nat) (u : M (List PV)) (g : Gt) (p : M Bool) (f : M PV) : M PV := M.bind u fun xs => M.bind (lcItems vs g p f xs []) fun ys ρ => .ok (.lst true ys) (wipS ρ vs)
def bYes : M Bool := M.ret true
section
variable {X : Cx} {io : List Nat} {W : WX} {f : M PV} {u : M (List PV)} {p : M Bool} {g : Gt} {js vs : List Nat}
theorem ptsj_nil : PTs X [] (TB (X.zt io) W bYes) := ⟨fun pins s σ H Q I ⟨F, G, O, ρ, ts, hZ, R, P⟩ => pts_nil.run pins s σ H Q I (P _ _ _ R)⟩
theorem ptsj_one {c : Expr} (h : BJ X io W c p) : PTs X [c] (TB (X.zt io) W p) := pts_one h
/-- the element's value is put into the new list -/
theorem Rel.grow {F : Fr} {G : Hp} {O : Own} {ρ : Sl} {ts : List (PV × V)} {σ : St} {H : Hp} {D : Addr} {acc : List PV} {y : PV} {v : V} (R : Rel F G O ρ (ts ++ [(.lst true acc, .ref D)] ++ [(y, v)]) σ H) (ry : Rep F.Z G y v) :
    ∃ as, H D = some (.lst as) ∧ as.length = acc.length ∧ Rel F G O ρ (ts ++ [(.lst true (acc ++ [y]), .ref D)]) σ (upd H D (.lst (as ++ [v]))) := by
  have r := R.pop.top
  obtain ⟨a, as, e, oa, ha, rr⟩ := r
  cases e
  refine ⟨as, ha, rr.length.symm, ?_⟩
  have R0 := R.pop
  obtain ⟨g1, _, g3⟩ := R0.own _ _ oa
  have kp : ∀ {b : Addr} {n m : Nat} {o : HO}, n ≠ ρ.length + ts.length → O b = some (n, m) → H b = some o → upd H D (.lst (as ++ [v])) b = some o := fun {b n m o} ne e q => by
    rw [upd_ne fun z => by subst z; rw [oa] at e; cases e; exact ne rfl]
    exact q
  refine ⟨R0.len, fun b o h => ?_, R0.g0, fun b t q => ?_, fun b o h q => ?_, fun k c q => ?_, fun k q e => ?_, R0.io, R0.gn⟩
  · rw [upd_ne fun z => by subst z; rw [g1] at h; cases h]
    exact R0.gh b o h
  · obtain ⟨h1, ⟨o, h2⟩, h3⟩ := R0.own b t q
    refine ⟨h1, ?_, h3⟩
    by_cases z : b = D
    · exact ⟨_, by rw [z, upd_same]⟩
    · exact ⟨o, by rw [upd_ne z]; exact h2⟩
  · rw [upd_ne fun z => by
      subst z
      rcases g3 with g3 | ⟨t0, g3⟩
      · rw [g3] at h; cases h
      · rw [g3] at q; cases q]
    exact R0.frm b o h q
  · obtain ⟨w, h1, h2⟩ := R0.sl k c q
    have := get_lt q
    exact ⟨w, h1, h2.mono (Sub.refl G) fun b o m e q => ⟨e, kp (by omega) e q⟩⟩
  · rcases get_snoc e with ⟨l, e⟩ | ⟨rfl, rfl⟩
    · exact (R0.pop.tp k q e).mono (Sub.refl G) fun b o m e q => ⟨e, kp (by omega) e q⟩
    · exact ⟨D, as ++ [v], rfl, oa, upd_same, rr.append (Reps.one ry)⟩
theorem t_lc {wi : TI} {σ : St} {H : Hp} {Q : VK} (hwi : ∀ R, TIt (X.zt io) W u σ H R → wi σ H R) (hjs : ∀ j ∈ js, j ∈ vs) (hio : ∀ i ∈ io, i ∉ vs) (h : T (X.zt io) W (eLc vs u g p f) σ H Q) :
    tLc wi (TGt (X.zt io) js g) (TB (X.zt io) W0 p) (T (X.zt io) W0 f) vs σ H Q := by
  obtain ⟨F, G, O, ρ, ts, hZ, R, P⟩ := h
  have hio' : ∀ i ∈ F.Z.io, i ∉ vs := by rw [hZ]; exact hio
  refine hwi _ ⟨F, G, O, ρ, ts, hZ, R, ?_⟩
  unfold eLc M.bind at P
  cases e : u ρ with
  | bad => rw [e] at P; exact P
  | exc C fs ρ' => rw [e] at P; exact P
  | ok xs ρ1 =>
    rw [e] at P
    intro G1 O1 H1 J us R1 wk D hD
    obtain ⟨F, hZ, hio', R1, P, wk⟩ : ∃ F', F'.Z = X.zt io ∧ (∀ i ∈ F'.Z.io, i ∉ vs) ∧ Rel F' G1 O1 ρ1 (ts ++ us) σ H1 ∧ PostE W F' ts σ Q (M.bind (lcItems vs g p f xs []) (fun ys ρ => .ok (.lst true ys) (wipS ρ vs)) ρ1) ∧ Wk F' J us xs := ⟨F.at G1, hZ, hio', R1.at, PostE.at R1 P, wk⟩
    have R2 := R1.layO (p := D) (o := .lst []) (d := .lst true []) hD ⟨D, [], rfl, own1_same, upd_same, by simp only [Reps]⟩
    have e0 : wipS (wipS ρ1 vs) vs = wipS ρ1 vs := wipS_wipS
    -- the wiped start does the same
    have st : ∀ (xs acc : List PV) (ρ : Sl), (∀ ys, lcItems vs g p f xs acc ρ = .ok ys ρ → True) → True := fun _ _ _ _ => trivial
    refine ⟨fun i m H => m = xs.length - i ∧ i ≤ xs.length ∧ ∃ G O ρ acc, Rel F G O (wipS ρ vs) (ts ++ us ++ [(.lst true acc, .ref D)]) (L2.wipe σ vs) H ∧ PostE W F ts σ Q (M.bind (lcItems vs g p f (xs.drop i) acc) (fun ys ρ => .ok (.lst true ys) (wipS ρ vs)) ρ),
      ⟨xs.length, by simp, Nat.zero_le _, G1, _, ρ1, [], R2.wipe hio', by simpa [M.bind] using P⟩, ?_⟩
    rintro i m H2 ⟨rfl, hi, G2, O2, ρ2, acc, R3, P2⟩
    obtain ⟨w1, w2⟩ := wk _ _ _ _ _ _ _ R3
    by_cases hlt : i < xs.length
    · obtain ⟨go, yl⟩ := w2 i xs[i] (by simp [hlt])
      refine .inr ⟨go, fun H => ∃ G O ρ acc, Rel F G O (wipS ρ vs) (ts ++ us ++ [(.lst true acc, .ref D)]) (L2.wipe σ vs) H ∧ PostE W F ts σ Q (M.bind (lcItems vs g p f (xs.drop (i + 1)) acc) (fun ys ρ => .ok (.lst true ys) (wipS ρ vs)) ρ), fun H' q => ⟨xs.length - (i + 1), by omega, rfl, hlt, q⟩, fun y H3 hy => ?_⟩
      obtain ⟨G3, R4⟩ := yl y H3 hy
      rw [List.drop_eq_getElem_cons hlt] at P2
      unfold lcItems M.bind at P2
      simp only at P2
      refine ⟨F, G3, O2, wipS ρ2 vs, ts ++ us ++ [(.lst true acc, .ref D)], xs[i], hZ, R4, ?_⟩
      cases z : g xs[i] (wipS ρ2 vs) with
      | none => rw [z] at P2; exact P2
      | some ρ3 =>
        rw [z] at P2
        simp only at P2
        intro G4 O4 σ4 H4 R5 same
        have hw : L2.wipe σ4 vs = L2.wipe σ vs := by rw [wipe_same same hjs, wipe_wipe]
        refine ⟨hw, F, G4, O4, ρ3, ts ++ us ++ [(.lst true acc, .ref D)], hZ, R5, ?_⟩
        cases zp : p ρ3 with
        | bad => rw [zp] at P2; exact P2
        | exc C fs ρ' => rw [zp] at P2; exact P2.elim
        | ok b ρ4 =>
          rw [zp] at P2
          intro G5 O5 H5 R6
          cases b with
          | false =>
            simp only at P2
            rw [if_neg Bool.false_ne_true]
            have R7 := R6.wipe hio'
            rw [hw] at R7
            exact ⟨G5, O5, ρ4, acc, R7, P2⟩
          | true =>
            simp only at P2
            rw [if_pos rfl]
            refine ⟨F, G5, O5, ρ4, ts ++ us ++ [(.lst true acc, .ref D)], hZ, R6, ?_⟩
            cases zf : f ρ4 with
            | bad => rw [zf] at P2; exact P2
            | exc C fs ρ' => rw [zf] at P2; exact P2.elim
            | ok v ρ5 =>
              rw [zf] at P2
              simp only at P2
              intro G6 O6 H6 x R7
              by_cases c : v.calm = true
              · have e2 : frzM v ρ5 = .ok v.frz ρ5 := by unfold frzM; rw [if_pos c]; rfl
                rw [e2] at P2
                simp only at P2
                obtain ⟨R8, q8⟩ := R7.frzTop c
                by_cases hl : lenOk (acc.length + 1) = true
                · rw [if_pos hl] at P2
                  obtain ⟨as, hA, la, R9⟩ := R8.grow q8
                  refine ⟨as, hA, ?_, ?_⟩
                  · have := lenOk_le hl
                    omega
                  · have R10 := R9.wipe hio'
                    rw [hw] at R10
                    exact ⟨_, _, ρ5, acc ++ [v.frz], R10, P2⟩
                · rw [if_neg hl] at P2
                  exact P2.elim
              · have e2 : frzM v ρ5 = .bad := by unfold frzM; rw [if_neg c]; rfl
                rw [e2] at P2
                exact P2.elim
    · have : i = xs.length := by omega
      subst this
      rw [List.drop_length] at P2
      refine .inl ⟨w1, ?_⟩
      have R4 := R3.unwipe hio'
      obtain ⟨O5, R5⟩ := R4.mid
      exact P2 _ _ _ _ R5
theorem ej_lc {elt tg iter : Expr} {ifs : List Expr} {scope : Scope} {own : List (Str × Nat)} {pos : Pos} (hc : X.calm = true) (hN : X.N.Nodup) (hi : IJ X io W tg iter u) (ok : BlkOk X.N X.env.scope scope own)
    (hg : ∀ (s : Shared) (H : Hp) (C : Addr) (cl : List (Str × Addr)) (fp : List Addr), GJ (X.blk s H scope (compEnvC scope cl C X.env) fp) io tg js g)
    (ht : ∀ (s : Shared) (H : Hp) (C : Addr) (cl : List (Str × Addr)) (fp : List Addr), PTs (X.blk s H scope (compEnvC scope cl C X.env) fp) ifs (TB (X.zt io) W0 p))
    (he : ∀ (s : Shared) (H : Hp) (C : Addr) (cl : List (Str × Addr)) (fp : List Addr), EJ (X.blk s H scope (compEnvC scope cl C X.env) fp) io W0 elt f) (hv : own.map (·.2) = vs := by rfl) (hjs : ∀ j ∈ js, j ∈ vs := by decide) (hio : ∀ i ∈ io, i ∉ vs := by decide)
    (hs : ∀ x, foldedSetIterable iter X.env x = pure x := by intro _; rfl) : EJ X io W (.ListComp elt [⟨tg, iter, ifs, 0⟩] scope pos) (eLc vs u g p f) := by
  subst hv
  exact PE.imp (pe_lc (g := TGt (X.zt io) js g) (te := T (X.zt io) W0 f) hc hN hi ok hg ht he hs) fun σ H Q h => t_lc (fun _ h => h) hjs hio h
theorem sj_setLc {i : Nat} {y : Str} {py : Pos} {elt tg iter : Expr} {ifs : List Expr} {scope : Scope} {own : List (Str × Nat)} {pos spos : Pos} (hc : X.calm = true) (hN : X.N.Nodup) (hy : X.N[i]? = some y) (hyl : X.env.scope.names.lookup y = some .local)
    (hsw : swapsWith (.ListComp elt [⟨tg, iter, ifs, 0⟩] scope pos) (some (.Name y py)) spos.line X.env = pure true) (hi : IJ X io W tg iter u) (ok : BlkOk X.N X.env.scope scope own)
    (hg : ∀ (s : Shared) (H : Hp) (C : Addr) (cl : List (Str × Addr)) (fp : List Addr), GJ (X.blk s H scope (compEnvC scope cl C X.env) fp) io tg js g)
    (ht : ∀ (s : Shared) (H : Hp) (C : Addr) (cl : List (Str × Addr)) (fp : List Addr), PTs (X.blk s H scope (compEnvC scope cl C X.env) fp) ifs (TB (X.zt io) W0 p))
    (he : ∀ (s : Shared) (H : Hp) (C : Addr) (cl : List (Str × Addr)) (fp : List Addr), EJ (X.blk s H scope (compEnvC scope cl C X.env) fp) io W0 elt f) (hv : own.map (·.2) = vs := by rfl) (hjs : ∀ j ∈ js, j ∈ vs := by decide) (hio : ∀ i ∈ io, i ∉ vs := by decide) (hio2 : i ∉ io := by decide)
    (hs : ∀ x, foldedSetIterable iter X.env x = pure x := by intro _; rfl) : SJ X io W (.Assign [.Name y py] (.ListComp elt [⟨tg, iter, ifs, 0⟩] scope pos) spos) (sAsg (gtN i) (eLc vs u g p f)) := by
  subst hv
  refine PS.imp (ps_setLc (g := TGt (X.zt io) js g) (te := T (X.zt io) W0 f) hc hN hy hyl hsw hi ok hg ht he hs) ?_
  rintro D σ H ⟨F, G, O, ρ, ts, hZ, R, P⟩
  refine t_lc (fun _ h => h) hjs hio (ST.bindK hZ R P fun G1 O1 H1 ρ1 w y R1 P1 => ?_)
  unfold gtN at P1
  by_cases l : i < ρ1.length
  · rw [if_pos l] at P1
    exact P1 _ _ _ _ (R1.store l (by rw [hZ]; exact hio2))
  · rw [if_neg l] at P1
    exact P1.elim
end
end Wv

set_option Elab.async false
set_option linter.all false
set_option autoImplicit false
set_option maxRecDepth 100000
/-! WvO: entering and leaving a def. -/
namespace Wv
open PySem PySem.Spec PyProof.Rows L2

mutual
theorem Rep.io {Z Z' : Zt} {G : Hp} (hK : Z'.K = Z.K) (hw : Z'.w = Z.w) : ∀ (d : PV) (x : V), Rep Z G d x → Rep Z' G d x
  | .non, _, h => h
  | .bl _, _, h => h
  | .int _, _, h => h
  | .str _, _, h => h
  | .tup xs, x, h => by
    simp only [Rep] at h ⊢
    obtain ⟨a, vs, e, s, r⟩ := h
    exact ⟨a, vs, e, by rw [hK]; exact s, Reps.io hK hw xs vs r⟩
  | .lst false xs, x, h => by
    simp only [Rep] at h ⊢
    obtain ⟨a, vs, e, s, r⟩ := h
    exact ⟨a, vs, e, by rw [hK]; exact s, Reps.io hK hw xs vs r⟩
  | .dct false kvs, x, h => by
    simp only [Rep] at h ⊢
    obtain ⟨a, es, e, s, y, z, r⟩ := h
    exact ⟨a, es, e, s, y, z, RepKV.io hK hw kvs _ r⟩
  | .obj false C fs, x, h => by
    simp only [Rep] at h ⊢
    obtain ⟨a, dx, vs, e, s, r⟩ := h
    exact ⟨a, dx, vs, e, by rw [hK]; exact s, RepFs.io hK hw fs vs r⟩
  | .lst true _, _, h => by simp only [Rep] at h
  | .dct true _, _, h => by simp only [Rep] at h
  | .obj true _ _, _, h => by simp only [Rep] at h
  | .exc _ _, _, h => by simp only [Rep] at h
theorem Reps.io {Z Z' : Zt} {G : Hp} (hK : Z'.K = Z.K) (hw : Z'.w = Z.w) : ∀ (ds : List PV) (xs : List V), Reps Z G ds xs → Reps Z' G ds xs
  | [], _, h => by simp only [Reps] at h ⊢; exact h
  | d :: ds, xs, h => by
    simp only [Reps] at h ⊢
    obtain ⟨v, r, e, h1, h2⟩ := h
    exact ⟨v, r, e, Rep.io hK hw d v h1, Reps.io hK hw ds r h2⟩
theorem RepKV.io {Z Z' : Zt} {G : Hp} (hK : Z'.K = Z.K) (hw : Z'.w = Z.w) : ∀ (ds : List (PV × PV)) (xs : List DictEntry), RepKV Z G ds xs → RepKV Z' G ds xs
  | [], _, h => by simp only [RepKV] at h ⊢; exact h
  | (p, d) :: ds, xs, h => by
    simp only [RepKV] at h ⊢
    obtain ⟨e, r, e1, h1, ⟨x, rx, hx⟩, ⟨y, ry, hy⟩, h2⟩ := h
    exact ⟨e, r, e1, by rw [hw]; exact h1, ⟨x, rx, Rep.io hK hw p x hx⟩, ⟨y, ry, Rep.io hK hw d y hy⟩, RepKV.io hK hw ds r h2⟩
theorem RepFs.io {Z Z' : Zt} {G : Hp} (hK : Z'.K = Z.K) (hw : Z'.w = Z.w) : ∀ (ds : List (Str × PV)) (xs : List (Str × V)), RepFs Z G ds xs → RepFs Z' G ds xs
  | [], _, h => by simp only [RepFs] at h ⊢; exact h
  | (f, d) :: ds, xs, h => by
    simp only [RepFs] at h ⊢
    obtain ⟨v, r, e, h1, h2⟩ := h
    exact ⟨v, r, e, Rep.io hK hw d v h1, RepFs.io hK hw ds r h2⟩
end
section
variable {F F' : Fr} {G : Hp} {O O' : Own} {H H' : Hp}
theorem RepL.to {t t' : Tag} (hK : F'.Z.K = F.Z.K) (hw : F'.Z.w = F.Z.w) (ko : ∀ a o, O a = some t → H a = some o → O' a = some t' ∧ H' a = some o) (d : PV) (x : V) (c : d.isE = false) (h : RepL F G O H t d x) : RepL F' G O' H' t' d x := by
  cases d with
  | lst o xs =>
    cases o with
    | true =>
      obtain ⟨a, vs, e, ha, hh, r⟩ := h
      obtain ⟨h1, h2⟩ := ko a _ ha hh
      exact ⟨a, vs, e, h1, h2, Reps.io hK hw _ _ r⟩
    | false => exact Rep.io hK hw _ _ h
  | dct o kvs =>
    cases o with
    | true =>
      obtain ⟨a, es, e, ha, hh, y, z, r⟩ := h
      obtain ⟨h1, h2⟩ := ko a _ ha hh
      exact ⟨a, es, e, h1, h2, y, z, RepKV.io hK hw _ _ r⟩
    | false => exact Rep.io hK hw _ _ h
  | exc C fs => cases c
  | non => exact Rep.io hK hw _ _ h
  | bl b => exact Rep.io hK hw _ _ h
  | int i => exact Rep.io hK hw _ _ h
  | str s => exact Rep.io hK hw _ _ h
  | tup xs => exact Rep.io hK hw _ _ h
  | obj o C fs => exact Rep.io hK hw _ _ h
theorem RepOF.to {n n' : Nat} (hK : F'.Z.K = F.Z.K) (hw : F'.Z.w = F.Z.w) (ko : ∀ a o j, O a = some (n, j) → H a = some o → O' a = some (n', j) ∧ H' a = some o) : ∀ (fs : List (Str × PV)) (j : Nat) (xs : List (Str × V)), (∀ p ∈ fs, p.2.isE = false) → RepOF F G O H n j fs xs → RepOF F' G O' H' n' j fs xs
  | [], _, _, _, h => h
  | (f, d) :: fs, j, xs, c, h => by
    obtain ⟨v, r, e, h1, h2⟩ := h
    exact ⟨v, r, e, RepL.to hK hw (fun a o => ko a o j) d v (c _ List.mem_cons_self) h1, RepOF.to hK hw ko fs (j + 1) r (fun p hp => c p (List.mem_cons_of_mem _ hp)) h2⟩
theorem RepO.to {n n' : Nat} (hK : F'.Z.K = F.Z.K) (hw : F'.Z.w = F.Z.w) (ko : ∀ a o j, O a = some (n, j) → H a = some o → O' a = some (n', j) ∧ H' a = some o) (d : PV) (x : V) (c : d.calm = true) (h : RepO F G O H n d x) : RepO F' G O' H' n' d x := by
  have leaf : ∀ e : PV, e.isE = false → RepL F G O H (n, 0) e x → RepL F' G O' H' (n', 0) e x := fun e q r => RepL.to hK hw (fun a o => ko a o 0) e x q r
  cases d with
  | obj o C fs =>
    cases o with
    | true =>
      obtain ⟨a, dx, vfs, e, ha, hh, r⟩ := h
      obtain ⟨h1, h2⟩ := ko a _ 0 ha hh
      refine ⟨a, dx, vfs, e, h1, by rw [hK]; exact h2, RepOF.to hK hw ko _ _ _ (fun p hp => ?_) r⟩
      have c' : (fs.all fun p => !p.2.isE) = true := c
      have := List.all_eq_true.mp c' p hp
      simpa using this
    | false => exact leaf (.obj false C fs) rfl h
  | lst o xs => exact leaf (.lst o xs) rfl h
  | dct o xs => exact leaf (.dct o xs) rfl h
  | exc C fs => cases c
  | non => exact leaf .non rfl h
  | bl b => exact leaf (.bl b) rfl h
  | int i => exact leaf (.int i) rfl h
  | str s => exact leaf (.str s) rfl h
  | tup xs => exact leaf (.tup xs) rfl h
end

/-! ### arguments -/
/-- frozen; lent from slot i; a value of nobody, lent -/
inductive Md where
  | f
  | s (i : Nat)
  | t
  deriving DecidableEq
def slotOf (ms : List Md) (j : Nat) : Option Nat := match ms[j]? with
  | some (.s i) => some i
  | _ => none
def startS (n : Nat) (ds : List PV) : Sl := ds.map some ++ List.replicate (n - ds.length) none
def outAt (ρ : Sl) (j : Nat) : Option PV := match ρ[j]? with
  | some (some d) => if d.calm then some d else none
  | _ => none
def putB (ms : List Md) : List Nat → List (Option PV) → Sl → Sl
  | j :: io, o :: outs, ρ => match slotOf ms j with
    | some i => putB ms io outs (ρ.set i o)
    | none => putB ms io outs ρ
  | _, _, ρ => ρ
theorem putB_length {ms : List Md} : ∀ {io : List Nat} {outs : List (Option PV)} {ρ : Sl}, (putB ms io outs ρ).length = ρ.length
  | [], _, ρ => by unfold putB; rfl
  | _ :: _, [], ρ => by unfold putB; rfl
  | j :: io, o :: outs, ρ => by
    unfold putB
    cases slotOf ms j with
    | none => exact putB_length
    | some i => simp only; rw [putB_length, List.length_set]
theorem putB_out {ms : List Md} {i : Nat} : ∀ {io : List Nat} {outs : List (Option PV)} {ρ : Sl}, (∀ j ∈ io, slotOf ms j ≠ some i) → (putB ms io outs ρ)[i]? = ρ[i]?
  | [], _, ρ, _ => by unfold putB; rfl
  | _ :: _, [], ρ, _ => by unfold putB; rfl
  | j :: io, o :: outs, ρ, h => by
    unfold putB
    have h' := h j List.mem_cons_self
    cases e : slotOf ms j with
    | none => exact putB_out fun k hk => h k (List.mem_cons_of_mem _ hk)
    | some k =>
      simp only
      rw [putB_out fun k hk => h k (List.mem_cons_of_mem _ hk), List.getElem?_set_ne]
      rintro rfl
      exact h' e
theorem putB_in {ms : List Md} {i : Nat} {f : Nat → Option PV} (inj : ∀ j k, slotOf ms j = some i → slotOf ms k = some i → j = k) : ∀ {io : List Nat} {ρ : Sl} {j : Nat}, j ∈ io → slotOf ms j = some i → i < ρ.length → (putB ms io (io.map f) ρ)[i]? = some (f j)
  | [], _, _, h, _, _ => by cases h
  | k :: io, ρ, j, h, e, l => by
    simp only [List.map_cons]
    unfold putB
    by_cases q : j ∈ io
    · cases e2 : slotOf ms k with
      | none => exact putB_in inj q e l
      | some m => exact putB_in inj q e (by rw [List.length_set]; exact l)
    · have : j = k := by
        rcases List.mem_cons.mp h with z | z
        · exact z
        · exact absurd z q
      subst this
      rw [e]
      simp only
      rw [putB_out fun k hk z => q (by rw [inj j k e z]; exact hk), List.getElem?_set_self l]

/-! ### the frames' relation -/
def lendO (O : Own) (jn : Nat → Option Nat) : Own := fun a => match O a with
  | some (n, m) => (jn n).map fun j => (j, m)
  | none => none
theorem lendO_at {O : Own} {jn : Nat → Option Nat} {a : Addr} {n m j : Nat} (h : O a = some (n, m)) (e : jn n = some j) : lendO O jn a = some (j, m) := by simp [lendO, h, e]
theorem lendO_of {O : Own} {jn : Nat → Option Nat} {a : Addr} {t : Tag} (h : lendO O jn a = some t) : ∃ n, O a = some (n, t.2) ∧ jn n = some t.1 := by
  unfold lendO at h
  cases e : O a with
  | none => rw [e] at h; cases h
  | some p =>
    obtain ⟨n, m⟩ := p
    rw [e] at h
    simp only [Option.map_eq_some_iff] at h
    obtain ⟨j, e2, rfl⟩ := h
    exact ⟨n, rfl, e2⟩
def backO (O' O lend : Own) (tg : Nat → Option Nat) (lr lρ lt : Nat) : Own := fun a => match O' a with
  | some (n', m) => if lr ≤ n' then some (lρ + lt + (n' - lr), m) else match tg n' with
    | some n => if n < lρ then some (n, m) else none
    | none => none
  | none => match lend a with
    | some _ => none
    | none => match O a with
      | some (n, m) => if n < lρ + lt then some (n, m) else none
      | none => none
section
variable {F : Fr} {G : Hp} {O : Own} {ρ : Sl} {ts us : List (PV × V)} {σ : St} {H : Hp} {Z' : Zt} {tg jn : Nat → Option Nat} {ds : List PV} {vs : List V}
theorem startS_get {n : Nat} {ds : List PV} {i : Nat} {d : PV} (h : (startS n ds)[i]? = some (some d)) : ds[i]? = some d := by
  unfold startS at h
  by_cases hi : i < ds.length
  · rw [List.getElem?_append_left (by simpa using hi), List.getElem?_map] at h
    cases e : ds[i]? with
    | none => rw [e] at h; cases h
    | some a => rw [e] at h; cases h; rfl
  · rw [List.getElem?_append_right (by simpa using hi), List.getElem?_replicate] at h
    split at h <;> cases h
theorem start_at {N : List Str} {vs : List V} {i : Nat} {v : V} (h : vs[i]? = some v) : (L2.start N vs)[i]? = some (some v) := by
  unfold L2.start
  have := get_lt h
  rw [List.getElem?_append_left (by simpa using this), List.getElem?_map, h]
  rfl
theorem Rel.enter (R : Rel F G O ρ (ts ++ us) σ H) (hK : Z'.K = F.Z.K) (hw : Z'.w = F.Z.w) (hj : ∀ n j, jn n = some j ↔ tg j = some n) {N : List Str} (hl : ds.length = vs.length) (hN : vs.length ≤ N.length)
    (ha : ∀ j d, ds[j]? = some d → ∃ v, vs[j]? = some v ∧ ((∃ n, tg j = some n ∧ d.calm = true ∧ RepO F G O H n d v) ∨ Rep F.Z G d v)) (hio : ∀ j ∈ Z'.io, j < vs.length) :
    Rel ⟨Z', H, lendO O jn, G, vs, none⟩ G (lendO O jn) (startS N.length ds) [] (L2.start N vs) H := by
  refine ⟨by simp [startS, L2.start, hl], R.gh, Sub.refl G, fun a t e => ?_, fun a o h _ => h, fun i d e => ?_, fun j p e => ?_, fun j hj => ?_, fun a o h => .inl h⟩
  · obtain ⟨n, e1, e2⟩ := lendO_of e
    obtain ⟨h1, h2, _⟩ := R.own a _ e1
    exact ⟨h1, h2, .inr ⟨t, e⟩⟩
  · have e' := startS_get e
    obtain ⟨v, hv, h⟩ := ha i d e'
    refine ⟨v, start_at hv, ?_⟩
    rcases h with ⟨n, h1, h2, h3⟩ | h
    · exact RepO.to (F' := ⟨Z', H, lendO O jn, G, vs, none⟩) hK hw (fun a o j q z => ⟨lendO_at q ((hj n i).mpr h1), z⟩) d v h2 h3
    · exact Rep.toO (F := ⟨Z', H, lendO O jn, G, vs, none⟩) (Rep.io hK hw d v h)
  · simp at e
  · have := hio j hj
    exact ⟨vs[j], by simp [this], start_at (by simp [this])⟩
theorem Rel.leave (R : Rel F G O ρ (ts ++ us) σ H) (hK : Z'.K = F.Z.K) (hw : Z'.w = F.Z.w) (hj : ∀ n j, jn n = some j ↔ tg j = some n) {ms : List Md} (hms : ∀ j i, slotOf ms j = some i → tg j = some i ∧ ∃ v, σ[i]? = some (some v) ∧ vs[j]? = some v)
    (hlt : ∀ j n, tg j = some n → n < ρ.length + ts.length → slotOf ms j = some n ∧ n < ρ.length ∧ j ∈ Z'.io) {G' : Hp} {O' : Own} {ρ' : Sl} {rs : List (PV × V)} {σ' : St} {H' : Hp} (R' : Rel ⟨Z', H, lendO O jn, G, vs, none⟩ G' O' ρ' rs σ' H') (hc : ∀ p ∈ rs, p.1.calm = true) :
    Rel F G' (backO O' O (lendO O jn) tg ρ'.length ρ.length ts.length) (putB ms Z'.io (Z'.io.map (outAt ρ')) ρ) (ts ++ rs) σ H' := by
  have R0 : Rel F G O ρ ts σ H := R.drop
  -- an object of the caller that is not lent stays as it is
  have keep : ∀ {a : Addr} {n m : Nat} {o : HO}, O a = some (n, m) → jn n = none → H a = some o → H' a = some o ∧ O' a = none ∧ lendO O jn a = none := fun {a n m o} e1 e2 e3 => by
    have l : lendO O jn a = none := by simp [lendO, e1, e2]
    refine ⟨R'.frm a o e3 l, ?_, l⟩
    cases q : O' a with
    | none => rfl
    | some t =>
      obtain ⟨_, _, z⟩ := R'.own a t q
      rcases z with z | ⟨t0, z⟩
      · have : H a = none := z
        rw [e3] at this
        cases this
      · have : lendO O jn a = some t0 := z
        rw [l] at this
        cases this
  have noJ : ∀ {n : Nat}, (∀ j, slotOf ms j ≠ some n) → n < ρ.length + ts.length → jn n = none := fun {n} h l => by
    cases q : jn n with
    | none => rfl
    | some j => exact absurd ((hlt j n ((hj n j).mp q) l).1) (h j)
  have mono : ∀ {n : Nat} {d : PV} {v : V}, (∀ j, slotOf ms j ≠ some n) → n < ρ.length + ts.length → RepO F G O H n d v → RepO F G' (backO O' O (lendO O jn) tg ρ'.length ρ.length ts.length) H' n d v := fun {n d v} h l r =>
    r.mono R'.g0 fun a o m e q => by
      obtain ⟨h1, h2, h3⟩ := keep e (noJ h l) q
      refine ⟨?_, h1⟩
      unfold backO
      rw [h2, h3, e]
      simp [l]
  refine ⟨by rw [putB_length]; exact R0.len, R'.gh, R0.g0.trans R'.g0, fun a t e => ?_, fun a o h q => ?_, fun i d e => ?_, fun j p e => ?_, R0.io, fun a o h => ?_⟩
  · unfold backO at e
    cases q : O' a with
    | some p =>
      obtain ⟨n', m⟩ := p
      obtain ⟨h1, h2, h3⟩ := R'.own a _ q
      refine ⟨h1, h2, ?_⟩
      rcases h3 with h3 | ⟨t0, h3⟩
      · exact R0.newH0 h3
      · obtain ⟨n, e1, _⟩ := lendO_of (show lendO O jn a = some t0 from h3)
        exact (R0.own a _ e1).2.2
    | none =>
      rw [q] at e
      cases ql : lendO O jn a with
      | some _ => rw [ql] at e; cases e
      | none =>
        rw [ql] at e
        cases qo : O a with
        | none => rw [qo] at e; cases e
        | some p =>
          obtain ⟨n, m⟩ := p
          obtain ⟨h1, ⟨o, h2⟩, h3⟩ := R0.own a _ qo
          refine ⟨?_, ⟨o, R'.frm a o h2 ql⟩, h3⟩
          cases z : G' a with
          | none => rfl
          | some o' =>
            rcases R'.gn a o' z with w | w | ⟨t0, w⟩
            · have : G a = some o' := w
              rw [h1] at this
              cases this
            · have : H a = none := w
              rw [h2] at this
              cases this
            · have : lendO O jn a = some t0 := w
              rw [ql] at this
              cases this
  · have h' := R0.frm a o h q
    refine R'.frm a o h' ?_
    show lendO O jn a = none
    cases qo : O a with
    | none => simp [lendO, qo]
    | some p =>
      obtain ⟨_, _, z⟩ := R0.own a _ qo
      rcases z with z | ⟨t0, z⟩
      · rw [h] at z; cases z
      · rw [q] at z; cases z
  · by_cases hs : ∃ j, slotOf ms j = some i
    · obtain ⟨j, hs⟩ := hs
      obtain ⟨h1, v, h2, h3⟩ := hms j i hs
      have li : i < ρ.length := by rw [R0.len]; exact get_lt h2
      have hio := (hlt j i h1 (by omega)).2.2
      rw [putB_in (fun k l hk hl => by
        have a := (hms k i hk).1
        have b := (hms l i hl).1
        have := (hj i k).mpr a
        have q := (hj i l).mpr b
        rw [this] at q
        exact Option.some.inj q) hio hs li] at e
      have e2 : outAt ρ' j = some d := Option.some.inj e
      unfold outAt at e2
      split at e2
      · rename_i d' e3
        split at e2
        · rename_i c
          cases e2
          obtain ⟨v', h4, h5⟩ := R'.sl j d e3
          obtain ⟨v2, h6, h7⟩ := R'.io j hio
          have : v2 = v := by
            have : vs[j]? = some v2 := h6
            rw [h3] at this
            exact (Option.some.inj this).symm
          rw [this] at h7
          rw [h7] at h4
          cases h4
          refine ⟨v, h2, ?_⟩
          refine RepO.to (F := ⟨Z', H, lendO O jn, G, vs, none⟩) hK.symm hw.symm (fun a o m q z => ⟨?_, z⟩) d v c h5
          unfold backO
          rw [q]
          simp only
          rw [if_neg (by have := get_lt e3; omega), h1]
          simp [li]
        · cases e2
      · cases e2
    · have hs' : ∀ j, slotOf ms j ≠ some i := fun j z => hs ⟨j, z⟩
      rw [putB_out fun j _ => hs' j] at e
      obtain ⟨v, h1, h2⟩ := R0.sl i d e
      exact ⟨v, h1, mono hs' (by have := get_lt e; omega) h2⟩
  · rw [putB_length]
    by_cases l : j < ts.length
    · rw [List.getElem?_append_left l] at e
      refine mono (fun k z => ?_) (by omega) (R0.tp j p e)
      obtain ⟨h1, _⟩ := hms k _ z
      have := (hlt k _ h1 (by omega)).2.1
      omega
    · rw [List.getElem?_append_right (by omega)] at e
      have h := R'.tp (j - ts.length) p e
      refine RepO.to (F := ⟨Z', H, lendO O jn, G, vs, none⟩) hK.symm hw.symm (fun a o m q z => ⟨?_, z⟩) p.1 p.2 (hc p (List.mem_of_getElem? e)) h
      unfold backO
      rw [q]
      simp only
      rw [if_pos (by omega)]
      congr 2
      omega
  · rcases R'.gn a o h with w | w | ⟨t0, w⟩
    · exact R0.gn a o w
    · exact .inr (R0.newH0 w)
    · obtain ⟨n, e1, _⟩ := lendO_of (show lendO O jn a = some t0 from w)
      exact .inr (R0.own a _ e1).2.2
end
end Wv

set_option Elab.async false
set_option linter.all false
set_option autoImplicit false
set_option maxRecDepth 100000
/-! WvP: defs and their calls. -/
namespace Wv
open PySem PySem.Spec PyProof.Rows L2

inductive FRes where
  | ok (v : PV) (outs : List (Option PV))
  | exc (C : Str) (fs : List (Str × PV)) (outs : List (Option PV))
  | bad
def outsOf (io : List Nat) (ρ : Sl) : List (Option PV) := io.map (outAt ρ)
/-- a def's body, run at its arguments -/
def runF (n : Nat) (io : List Nat) (b : SM) (ds : List PV) : FRes := match b (startS n ds) with
  | .rt v ρ => if v.calm then .ok v (outsOf io ρ) else .bad
  | .nx ρ => .ok .non (outsOf io ρ)
  | .exc C fs ρ => .exc C fs (outsOf io ρ)
  | _ => .bad
def PostF (F : Fr) (Q : VK) (E : XK) : FRes → Prop
  | .ok v outs => ∀ G' O' ρ' σ' H' x, Rel F G' O' ρ' [(v, x)] σ' H' → outs = outsOf F.Z.io ρ' → v.calm = true → Q x H'
  | .exc C fs outs => ∀ G' O' ρ' σ' H' cls d, Rel F G' O' ρ' [] σ' H' → outs = outsOf F.Z.io ρ' → ExcIs F.Z G' cls d C fs → E cls d H'
  | .bad => False
def spF (Z : Zt) (N : List Str) (np : Nat) (sem : List PV → FRes) : Sp := fun vs H Q E => vs.length = np ∧ ∃ F G O ds, F.Z = Z ∧ Rel F G O (startS N.length ds) [] (L2.start N vs) H ∧ PostF F Q E (sem ds)

/-- a def keeps its promise, where nothing is being shown -/
structure FnG (P : Program) (w : World) (K : PySem.W.Frag) (mg : Str → Option Value) (base : Heap) (k : Nat) (f : Addr) (fd : FuncData) (ps : List Str) (sp : Sp) : Prop where
  len : ∀ vs H Q E, sp vs H Q E → vs.length = ps.length
  run : ∀ (A : Around) (outer : List Env) (s : Shared) (H : Hp) (args : Args) (us : List Value) (vs : List V) (Q : VK) (E : XK), Room k A → A.guards = some [] → Env0 P w K mg base A outer s H → BindsTo s fd args (ps.zip us) → Vals vs us →
    sp vs H Q E → codeAny (model P w) A (.call (.ref f) args) (L2.CR (L2.CX P w) outer P w H s Q E) s
theorem FnG.mono {P : Program} {w : World} {K : PySem.W.Frag} {mg : Str → Option Value} {base : Heap} {j k : Nat} {f : Addr} {fd : FuncData} {ps : List Str} {sp : Sp} (X : FnG P w K mg base j f fd ps sp) (h : j ≤ k) : FnG P w K mg base k f fd ps sp :=
  ⟨X.len, fun A o s H args us vs Q E hr => X.run A o s H args us vs Q E (hr.mono h)⟩
section
variable {P : Program} {w : World} {K : PySem.W.Frag} {mg : Str → Option Value} {base : Heap} {k : Nat} {f : Addr} {name qual : Str} {params : Arguments} {body : List Stmt} {scope : Scope} {dV kV doc pm cdv ct oc : Value} {an od : Option Addr} {osl : Array (Option Value)} {N ps : List Str}
theorem post_of {F : Fr} {Q : VK} {E : XK} {io : List Nat} {b : SM} {ds : List PV} {n : Nat} (hio : F.Z.io = io) (h : PostF F Q E (runF n io b ds)) : PostS (fun cls d _ H' => E cls d H') F [] { nx := fun _ H' => Q .non H', rt := Q } (b (startS n ds)) := by
  unfold runF at h
  subst hio
  cases e : b (startS n ds) with
  | nx ρ' => rw [e] at h; exact fun G' O' σ' H' R => h G' O' ρ' σ' H' .non (R.pushF (by simp only [Rep])) rfl rfl
  | rt v ρ' =>
    rw [e] at h
    simp only at h
    split at h
    · rename_i c
      exact fun G' O' σ' H' x R => h G' O' ρ' σ' H' x R rfl c
    · exact h.elim
  | exc C fs ρ' => rw [e] at h; exact fun σ' G' O' H' cls d R x => h G' O' ρ' σ' H' cls d R rfl x
  | bk ρ' => rw [e] at h; exact h.elim
  | ct ρ' => rw [e] at h; exact h.elim
  | bad => rw [e] at h; exact h.elim
theorem fnG_of {io : List Nat} {b : SM} (lk : K.lookup f = some ⟨oc, od, .func (PySem.W.fnOf name qual params body scope dV kV doc pm an cdv ct), osl⟩) (hcd : PySem.W.codeIn K cdv qual = true) (S : FnScope N ps scope)
    (hbody : ∀ (A : Around) (outer : List Env) (s : Shared) (H : Hp) (E : XK), Room k (A.deeper (envOfC qual scope s.heap.objs.size f cdv)) → A.guards = some [] →
      SSJ (cxOf (L2.CX P w) P w K mg base N qual scope f cdv A outer s H E) io (fun cls d _ H' => E cls d H') body b) :
    FnG P w K mg base (k + 1) f (PySem.W.fnOf name qual params body scope dV kV doc pm an cdv ct) ps (spF ⟨P, w, K, io⟩ N ps.length (runF N.length io b)) := by
  refine ⟨fun vs H Q E h => h.1, fun A outer s H args us vs Q E room gd e0 binds rel want => ?_⟩
  obtain ⟨hlen, F, G, O, ds, hZ, R, post⟩ := want
  have kin : K.In s.heap := e0.mod.kin.keeps fun b o e => (e0.bs b o e).1
  have nolim : s.heap.NoLimit := e0.mod.nolimit.keeps fun b o e => (e0.bs b o e).1
  have kinds : ∀ y ∈ ps.zip us, scope.names.lookup y.1 = some .local ∨ (scope.names.lookup y.1 = some .cell ∧ ((cellsFrom (s.heap.objs.size + 1) scope.names []).lookup y.1).isSome = true) := by
    rintro ⟨n, v⟩ hy
    exact (S.par n (List.of_mem_zip hy).1).imp id fun q => ⟨q, PySem.W.cellsFrom_some _ _ _ (.inl q)⟩
  refine codeAny_call_function room.depth (kin _ _ lk) rfl S.co S.gen rfl (PySem.W.codeRec_of kin hcd) (binds _ _ _ _ ?_)
  refine wpAny_newFunctionEnv_cells S.kind kinds fun env he s1 made => ?_
  subst he
  refine ⟨nolim.keeps made.toInCall.keep, codeAny_func ?_⟩
  have inv : Inv (cxOf (L2.CX P w) P w K mg base N qual scope f cdv A outer s H E) [] (L2.start N vs) H s1 := inv_start S room.hd e0 hlen rel made
  have ran := (hbody A outer s H E (room.deeper _) gd).run [] s1 (L2.start N vs) H { nx := fun _ H' => Q .non H', rt := Q } inv ⟨F, G, O, startS N.length ds, [], hZ, R, post_of (by rw [hZ]) post⟩
  refine wpAny_mono ran (fun fl s' hs => ?_) fun e s' hs => hs
  have done : ∀ {σ' : St} {H' : Hp} {v : V} {u : Value}, Inv (cxOf (L2.CX P w) P w K mg base N qual scope f cdv A outer s H E) [] σ' H' s' → RelV v u → Q v H' → CE outer P w H s Q u s' := fun {σ' H' v u} j rv q => ⟨v, H', j.os, j.bare, j.base, j.hok, rv, q⟩
  cases fl with
  | ret u => obtain ⟨v, σ', H', j, rv, q⟩ := hs; exact done j rv q
  | next => obtain ⟨σ', H', j, q⟩ := hs; exact done (v := V.non) (u := Value.none) j rfl q
  | brk => exact (hs.elim fun _ z => z.elim fun _ z => z.2).elim
  | cont => exact (hs.elim fun _ z => z.elim fun _ z => z.2).elim
end

/-! ### the call, by values -/
section
variable {X : Cx} {k : Nat} {f C : Addr} {fd : FuncData} {ps : List Str} {sp : Sp} {dvs : List V} {dsv : List Value} {W : WX} {x m : Str} {p pos apos : Pos} {e o : Expr} {es : List Expr} {ta : TE} {t : TA}
theorem run_fnG {pins : List (Addr × Obj)} {σ : St} {H : Hp} {s : Shared} {Q : VK} {us : List Value} {vs : List V} (X1 : FnG X.prog X.w X.K X.mg X.base k f fd ps sp) (hr : Room k X.A) (gd : X.A.guards = some []) (hb : Binds X.K fd ps dsv) (hd : Vals dvs dsv) (tk : Takes X W)
    (I : Inv X pins σ H s) (r : Vals vs us) (h : sp (vs ++ dvs) H Q (WE W σ)) : wpAny (model X.prog X.w) X.A (call (.ref f) us) (EP X pins σ Q) X.xe s := by
  have both := r.append hd
  have hl : (us ++ dsv).length = ps.length := both.length.symm.trans (X1.len _ _ _ _ h)
  refine wpAny_call (codeAny_mono (X1.run X.A X.stack s H ⟨us, []⟩ (us ++ dsv) (vs ++ dvs) Q (WE W σ) hr gd I.env0 (hb s us I.kIn hl) both h) fun r s' hq => ?_)
  match r, hq with
  | .error e, hq => exact passAt tk σ pins H s e s' I hq
  | .ok (.ret u), hq => exact I.after hq
  | .ok .next, hq => exact False.elim hq
  | .ok .brk, hq => exact False.elim hq
  | .ok .cont, hq => exact False.elim hq
theorem pe_callG (X1 : FnG X.prog X.w X.K X.mg X.base k f fd ps sp) (hr : Room k X.A) (gd : X.A.guards = some []) (hg : Gl X x) (hm : X.mg x = some (.ref f)) (hk : PySem.W.keepIn X.K (.ref f) = true) (hb : Binds X.K fd ps dsv) (hd : Vals dvs dsv) (tk : Takes X W) (ha : PA X (e :: es) t)
    (hdb : (x == ("__debug__" : Str)) = false := by decide) (he : starEach (e :: es) X.env = (false, eval e X.env) :: starEach es X.env := by rfl) (hpl : (backTo pos (starEach es X.env)).any (·.1) = false := by rfl) : PE X (.Call (.Name x p) (e :: es) [] pos) (tCallSD sp dvs (WE W) t) := by
  constructor
  intro pins s σ H Q I h
  refine wpAny_Call_Name_kw (ld_glob I hg hm (PySem.W.callWith_K (h₀ := X.base) I.ok.mod.kin hk (thn (ha.run pos pins s σ H _ I h) fun us s1 ⟨vs, H1, I1, r, q⟩ => ⟨I1.kIn, ?_⟩) he hpl) hdb)
  exact run_fnG X1 hr gd hb hd tk I1 r q
theorem pe_call0G (X1 : FnG X.prog X.w X.K X.mg X.base k f fd ps sp) (hr : Room k X.A) (gd : X.A.guards = some []) (hg : Gl X x) (hm : X.mg x = some (.ref f)) (hk : PySem.W.keepIn X.K (.ref f) = true) (hb : Binds X.K fd ps dsv) (hd : Vals dvs dsv) (tk : Takes X W)
    (hdb : (x == ("__debug__" : Str)) = false := by decide) : PE X (.Call (.Name x p) [] [] pos) (tCallSD sp dvs (WE W) tNil) := by
  constructor
  intro pins s σ H Q I h
  exact wpAny_Call_Name_kw (ld_glob I hg hm (PySem.W.callWith_K0 I.kIn hk (run_fnG (us := []) X1 hr gd hb hd tk I .nil h)) hdb)
def tMethS (C : Addr) (m : Str) (sp : Sp) (dvs : List V) (W : WX) (ta : TE) (t : TA) : TE := fun σ H Q => ta σ H fun x H1 => ∃ a dx fs, x = .ref a ∧ H1 a = some (.ins C dx fs) ∧ fs.lookup m = none ∧ t σ H1 fun vs H2 => sp (x :: (vs ++ dvs)) H2 Q (WE W σ)
theorem pe_methG {pl : Sem Bool} (he : PE X o ta) (c : Cls X.K C) (hm : Meth X.K C m f) (X1 : FnG X.prog X.w X.K X.mg X.base k f fd ps sp) (hr : Room k X.A) (gd : X.A.guards = some []) (hb : Binds X.K fd ps dsv) (hd : Vals dvs dsv) (tk : Takes X W) (ha : PA X (e :: es) t)
    (hst : starEach (e :: es) X.env = (false, eval e X.env) :: starEach es X.env := by rfl) (hpl : (backTo pos (starEach es X.env)).any (·.1) = false := by rfl)
    (ht : eval (.Call (.Attribute o m apos) (e :: es) [] pos) X.env = (do
      let ov ← eval o X.env
      standAt apos.atName
      let (g, first) ← holding [ov] (getMethod ov m pl)
      callWith pos g first (backTo pos (starEach (e :: es) X.env)) (backToKw pos (keywordEach [] X.env))) := by rfl) :
    PE X (.Call (.Attribute o m apos) (e :: es) [] pos) (tMethS C m sp dvs W ta t) := by
  constructor
  intro pins s σ H Q I h
  refine PySem.W.methodCall_KW (pl := pl) (thn (he.run pins s σ H _ I h) fun u s1 ⟨y, H1, I1, ry, a, dx, fs, ey, ea, l, q⟩ => ?_) ht
  subst ey
  have eu : u = Value.ref a := ry
  subst eu
  refine getmeth_ok I1 ea c hm l (PySem.W.callWith_K (first := [.ref a]) (h₀ := X.base) I.ok.mod.kin hm.kp (thn (ha.run pos pins s1 σ H1 _ I1 q) fun us s2 ⟨vs, H2, I2, r, q2⟩ => ⟨I2.kIn, ?_⟩) hst hpl)
  exact run_fnG (us := .ref a :: us) (vs := .ref a :: vs) X1 hr gd hb hd tk I2 (.cons rfl r) q2
theorem pe_meth0G {pl : Sem Bool} (he : PE X o ta) (c : Cls X.K C) (hm : Meth X.K C m f) (X1 : FnG X.prog X.w X.K X.mg X.base k f fd ps sp) (hr : Room k X.A) (gd : X.A.guards = some []) (hb : Binds X.K fd ps dsv) (hd : Vals dvs dsv) (tk : Takes X W)
    (ht : eval (.Call (.Attribute o m apos) [] [] pos) X.env = (do
      let ov ← eval o X.env
      standAt apos.atName
      let (g, first) ← holding [ov] (getMethod ov m pl)
      callWith pos g first (backTo pos (starEach [] X.env)) (backToKw pos (keywordEach [] X.env))) := by rfl) :
    PE X (.Call (.Attribute o m apos) [] [] pos) (tMethS C m sp dvs W ta tNil) := by
  constructor
  intro pins s σ H Q I h
  refine PySem.W.methodCall_KW (pl := pl) (thn (he.run pins s σ H _ I h) fun u s1 ⟨y, H1, I1, ry, a, dx, fs, ey, ea, l, q⟩ => ?_) ht
  subst ey
  have eu : u = Value.ref a := ry
  subst eu
  exact getmeth_ok I1 ea c hm l (PySem.W.callWith_K0 (first := [.ref a]) I1.kIn hm.kp (run_fnG (us := [.ref a]) (vs := [.ref a]) X1 hr gd hb hd tk I1 (.cons rfl .nil) q))
theorem guards_make {A : Around} {C : Addr} {us : List Value} {kw : List (Str × Value)} (gd : A.guards = some []) : (A.under (.builtin "type.__call__" ⟨.ref C :: us, kw⟩)).guards = some [] := by
  first | exact gd | simp [Around.under, Code.guards, Code.isGuard, guardIds, gd]
def tMakeS (C : Addr) (sp : Sp) (dvs : List V) (W : WX) (t : TA) : TE := fun σ H Q => t σ H fun vs H1 => ∀ x dx, H1 x = none → H1 dx = none → dx ≠ x →
  sp (.ref x :: (vs ++ dvs)) (upd (upd H1 dx (.own x)) x (.ins C dx [])) (fun v H2 => v = .non ∧ Q (.ref x) H2) (WE W σ)
theorem run_makeG {pins : List (Addr × Obj)} {σ : St} {H : Hp} {s : Shared} {Q : VK} {us : List Value} {vs : List V} (mk : Mk X.K C f) (X1 : FnG X.prog X.w X.K X.mg X.base k f fd ps sp) (hr : Room (k + 1) X.A) (gd : X.A.guards = some []) (hb : Binds X.K fd ps dsv) (hd : Vals dvs dsv) (tk : Takes X W)
    (I : Inv X pins σ H s) (r : Vals vs us) (h : ∀ x dx, H x = none → H dx = none → dx ≠ x → sp (.ref x :: (vs ++ dvs)) (upd (upd H dx (.own x)) x (.ins C dx [])) (fun v H2 => v = .non ∧ Q (.ref x) H2) (WE W σ)) :
    wpAny (model X.prog X.w) X.A (call (.ref C) us) (EP X pins σ Q) X.xe s := by
  have want := h (s.heap.objs.size + 1) s.heap.objs.size (I.hok.fresh (Nat.le_succ _)) (I.hok.fresh (Nat.le_refl _)) (Nat.ne_of_lt (Nat.lt_succ_self _))
  have I2 := Inv.made (C := C) I
  have both : Vals (V.ref (s.heap.objs.size + 1) :: (vs ++ dvs)) (Value.ref (s.heap.objs.size + 1) :: (us ++ dsv)) := .cons rfl (r.append hd)
  have hl : (Value.ref (s.heap.objs.size + 1) :: us ++ dsv).length = ps.length := both.length.symm.trans (X1.len _ _ _ _ want)
  have ran := X1.run _ X.stack _ _ ⟨Value.ref (s.heap.objs.size + 1) :: us, []⟩ (Value.ref (s.heap.objs.size + 1) :: (us ++ dsv)) _ _ (WE W σ) (hr.make C us []) (guards_make gd) (I2.env0.make C us []) (hb _ (Value.ref (s.heap.objs.size + 1) :: us) I2.kIn hl) both want
  refine wpAny_call (make_map (f := f) I.kIn mk.makes mk.init (beq_iff_eq.mp mk.fn) (codeAny_mono ran fun r s' hq => ?_))
  match r, hq with
  | .error e, hq => exact passAt tk σ pins _ _ e s' I2 hq
  | .ok (.ret u), hq =>
    obtain ⟨v, H', I3, rv, ev, q3⟩ := I2.after hq
    subst ev
    exact ⟨rv, V.ref (s.heap.objs.size + 1), H', I3, rfl, q3⟩
  | .ok .next, hq => exact False.elim hq
  | .ok .brk, hq => exact False.elim hq
  | .ok .cont, hq => exact False.elim hq
theorem pe_makeG (mk : Mk X.K C f) (X1 : FnG X.prog X.w X.K X.mg X.base k f fd ps sp) (hr : Room (k + 1) X.A) (gd : X.A.guards = some []) (hg : Gl X x) (hm : X.mg x = some (.ref C)) (hb : Binds X.K fd ps dsv) (hd : Vals dvs dsv) (tk : Takes X W) (ha : PA X (e :: es) t)
    (hdb : (x == ("__debug__" : Str)) = false := by decide) (he : starEach (e :: es) X.env = (false, eval e X.env) :: starEach es X.env := by rfl) (hpl : (backTo pos (starEach es X.env)).any (·.1) = false := by rfl) : PE X (.Call (.Name x p) (e :: es) [] pos) (tMakeS C sp dvs W t) := by
  constructor
  intro pins s σ H Q I h
  refine wpAny_Call_Name_kw (ld_glob I hg hm (PySem.W.callWith_K (h₀ := X.base) I.ok.mod.kin mk.kp (thn (ha.run pos pins s σ H _ I h) fun us s1 ⟨vs, H1, I1, r, q⟩ => ⟨I1.kIn, ?_⟩) he hpl) hdb)
  exact run_makeG mk X1 hr gd hb hd tk I1 r q
end
end Wv

set_option Elab.async false
set_option linter.all false
set_option autoImplicit false
set_option maxRecDepth 100000
/-! WvQ: calls of defs, methods, classes. -/
namespace Wv
open PySem PySem.Spec PyProof.Rows L2

/-- the values that go in, and what stands for them among the temporaries -/
inductive ArgR (σ : St) : List Md → List V → List V → Prop
  | nil : ArgR σ [] [] []
  | f {ms xs ys} (x : V) : ArgR σ ms xs ys → ArgR σ (.f :: ms) (x :: xs) (x :: ys)
  | t {ms xs ys} (x : V) : ArgR σ ms xs ys → ArgR σ (.t :: ms) (x :: xs) (x :: ys)
  | s {ms xs ys} {i : Nat} (x : V) : σ[i]? = some (some x) → ArgR σ ms xs ys → ArgR σ (.s i :: ms) (x :: xs) (.non :: ys)
/-- the temporaries are of the right kind -/
inductive MdOk : List Md → List PV → Prop
  | nil : MdOk [] []
  | f {ms ds} {d : PV} : d.own = false → d.isE = false → MdOk ms ds → MdOk (.f :: ms) (d :: ds)
  | t {ms ds} {d : PV} : d.calm = true → MdOk ms ds → MdOk (.t :: ms) (d :: ds)
  | s {ms ds} {i : Nat} {d : PV} : d = .non → MdOk ms ds → MdOk (.s i :: ms) (d :: ds)
def PostM (W : WX) (F : Fr) (ts : List (PV × V)) (σ : St) (ms : List Md) (Q : List V → Hp → Prop) : Res (List PV) → Prop
  | .ok ds ρ' => ∀ G' O' H' xs ys, ds.length = ys.length → MdOk ms ds → ArgR σ ms xs ys → Rel F G' O' ρ' (ts ++ ds.zip ys) σ H' → Q xs H'
  | .exc C fs ρ' => ExcQ F.Z W F ts σ C fs ρ'
  | .bad => False
def TM (Z : Zt) (W : WX) (ms : List Md) (g : M (List PV)) : TA := fun σ H Q => ∃ F G O ρ ts, F.Z = Z ∧ Rel F G O ρ ts σ H ∧ PostM W F ts σ ms Q (g ρ)
def MJ (X : Cx) (io : List Nat) (W : WX) (es : List Expr) (ms : List Md) (g : M (List PV)) : Prop := PA X es (TM (X.zt io) W ms g)
def mT (u : M PV) (g : M (List PV)) : M (List PV) := M.bind u fun x => if x.calm then M.bind g fun ys => M.ret (x :: ys) else bad
def mS (i : Nat) (g : M (List PV)) : M (List PV) := fun ρ => match ρ[i]? with
  | some (some _) => M.bind g (fun ys => M.ret (.non :: ys)) ρ
  | _ => .bad
theorem ExcIs.to {Z Z' : Zt} {G : Hp} {cls : Value} {d : Option Addr} {C : Str} {fs : List (Str × PV)} (hx : ExcIs Z G cls d C fs) (hK : Z'.K = Z.K) (hw : Z'.w = Z.w) : ExcIs Z' G cls d C fs := by
  obtain ⟨x1, x2⟩ := hx
  refine ⟨by rw [hK]; exact x1, ?_⟩
  rcases x2 with x2 | ⟨q, vfs, h1, h2, h3⟩
  · exact .inl x2
  · exact .inr ⟨q, vfs, h1, h2, RepFs.io hK hw _ _ h3⟩
theorem frz_free {d : PV} (c : d.calm = true) : d.frz.own = false ∧ d.frz.isE = false := by
  cases d with
  | lst o xs => cases o <;> exact ⟨rfl, rfl⟩
  | dct o xs => cases o <;> exact ⟨rfl, rfl⟩
  | obj o C xs => cases o <;> exact ⟨rfl, rfl⟩
  | exc C xs => cases c
  | _ => exact ⟨rfl, rfl⟩
section
variable {X : Cx} {io : List Nat} {W : WX} {a : Expr} {es : List Expr} {u : M PV} {g : M (List PV)} {ms : List Md} {pos : Pos}
theorem mj_nil : MJ X io W [] [] aNil := PA.imp pa_nil fun σ H Q ⟨F, G, O, ρ, ts, hZ, R, P⟩ => P G O H [] [] rfl .nil .nil (by simpa using R)
theorem zip_cons {ts : List (PV × V)} {d : PV} {x : V} {ds : List PV} {ys : List V} : ts ++ [(d, x)] ++ ds.zip ys = ts ++ (d :: ds).zip (x :: ys) := by simp
theorem mj_f (ha : EJ X io W a u) (hr : MJ X io W es ms g) (hs : starEach (a :: es) X.env = (false, eval a X.env) :: starEach es X.env := by rfl) : MJ X io W (a :: es) (.f :: ms) (aCons u g) := by
  refine PA.imp (pa_cons ha hr hs) ?_
  rintro σ H Q ⟨F, G, O, ρ, ts, hZ, R, P⟩
  refine ⟨F, G, O, ρ, ts, hZ, R, ?_⟩
  unfold aCons M.bind at P
  cases e : u ρ with
  | bad => rw [e] at P; exact P
  | exc C fs ρ' => rw [e] at P; exact P
  | ok w ρ1 =>
    rw [e] at P
    simp only at P
    intro G1 O1 H1 x R1
    by_cases c : w.calm = true
    · have e2 : frzM w ρ1 = .ok w.frz ρ1 := by unfold frzM; rw [if_pos c]; rfl
      rw [e2] at P
      simp only at P
      obtain ⟨R2, q⟩ := R1.frzTop c
      refine ⟨F, _, _, ρ1, ts ++ [(w.frz, x)], hZ, R2, ?_⟩
      cases e3 : g ρ1 with
      | bad => simp only [e3] at P; exact P
      | exc C fs ρ' => simp only [e3] at P; exact ExcQ.up _ P
      | ok ws ρ2 =>
        simp only [e3] at P
        intro G2 O2 H2 xs ys l mo ar R3
        rw [zip_cons] at R3
        exact P G2 O2 H2 (x :: xs) (x :: ys) (by simp [l]) (.f (frz_free c).1 (frz_free c).2 mo) (.f x ar) R3
    · have e2 : frzM w ρ1 = .bad := by unfold frzM; rw [if_neg c]; rfl
      rw [e2] at P
      exact P.elim
theorem mj_t (ha : EJ X io W a u) (hr : MJ X io W es ms g) (hs : starEach (a :: es) X.env = (false, eval a X.env) :: starEach es X.env := by rfl) : MJ X io W (a :: es) (.t :: ms) (mT u g) := by
  refine PA.imp (pa_cons ha hr hs) ?_
  rintro σ H Q ⟨F, G, O, ρ, ts, hZ, R, P⟩
  refine ⟨F, G, O, ρ, ts, hZ, R, ?_⟩
  unfold mT M.bind at P
  cases e : u ρ with
  | bad => rw [e] at P; exact P
  | exc C fs ρ' => rw [e] at P; exact P
  | ok w ρ1 =>
    rw [e] at P
    simp only at P
    intro G1 O1 H1 x R1
    by_cases c : w.calm = true
    · rw [if_pos c] at P
      refine ⟨F, _, _, ρ1, ts ++ [(w, x)], hZ, R1, ?_⟩
      cases e3 : g ρ1 with
      | bad => simp only [e3] at P; exact P
      | exc C fs ρ' => simp only [e3] at P; exact ExcQ.up _ P
      | ok ws ρ2 =>
        simp only [e3] at P
        intro G2 O2 H2 xs ys l mo ar R3
        rw [zip_cons] at R3
        exact P G2 O2 H2 (x :: xs) (x :: ys) (by simp [l]) (.t c mo) (.t x ar) R3
    · rw [if_neg c] at P
      exact P.elim
theorem mj_s {i : Nat} {x : Str} {px : Pos} (hN : X.N[i]? = some x) (hv : Vis X.env.scope x) (hr : MJ X io W es ms g) (hs : starEach (.Name x px :: es) X.env = (false, eval (.Name x px) X.env) :: starEach es X.env := by rfl)
    (hd : (x == ("__debug__" : Str)) = false := by decide) (hcd : (x == ("__classdict__" : Str)) = false := by decide) : MJ X io W (.Name x px :: es) (.s i :: ms) (mS i g) := by
  refine PA.imp (pa_cons (pe_var hN hv hd hcd) hr hs) ?_
  rintro σ H Q ⟨F, G, O, ρ, ts, hZ, R, P⟩
  unfold mS at P
  split at P
  · rename_i d e
    obtain ⟨v, h1, h2⟩ := R.sl i d e
    refine ⟨v, h1, F, G, O, ρ, ts ++ [(.non, .non)], hZ, R.pushF (by simp only [Rep]), ?_⟩
    unfold M.bind at P
    cases e3 : g ρ with
    | bad => simp only [e3] at P; exact P
    | exc C fs ρ' => simp only [e3] at P; exact ExcQ.up _ P
    | ok ws ρ2 =>
      simp only [e3] at P
      intro G2 O2 H2 xs ys l mo ar R3
      rw [zip_cons] at R3
      exact P G2 O2 H2 (v :: xs) (.non :: ys) (by simp [l]) (.s rfl mo) (.s v h1 ar) R3
  · exact P.elim

/-! ### the call -/
def argsAt : List Md → List PV → Sl → Option (List PV)
  | [], [], _ => some []
  | .s i :: ms, _ :: ds, ρ => match ρ[i]? with
    | some (some d) => if d.calm then (argsAt ms ds ρ).map fun r => d :: r else none
    | _ => none
  | .f :: ms, d :: ds, ρ => (argsAt ms ds ρ).map fun r => d :: r
  | .t :: ms, d :: ds, ρ => (argsAt ms ds ρ).map fun r => d :: r
  | _, _, _ => none
/-- the call's answer -/
def callR (ms : List Md) (io' : List Nat) (dd : List PV) (sem : List PV → FRes) (ds : List PV) : M PV := fun ρ => match argsAt ms ds ρ with
  | none => .bad
  | some cs => match sem (cs ++ dd) with
    | .ok v outs => .ok v (putB ms io' outs ρ)
    | .exc C fs outs => .exc C fs (putB ms io' outs ρ)
    | .bad => .bad
def eCall (ms : List Md) (io' : List Nat) (dd : List PV) (sem : List PV → FRes) (g : M (List PV)) : M PV := M.bind g (callR ms io' dd sem)
def msOk (ms : List Md) (io' : List Nat) : Bool := (List.range ms.length).all fun j => (slotOf ms j).isNone || (io'.contains j && (List.range ms.length).all fun k => slotOf ms k != slotOf ms j || j == k)
theorem slot_lt {ms : List Md} {j i : Nat} (h : slotOf ms j = some i) : j < ms.length := by
  unfold slotOf at h
  by_cases l : j < ms.length
  · exact l
  · rw [List.getElem?_eq_none (by omega)] at h
    cases h
theorem msOk_of {ms : List Md} {io' : List Nat} (h : msOk ms io' = true) : (∀ j i, slotOf ms j = some i → j ∈ io') ∧ ∀ j k i, slotOf ms j = some i → slotOf ms k = some i → j = k := by
  unfold msOk at h
  rw [List.all_eq_true] at h
  have key : ∀ j i, slotOf ms j = some i → j ∈ io' ∧ ∀ k, slotOf ms k = some i → j = k := fun j i e => by
    have q := h j (List.mem_range.mpr (slot_lt e))
    rw [e] at q
    simp only [Option.isNone_some, Bool.false_or, Bool.and_eq_true, List.all_eq_true] at q
    refine ⟨by simpa using q.1, fun k hk => ?_⟩
    have r := q.2 k (List.mem_range.mpr (slot_lt hk))
    rw [hk] at r
    simpa using r
  exact ⟨fun j i e => (key j i e).1, fun j k i e1 e2 => (key j i e1).2 k e2⟩
/-- the caller's tag of a parameter; lρ slots, the first temporary is the m-th -/
def tgOf (ms : List Md) (b : Nat) (j : Nat) : Option Nat := match ms[j]? with
  | some (.s i) => some i
  | some .t => some (b + j)
  | _ => none
def jnOf (ms : List Md) (b : Nat) (n : Nat) : Option Nat := (List.range ms.length).find? fun j => tgOf ms b j == some n
theorem tg_lt {ms : List Md} {b j n : Nat} (h : tgOf ms b j = some n) : j < ms.length := by
  unfold tgOf at h
  by_cases l : j < ms.length
  · exact l
  · rw [List.getElem?_eq_none (by omega)] at h
    cases h
theorem tg_slot {ms : List Md} {b j i : Nat} (h : slotOf ms j = some i) : tgOf ms b j = some i := by
  unfold slotOf at h
  unfold tgOf
  split at h
  · rename_i k e
    rw [e]
    exact h
  · cases h
theorem tg_or {ms : List Md} {b j n : Nat} (h : tgOf ms b j = some n) : slotOf ms j = some n ∨ (ms[j]? = some .t ∧ n = b + j) := by
  unfold tgOf at h
  split at h
  · rename_i i e
    exact .inl (by unfold slotOf; rw [e]; exact h)
  · rename_i e
    exact .inr ⟨e, (Option.some.inj h).symm⟩
  · cases h
theorem jn_iff {ms : List Md} {b : Nat} (inj : ∀ j k i, slotOf ms j = some i → slotOf ms k = some i → j = k) (lt : ∀ j i, slotOf ms j = some i → i < b) (n j : Nat) : jnOf ms b n = some j ↔ tgOf ms b j = some n := by
  have one : ∀ j k, tgOf ms b j = some n → tgOf ms b k = some n → j = k := fun j k h1 h2 => by
    rcases tg_or h1 with a | ⟨_, a⟩ <;> rcases tg_or h2 with c | ⟨_, c⟩
    · exact inj j k n a c
    · have := lt j n a; omega
    · have := lt k n c; omega
    · omega
  constructor
  · intro h
    have := List.find?_some h
    simpa using this
  · intro h
    unfold jnOf
    cases e : (List.range ms.length).find? fun j => tgOf ms b j == some n with
    | none =>
      rw [List.find?_eq_none] at e
      have := e j (List.mem_range.mpr (tg_lt h))
      rw [h] at this
      simp at this
    | some k =>
      have := List.find?_some e
      have h2 : tgOf ms b k = some n := by simpa using this
      rw [one j k h h2]
def ArgP (ρ : Sl) (m : Md) (c d : PV) : Prop := match m with
  | .s i => ρ[i]? = some (some c) ∧ c.calm = true
  | _ => c = d
def ArgX (σ : St) (ys : List V) (j : Nat) (m : Md) (x : V) : Prop := match m with
  | .s i => σ[i]? = some (some x)
  | _ => ys[j]? = some x
def MdP (m : Md) (d : PV) : Prop := match m with
  | .f => d.own = false ∧ d.isE = false
  | .t => d.calm = true
  | .s _ => d = .non
theorem argsAt_get {ρ : Sl} : ∀ {ms : List Md} {ds cs : List PV}, argsAt ms ds ρ = some cs → cs.length = ms.length ∧ ds.length = ms.length ∧ ∀ (j : Nat) (c : PV), cs[j]? = some c → ∃ m d, ms[j]? = some m ∧ ds[j]? = some d ∧ ArgP ρ m c d
  | [], [], cs, h => by
    simp only [argsAt, Option.some.injEq] at h
    subst h
    exact ⟨rfl, rfl, fun j c e => by simp at e⟩
  | [], _ :: _, cs, h => by simp [argsAt] at h
  | m :: ms, [], cs, h => by cases m <;> simp [argsAt] at h
  | m :: ms, d :: ds, cs, h => by
    have fin : ∀ c0 r, argsAt ms ds ρ = some r → cs = c0 :: r → ArgP ρ m c0 d → cs.length = (m :: ms).length ∧ (d :: ds).length = (m :: ms).length ∧ ∀ (j : Nat) (c : PV), cs[j]? = some c → ∃ m' d', (m :: ms)[j]? = some m' ∧ (d :: ds)[j]? = some d' ∧ ArgP ρ m' c d' := fun c0 r e1 e2 h0 => by
      obtain ⟨l1, l2, g⟩ := argsAt_get e1
      refine ⟨by simp [e2, l1], by simp [l2], fun j c e => ?_⟩
      subst e2
      cases j with
      | zero =>
        simp only [List.getElem?_cons_zero, Option.some.injEq] at e
        subst e
        exact ⟨m, d, rfl, rfl, h0⟩
      | succ j =>
        simp only [List.getElem?_cons_succ] at e ⊢
        exact g j c e
    cases m with
    | f =>
      simp only [argsAt, Option.map_eq_some_iff] at h
      obtain ⟨r, e1, e2⟩ := h
      exact fin d r e1 e2.symm rfl
    | t =>
      simp only [argsAt, Option.map_eq_some_iff] at h
      obtain ⟨r, e1, e2⟩ := h
      exact fin d r e1 e2.symm rfl
    | s i =>
      simp only [argsAt] at h
      split at h
      · rename_i c e
        split at h
        · rename_i cc
          simp only [Option.map_eq_some_iff] at h
          obtain ⟨r, e1, e2⟩ := h
          exact fin c r e1 e2.symm ⟨e, cc⟩
        · cases h
      · cases h
theorem ArgR.get {σ : St} : ∀ {ms : List Md} {xs ys : List V}, ArgR σ ms xs ys → xs.length = ms.length ∧ ys.length = ms.length ∧ ∀ (j : Nat) (m : Md), ms[j]? = some m → ∃ x, xs[j]? = some x ∧ ArgX σ ys j m x
  | _, _, _, .nil => ⟨rfl, rfl, fun j m e => by simp at e⟩
  | _, _, _, .f x r => by
    obtain ⟨l1, l2, g⟩ := r.get
    refine ⟨by simp [l1], by simp [l2], fun j m e => ?_⟩
    cases j with
    | zero => cases e; exact ⟨x, rfl, rfl⟩
    | succ j =>
      obtain ⟨x', h1, h2⟩ := g j m (by simpa using e)
      refine ⟨x', by simpa using h1, ?_⟩
      cases m <;> simpa [ArgX] using h2
  | _, _, _, .t x r => by
    obtain ⟨l1, l2, g⟩ := r.get
    refine ⟨by simp [l1], by simp [l2], fun j m e => ?_⟩
    cases j with
    | zero => cases e; exact ⟨x, rfl, rfl⟩
    | succ j =>
      obtain ⟨x', h1, h2⟩ := g j m (by simpa using e)
      refine ⟨x', by simpa using h1, ?_⟩
      cases m <;> simpa [ArgX] using h2
  | _, _, _, .s x h r => by
    obtain ⟨l1, l2, g⟩ := r.get
    refine ⟨by simp [l1], by simp [l2], fun j m e => ?_⟩
    cases j with
    | zero => cases e; exact ⟨x, rfl, h⟩
    | succ j =>
      obtain ⟨x', h1, h2⟩ := g j m (by simpa using e)
      refine ⟨x', by simpa using h1, ?_⟩
      cases m <;> simpa [ArgX] using h2
theorem MdOk.get : ∀ {ms : List Md} {ds : List PV}, MdOk ms ds → ∀ (j : Nat) (m : Md) (d : PV), ms[j]? = some m → ds[j]? = some d → MdP m d
  | _, _, .nil, j, m, d, e, _ => by simp at e
  | _, _, .f h1 h2 r, j, m, d, e, e2 => by
    cases j with
    | zero => cases e; cases e2; exact ⟨h1, h2⟩
    | succ j => exact r.get j m d (by simpa using e) (by simpa using e2)
  | _, _, .t h r, j, m, d, e, e2 => by
    cases j with
    | zero => cases e; cases e2; exact h
    | succ j => exact r.get j m d (by simpa using e) (by simpa using e2)
  | _, _, .s h r, j, m, d, e, e2 => by
    cases j with
    | zero => cases e; cases e2; exact h
    | succ j => exact r.get j m d (by simpa using e) (by simpa using e2)
theorem call_in {E : XK} {F : Fr} {G : Hp} {O : Own} {ρ : Sl} {ts : List (PV × V)} {σ : St} {H : Hp} {Q : VK} {io' : List Nat} {dd ds : List PV} {dvs xs ys : List V} {sem : List PV → FRes} {N : List Str} {np : Nat} (hZ : F.Z = X.zt io) (R : Rel F G O ρ (ts ++ ds.zip ys) σ H)
    (ar : ArgR σ ms xs ys) (mo : MdOk ms ds) (hms : msOk ms io' = true) (hdd : Reps F.Z G dd dvs) (hN : np ≤ N.length) (hnp : ms.length + dd.length = np) (hio' : ∀ j ∈ io', j < np) {cs : List PV} (ea : argsAt ms ds ρ = some cs)
    (K1 : ∀ F' : Fr, F'.Z = X.zt io' → F'.vs0 = xs ++ dvs → (∀ G' O' ρ' rs σ' H', Rel F' G' O' ρ' rs σ' H' → (∀ p ∈ rs, p.1.calm = true) → ∃ O'', Rel F G' O'' (putB ms io' (outsOf io' ρ') ρ) (ts ++ rs) σ H') → PostF F' Q E (sem (cs ++ dd))) :
    spF (X.zt io') N np sem (xs ++ dvs) H Q E := by
  obtain ⟨lc, ld, gc⟩ := argsAt_get ea
  obtain ⟨lx, ly, gx⟩ := ar.get
  obtain ⟨m1, m2⟩ := msOk_of hms
  have ldv := hdd.length
  have ldd : ds.length = ys.length := by omega
  have slotlt : ∀ j i, slotOf ms j = some i → i < ρ.length := fun j i e => by
    have hj := slot_lt e
    obtain ⟨m, d, e1, e2, e3⟩ := gc j (cs[j]'(by rw [lc]; exact hj)) (by simp [lc, hj])
    unfold slotOf at e
    rw [e1] at e
    cases m with
    | s k =>
      cases e
      exact get_lt e3.1
    | f => cases e
    | t => cases e
  have jn := jn_iff (ms := ms) (b := ρ.length + ts.length) m2 (fun j i e => by have := slotlt j i e; omega)
  have len1 : (cs ++ dd).length = (xs ++ dvs).length := by rw [List.length_append, List.length_append]; omega
  have R' := R.enter (Z' := X.zt io') (by rw [hZ]) (by rw [hZ]) jn (N := N) len1 (by rw [List.length_append]; omega) (fun j d e => by
    by_cases l : j < cs.length
    · rw [List.getElem?_append_left l] at e
      obtain ⟨m, d0, e1, e2, e3⟩ := gc j d e
      obtain ⟨x, hx, q⟩ := gx j m e1
      refine ⟨x, by rw [List.getElem?_append_left (by omega)]; exact hx, ?_⟩
      have tp : ∀ y, ys[j]? = some y → RepO F G O H (ρ.length + (ts.length + j)) d0 y := fun y hy => by
        have := R.tp (ts.length + j) (d0, y) (by
          rw [List.getElem?_append_right (by omega), Nat.add_sub_cancel_left]
          rw [List.getElem?_zip_eq_some]
          exact ⟨e2, hy⟩)
        exact this
      cases m with
      | f =>
        have e3 : d = d0 := e3
        have q : ys[j]? = some x := q
        subst e3
        obtain ⟨o1, o2⟩ := mo.get j _ _ e1 e2
        exact .inr (repO_rep (tp x q) o1 o2)
      | t =>
        have e3 : d = d0 := e3
        have q : ys[j]? = some x := q
        subst e3
        have o1 : d.calm = true := mo.get j _ _ e1 e2
        refine .inl ⟨ρ.length + ts.length + j, by unfold tgOf; rw [e1], o1, ?_⟩
        rw [Nat.add_assoc]
        exact tp x q
      | s i =>
        have e3 : ρ[i]? = some (some d) ∧ d.calm = true := e3
        have q : σ[i]? = some (some x) := q
        obtain ⟨v, h1, h2⟩ := R.sl i d e3.1
        rw [q] at h1
        cases h1
        exact .inl ⟨i, by unfold tgOf; rw [e1], e3.2, h2⟩
    · rw [List.getElem?_append_right (by omega)] at e
      obtain ⟨v, hv, rv⟩ := hdd.get e
      exact ⟨v, by rw [List.getElem?_append_right (by omega), lx, ← lc]; exact hv, .inr rv⟩) (fun j hj => by
        have := hio' j hj
        rw [List.length_append]
        omega)
  refine ⟨by rw [List.length_append]; omega, _, _, _, cs ++ dd, rfl, R', ?_⟩
  have fin : ∀ {G' O' ρ' rs σ' H'}, Rel ⟨X.zt io', H, lendO O (jnOf ms (ρ.length + ts.length)), G, xs ++ dvs, none⟩ G' O' ρ' rs σ' H' → (∀ p ∈ rs, p.1.calm = true) →
      Rel F G' (backO O' O (lendO O (jnOf ms (ρ.length + ts.length))) (tgOf ms (ρ.length + ts.length)) ρ'.length ρ.length ts.length) (putB ms io' (outsOf io' ρ') ρ) (ts ++ rs) σ H' := fun {G' O' ρ' rs σ' H'} R2 c =>
    R.leave (Z' := X.zt io') (by rw [hZ]) (by rw [hZ]) jn (fun j i e => by
      refine ⟨tg_slot e, ?_⟩
      obtain ⟨x, hx, q⟩ := gx j (.s i) (by
        unfold slotOf at e
        split at e
        · rename_i k e1
          cases e
          exact e1
        · cases e)
      exact ⟨x, q, by rw [List.getElem?_append_left (get_lt hx)]; exact hx⟩) (fun j n e l => by
        rcases tg_or e with a | ⟨_, a⟩
        · exact ⟨a, slotlt j n a, m1 j n a⟩
        · omega) R2 c
  exact K1 _ rfl rfl fun G' O' ρ' rs σ' H' R2 c => ⟨_, fin R2 c⟩
theorem call_core {F : Fr} {G : Hp} {O : Own} {ρ : Sl} {ts : List (PV × V)} {σ : St} {H : Hp} {Q : VK} {io' : List Nat} {dd ds : List PV} {dvs xs ys : List V} {sem : List PV → FRes} {N : List Str} {np : Nat} (hZ : F.Z = X.zt io) (R : Rel F G O ρ (ts ++ ds.zip ys) σ H)
    (ar : ArgR σ ms xs ys) (mo : MdOk ms ds) (hms : msOk ms io' = true) (hdd : Reps F.Z G dd dvs) (hN : np ≤ N.length) (hnp : ms.length + dd.length = np) (hio' : ∀ j ∈ io', j < np) (P : PostE W F ts σ Q (callR ms io' dd sem ds ρ)) :
    spF (X.zt io') N np sem (xs ++ dvs) H Q (WE W σ) := by
  unfold callR at P
  cases ea : argsAt ms ds ρ with
  | none => rw [ea] at P; exact P.elim
  | some cs =>
    rw [ea] at P
    simp only at P
    refine call_in hZ R ar mo hms hdd hN hnp hio' ea fun F' hZ' hv tl => ?_
    cases es : sem (cs ++ dd) with
    | bad => rw [es] at P; exact P
    | ok v outs =>
      rw [es] at P
      intro G' O' ρ' σ' H' x R2 ho hc
      obtain ⟨O3, R3⟩ := tl _ _ _ _ _ _ R2 (by simp [hc])
      rw [hZ'] at ho
      subst ho
      exact P _ _ _ _ R3
    | exc C fs outs =>
      rw [es] at P
      intro G' O' ρ' σ' H' cls d R2 ho hx
      obtain ⟨O3, R3⟩ := tl _ _ _ _ _ _ R2 (by simp)
      rw [hZ'] at ho
      subst ho
      rw [List.append_nil] at R3
      refine P _ _ _ _ _ R3 (hx.to ?_ ?_)
      · rw [hZ, hZ']
      · rw [hZ, hZ']
end
end Wv

set_option Elab.async false
set_option linter.all false
set_option autoImplicit false
set_option maxRecDepth 100000
/-! WvR: calls of defs, methods, classes; fields. -/
namespace Wv
open PySem PySem.Spec PyProof.Rows L2

section
variable {X : Cx} {io io' : List Nat} {W : WX} {a e o : Expr} {es : List Expr} {u f : M PV} {g : M (List PV)} {ms : List Md} {pos p px apos : Pos} {k np : Nat} {fa C : Addr} {fd : FuncData} {ps N : List Str} {dvs : List V} {dsv : List Value} {dd : List PV} {sem : List PV → FRes} {x m : Str}
theorem t_args {F : Fr} {G : Hp} {O : Own} {ρ : Sl} {ts : List (PV × V)} {σ : St} {H : Hp} {Q : VK} (hdd : ∀ G, Reps (X.zt io) G dd dvs) (hN : np ≤ N.length) (hnp : ms.length + dd.length = np) (hio' : ∀ j ∈ io', j < np) (hms : msOk ms io' = true)
    (hZ : F.Z = X.zt io) (R : Rel F G O ρ ts σ H) (P : PostE W F ts σ Q (eCall ms io' dd sem g ρ)) : TM (X.zt io) W ms g σ H fun vs H1 => spF (X.zt io') N np sem (vs ++ dvs) H1 Q (WE W σ) := by
  refine ⟨F, G, O, ρ, ts, hZ, R, ?_⟩
  unfold eCall M.bind at P
  cases z : g ρ with
  | bad => rw [z] at P; exact P
  | exc C fs ρ' => rw [z] at P; exact P
  | ok ds ρ1 =>
    rw [z] at P
    exact fun G' O' H' xs ys l mo ar R1 => call_core hZ R1 ar mo hms (by rw [hZ]; exact hdd _) hN hnp hio' P
theorem ej_call (X1 : FnG X.prog X.w X.K X.mg X.base k fa fd ps (spF (X.zt io') N np sem)) (hr : Room k X.A) (gd : X.A.guards = some []) (tk : Takes X W) (hg : Gl X x) (hm : X.mg x = some (.ref fa)) (hk : PySem.W.keepIn X.K (.ref fa) = true) (hb : Binds X.K fd ps dsv) (hd : Vals dvs dsv) (hdd : ∀ G, Reps (X.zt io) G dd dvs)
    (ha : MJ X io W (e :: es) ms g) (hN : np ≤ N.length := by decide) (hnp : ms.length + dd.length = np := by rfl) (hio' : ∀ j ∈ io', j < np := by decide) (hms : msOk ms io' = true := by decide)
    (hdb : (x == ("__debug__" : Str)) = false := by decide) (he : starEach (e :: es) X.env = (false, eval e X.env) :: starEach es X.env := by rfl) (hpl : (backTo pos (starEach es X.env)).any (·.1) = false := by rfl) : EJ X io W (.Call (.Name x p) (e :: es) [] pos) (eCall ms io' dd sem g) := by
  refine PE.imp (pe_callG X1 hr gd hg hm hk hb hd tk ha hdb he hpl) ?_
  rintro σ H Q ⟨F, G, O, ρ, ts, hZ, R, P⟩
  exact t_args hdd hN hnp hio' hms hZ R P
theorem ej_call0 (X1 : FnG X.prog X.w X.K X.mg X.base k fa fd ps (spF (X.zt io') N np sem)) (hr : Room k X.A) (gd : X.A.guards = some []) (tk : Takes X W) (hg : Gl X x) (hm : X.mg x = some (.ref fa)) (hk : PySem.W.keepIn X.K (.ref fa) = true) (hb : Binds X.K fd ps dsv) (hd : Vals dvs dsv) (hdd : ∀ G, Reps (X.zt io) G dd dvs)
    (hN : np ≤ N.length := by decide) (hnp : 0 + dd.length = np := by rfl) (hio' : ∀ j ∈ io', j < np := by decide) (hdb : (x == ("__debug__" : Str)) = false := by decide) : EJ X io W (.Call (.Name x p) [] [] pos) (eCall [] io' dd sem aNil) := by
  refine PE.imp (pe_call0G X1 hr gd hg hm hk hb hd tk hdb) ?_
  rintro σ H Q ⟨F, G, O, ρ, ts, hZ, R, P⟩
  have P' : PostE W F ts σ Q (callR [] io' dd sem [] ρ) := P
  exact call_core hZ (ds := []) (ys := []) (by simpa using R) .nil .nil rfl (by rw [hZ]; exact hdd _) hN hnp hio' P'

/-! ### objects -/
def isObjOf (C m : Str) : PV → Bool
  | .obj _ C' fs => C' == C && (fs.lookup m).isNone
  | _ => false
theorem RepFs.look {Z : Zt} {G : Hp} {n : Str} : ∀ {fs : List (Str × PV)} {vs : List (Str × V)}, RepFs Z G fs vs → (fs.lookup n = none → vs.lookup n = none) ∧ ∀ d, fs.lookup n = some d → ∃ v, vs.lookup n = some v ∧ Rep Z G d v
  | [], vs, h => by
    simp only [RepFs] at h
    subst h
    exact ⟨fun _ => rfl, fun d e => by simp [List.lookup] at e⟩
  | (k, d) :: fs, vs, h => by
    simp only [RepFs] at h
    obtain ⟨v, r, rfl, h1, h2⟩ := h
    obtain ⟨i1, i2⟩ := RepFs.look (n := n) h2
    simp only [List.lookup]
    cases n == k with
    | true => exact ⟨fun z => (by simp at z), fun d' e => by cases e; exact ⟨v, rfl, h1⟩⟩
    | false => exact ⟨i1, i2⟩
theorem RepOF.look {F : Fr} {G : Hp} {O : Own} {H : Hp} {k : Nat} {n : Str} : ∀ {fs : List (Str × PV)} {j : Nat} {vs : List (Str × V)}, RepOF F G O H k j fs vs → (fs.lookup n = none → vs.lookup n = none) ∧ ∀ d, fs.lookup n = some d → d.own = false → d.isE = false → ∃ v, vs.lookup n = some v ∧ Rep F.Z G d v
  | [], j, vs, h => by
    have h : vs = [] := h
    subst h
    exact ⟨fun _ => rfl, fun d e => by simp [List.lookup] at e⟩
  | (q, d) :: fs, j, vs, h => by
    obtain ⟨v, r, rfl, h1, h2⟩ := h
    obtain ⟨i1, i2⟩ := RepOF.look (n := n) h2
    simp only [List.lookup]
    cases n == q with
    | true =>
      refine ⟨fun z => (by simp at z), fun d' e o1 o2 => ?_⟩
      cases e
      refine ⟨v, rfl, repO_rep (O := O) (H := H) (n := 0) (F := F) ?_ o1 o2⟩
      cases d with
      | lst o xs => cases o with
        | true => cases o1
        | false => exact h1
      | dct o xs => cases o with
        | true => cases o1
        | false => exact h1
      | obj o C xs => cases o with
        | true => cases o1
        | false => exact h1
      | exc C xs => cases o2
      | non => exact h1
      | bl b => exact h1
      | int i => exact h1
      | str s => exact h1
      | tup xs => exact h1
    | false => exact ⟨i1, i2⟩
/-- the instance behind a value -/
theorem obj_at {F : Fr} {G : Hp} {O : Own} {H : Hp} {n : Nat} {b : Bool} {Cn : Str} {fs : List (Str × PV)} {v : V} (k : Sub G H) (h : RepO F G O H n (.obj b Cn fs) v) :
    ∃ a dx vfs, v = .ref a ∧ H a = some (.ins (He.ga F.Z.K Cn) dx vfs) ∧ (∀ m, fs.lookup m = none → vfs.lookup m = none) ∧ ∀ m d, fs.lookup m = some d → d.own = false → d.isE = false → ∃ w, vfs.lookup m = some w ∧ Rep F.Z G d w := by
  cases b with
  | true =>
    obtain ⟨a, dx, vfs, e, _, hh, r⟩ := h
    exact ⟨a, dx, vfs, e, hh, fun m => r.look.1, fun m => r.look.2⟩
  | false =>
    have h' : Rep F.Z G (.obj false Cn fs) v := h
    simp only [Rep] at h'
    obtain ⟨a, dx, vfs, e, hh, r⟩ := h'
    exact ⟨a, dx, vfs, e, k _ _ hh, fun m => r.look.1, fun m d e _ _ => r.look.2 d e⟩
theorem rofs_keep {F : Fr} {G : Hp} {O : Own} {H H' : Hp} {k : Nat} (kp : ∀ (b : Addr) (o : HO) (m : Nat), O b = some (k, m + 1) → H b = some o → H' b = some o) : ∀ {fs : List (Str × PV)} {j : Nat} {vs : List (Str × V)}, RepOF F G O H k (j + 1) fs vs → RepOF F G O H' k (j + 1) fs vs
  | [], j, vs, h => h
  | (q, d) :: fs, j, vs, h => by
    obtain ⟨v, r, e, h1, h2⟩ := h
    exact ⟨v, r, e, h1.mono (Sub.refl G) fun a o ea ha => ⟨ea, kp a o j ea ha⟩, rofs_keep kp h2⟩
/-- o.m(..), the object frozen -/
def eMeth (Cn m : Str) (ms : List Md) (io' : List Nat) (dd : List PV) (sem : List PV → FRes) (f : M PV) (g : M (List PV)) : M PV := M.bind f fun d => M.bind (frzM d) fun d' => if isObjOf Cn m d' then M.bind g fun ds => callR (.f :: ms) io' dd sem (d' :: ds) else bad
theorem isObj_of {Cn m : Str} {d : PV} (h : isObjOf Cn m d = true) : ∃ b fs, d = .obj b Cn fs ∧ fs.lookup m = none := by
  cases d with
  | obj b C' fs =>
    simp only [isObjOf, Bool.and_eq_true, beq_iff_eq, Option.isNone_iff_eq_none] at h
    obtain ⟨rfl, h⟩ := h
    exact ⟨b, fs, rfl, h⟩
  | _ => cases h
theorem t_meth {Cn : Str} (hdd : ∀ G, Reps (X.zt io) G dd dvs) (hN : np ≤ N.length) (hnp : (Md.f :: ms).length + dd.length = np) (hio' : ∀ j ∈ io', j < np) (hms : msOk (.f :: ms) io' = true) {t : TA} (ht : ∀ σ H Q, TM (X.zt io) W ms g σ H Q → t σ H Q) {σ : St} {H : Hp} {Q : VK}
    (h : T (X.zt io) W (eMeth Cn m ms io' dd sem f g) σ H Q) : tMethS (He.ga X.K Cn) m (spF (X.zt io') N np sem) dvs W (T (X.zt io) W f) t σ H Q := by
  obtain ⟨F, G, O, ρ, ts, hZ, R, P⟩ := h
  refine T.bindK hZ R P fun G1 O1 H1 ρ1 d y R1 P1 => ?_
  by_cases c : d.calm = true
  · have e2 : frzM d ρ1 = .ok d.frz ρ1 := by unfold frzM; rw [if_pos c]; rfl
    rw [M.bind_ok e2] at P1
    obtain ⟨R2, q2⟩ := R1.frzTop c
    by_cases io1 : isObjOf Cn m d.frz = true
    · rw [if_pos io1] at P1
      obtain ⟨b, fs, ed, hl⟩ := isObj_of io1
      rw [ed] at R2
      obtain ⟨a, dx, vfs, rfl, ha, l1, _⟩ := obj_at R2.gh R2.top
      rw [hZ] at ha
      refine ⟨a, dx, vfs, rfl, ha, l1 m hl, ht _ _ _ ⟨F, _, _, ρ1, ts ++ [(.obj b Cn fs, .ref a)], hZ, R2, ?_⟩⟩
      unfold M.bind at P1
      cases z : g ρ1 with
      | bad => rw [z] at P1; exact P1
      | exc C fs ρ' => rw [z] at P1; exact ExcQ.up _ P1
      | ok ds ρ2 =>
        rw [z] at P1
        intro G' O' H' xs ys l mo ar R3
        rw [zip_cons] at R3
        have fr := frz_free c
        rw [ed] at fr
        simp only [ed] at P1
        exact call_core (ms := .f :: ms) hZ R3 (.f _ ar) (.f fr.1 fr.2 mo) hms (by rw [hZ]; exact hdd _) hN hnp hio' P1
    · rw [if_neg io1] at P1
      exact P1.elim
  · have e2 : frzM d ρ1 = .bad := by unfold frzM; rw [if_neg c]; rfl
    unfold M.bind at P1
    rw [e2] at P1
    exact P1.elim
theorem ej_meth {Cn : Str} {pl : Sem Bool} (X1 : FnG X.prog X.w X.K X.mg X.base k fa fd ps (spF (X.zt io') N np sem)) (hr : Room k X.A) (gd : X.A.guards = some []) (tk : Takes X W) (c : Cls X.K (He.ga X.K Cn)) (hm : Meth X.K (He.ga X.K Cn) m fa) (hb : Binds X.K fd ps dsv) (hd : Vals dvs dsv) (hdd : ∀ G, Reps (X.zt io) G dd dvs)
    (ho : EJ X io W o f) (ha : MJ X io W (e :: es) ms g) (hN : np ≤ N.length := by decide) (hnp : (Md.f :: ms).length + dd.length = np := by rfl) (hio' : ∀ j ∈ io', j < np := by decide) (hms : msOk (.f :: ms) io' = true := by decide)
    (hst : starEach (e :: es) X.env = (false, eval e X.env) :: starEach es X.env := by rfl) (hpl : (backTo pos (starEach es X.env)).any (·.1) = false := by rfl)
    (ht : eval (.Call (.Attribute o m apos) (e :: es) [] pos) X.env = (do
      let ov ← eval o X.env
      standAt apos.atName
      let (g, first) ← holding [ov] (getMethod ov m pl)
      callWith pos g first (backTo pos (starEach (e :: es) X.env)) (backToKw pos (keywordEach [] X.env))) := by rfl) : EJ X io W (.Call (.Attribute o m apos) (e :: es) [] pos) (eMeth Cn m ms io' dd sem f g) :=
  PE.imp (pe_methG (pl := pl) ho c hm X1 hr gd hb hd tk ha hst hpl ht) fun σ H Q h => t_meth hdd hN hnp hio' hms (fun _ _ _ z => z) h
theorem ej_meth0 {Cn : Str} {pl : Sem Bool} (X1 : FnG X.prog X.w X.K X.mg X.base k fa fd ps (spF (X.zt io') N np sem)) (hr : Room k X.A) (gd : X.A.guards = some []) (tk : Takes X W) (c : Cls X.K (He.ga X.K Cn)) (hm : Meth X.K (He.ga X.K Cn) m fa) (hb : Binds X.K fd ps dsv) (hd : Vals dvs dsv) (hdd : ∀ G, Reps (X.zt io) G dd dvs)
    (ho : EJ X io W o f) (hN : np ≤ N.length := by decide) (hnp : [Md.f].length + dd.length = np := by rfl) (hio' : ∀ j ∈ io', j < np := by decide) (hms : msOk [.f] io' = true := by decide)
    (ht : eval (.Call (.Attribute o m apos) [] [] pos) X.env = (do
      let ov ← eval o X.env
      standAt apos.atName
      let (g, first) ← holding [ov] (getMethod ov m pl)
      callWith pos g first (backTo pos (starEach [] X.env)) (backToKw pos (keywordEach [] X.env))) := by rfl) : EJ X io W (.Call (.Attribute o m apos) [] [] pos) (eMeth Cn m [] io' dd sem f aNil) :=
  PE.imp (pe_meth0G (pl := pl) ho c hm X1 hr gd hb hd tk ht) fun σ H Q h => t_meth hdd hN hnp hio' hms (fun σ H Q ⟨F, G, O, ρ, ts, hZ, R, P⟩ => P G O H [] [] rfl .nil .nil (by simpa using R)) h

/-! ### a new instance -/
def eMake (Cn : Str) (ms : List Md) (io' : List Nat) (dd : List PV) (sem : List PV → FRes) (g : M (List PV)) : M PV := M.bind g fun ds ρ => match argsAt ms ds ρ with
  | none => .bad
  | some cs => match sem (.obj true Cn [] :: (cs ++ dd)) with
    | .ok .non (some d0 :: outs) => .ok d0 (putB (.t :: ms) io' (some d0 :: outs) ρ)
    | .exc C fs outs => .exc C fs (putB (.t :: ms) io' outs ρ)
    | _ => .bad
/-- the last value goes ahead of some others -/
def frontO (O : Own) (b l : Nat) : Own := fun a => match O a with
  | some (n, j) => if n = b + l then some (b, j) else if b ≤ n ∧ n < b + l then some (n + 1, j) else some (n, j)
  | none => none
theorem Rel.front {F : Fr} {G : Hp} {O : Own} {ρ : Sl} {ts us : List (PV × V)} {σ : St} {H : Hp} {p : PV × V} (R : Rel F G O ρ (ts ++ us ++ [p]) σ H) : ∃ O', Rel F G O' ρ (ts ++ [p] ++ us) σ H := by
  have k0 : ∀ {a : Addr} {j : Nat}, O a = some (ρ.length + ts.length + us.length, j) → frontO O (ρ.length + ts.length) us.length a = some (ρ.length + ts.length, j) := fun {a j} e => by simp [frontO, e]
  have k1 : ∀ {a : Addr} {n j : Nat}, O a = some (n, j) → n < ρ.length + ts.length → frontO O (ρ.length + ts.length) us.length a = some (n, j) := fun {a n j} e h => by
    simp only [frontO, e]
    rw [if_neg (by omega), if_neg (by omega)]
  have k2 : ∀ {a : Addr} {n j : Nat}, O a = some (n, j) → ρ.length + ts.length ≤ n → n < ρ.length + ts.length + us.length → frontO O (ρ.length + ts.length) us.length a = some (n + 1, j) := fun {a n j} e h h' => by
    simp only [frontO, e]
    rw [if_neg (by omega), if_pos ⟨h, h'⟩]
  refine ⟨frontO O (ρ.length + ts.length) us.length, R.len, R.gh, R.g0, fun a t e => ?_, R.frm, fun i d e => ?_, fun j q e => ?_, R.io, R.gn⟩
  · have : ∃ t', O a = some t' := by
      unfold frontO at e
      cases z : O a with
      | none => rw [z] at e; cases e
      | some q => exact ⟨q, rfl⟩
    obtain ⟨t', e'⟩ := this
    exact R.own a t' e'
  · obtain ⟨v, h1, h2⟩ := R.sl i d e
    have := get_lt e
    exact ⟨v, h1, h2.mono (Sub.refl G) fun a o j e q => ⟨k1 e (by omega), q⟩⟩
  · by_cases l1 : j < ts.length
    · have e' : (ts ++ us ++ [p])[j]? = some q := by
        rw [List.append_assoc, List.getElem?_append_left l1] at e ⊢
        exact e
      exact (R.tp j q e').mono (Sub.refl G) fun a o m e z => ⟨k1 e (by omega), z⟩
    · by_cases l2 : j = ts.length
      · subst l2
        have e2 : q = p := by
          rw [List.append_assoc, List.getElem?_append_right (Nat.le_refl _)] at e
          simp at e
          exact e.symm
        subst e2
        have r := R.tp (ts ++ us).length q (by simp)
        refine r.mono (Sub.refl G) fun a o m e z => ⟨k0 (by rw [e, List.length_append]; congr 2; omega), z⟩
      · have e' : us[j - ts.length - 1]? = some q := by
          rw [List.append_assoc, List.getElem?_append_right (by omega), List.getElem?_append_right (by simp; omega)] at e
          simpa using e
        have lu := get_lt e'
        have r := R.tp (j - 1) q (by
          rw [List.append_assoc, List.getElem?_append_right (by omega), List.getElem?_append_left (by omega)]
          rw [show j - 1 - ts.length = j - ts.length - 1 by omega]
          exact e')
        refine r.mono (Sub.refl G) fun a o m e z => ⟨?_, z⟩
        rw [k2 e (by omega) (by omega)]
        congr 2
        omega
theorem putB_congr {f g : Nat → Option PV} : ∀ {io' : List Nat} {ρ : Sl}, (∀ j ∈ io', slotOf ms j ≠ none → f j = g j) → putB ms io' (io'.map f) ρ = putB ms io' (io'.map g) ρ
  | [], ρ, _ => rfl
  | j :: io', ρ, h => by
    simp only [List.map_cons]
    unfold putB
    cases e : slotOf ms j with
    | none => exact putB_congr fun k hk => h k (List.mem_cons_of_mem _ hk)
    | some i =>
      simp only
      rw [h j List.mem_cons_self (by rw [e]; simp)]
      exact putB_congr fun k hk => h k (List.mem_cons_of_mem _ hk)
theorem t_make {Cn : Str} (hdd : ∀ G, Reps (X.zt io) G dd dvs) (hN : np ≤ N.length) (hnp : (Md.t :: ms).length + dd.length = np) (hio' : ∀ j ∈ 0 :: io', j < np) (hms : msOk (.t :: ms) (0 :: io') = true) {σ : St} {H : Hp} {Q : VK}
    (h : T (X.zt io) W (eMake Cn ms (0 :: io') dd sem g) σ H Q) : tMakeS (He.ga X.K Cn) (spF (X.zt (0 :: io')) N np sem) dvs W (TM (X.zt io) W ms g) σ H Q := by
  obtain ⟨F, G, O, ρ, ts, hZ, R, P⟩ := h
  refine ⟨F, G, O, ρ, ts, hZ, R, ?_⟩
  unfold eMake M.bind at P
  cases z : g ρ with
  | bad => rw [z] at P; exact P
  | exc C fs ρ' => rw [z] at P; exact P
  | ok ds ρ1 =>
    rw [z] at P
    simp only at P
    intro G1 O1 H1 xs ys l mo ar R1 x dx hx hdx hne
    have R2 : Rel F G1 O1 ρ1 (ts ++ ds.zip ys) σ (upd H1 dx (.own x)) := R1.heap (sub_upd hdx)
    have hx2 : upd H1 dx (.own x) x = none := by rw [upd_ne (Ne.symm hne)]; exact hx
    have R3 := R2.layO (p := x) (o := .ins (He.ga X.K Cn) dx []) (d := .obj true Cn []) hx2 ⟨x, dx, [], rfl, own1_same, by rw [upd_same, hZ], rfl⟩
    obtain ⟨O4, R4⟩ := R3.front
    rw [zip_cons] at R4
    cases ea : argsAt ms ds ρ1 with
    | none => rw [ea] at P; exact P.elim
    | some cs =>
      rw [ea] at P
      have ea' : argsAt (.t :: ms) (.obj true Cn [] :: ds) ρ1 = some (.obj true Cn [] :: cs) := by simp [argsAt, ea]
      refine call_in (ms := .t :: ms) hZ R4 (.t (.ref x) ar) (.t rfl mo) hms (by rw [hZ]; exact hdd _) hN hnp hio' ea' fun F' hZ' hv tl => ?_
      have P' : PostE W F ts σ Q (match sem ((.obj true Cn [] :: cs) ++ dd) with
        | .ok .non (some d0 :: outs) => .ok d0 (putB (.t :: ms) (0 :: io') (some d0 :: outs) ρ1)
        | .exc C fs outs => .exc C fs (putB (.t :: ms) (0 :: io') outs ρ1)
        | _ => .bad) := P
      cases es : sem ((.obj true Cn [] :: cs) ++ dd) with
      | bad => rw [es] at P'; exact P'
      | exc C fs outs =>
        rw [es] at P'
        intro G' O' ρ' σ' H' cls d R5 ho hxx
        obtain ⟨O6, R6⟩ := tl _ _ _ _ _ _ R5 (by simp)
        rw [hZ'] at ho
        subst ho
        rw [List.append_nil] at R6
        refine P' _ _ _ _ _ R6 (hxx.to ?_ ?_)
        · rw [hZ, hZ']
        · rw [hZ, hZ']
      | ok v outs =>
        rw [es] at P'
        intro G' O' ρ' σ' H' x1 R5 ho hc
        rw [hZ'] at ho
        have ho : outs = outAt ρ' 0 :: outsOf io' ρ' := ho
        subst ho
        cases v with
        | non =>
          cases e0 : outAt ρ' 0 with
          | none => rw [e0] at P'; exact P'.elim
          | some d0 =>
            rw [e0] at P'
            simp only at P'
            refine ⟨repO_non (Rel.top (ts := []) R5), ?_⟩
            have e3 : ρ'[0]? = some (some d0) ∧ d0.calm = true := by
              unfold outAt at e0
              split at e0
              · rename_i d e3
                split at e0
                · rename_i c
                  cases e0
                  exact ⟨e3, c⟩
                · cases e0
              · cases e0
            obtain ⟨x0, h1, R6⟩ := R5.move e3.1
            obtain ⟨v0, h2, h3⟩ := R5.io 0 (by rw [hZ']; exact List.mem_cons_self)
            rw [hv] at h2
            have h2 : some (V.ref x) = some v0 := h2
            cases h2
            rw [h1] at h3
            cases h3
            obtain ⟨O7, R7⟩ := Rel.mid (ts := []) (us := [(.non, x1)]) R6
            obtain ⟨O8, R8⟩ := tl _ _ _ _ _ _ R7 (by simp [e3.2])
            have ep : putB (.t :: ms) (0 :: io') (outsOf (0 :: io') (ρ'.set 0 none)) ρ1 = putB (.t :: ms) (0 :: io') (some d0 :: outsOf io' ρ') ρ1 := by
              rw [← e0]
              refine putB_congr (ms := .t :: ms) (io' := 0 :: io') fun j _ hj => ?_
              cases j with
              | zero => exact absurd rfl hj
              | succ j =>
                unfold outAt
                rw [List.getElem?_set_ne (by omega)]
            rw [ep] at R8
            exact P' _ _ _ _ R8
        | _ => exact P'.elim
theorem ej_make {Cn : Str} (mk : Mk X.K (He.ga X.K Cn) fa) (X1 : FnG X.prog X.w X.K X.mg X.base k fa fd ps (spF (X.zt (0 :: io')) N np sem)) (hr : Room (k + 1) X.A) (gd : X.A.guards = some []) (tk : Takes X W) (hg : Gl X x) (hm : X.mg x = some (.ref (He.ga X.K Cn))) (hb : Binds X.K fd ps dsv) (hd : Vals dvs dsv) (hdd : ∀ G, Reps (X.zt io) G dd dvs)
    (ha : MJ X io W (e :: es) ms g) (hN : np ≤ N.length := by decide) (hnp : (Md.t :: ms).length + dd.length = np := by rfl) (hio' : ∀ j ∈ 0 :: io', j < np := by decide) (hms : msOk (.t :: ms) (0 :: io') = true := by decide)
    (hdb : (x == ("__debug__" : Str)) = false := by decide) (he : starEach (e :: es) X.env = (false, eval e X.env) :: starEach es X.env := by rfl) (hpl : (backTo pos (starEach es X.env)).any (·.1) = false := by rfl) : EJ X io W (.Call (.Name x p) (e :: es) [] pos) (eMake Cn ms (0 :: io') dd sem g) :=
  PE.imp (pe_makeG mk X1 hr gd hg hm hb hd tk ha hdb he hpl) fun σ H Q h => t_make hdd hN hnp hio' hms h

/-! ### fields -/
def fldOf (Cn fl : Str) : PV → Option PV
  | .obj _ C' fs => if C' = Cn then match fs.lookup fl with
    | some d => if d.own || d.isE then none else some d
    | none => none else none
  | _ => none
def opFld (Cn fl : Str) (d : PV) : M PV := ofO (fldOf Cn fl d)
abbrev rFld (K : PySem.W.Frag) (Cn fl : Str) : R1 := fun x H Q => ∃ a C dx fs v, x = .ref a ∧ H a = some (.ins C dx fs) ∧ Cls K C ∧ NoAttr K C fl ∧ fs.lookup fl = some v ∧ Q v H
theorem us_fld {Cn fl : Str} (c : Cls X.K (He.ga X.K Cn)) (n : NoAttr X.K (He.ga X.K Cn) fl) : UnS (X.zt io) W (rFld X.K Cn fl) (opFld Cn fl) := fun F G O ρ ts σ H Q dx x k hZ R hx P => by
  unfold opFld at P
  cases e : fldOf Cn fl dx with
  | none => rw [e] at P; exact P.elim
  | some d =>
    rw [e] at P
    unfold fldOf at e
    split at e
    · rename_i b C' fs
      split at e
      · rename_i ec
        subst ec
        split at e
        · rename_i d' el
          split at e
          · cases e
          · rename_i nf
            cases e
            simp only [Bool.or_eq_true, not_or, Bool.not_eq_true] at nf
            obtain ⟨a, dx, vfs, rfl, ha, _, l2⟩ := obj_at R.gh hx
            obtain ⟨w, hw, rw1⟩ := l2 fl d el nf.1 nf.2
            rw [hZ] at ha
            exact ⟨a, _, dx, vfs, w, rfl, ha, c, n, hw, PostE.val R (v := d) P rw1⟩
        · cases e
      · cases e
    · cases e
theorem ej_fld {Cn fl : Str} (c : Cls X.K (He.ga X.K Cn)) (n : NoAttr X.K (He.ga X.K Cn) fl) (he : EJ X io W o f) (hb : attributeBase o fl X.env (eval o X.env) = eval o X.env := by rfl) : EJ X io W (.Attribute o fl pos) (eUn (opFld Cn fl) f) :=
  PE.imp (pe_fld he hb) fun σ H Q h => t_un (us_fld c n) σ H Q h
theorem ej_fldB {Cn fl : Str} {i : Nat} (c : Cls X.K (He.ga X.K Cn)) (n : NoAttr X.K (He.ga X.K Cn) fl) (hN : X.N[i]? = some x) (hv : Vis X.env.scope x) (hb : attributeBase (.Name x px) fl X.env (eval (.Name x px) X.env) = eval (.Name x px) X.env := by rfl)
    (hd : (x == ("__debug__" : Str)) = false := by decide) (hcd : (x == ("__classdict__" : Str)) = false := by decide) : EJ X io W (.Attribute (.Name x px) fl pos) (eUnB (opFld Cn fl) i) :=
  PE.imp (pe_fld (pe_var hN hv hd hcd) hb) fun σ H Q h => t_unB (us_fld c n) h
def putP (fl : Str) (v : PV) : List (Str × PV) → List (Str × PV)
  | [] => [(fl, v)]
  | (g, x) :: r => if g = fl then (g, v) :: r else (g, x) :: putP fl v r
theorem RepL.ofRep {F : Fr} {G : Hp} {O : Own} {H : Hp} {t : Tag} {d : PV} {x : V} (h : Rep F.Z G d x) : RepL F G O H t d x := by
  cases d with
  | lst o xs => cases o with
    | true => simp only [Rep] at h
    | false => exact h
  | dct o xs => cases o with
    | true => simp only [Rep] at h
    | false => exact h
  | obj o C xs => cases o with
    | true => simp only [Rep] at h
    | false => exact h
  | exc C xs => simp only [Rep] at h
  | non => exact h
  | bl b => exact h
  | int i => exact h
  | str s => exact h
  | tup xs => exact h
theorem RepOF.put {F : Fr} {G : Hp} {O : Own} {H : Hp} {k : Nat} {fl : Str} {d : PV} {v : V} (r : Rep F.Z G d v) : ∀ {fs : List (Str × PV)} {j : Nat} {vs : List (Str × V)}, RepOF F G O H k j fs vs → RepOF F G O H k j (putP fl d fs) (putF fl v vs)
  | [], j, vs, h => by
    have h : vs = [] := h
    subst h
    exact ⟨v, [], rfl, .ofRep r, rfl⟩
  | (q, d0) :: fs, j, vs, h => by
    obtain ⟨v0, vr, rfl, h1, h2⟩ := h
    unfold putP putF
    by_cases e : q = fl
    · rw [if_pos e, if_pos e]
      exact ⟨v, vr, rfl, .ofRep r, h2⟩
    · rw [if_neg e, if_neg e]
      exact ⟨v0, _, rfl, h1, RepOF.put r h2⟩
def setFld (Cn fl : Str) (w : PV) : PV → Option PV
  | .obj true C' fs => if C' = Cn ∧ fs.length < 1000 then some (.obj true Cn (putP fl w fs)) else none
  | _ => none
/-- x.f = e: the value is frozen -/
def sFldS (Cn fl : Str) (u : M PV) (i : Nat) : SM := sE (M.bind u frzM) fun w ρ => match ρ[i]? with
  | some (some d) => match setFld Cn fl w d with
    | some d' => .nx (ρ.set i (some d'))
    | none => .bad
  | _ => .bad
theorem RepOF.length {F : Fr} {G : Hp} {O : Own} {H : Hp} {k : Nat} : ∀ {fs : List (Str × PV)} {j : Nat} {vs : List (Str × V)}, RepOF F G O H k j fs vs → fs.length = vs.length
  | [], j, vs, h => by have h : vs = [] := h; subst h; rfl
  | (q, d) :: fs, j, vs, h => by
    obtain ⟨v, r, rfl, _, h2⟩ := h
    simp [RepOF.length h2]
theorem sj_fldS {Cn fl : Str} {i : Nat} {pos' : Pos} (c : Cls X.K (He.ga X.K Cn)) (n : NoAttr X.K (He.ga X.K Cn) fl) (hN : X.N[i]? = some x) (hv : Vis X.env.scope x) (he : EJ X io W e u) (hs : swapsWith e (some (.Attribute (.Name x px) fl pos')) pos.line X.env = pure false := by rfl)
    (hd : (x == ("__debug__" : Str)) = false := by decide) (hcd : (x == ("__classdict__" : Str)) = false := by decide) : SJ X io W (.Assign [.Attribute (.Name x px) fl pos'] e pos) (sFldS Cn fl u i) := by
  refine PS.imp (ps_fld (pe_var hN hv hd hcd) he hs) ?_
  rintro D σ H ⟨F, G, O, ρ, ts, hZ, R, P⟩
  refine ST.bindF hZ R P fun G1 O1 H1 ρ1 w y R1 rw1 P1 => ?_
  split at P1
  · rename_i d e0
    cases q : setFld Cn fl w d with
    | none => rw [q] at P1; exact P1.elim
    | some d' =>
      rw [q] at P1
      unfold setFld at q
      split at q
      · rename_i C' fs
        split at q
        · rename_i hc
          obtain ⟨rfl, hl⟩ := hc
          cases q
          have R0 := R1.pop
          obtain ⟨v, h1, h2⟩ := R0.sl i _ e0
          obtain ⟨a, dx, vfs, rfl, oa, ha, rr⟩ := h2
          rw [hZ] at ha
          refine ⟨.ref a, h1, a, _, dx, vfs, rfl, ha, c, n, by rw [← rr.length]; exact hl, P1 _ _ _ _ (R0.write e0 h1 oa ⟨a, dx, putF fl y vfs, rfl, oa, by rw [upd_same, hZ], ?_⟩)⟩
          have kp : ∀ {b : Addr} {o : HO} {m : Nat}, O1 b = some (i, m + 1) → H1 b = some o → upd H1 a (.ins (He.ga X.K C') dx (putF fl y vfs)) b = some o := fun {b o m} e z => by
            rw [upd_ne fun q => by subst q; rw [oa] at e; cases e]
            exact z
          refine RepOF.put rw1 ?_
          exact rofs_keep (fun b o m e z => kp e z) rr
        · cases q
      · cases q
  · exact P1.elim
end
end Wv

set_option Elab.async false
set_option linter.all false
set_option autoImplicit false
set_option maxRecDepth 100000
/-! WvS: the law's call; the head's facts. -/
namespace Wv
open PySem PySem.Spec PyProof.Rows L2

/-- a def of the text, by its body -/
theorem fnG {P : Program} {w : World} {K : PySem.W.Frag} {mg : Str → Option Value} {base : Heap} {x qual : Str} {params : Arguments} {body : List Stmt} {scope : Scope} {dvs : List V} {kws : List (Str × V)} {f : Addr} {fd : FuncData} {N ps : List Str} {k : Nat} {io : List Nat} {b : SM}
    (F : FunD K x qual params body scope dvs kws f fd) (S : FnScope N ps scope)
    (hbody : ∀ (cdv : Value) (A : Around) (outer : List Env) (s : Shared) (H : Hp) (E : XK), Room k (A.deeper (envOfC qual scope s.heap.objs.size f cdv)) → A.guards = some [] →
      SSJ (cxOf (L2.CX P w) P w K mg base N qual scope f cdv A outer s H E) io (fun cls d _ H' => E cls d H') body b) :
    FnG P w K mg base (k + 1) f fd ps (spF ⟨P, w, K, io⟩ N ps.length (runF N.length io b)) := by
  obtain ⟨oc, od, dV, kV, doc, pm, an, cdv, ct, osl, rfl, lk, hcd, _, _⟩ := F.ex
  exact fnG_of lk hcd S fun A outer s H E => hbody cdv A outer s H E

section
variable {P : Program} {w : World} {K : PySem.W.Frag} {mg mb : Str → Option Value} {k : Nat} {fa a : Addr} {fd : FuncData} {x : Str} {sp : Sp} {s₁ : Shared} {vs : List Value} {ns : List Int}
theorem law_from {H : Hp} (kin : K.In s₁.heap) (nsg : s₁.heap.Ns mainGlobals mg) (nsb : s₁.heap.Ns builtinsNs mb) (blt : ∀ x : Str, x ≠ "__name__" → mb x = bootBuiltins x) (lim : s₁.heap.NoLimit) (gens : s₁.gens = #[])
    (geta : s₁.heap.get? a = some { cls := .type "list", data := .seq vs.toArray }) (room : Room k callerA) (FF : ∀ base : Heap, K.In base → base.Ns mainGlobals mg → FnG P w K mg base k fa fd [x] sp)
    (bind1 : ∀ (s : Shared) (u : Value), BindsTo s fd ⟨[u], []⟩ [(x, u)]) (want : sp [.ref a] H (fun v _ => v = .bl true) fun _ _ _ => False) (only : Only H) (ok0 : HOk P w H s₁.heap) (justA : ∀ b, H b ≠ none → b = a) (notK : H a ≠ none → K.lookup a = none) :
    codeAny (model P w) callerA (.call (.ref fa) ⟨[.ref a], []⟩) (fun r s' => r = .ok (.ret (.bool true)) ∧ OldK s₁.heap s'.heap ∧ s'.os = s₁.os ∧ AllBare s'.gens) s₁ := by
  have out : ∀ {b : Addr} {o : Obj}, s₁.heap.get? b = some o → H b = none → (hidT s₁.heap H).get? b = some o := fun h1 h2 => hidT_get h1 h2
  have isA : ∀ {b : Addr} {u : HO}, H b = some u → b = a := fun {b u} h => justA b (by rw [h]; exact fun z => nomatch z)
  have dict0 : ∀ {b : Addr} {o : Obj} {es : Array DictEntry} {ep : Nat}, s₁.heap.get? b = some o → o.data = .dict es ep → H b = none := by
    intro b o es ep h1 h2
    cases h3 : H b with
    | none => rfl
    | some u =>
      rw [isA h3, geta] at h1
      cases h1
      cases h2
  have spaces : ∀ {b : Addr} {m : Str → Option Value}, s₁.heap.Ns b m → (hidT s₁.heap H).Ns b m := by
    rintro b m ⟨o, es, ep, h1, h2, h3⟩
    exact ⟨o, es, ep, out h1 (dict0 h1 h2), h2, h3⟩
  have kinB : K.In (hidT s₁.heap H) := by
    intro b o h1
    refine out (kin b o h1) ?_
    cases h3 : H b with
    | none => rfl
    | some u =>
      have h4 := isA h3
      subst h4
      rw [notK (by rw [h3]; exact fun z => nomatch z)] at h1
      cases h1
  have env0 : Env0 P w K mg (hidT s₁.heap H) callerA [] s₁ H := by
    obtain ⟨mc, l1, l2⟩ := lim
    exact ⟨rfl, ⟨kinB, spaces nsg, ⟨mb, spaces nsb, blt⟩, ⟨mc, spaces l1, l2⟩⟩, fun b o h => of_hidT h, Nat.le_of_eq (hidT_size _ _), trivial, fun b hb => absurd (show b ∈ ([] : List Addr) from hb) (by simp), ok0, .of_eq gens⟩
  have ran := (FF _ kinB (spaces nsg)).run callerA [] s₁ H ⟨[.ref a], []⟩ [.ref a] [.ref a] _ _ room rfl env0 (bind1 s₁ (.ref a)) (.cons rfl .nil) want
  refine codeAny_mono ran fun r s' h => ?_
  match r, h with
  | .error e, ⟨_, _, _, _, _, _, _, _, _, _, _, _, z⟩ => exact z.elim
  | .ok .next, h => exact False.elim h
  | .ok .brk, h => exact False.elim h
  | .ok .cont, h => exact False.elim h
  | .ok (.ret u), ⟨v, H', os, bare, un, ok1, rel, q⟩ =>
    have q1 : v = .bl true := q
    subst q1
    have eu : u = Value.bool true := rel
    subst eu
    refine ⟨rfl, OldK.of_keep fun b o h1 => ?_, os, bare⟩
    rcases only b with h2 | ⟨ob, xs, h2⟩
    · exact un.keep b o h1 h2 (fun z => by cases z) (by simp)
    · have g1 := (ok0 b _ h2).1
      have g2 := (ok1 b _ (un.frzs b ob _ h2)).1
      rw [h1] at g1
      cases g1
      exact g2
theorem law_callG (kin : K.In s₁.heap) (nsg : s₁.heap.Ns mainGlobals mg) (nsb : s₁.heap.Ns builtinsNs mb) (blt : ∀ x : Str, x ≠ "__name__" → mb x = bootBuiltins x) (lim : s₁.heap.NoLimit) (gens : s₁.gens = #[])
    (geta : s₁.heap.get? a = some { cls := .type "list", data := .seq vs.toArray }) (cells : IntsAre vs ns) (size : ns.length ≤ sizeLine) (room : Room k callerA) (FF : ∀ base : Heap, K.In base → base.Ns mainGlobals mg → FnG P w K mg base k fa fd [x] sp)
    (bind1 : ∀ (s : Shared) (u : Value), BindsTo s fd ⟨[u], []⟩ [(x, u)]) (want : ∀ H : Hp, SqL K H a (ns.map V.int) → sp [.ref a] H (fun v _ => v = .bl true) fun _ _ _ => False) :
    codeAny (model P w) callerA (.call (.ref fa) ⟨[.ref a], []⟩) (fun r s' => r = .ok (.ret (.bool true)) ∧ OldK s₁.heap s'.heap ∧ s'.os = s₁.os ∧ AllBare s'.gens) s₁ := by
  have vals := vals_ints cells
  have same := cells.length
  by_cases inK : ∃ o, K.lookup a = some o
  · obtain ⟨o, inK⟩ := inK
    have h1 := kin a o inK
    rw [geta] at h1
    cases h1
    have sq : SqL K (fun _ => none) a (ns.map V.int) := .inr ⟨_, vs.toArray, _, inK, rfl, rfl, rfl, by rw [List.size_toArray, same]; exact size, by simpa using vals⟩
    exact law_from kin nsg nsb blt lim gens geta room FF bind1 (want _ sq) (fun _ => .inl rfl) (fun b u z => nomatch z) (fun b z => (z rfl).elim) fun z => (z rfl).elim
  · have noK : K.lookup a = none := by
      cases h : K.lookup a with
      | none => rfl
      | some o => exact absurd ⟨o, h⟩ inK
    generalize hH : (fun b => if b = a then some (HO.frz { cls := .type "list", data := .seq vs.toArray } (.lst (ns.map V.int))) else none : Hp) = H
    have at_ : H a = some (.frz { cls := .type "list", data := .seq vs.toArray } (.lst (ns.map V.int))) := by rw [← hH]; simp
    have off : ∀ b, b ≠ a → H b = none := fun b hb => by rw [← hH]; simp [hb]
    refine law_from kin nsg nsb blt lim gens geta room FF bind1 (want H (.inl (.inr ⟨_, at_⟩))) (fun b => ?_) (fun b u z => ?_) (fun b z => ?_) fun _ => noK
    · by_cases hb : b = a
      · rw [hb]; exact .inr ⟨_, _, at_⟩
      · exact .inl (off b hb)
    · by_cases hb : b = a
      · subst hb
        rw [at_] at z
        cases z
        exact ⟨geta, by rw [List.length_map]; exact size, vs, _, vals, geta⟩
      · rw [off b hb] at z
        cases z
    · by_cases hb : b = a
      · exact hb
      · exact absurd (off b hb) z
end
theorem walk_ofG {l : PySem.W.OpenLaw} {n k : Nat} {q : Program} {loose : List Str} {XP : (Str → Option Value) → Heap → Prop} {YP : World → Heap → Prop} {d : DefRec} {x : Str} (hn : l.most = some n) (hn2 : n ≤ sizeLine) (hdf : d.params.defaults = []) (room : Room k callerA)
    (FF : ∀ (w : World) (mg : Str → Option Value) (fa : Addr) (h : Heap), YP w h → h.Ns mainGlobals mg → mg d.name = some (.ref fa) → ∃ (K : PySem.W.Frag) (fd : FuncData) (sp : Sp), K.In h ∧ (∀ (s : Shared) (u : Value), BindsTo s fd ⟨[u], []⟩ [(x, u)]) ∧
      (∀ (H : Hp) (a : Addr) (ns : List Int), ns.length ≤ n → SqL K H a (ns.map V.int) → sp [.ref a] H (fun v _ => v = .bl true) fun _ _ _ => False) ∧ ∀ base : Heap, K.In base → base.Ns mainGlobals mg → FnG l.prog w K mg base k fa fd [x] sp) :
    PySem.W.WalkO q loose XP YP l.row.toRowW d [] (fun f vs => PySem.call f vs) := by
  refine Att.attach_call hn hdf fun w s₀ s₁ mg mb fa o pm cd doc a vs ns gr y _ _ _ hmg geta cells len gens => ?_
  obtain ⟨K, fd, sp, kin, b, want, F2⟩ := FF w mg fa _ y gr.T.g hmg
  exact law_callG kin gr.T.g gr.T.b gr.T.builtins gr.T.nolimit gens geta cells (Nat.le_trans len hn2) room F2 b fun H hS => want H a ns len hS
/-- the script's promise, from what the law's body computes -/
theorem want_of {P : Program} {w : World} {K : PySem.W.Frag} {N : List Str} {sem : List PV → FRes} {H : Hp} {a : Addr} {ns : List Int} (hN : 1 ≤ N.length) (hS : SqL K H a (ns.map V.int)) (h : sem [.lst false (ns.map .int)] = .ok (.bl true) []) :
    spF ⟨P, w, K, []⟩ N 1 sem [.ref a] H (fun v _ => v = .bl true) fun _ _ _ => False := by
  refine ⟨rfl, ⟨⟨P, w, K, []⟩, H, fun _ => none, H, [.ref a], none⟩, H, fun _ => none, [.lst false (ns.map .int)], rfl, ?_, ?_⟩
  · refine ⟨by simp [startS, L2.start], Sub.refl _, Sub.refl _, fun a t e => (by cases e), fun a o h _ => h, fun i d e => ?_, fun j p e => (by simp at e), fun i hi => (by cases hi), fun a o h => .inl h⟩
    have e' := startS_get e
    cases i with
    | zero =>
      simp only [List.getElem?_cons_zero, Option.some.injEq] at e'
      subst e'
      refine ⟨.ref a, start_at rfl, ?_⟩
      have r : ∀ ns : List Int, Reps ⟨P, w, K, []⟩ H (ns.map PV.int) (ns.map V.int) := fun ns => by
        induction ns with
        | nil => simp only [List.map_nil, Reps]
        | cons n ns ih =>
          simp only [List.map_cons, Reps]
          exact ⟨_, _, rfl, by simp only [Rep], ih⟩
      show Rep ⟨P, w, K, []⟩ H (.lst false (ns.map .int)) (.ref a)
      simp only [Rep]
      exact ⟨a, _, rfl, hS, r ns⟩
    | succ i => simp at e'
  · rw [h]
    intro G' O' ρ' σ' H' x R _ _
    exact repO_bl (Rel.top (ts := []) R)
end Wv

set_option Elab.async false
set_option linter.all false
set_option autoImplicit false
set_option maxRecDepth 100000
/-! WvT: constants of the module, isinstance, lists of numbers and truths. -/
namespace Wv
open PySem PySem.Spec PyProof.Rows L2

section
variable {X : Cx} {io : List Nat} {W : WX} {a b e : Expr} {f g u v : M PV} {pos p px py : Pos} {i j : Nat} {x y n : Str} {r : R2} {op : PV → PV → M PV}
theorem ej_gint {k : Int} {t : Tok} (hg : Gl X x) (hm : X.mg x = some (.int k t)) (hd : (x == ("__debug__" : Str)) = false := by decide) : EJ X io W (.Name x pos) (eK (.int k)) := ej_const (x := .int k) (pe_glob hg hm ⟨t, rfl⟩ hd) fun _ _ => by simp only [Rep]
theorem ej_gstr {z : Str} {t : Tok} (hg : Gl X x) (hm : X.mg x = some (.str z t)) (h : sOk z = true := by decide +kernel) (hd : (x == ("__debug__" : Str)) = false := by decide) : EJ X io W (.Name x pos) (eK (.str z)) := ej_const (x := .str z) (pe_glob hg hm ⟨t, rfl⟩ hd) fun _ _ => by simp only [Rep, h, and_self]
/-! two names, both looked at -/
def eBinB (op : PV → PV → M PV) (i j : Nat) : M PV := fun ρ => match ρ[i]? with
  | some (some d) => match ρ[j]? with
    | some (some d') => op d d' ρ
    | _ => .bad
  | _ => .bad
theorem t_opB (hs : OpS (X.zt io) W r op) {σ : St} {H : Hp} {Q : VK} (h : T (X.zt io) W (eBinB op i j) σ H Q) : tOp r (tVar i) (tVar j) σ H Q := by
  obtain ⟨F, G, O, ρ, ts, hZ, R, P⟩ := h
  obtain ⟨d, v, e, h1, h2, P1⟩ := slot_get R P
  obtain ⟨d', v', e', h1', h2', P2⟩ := slot_get (i := j) (k := fun d' => op d d' ρ) R P1
  exact ⟨v, h1, v', h1', hs F G O ρ ts σ H Q d d' v v' i j hZ R h2 h2' P2⟩
theorem ej_cmpB {o : CmpOp} (ho : OpR X (compareOp o) r) (hs : OpS (X.zt io) W r op) (hN : X.N[i]? = some x) (hv : Vis X.env.scope x) (hN' : X.N[j]? = some y) (hv' : Vis X.env.scope y) (hm : behindInMarks o (.Name y py) = false := by first | exact nomark _ | rfl)
    (hd : (x == ("__debug__" : Str)) = false := by decide) (hcd : (x == ("__classdict__" : Str)) = false := by decide) (hd' : (y == ("__debug__" : Str)) = false := by decide) (hcd' : (y == ("__classdict__" : Str)) = false := by decide) :
    EJ X io W (.Compare (.Name x px) [o] [.Name y py] pos) (eBinB op i j) := PE.imp (pe_cmpR ho (pe_var hN hv hd hcd) (pe_var hN' hv' hd' hcd') hm) fun σ H Q h => t_opB hs h
theorem bj_cmpB {o : CmpOp} (ho : OpR X (compareOp o) r) (hs : OpS (X.zt io) W r op) (hN : X.N[i]? = some x) (hv : Vis X.env.scope x) (hN' : X.N[j]? = some y) (hv' : Vis X.env.scope y) (hm : behindInMarks o (.Name y py) = false := by first | exact nomark _ | rfl)
    (hd : (x == ("__debug__" : Str)) = false := by decide) (hcd : (x == ("__classdict__" : Str)) = false := by decide) (hd' : (y == ("__debug__" : Str)) = false := by decide) (hcd' : (y == ("__classdict__" : Str)) = false := by decide) :
    BJ X io W (.Compare (.Name x px) [o] [.Name y py] pos) (bV (eBinB op i j)) := PT.imp (pt_cmpR ho (pe_var hN hv hd hcd) (pe_var hN' hv' hd' hcd') hm) fun σ H Q h => t_opB hs (t_boolV h)
theorem ej_idxB (hN : X.N[i]? = some x) (hv : Vis X.env.scope x) (hN' : X.N[j]? = some y) (hv' : Vis X.env.scope y) (hs : PlainIx (.Name y py) := by exact fun _ _ => rfl)
    (hd : (x == ("__debug__" : Str)) = false := by decide) (hcd : (x == ("__classdict__" : Str)) = false := by decide) (hd' : (y == ("__debug__" : Str)) = false := by decide) (hcd' : (y == ("__classdict__" : Str)) = false := by decide) :
    EJ X io W (.Subscript (.Name x px) (.Name y py) pos) (eBinB opIdx i j) := PE.imp (pe_ix ix_seq (pe_var hN hv hd hcd) (pe_var hN' hv' hd' hcd') hs) fun σ H Q h => t_opB os_idx h
end

/-! ### isinstance -/
inductive Bt where
  | int
  | bool
  | str
  | tuple
  | list
  | dict
  deriving DecidableEq
def Bt.nm : Bt → String
  | .int => "int"
  | .bool => "bool"
  | .str => "str"
  | .tuple => "tuple"
  | .list => "list"
  | .dict => "dict"
/-- what is asked of an own class, to be asked for an instance's class -/
structure Own1 (K : PySem.W.Frag) (C : Str) : Prop where
  cl : Cls K (He.ga K C)
  ha : PySem.W.findIn K (.ref (He.ga K C)) "__class__" = some (some (.builtin "object.__class__"))
  hn : PySem.W.specialIn K (.builtin "object.__class__") "__get__" = some (some (.builtin "getset_descriptor.__get__"))
  ht : PySem.W.takesIn K (.builtin "object.__class__") = some true
  hm : PySem.W.mroIn K (He.ga K C) (.type "object") = some true
  bt : ∀ T : Bt, PySem.W.kitOne K (.ref (He.ga K C)) (.type T.nm) = some false
/-- a class that is asked for -/
structure Ask1 (K : PySem.W.Frag) (cs : List Str) (C : Str) : Prop where
  no : PySem.W.kitOne K (.type "NoneType") (.ref (He.ga K C)) = some false
  bt : ∀ T : Bt, PySem.W.kitOne K (.type T.nm) (.ref (He.ga K C)) = some false
  ow : ∀ D ∈ cs, PySem.W.kitOne K (.ref (He.ga K D)) (.ref (He.ga K C)) = some (decide (D = C))
/-- the built-in type of a value -/
def PV.bt : PV → Option Bt
  | .bl _ => some .bool
  | .int _ => some .int
  | .str _ => some .str
  | .tup _ => some .tuple
  | .lst _ _ => some .list
  | .dct _ _ => some .dict
  | _ => none
def isiB (cs : List Str) (T : Bt) : PV → Option Bool
  | .non => some false
  | .bl _ => some (decide (T = .bool) || decide (T = .int))
  | .int _ => some (decide (T = .int))
  | .str _ => some (decide (T = .str))
  | .tup _ => some (decide (T = .tuple))
  | .lst _ _ => some (decide (T = .list))
  | .dct _ _ => some (decide (T = .dict))
  | .obj _ C _ => if C ∈ cs then some false else none
  | .exc _ _ => none
def isiO (cs : List Str) (D : Str) : PV → Option Bool
  | .obj _ C _ => if C ∈ cs then some (decide (C = D)) else none
  | .exc _ _ => none
  | _ => some false
theorem kitB_eq : (∀ T : Bt, kitB "NoneType" T.nm = some false) ∧ (∀ T : Bt, kitB "bool" T.nm = some (decide (T = .bool) || decide (T = .int))) ∧ (∀ T : Bt, kitB "int" T.nm = some (decide (T = .int))) ∧ (∀ T : Bt, kitB "str" T.nm = some (decide (T = .str))) ∧
    (∀ T : Bt, kitB "tuple" T.nm = some (decide (T = .tuple))) ∧ (∀ T : Bt, kitB "list" T.nm = some (decide (T = .list))) ∧ ∀ T : Bt, kitB "dict" T.nm = some (decide (T = .dict)) := by
  refine ⟨?_, ?_, ?_, ?_, ?_, ?_, ?_⟩ <;> intro T <;> cases T <;> decide +kernel
/-- a value's type, dicts that are owned or frozen among them -/
def TyD (K : PySem.W.Frag) (H : Hp) (x : V) (t : Value) : Prop := TyX K H x t ∨ (t = .type "dict" ∧ ∃ a es, x = .ref a ∧ H a = some (.ext (dictAt a es)))
def rIsiD (K : PySem.W.Frag) : CR := fun xs H Q => ∃ (x c : V) (t u : Value) (b : Bool), xs = [x, c] ∧ ClsV c u ∧ TyD K H x t ∧ PySem.W.kitOne K t u = some b ∧ Q (.bl b) H
theorem cr_isi {X : Cx} : CallR X (.builtin "isinstance") (rIsiD X.K) := by
  intro pins s σ H xs us Q I r h
  obtain ⟨x, c, t, u, b, rfl, k, ty, e, q⟩ := h
  obtain ⟨u1, u2, rfl, r1, r2⟩ := vals2 r
  have e2 := k.eq r2
  subst e2
  rcases ty with ty | ⟨rfl, a, es, rfl, ha⟩
  · obtain ⟨P, Z, p, hx⟩ := kit_of I r1 ty
    exact PySem.W.kia_one Z I.kIn p e hx fun tk => ⟨.bl b, H, I.tok tk, rfl, q⟩
  · cases (show u1 = Value.ref a from r1)
    obtain ⟨hd, _⟩ := (show ObjOk X.prog X.w H s.heap a (.ext (dictAt a es)) from I.hok a _ ha)
    exact PySem.W.kia_one PySem.W.kitx_dict I.kIn ⟨_, hd, rfl⟩ e (fun z => nomatch z) fun tk => ⟨.bl b, H, I.tok tk, rfl, q⟩
theorem tyT {K : PySem.W.Frag} {H : Hp} {a : Addr} {xs : List V} (h : SqT K H a xs) : TyX K H (.ref a) (.type "tuple") := by
  rcases h with (h | ⟨o, h⟩) | ⟨o, _, _, h, hc, _⟩
  · exact .base (.tup h)
  · exact .fTuple h
  · exact .kTuple h hc
theorem tyL {K : PySem.W.Frag} {H : Hp} {a : Addr} {xs : List V} (h : SqL K H a xs) : TyX K H (.ref a) (.type "list") := by
  rcases h with (h | ⟨o, h⟩) | ⟨o, _, _, h, hc, _⟩
  · exact .base (.lst h)
  · exact .base (.frz h)
  · exact .kList h hc
section
variable {X : Cx} {io : List Nat} {W : WX} {cs : List Str}
theorem isi_core {F : Fr} {G H : Hp} {O : Own} {k : Nat} {d : PV} {x : V} (R : Sub G H) (hx : RepO F G O H k d x) (hK : F.Z.K = X.K) (own : ∀ C ∈ cs, Own1 X.K C) :
    (d = .non ∧ TyD X.K H x (.type "NoneType")) ∨ (∃ T : Bt, d.bt = some T ∧ TyD X.K H x (.type T.nm)) ∨ (∃ b C fs, d = .obj b C fs ∧ (C ∈ cs → TyD X.K H x (.ref (He.ga X.K C)))) ∨ ∃ C fs, d = .exc C fs := by
  cases d with
  | non => obtain rfl := repO_non hx; exact .inl ⟨rfl, .inl (.base .non)⟩
  | bl b => obtain rfl := repO_bl hx; exact .inr (.inl ⟨.bool, rfl, .inl (.base (.bl b))⟩)
  | int i => obtain rfl := repO_int hx; exact .inr (.inl ⟨.int, rfl, .inl (.base (.int i))⟩)
  | str s => obtain ⟨rfl, _⟩ := repO_str hx; exact .inr (.inl ⟨.str, rfl, .inl (.base (.str s))⟩)
  | tup xs =>
    obtain ⟨a, vs, rfl, q, r⟩ := repO_tup R hx
    rw [hK] at q
    exact .inr (.inl ⟨.tuple, rfl, .inl (tyT q)⟩)
  | lst o xs =>
    obtain ⟨a, vs, rfl, q, r⟩ := repO_lst R hx
    rw [hK] at q
    exact .inr (.inl ⟨.list, rfl, .inl (tyL q)⟩)
  | dct o kvs =>
    refine .inr (.inl ⟨.dict, rfl, .inr ⟨rfl, ?_⟩⟩)
    cases o with
    | true =>
      obtain ⟨a, es, e, _, ha, _⟩ := hx
      exact ⟨a, es, e, ha⟩
    | false =>
      have h' : Rep F.Z G (.dct false kvs) x := hx
      simp only [Rep] at h'
      obtain ⟨a, es, e, ha, _⟩ := h'
      exact ⟨a, es, e, R _ _ ha⟩
  | obj b C fs =>
    refine .inr (.inr (.inl ⟨b, C, fs, rfl, fun hc => ?_⟩))
    obtain ⟨a, dx, vfs, rfl, ha, _⟩ := obj_at R hx
    rw [hK] at ha
    have o := own C hc
    exact .inl (.base (.ins ha o.cl o.ha o.hn o.ht o.hm))
  | exc C fs => exact .inr (.inr (.inr ⟨C, fs, rfl⟩))
def opIsB (cs : List Str) (T : Bt) (d : PV) : M PV := M.bind (ofO (isiB cs T d)) fun b => M.ret (.bl b)
def opIsO (cs : List Str) (D : Str) (d : PV) : M PV := M.bind (ofO (isiO cs D d)) fun b => M.ret (.bl b)
theorem us_isB {T : Bt} (own : ∀ C ∈ cs, Own1 X.K C) : UnS (X.zt io) W (fun x H Q => rIsiD X.K [x, .ty T.nm] H Q) (opIsB cs T) := fun F G O ρ ts σ H Q dx x k hZ R hx P => by
  unfold opIsB at P
  cases e : isiB cs T dx with
  | none => rw [e] at P; exact P.elim
  | some b =>
    rw [e] at P
    have q : Q (.bl b) H := PostE.val R (v := .bl b) P (by simp only [Rep])
    obtain ⟨k1, k2, k3, k4, k5, k6, k7⟩ := kitB_eq
    have fin : ∀ {t : String}, TyD X.K H x (.type t) → kitB t T.nm = some b → rIsiD X.K [x, .ty T.nm] H Q := fun {t} ty kb => ⟨x, .ty T.nm, _, _, b, rfl, .ty _, ty, kit_ty kb, q⟩
    rcases isi_core (X := X) (cs := cs) R.gh hx (by rw [hZ]) own with ⟨rfl, ty⟩ | ⟨S, hS, ty⟩ | ⟨b', C, fs, rfl, ty⟩ | ⟨C, fs, rfl⟩
    · exact fin ty ((k1 T).trans e)
    · cases dx with
      | bl _ => cases hS; exact fin ty ((k2 T).trans e)
      | int _ => cases hS; exact fin ty ((k3 T).trans e)
      | str _ => cases hS; exact fin ty ((k4 T).trans e)
      | tup _ => cases hS; exact fin ty ((k5 T).trans e)
      | lst _ _ => cases hS; exact fin ty ((k6 T).trans e)
      | dct _ _ => cases hS; exact fin ty ((k7 T).trans e)
      | _ => cases hS
    · have e : (if C ∈ cs then some false else none) = some b := e
      split at e
      · rename_i hc
        cases e
        exact ⟨x, .ty T.nm, _, _, false, rfl, .ty _, ty hc, (own C hc).bt T, q⟩
      · cases e
    · cases e
theorem us_isO {D : Str} (own : ∀ C ∈ cs, Own1 X.K C) (ask : Ask1 X.K cs D) : UnS (X.zt io) W (fun x H Q => rIsiD X.K [x, .ref (He.ga X.K D)] H Q) (opIsO cs D) := fun F G O ρ ts σ H Q dx x k hZ R hx P => by
  unfold opIsO at P
  cases e : isiO cs D dx with
  | none => rw [e] at P; exact P.elim
  | some b =>
    rw [e] at P
    have q : Q (.bl b) H := PostE.val R (v := .bl b) P (by simp only [Rep])
    have fin : ∀ {t : Value}, TyD X.K H x t → PySem.W.kitOne X.K t (.ref (He.ga X.K D)) = some b → rIsiD X.K [x, .ref (He.ga X.K D)] H Q := fun {t} ty kb => ⟨x, .ref (He.ga X.K D), _, _, b, rfl, .own _, ty, kb, q⟩
    rcases isi_core (X := X) (cs := cs) R.gh hx (by rw [hZ]) own with ⟨rfl, ty⟩ | ⟨S, hS, ty⟩ | ⟨b', C, fs, rfl, ty⟩ | ⟨C, fs, rfl⟩
    · exact fin ty (ask.no.trans e)
    · cases dx with
      | bl _ => cases hS; exact fin ty ((ask.bt _).trans e)
      | int _ => cases hS; exact fin ty ((ask.bt _).trans e)
      | str _ => cases hS; exact fin ty ((ask.bt _).trans e)
      | tup _ => cases hS; exact fin ty ((ask.bt _).trans e)
      | lst _ _ => cases hS; exact fin ty ((ask.bt _).trans e)
      | dct _ _ => cases hS; exact fin ty ((ask.bt _).trans e)
      | _ => cases hS
    · have e : (if C ∈ cs then some (decide (C = D)) else none) = some b := e
      split at e
      · rename_i hc
        cases e
        exact fin (ty hc) (ask.ow C hc)
      · cases e
    · cases e
variable {a : Expr} {f : M PV} {pos p pc px : Pos} {i : Nat} {x n : Str}
theorem ej_isB {T : Bt} (own : ∀ C ∈ cs, Own1 X.K C) (hg : Gl X "isinstance") (hm : X.mg "isinstance" = none) (ha : EJ X io W a f) (hgc : Gl X n) (hmc : X.mg n = none) (hvc : bootBuiltins n = some (.type T.nm)) (hn : n ≠ "__name__" := by decide) (hdb : (n == ("__debug__" : Str)) = false := by decide)
    (he : starEach [a, .Name n pc] X.env = (false, eval a X.env) :: starEach [.Name n pc] X.env := by rfl) (he2 : starEach [.Name n pc] X.env = (false, eval (.Name n pc) X.env) :: starEach [] X.env := by rfl) (hpl : (backTo pos (starEach [.Name n pc] X.env)).any (·.1) = false := by rfl) :
    EJ X io W (.Call (.Name "isinstance" p) [a, .Name n pc] [] pos) (eUn (opIsB cs T) f) :=
  PE.imp (pe_callB cr_isi hg hm boot_isinstance (pa_cons ha (pa_cons (pe_bltn (v := .ty T.nm) hgc hmc hvc rfl hn hdb) pa_nil he2) he) (by decide) (by decide) he hpl) fun σ H Q h => t_un (us_isB own) σ H Q h
theorem ej_isBv {T : Bt} (own : ∀ C ∈ cs, Own1 X.K C) (hg : Gl X "isinstance") (hm : X.mg "isinstance" = none) (hN : X.N[i]? = some x) (hv : Vis X.env.scope x) (hgc : Gl X n) (hmc : X.mg n = none) (hvc : bootBuiltins n = some (.type T.nm)) (hn : n ≠ "__name__" := by decide) (hdb : (n == ("__debug__" : Str)) = false := by decide)
    (he : starEach [.Name x px, .Name n pc] X.env = (false, eval (.Name x px) X.env) :: starEach [.Name n pc] X.env := by rfl) (he2 : starEach [.Name n pc] X.env = (false, eval (.Name n pc) X.env) :: starEach [] X.env := by rfl) (hpl : (backTo pos (starEach [.Name n pc] X.env)).any (·.1) = false := by rfl)
    (hd : (x == ("__debug__" : Str)) = false := by decide) (hcd : (x == ("__classdict__" : Str)) = false := by decide) :
    EJ X io W (.Call (.Name "isinstance" p) [.Name x px, .Name n pc] [] pos) (eUnB (opIsB cs T) i) :=
  PE.imp (pe_callB cr_isi hg hm boot_isinstance (pa_cons (pe_var hN hv hd hcd) (pa_cons (pe_bltn (v := .ty T.nm) hgc hmc hvc rfl hn hdb) pa_nil he2) he) (by decide) (by decide) he hpl) fun σ H Q h => t_unB (us_isB own) h
theorem ej_isOv {D : Str} (own : ∀ C ∈ cs, Own1 X.K C) (ask : Ask1 X.K cs D) (hg : Gl X "isinstance") (hm : X.mg "isinstance" = none) (hN : X.N[i]? = some x) (hv : Vis X.env.scope x) (hgc : Gl X D) (hmc : X.mg D = some (.ref (He.ga X.K D))) (hdb : (D == ("__debug__" : Str)) = false := by decide)
    (he : starEach [.Name x px, .Name D pc] X.env = (false, eval (.Name x px) X.env) :: starEach [.Name D pc] X.env := by rfl) (he2 : starEach [.Name D pc] X.env = (false, eval (.Name D pc) X.env) :: starEach [] X.env := by rfl) (hpl : (backTo pos (starEach [.Name D pc] X.env)).any (·.1) = false := by rfl)
    (hd : (x == ("__debug__" : Str)) = false := by decide) (hcd : (x == ("__classdict__" : Str)) = false := by decide) :
    EJ X io W (.Call (.Name "isinstance" p) [.Name x px, .Name D pc] [] pos) (eUnB (opIsO cs D) i) :=
  PE.imp (pe_callB cr_isi hg hm boot_isinstance (pa_cons (pe_var hN hv hd hcd) (pa_cons (pe_glob (v := .ref (He.ga X.K D)) hgc hmc rfl hdb) pa_nil he2) he) (by decide) (by decide) he hpl) fun σ H Q h => t_unB (us_isO own ask) h
end
end Wv

set_option Elab.async false
set_option linter.all false
set_option autoImplicit false
set_option maxRecDepth 100000
/-! WvU: products, sorted, list(..), tuple(..), sums, truths. -/
namespace Wv
open PySem PySem.Spec PyProof.Rows L2

section
variable {X : Cx} {Z : Zt} {W : WX}
/-! ### x * y -/
def opTimes : PV → PV → M PV
  | .int i, .int j => if mulOk i j then M.ret (.int (i * j)) else bad
  | .lst true xs, .int k => if xs.length * k.toNat ≤ 16777216 ∧ -9223372036854775808 ≤ k ∧ k < 9223372036854775808 then M.ret (.lst true (List.replicate k.toNat xs).flatten) else bad
  | .tup xs, .int k => if xs ≠ [] ∧ 2 ≤ k ∧ k ≤ 1000 ∧ xs.length ≤ 1000 then M.ret (.tup (List.replicate k.toNat xs).flatten) else bad
  | _, _ => bad
abbrev rTimes (K : PySem.W.Frag) : R2 := fun x y H Q => rI (fun i j => mulOk i j = true) (fun i j => .int (i * j)) x y H Q ∨ (rRep x y H Q ∨ rRepT K x y H Q)
theorem or_times : OpR X (binaryOp .Mult) (rTimes X.K) := OpR.or or_mulI (OpR.or op_rep op_repT)
theorem os_times : OpS Z W (rTimes Z.K) opTimes := fun F G O ρ ts σ H Q dx dy x y k l hZ R hx hy P => by
  unfold opTimes at P
  split at P
  · split at P
    · exact .inl ⟨_, _, repO_int hx, repO_int hy, by assumption, P.val R (by simp only [Rep])⟩
    · exact P.elim
  · split at P
    · rename_i xs n h
      obtain ⟨a, vs, e, _, ha, r⟩ := own_lst hx
      refine .inr (.inl ⟨a, n, vs, e, repO_int hy, ha, by have := h.2.1; omega, by have := h.2.2; omega, by rw [← r.length, sizeLine_eq]; exact h.1, fun p hp => P.newLst R (r.replicate _) hp⟩)
    · exact P.elim
  · split at P
    · rename_i xs n h
      obtain ⟨a, vs, e, q, r⟩ := repO_tup R.gh hx
      rw [hZ] at q
      refine .inr (.inr ⟨a, n, vs, e, repO_int hy, q, fun z => h.1 ?_, h.2.1, h.2.2.1, by rw [← r.length]; exact h.2.2.2, fun p hp => P.newTup R (r.replicate _) hp⟩)
      subst z
      exact List.eq_nil_of_length_eq_zero r.length
    · exact P.elim
  · exact P.elim

/-! ### list(x), tuple(x) -/
def opListOf (d : PV) : M PV := M.bind (ofO d.items) fun xs => M.ret (.lst true xs)
def opTupOf (d : PV) : M PV := M.bind (ofO d.items) fun xs => M.ret (.tup xs)
abbrev rListOf (K : PySem.W.Frag) : CR := fun xs H Q => ∃ p ys, xs = [.ref p] ∧ (SqL K H p ys ∨ SqT K H p ys) ∧ ∀ l, H l = none → Q (.ref l) (upd H l (.lst ys))
abbrev rTupOf (K : PySem.W.Frag) : CR := fun xs H Q => ∃ p ys, xs = [.ref p] ∧ ((SqL K H p ys ∧ ∀ l, H l = none → Q (.ref l) (upd H l (.tup ys))) ∨ (SqT K H p ys ∧ Q (.ref p) H))
theorem us_listOf : UnS Z W (fun x H Q => rListOf Z.K [x] H Q) opListOf := fun F G O ρ ts σ H Q dx x k hZ R hx P => by
  unfold opListOf at P
  cases dx with
  | tup xs =>
    obtain ⟨a, vs, rfl, q, r⟩ := repO_tup R.gh hx
    rw [hZ] at q
    exact ⟨a, vs, rfl, .inr q, fun l hl => PostE.newLst (xs := xs) R P r hl⟩
  | lst o xs =>
    obtain ⟨a, vs, rfl, q, r⟩ := repO_lst R.gh hx
    rw [hZ] at q
    exact ⟨a, vs, rfl, .inl q, fun l hl => PostE.newLst (xs := xs) R P r hl⟩
  | _ => exact P.elim
theorem us_tupOf : UnS Z W (fun x H Q => rTupOf Z.K [x] H Q) opTupOf := fun F G O ρ ts σ H Q dx x k hZ R hx P => by
  unfold opTupOf at P
  cases dx with
  | tup xs =>
    obtain ⟨a, vs, rfl, q, r⟩ := repO_tup R.gh hx
    rw [hZ] at q
    refine ⟨a, vs, rfl, .inr ⟨q, ?_⟩⟩
    have P' : PostE W F ts σ Q (M.ret (.tup xs) ρ) := P
    exact P' _ _ _ _ (R.push (RepO.free hx rfl))
  | lst o xs =>
    obtain ⟨a, vs, rfl, q, r⟩ := repO_lst R.gh hx
    rw [hZ] at q
    exact ⟨a, vs, rfl, .inl ⟨q, fun l hl => PostE.newTup (xs := xs) R P r hl⟩⟩
  | _ => exact P.elim

/-! ### sums and truths of a list -/
def PV.intsL : List PV → Option (List Int)
  | [] => some []
  | .int i :: r => (PV.intsL r).map fun l => i :: l
  | _ :: _ => none
def PV.blsL : List PV → Option (List Bool)
  | [] => some []
  | .bl i :: r => (PV.blsL r).map fun l => i :: l
  | _ :: _ => none
theorem reps_ints {G : Hp} : ∀ {xs : List PV} {vs : List V} {ns : List Int}, Reps Z G xs vs → PV.intsL xs = some ns → vs = ns.map V.int
  | [], vs, ns, r, e => by
    simp only [Reps] at r
    cases e
    exact r
  | x :: xs, vs, ns, r, e => by
    simp only [Reps] at r
    obtain ⟨v, vr, rfl, h1, h2⟩ := r
    cases x with
    | int i =>
      simp only [PV.intsL, Option.map_eq_some_iff] at e
      obtain ⟨l, e, rfl⟩ := e
      simp only [Rep] at h1
      rw [h1, reps_ints h2 e]
      rfl
    | _ => cases e
theorem reps_bls {G : Hp} : ∀ {xs : List PV} {vs : List V} {ns : List Bool}, Reps Z G xs vs → PV.blsL xs = some ns → vs = ns.map V.bl
  | [], vs, ns, r, e => by
    simp only [Reps] at r
    cases e
    exact r
  | x :: xs, vs, ns, r, e => by
    simp only [Reps] at r
    obtain ⟨v, vr, rfl, h1, h2⟩ := r
    cases x with
    | bl i =>
      simp only [PV.blsL, Option.map_eq_some_iff] at e
      obtain ⟨l, e, rfl⟩ := e
      simp only [Rep] at h1
      rw [h1, reps_bls h2 e]
      rfl
    | _ => cases e
def PV.asL : PV → Option (List PV)
  | .lst _ xs => some xs
  | _ => none
def opSum (d : PV) : M PV := M.bind (ofO (d.asL.bind PV.intsL)) fun ns => M.ret (.int ns.sum)
def opAll (d : PV) : M PV := M.bind (ofO (d.asL.bind PV.blsL)) fun ns => M.ret (.bl (ns.all id))
def opAny (d : PV) : M PV := M.bind (ofO (d.asL.bind PV.blsL)) fun ns => M.ret (.bl (ns.any id))
theorem us_sum : UnS Z W (fun x H Q => rSum Z.K [x] H Q) opSum := fun F G O ρ ts σ H Q dx x k hZ R hx P => by
  unfold opSum at P
  cases dx with
  | lst o xs =>
    obtain ⟨a, vs, rfl, q, r⟩ := repO_lst R.gh hx
    rw [hZ] at q
    cases e : PV.intsL xs with
    | none => simp only [PV.asL, Option.bind, e] at P; exact P.elim
    | some ns =>
      simp only [PV.asL, Option.bind, e] at P
      rw [reps_ints r e] at q
      exact ⟨a, ns, rfl, q, PostE.val R (v := .int ns.sum) P (by simp only [Rep])⟩
  | _ => exact P.elim
theorem us_all : UnS Z W (fun x H Q => rAll Z.K [x] H Q) opAll := fun F G O ρ ts σ H Q dx x k hZ R hx P => by
  unfold opAll at P
  cases dx with
  | lst o xs =>
    obtain ⟨a, vs, rfl, q, r⟩ := repO_lst R.gh hx
    rw [hZ] at q
    cases e : PV.blsL xs with
    | none => simp only [PV.asL, Option.bind, e] at P; exact P.elim
    | some ns =>
      simp only [PV.asL, Option.bind, e] at P
      rw [reps_bls r e] at q
      exact ⟨a, ns, rfl, q, PostE.val R (v := .bl (ns.all id)) P (by simp only [Rep])⟩
  | _ => exact P.elim
theorem us_any : UnS Z W (fun x H Q => rAny Z.K [x] H Q) opAny := fun F G O ρ ts σ H Q dx x k hZ R hx P => by
  unfold opAny at P
  cases dx with
  | lst o xs =>
    obtain ⟨a, vs, rfl, q, r⟩ := repO_lst R.gh hx
    rw [hZ] at q
    cases e : PV.blsL xs with
    | none => simp only [PV.asL, Option.bind, e] at P; exact P.elim
    | some ns =>
      simp only [PV.asL, Option.bind, e] at P
      rw [reps_bls r e] at q
      exact ⟨a, ns, rfl, q, PostE.val R (v := .bl (ns.any id)) P (by simp only [Rep])⟩
  | _ => exact P.elim
end

/-! ### sorted(x), a list or a tuple -/
section
variable {prog : Program} {w : World} {A : Around} {E : Value → Shared → Prop} {s : Shared}
theorem collect_tup {p : Addr} {its : List Value} {Q : List Value → Shared → Prop} (hp : s.heap.IsTuple p its.toArray) (h : Q its { s with heap := (s.heap.push (seqObj "list" #[] 0)).update s.heap.objs.size (Obj.mapSeq (· ++ its.toArray)) }) (hz : its.length ≤ sizeLine) :
    wpAny (model prog w) A (collect (.ref p)) Q E s := by
  obtain ⟨o, ho, hc, n, hd⟩ := id hp
  unfold collect
  refine wpAny_bind (wpAny_runValue (codeAny_builtin entry_proto_collect' (show wpAny _ _ (do again (.builtin "list.__iadd__" ⟨[← newList [], .ref p], []⟩)) _ _ s from ?_)))
  refine wpAny_bind (wpAny_newList (wpAny_pure ⟨Code.quiet_builtin _ (by decide +kernel), codeAny_builtin entry_list_iadd' (show wpAny _ _ (Builtin.List.listExtendWith (.ref s.heap.objs.size) (.ref p) (.ref s.heap.objs.size)) _ _ { s with heap := s.heap.push (seqObj "list" #[] 0) } from ?_)⟩))
  unfold Builtin.List.listExtendWith
  have there : (s.heap.push (seqObj "list" #[] 0)).get? p = some o := Heap.get?_push_of_some _ ho
  refine wpAny_bind (wpAny_typeOf (T := "tuple") ⟨o, there, hc⟩ ?_)
  have isT : (Value.type "tuple" == Value.type "tuple") = true := by rfl
  rw [if_pos (by rw [isT]; simp)]
  refine wpAny_bind (listItems_at there hd (wpAny_bind (listItems_at (xs := #[]) (n := 0) (Heap.get?_push_size _ rfl) rfl ?_)))
  rw [if_neg (by simp)]
  have fits : ((#[] : Array Value) ++ its.toArray).size ≤ sizeLine + 1 := by simp only [Array.size_append, List.size_toArray, List.length_nil]; omega
  refine wpAny_bind (listUpdate_at (xs := #[]) (n := 0) (Heap.get?_push_size _ rfl) rfl (wpAny_pure ?_) (Nat.zero_le _) fits)
  refine wpAny_bind (wpAny_load (get?_update_seq (Heap.get?_push_size _ rfl) _) ?_)
  show wpAny _ _ (pure ((#[] : Array Value) ++ its.toArray).toList) Q E _
  rw [show ((#[] : Array Value) ++ its.toArray).toList = its by simp]
  exact wpAny_pure h
open PySem.W in
/-- sorted(x), whatever is collected of x -/
theorem sorted_col {p : Addr} {its : List Value} {Q : Value → Shared → Prop} (col : ∀ (A' : Around) (E' : Value → Shared → Prop) (R : List Value → Shared → Prop), R its { s with heap := (s.heap.push (seqObj "list" #[] 0)).update s.heap.objs.size (Obj.mapSeq (· ++ its.toArray)) } → wpAny (model prog w) A' (collect (.ref p)) R E' s)
    (hz : its.length ≤ sizeLine) (body : ∀ E' : Value → Shared → Prop, wpAny (model prog w) A.in1.in1 (Builtin.«list.sort» ⟨[.ref (s.heap.objs.size + 1)], []⟩) (fun f s' => f = .done (.ret .none) ∧ Q (.ref (s.heap.objs.size + 1)) s') E' { s with heap := copyHeap s.heap its }) :
    wpAny (model prog w) A (call (.builtin "sorted") [.ref p]) Q E s := by
  refine call_function_entry_kw kind_sorted plain_sorted entry_sorted (args_sorted1 _) ?_
  unfold Builtin.«sorted»
  refine wpAny_bind (m := checkCount "sorted" 1 1 _) (wpAny_pure (wpAny_bind (col _ _ _ (wpAny_bind (wpAny_newList ?_ hz)))))
  have size1 : ((s.heap.push (seqObj "list" #[] 0)).update s.heap.objs.size (Obj.mapSeq (· ++ its.toArray))).objs.size = s.heap.objs.size + 1 := by rw [Heap.size_update, size_push']
  show wpAny _ _ _ _ _ { s with heap := copyHeap s.heap its }
  rw [size1]
  refine wpAny_bind (wpAny_holding (wpAny_call_entry_kw slot_list_sort ⟨_, copyHeap_at s.heap its, rfl⟩ entry_list_sort ?_ (args_list_sort _)))
  show wpAny (model prog w) A.in1.in1 (Builtin.«list.sort» ⟨[.ref (s.heap.objs.size + 1)], []⟩) _ _ _
  refine wpAny_mono (body _) (fun f s' hf => ?_) fun _ _ e => e
  obtain ⟨rfl, hq⟩ := hf
  exact ⟨_, rfl, wpAny_pure ⟨_, rfl, hq⟩⟩
end
/-- data as it is ordered -/
def PV.enc (d : PV) : PyData := d.data.getD .none
def alikeB (xs : List PV) : Bool := xs.all fun d => xs.all fun e => PySem.W.alike d.enc e.enc
def tupB1 : PyData → Bool
  | .tuple (_ :: _) => true
  | _ => false
def plainB1 : PyData → Bool
  | .tuple _ => false
  | .none => false
  | _ => true
def sortOk (xs : List PV) : Bool := (xs.all fun d => d.data.isSome && decide (d.enc.depth ≤ 60)) && (alikeB xs && ((xs.all fun d => tupB1 d.enc) || xs.all fun d => plainB1 d.enc))
def sortV (xs : List PV) : List PV := xs.mergeSort (PySem.W.dataLe false PV.enc)
def opSorted (d : PV) : M PV := M.bind (ofO d.items) fun xs => if sortOk xs then M.ret (.lst true (sortV xs)) else bad
def rSortD (K : PySem.W.Frag) : CR := fun vs H Q => ∃ (a : Addr) (xs : List V) (β : Type) (bs : List β) (enc : β → PyData) (R : V → β → Prop), vs = [V.ref a] ∧ (SqL K H a xs ∨ SqT K H a xs) ∧ xs.length = bs.length ∧ (∀ (i : Nat) (x : V) (b : β), xs[i]? = some x → bs[i]? = some b → R x b ∧ Dp K H x (enc b)) ∧
  PySem.W.AllAlike (bs.map enc) ∧ PySem.W.Sortable (bs.map enc) ∧ (∀ b ∈ bs, (enc b).depth ≤ 60) ∧ ∀ (ys : List V) (p : Addr), ys.length = bs.length → (∀ (i : Nat) (y : V) (b : β), ys[i]? = some y → (bs.mergeSort (PySem.W.dataLe false enc))[i]? = some b → R y b) → H p = none → Q (.ref p) (upd H p (.lst ys))
theorem each_of {β : Type} {T : Value → β → Prop} : ∀ {us : List Value} {bs : List β}, us.length = bs.length → (∀ (i : Nat) (u : Value) (b : β), us[i]? = some u → bs[i]? = some b → T u b) → PySem.W.EachIs T us bs
  | [], [], _, _ => .nil
  | u :: us, b :: bs, l, h => .cons (h 0 u b rfl rfl) (each_of (by simpa using l) fun i v c e1 e2 => h (i + 1) v c (by simpa using e1) (by simpa using e2))
  | [], _ :: _, l, _ => by cases l
  | _ :: _, [], l, _ => by cases l
theorem of_each {β : Type} {T : Value → β → Prop} : ∀ {us : List Value} {bs : List β}, PySem.W.EachIs T us bs → ∀ (i : Nat) (u : Value) (b : β), us[i]? = some u → bs[i]? = some b → T u b
  | _, _, .nil, i, u, b, e, _ => by simp at e
  | _, _, .cons h r, i, u, b, e1, e2 => by
    cases i with
    | zero => cases e1; cases e2; exact h
    | succ i => exact of_each r i u b (by simpa using e1) (by simpa using e2)
theorem vals_each {β : Type} {T : V → β → Prop} : ∀ {us : List Value} {bs : List β}, PySem.W.EachIs (fun u b => ∃ x : V, RelV x u ∧ T x b) us bs → ∃ xs : List V, Vals xs us ∧ xs.length = bs.length ∧ ∀ (i : Nat) (x : V) (b : β), xs[i]? = some x → bs[i]? = some b → T x b
  | _, _, .nil => ⟨[], .nil, rfl, fun i x b e => by simp at e⟩
  | _, _, .cons ⟨x, r, t⟩ h => by
    obtain ⟨xs, r2, l, t2⟩ := vals_each h
    refine ⟨x :: xs, .cons r r2, by simp [l], fun i y b e1 e2 => ?_⟩
    cases i with
    | zero => cases e1; cases e2; exact t
    | succ i => exact t2 i y b (by simpa using e1) (by simpa using e2)
section
variable {X : Cx}
open PySem.W in
theorem cr_sortD (hu : X.A.units + 65 < cLine) : CallR X (.builtin "sorted") (rSortD X.K) := by
  intro pins s σ H vs us Q I r h
  obtain ⟨a, xs, β, bs, enc, R, rfl, hq, hl, hR, hal, hk, hd, q⟩ := h
  rw [Vals.ref1 r]
  have go : ∀ its : List Value, Vals xs its → xs.length ≤ sizeLine → (∀ (A' : Around) (E' : Value → Shared → Prop) (P : List Value → Shared → Prop), P its { s with heap := (s.heap.push (seqObj "list" #[] 0)).update s.heap.objs.size (Obj.mapSeq (· ++ its.toArray)) } → wpAny (model X.prog X.w) A' (collect (.ref a)) P E' s) →
      wpAny (model X.prog X.w) X.A (call (.builtin "sorted") [.ref a]) (EP X pins σ Q) X.xe s := by
    intro its rv hz col
    have li : its.length = bs.length := rv.length.symm.trans hl
    have e : EachIs (fun u b => ∃ x : V, RelV x u ∧ R x b) its bs := each_of li fun i u b e1 e2 => by
      have hi : i < xs.length := by have := get_lt e1; rw [rv.length]; exact this
      obtain ⟨u', h1, h2⟩ := rv.get (i := i) (x := xs[i]) (by simp [hi])
      rw [e1] at h1
      cases h1
      exact ⟨xs[i], h2, (hR i xs[i] b (by simp [hi]) e2).1⟩
    have er : EachIs (fun v b => ∃ as, Reads s.heap v (enc b) as) its bs := each_of li fun i u b e1 e2 => by
      have hi : i < xs.length := by have := get_lt e1; rw [rv.length]; exact this
      obtain ⟨u', h1, h2⟩ := rv.get (i := i) (x := xs[i]) (by simp [hi])
      rw [e1] at h1
      cases h1
      exact Dp.reads I (enc b) xs[i] u (hR i xs[i] b (by simp [hi]) e2).2 h2
    have er' : EachIs (fun v b => ∃ as, Reads (sortingHeap (copyHeap s.heap its) (s.heap.objs.size + 1) its) v (enc b) as) its bs := er.mono fun _ _ ⟨as, r⟩ => ⟨as, PyProof.Rows.Reads.keeps (fun _ _ => sorting_copy_old) r⟩
    have hz' : its.length ≤ sizeLine := by rw [← rv.length]; exact hz
    have S : SortsAt X.prog X.w X.A.in1.in1 { s with heap := sortingHeap (copyHeap s.heap its) (s.heap.objs.size + 1) its } _ its := SortsAt.data (A := X.A.in1.in1) (s := { s with heap := sortingHeap (copyHeap s.heap its) (s.heap.objs.size + 1) its })
      (each_map (R := fun v d => ∃ as, Reads (sortingHeap (copyHeap s.heap its) (s.heap.objs.size + 1) its) v d as) enc er') hal hk (fun d hd' => by
        obtain ⟨b, hb, rfl⟩ := List.mem_map.mp hd'
        have := hd b hb
        show X.A.units + 1 + 1 + _ < _
        omega)
    refine sorted_col col hz' fun E' => list_sort_vals (s := { s with heap := copyHeap s.heap its }) (copyHeap_at s.heap its) S hz' ⟨rfl, ?_⟩
    have out := sortVals_data (h' := sortingHeap (copyHeap s.heap its) (s.heap.objs.size + 1) its) false e er' hal
    obtain ⟨ys, ry, ly, ty⟩ := vals_each out
    obtain ⟨ep, he'⟩ := PyProof.Rows.sortedAll_at s.heap its (sortVals (dataKind (sortingHeap (copyHeap s.heap its) (s.heap.objs.size + 1) its) (bs.map enc)) false its its).toArray
    have ll : ys.length = bs.length := by rw [ly, List.length_mergeSort]
    exact ⟨.ref _, upd H (s.heap.objs.size + 1) (.lst ys), I.laid (t' := s.toks) (fun _ _ => PyProof.Rows.sortedAll_old) (Nat.le_succ _) ⟨by rw [ll, ← hl]; exact hz, _, ep, ry, he'⟩, rfl, q ys _ ll ty (I.hok.fresh (Nat.le_succ _))⟩
  rcases hq with hq | hq
  · obtain ⟨its, rv, pl, hz⟩ := I.list hq
    exact go its rv hz fun A' E' P h => collect_list pl.isList h (by rw [← rv.length]; exact hz)
  · obtain ⟨its, rv, pl, hz⟩ := I.tuple hq
    exact go its rv hz fun A' E' P h => collect_tup pl h (by rw [← rv.length]; exact hz)
theorem Reps.of_get {Z : Zt} {G : Hp} : ∀ {ds : List PV} {xs : List V}, xs.length = ds.length → (∀ (i : Nat) (x : V) (d : PV), xs[i]? = some x → ds[i]? = some d → Rep Z G d x) → Reps Z G ds xs
  | [], [], _, _ => by simp only [Reps]
  | d :: ds, x :: xs, l, h => by
    simp only [Reps]
    exact ⟨x, xs, rfl, h 0 x d rfl rfl, Reps.of_get (by simpa using l) fun i y e e1 e2 => h (i + 1) y e (by simpa using e1) (by simpa using e2)⟩
  | [], _ :: _, l, _ => by cases l
  | _ :: _, [], l, _ => by cases l
theorem us_sorted {Z : Zt} {W : WX} : UnS Z W (fun x H Q => rSortD Z.K [x] H Q) opSorted := fun F G O ρ ts σ H Q dx x k hZ R hx P => by
  unfold opSorted at P
  have go : ∀ (xs : List PV) (a : Addr) (vs : List V), dx.items = some xs → x = .ref a → (SqL Z.K H a vs ∨ SqT Z.K H a vs) → Reps F.Z G xs vs → rSortD Z.K [x] H Q := by
    intro xs a vs ei ex q r
    rw [ei] at P
    have P : PostE W F ts σ Q ((if sortOk xs = true then M.ret (.lst true (sortV xs)) else bad) ρ) := P
    split at P
    · rename_i ok
      unfold sortOk at ok
      simp only [Bool.and_eq_true, List.all_eq_true, Bool.or_eq_true] at ok
      obtain ⟨o1, o2, o3⟩ := ok
      refine ⟨a, vs, PV, xs, PV.enc, fun v d => Rep F.Z G d v, by rw [ex], q, r.length.symm, fun i v d e1 e2 => ?_, fun d hd d' hd' => ?_, ?_, fun d hd => of_decide_eq_true (o1 d hd).2, fun ys p ly ty hp => ?_⟩
      · obtain ⟨v', h1, h2⟩ := r.get e2
        rw [e1] at h1
        cases h1
        refine ⟨h2, ?_⟩
        have hs := (o1 d (List.mem_of_getElem? e2)).1
        obtain ⟨p, hp⟩ := Option.isSome_iff_exists.mp hs
        have := (rep_data R.gh d v p h2 hp).1
        rw [hZ] at this
        unfold PV.enc
        rw [hp]
        exact this
      · obtain ⟨b, hb, rfl⟩ := List.mem_map.mp hd
        obtain ⟨b', hb', rfl⟩ := List.mem_map.mp hd'
        unfold alikeB at o2
        rw [List.all_eq_true] at o2
        exact List.all_eq_true.mp (o2 b hb) b' hb'
      · rcases o3 with o3 | o3
        · refine .inl fun d hd => ?_
          obtain ⟨b, hb, rfl⟩ := List.mem_map.mp hd
          have := o3 b hb
          unfold tupB1 at this
          split at this
          · rename_i y ys e
            exact ⟨y, ys, e⟩
          · cases this
        · refine .inr fun d hd => ?_
          obtain ⟨b, hb, rfl⟩ := List.mem_map.mp hd
          have := o3 b hb
          unfold plainB1 at this
          refine ⟨fun e => ?_, fun ys e => ?_⟩
          · rw [e] at this; cases this
          · rw [e] at this; cases this
      · exact PostE.newLst (xs := sortV xs) R P (Reps.of_get (by rw [ly]; unfold sortV; rw [List.length_mergeSort]) ty) hp
    · exact P.elim
  cases dx with
  | tup xs =>
    obtain ⟨a, vs, e, q, r⟩ := repO_tup R.gh hx
    rw [hZ] at q
    exact go xs a vs rfl e (.inr q) r
  | lst o xs =>
    obtain ⟨a, vs, e, q, r⟩ := repO_lst R.gh hx
    rw [hZ] at q
    exact go xs a vs rfl e (.inl q) r
  | _ => exact P.elim
end
end Wv

set_option Elab.async false
set_option linter.all false
set_option autoImplicit false
set_option maxRecDepth 100000
/-! WvV: x[::-1]; three names at once. -/
namespace Wv
open PySem PySem.Spec PyProof.Rows L2

def revS (z : Str) : Str := ⟨z.cps.toList.reverse.toArray⟩
def opRev : PV → M PV
  | .lst _ xs => M.ret (.lst true xs.reverse)
  | .str z => M.ret (.str (revS z))
  | _ => bad
section
variable {X : Cx} {io : List Nat} {W : WX} {e a b c : Expr} {f : M PV} {k : Nat} {p1 p2 p3 pos : Pos}
abbrev rRevA (K : PySem.W.Frag) : R1 := fun x H Q => (∃ a xs, x = .ref a ∧ SqL K H a xs ∧ ∀ p, H p = none → Q (.ref p) (upd H p (.lst xs.reverse))) ∨ ∃ z, x = .str z ∧ z.length ≤ sizeLine ∧ Q (.str (revS z)) H
theorem made_rev (z : Str) (t u : Tok) : sliceMade z t none none (some (-1, u)) = .str (revS z) := by
  unfold sliceMade
  rw [if_neg (by simp)]
  have e1 : slicePicked z none none (some (-1, u)) = Builtin.Str.strSliceIndices none none (-1) z.length := by first | rfl | (unfold slicePicked; rfl)
  rw [e1]
  have e2 : Builtin.Str.strSliceIndices none none (-1) z.length = sliceRange ((z.length : Int) - 1) (-1) (-1) := by
    unfold Builtin.Str.strSliceIndices
    simp
  rw [e2, PySem.W.krv_sliceRange, PySem.W.krv_range, List.filterMap_reverse]
  have e3 : (List.range z.length).filterMap (z.cps[·]?) = z.cps.toList := PySem.W.krv_all z.cps
  rw [e3]
  rfl
theorem pe_revA {te : TE} (he : PE X e te) : PE X (.Subscript e (.Slice none none (some (.UnaryOp .USub (.Constant (.int 1) k p1) p2)) p3) pos) (tUn (rRevA X.K) te) := by
  constructor
  intro pins s σ H Q I h
  refine Subscript_ (thn (he.run pins s σ H _ I h) fun v s1 ⟨x, H1, I1, rx, q1⟩ => ?_)
  have part : PO X (some (.UnaryOp .USub (.Constant (.int 1) k p1) p2)) (tPart (tUn (rU fun i => .int (-i)) (tC (.int 1)))) := po_some (pe_un un_neg pe_int)
  refine wpAny_Slice (thn (po_none.run pins s1 σ H1 (fun o H2 => o = none ∧ H2 = H1) I1 ⟨rfl, rfl⟩) fun vl s2 ⟨l, H2, I2, pl, el, e2⟩ => thn (po_none.run pins s2 σ H2 (fun o H3 => o = none ∧ H3 = H2) I2 ⟨rfl, rfl⟩) fun vu s3 ⟨u, H3, I3, pu, eu, e3⟩ =>
    thn (part.run pins s3 σ H3 (fun o H4 => o = some (-1) ∧ H4 = H3) I3 ⟨1, rfl, -1, rfl, rfl, rfl⟩) fun vs s4 ⟨o, H4, I4, ps, eo, e4⟩ => ?_)
  subst el e2 eu e3 eo e4
  have I5 : Inv X pins σ H4 { s4 with heap := s4.heap.push { cls := .type "slice", data := .fields #[vl, vu, vs] } } := I4.kept (t' := s4.toks) fun b ob q => Heap.get?_push_of_some _ q
  rcases q1 with ⟨a, xs, rfl, hx, q⟩ | ⟨z, rfl, hz, q⟩
  · cases rx
    obtain ⟨its, rv, ht, hz⟩ := I5.list hx
    have hlen := rv.length
    refine tail_any (ops := [.ref a, .ref s4.heap.objs.size]) ht.isList.typeIs (PySem.slot_list_getitem.lookup) (wpAny_getItem_list_slice ht.isList (Heap.IsSliceOf.new _ vl vu vs) pl pu ps (by decide) ?_ (by rw [List.size_toArray]; omega)) (by with_unfolding_all rfl)
    rw [PySem.W.krv_pick]
    have J := I5.laid (t' := s4.toks) (o := .lst xs.reverse) (fun b ob q => Heap.get?_push_of_some _ q) (Nat.le_refl _) ⟨by rw [List.length_reverse]; exact hz, _, 0, rv.reverse, Heap.get?_push_size _ rfl⟩
    exact ⟨.ref _, _, J, rfl, q _ (I5.hok.fresh (Nat.le_refl _))⟩
  · obtain ⟨t, rfl⟩ := rx
    obtain ⟨l', rfl, el⟩ := IsPart.raw pl
    obtain ⟨u', rfl, eu⟩ := IsPart.raw pu
    obtain ⟨w', rfl, ew⟩ := IsPart.raw ps
    have el : l' = none := by cases l' with
      | none => rfl
      | some _ => simp at el
    have eu : u' = none := by cases u' with
      | none => rfl
      | some _ => simp at eu
    subst el eu
    obtain ⟨i, tk, rfl⟩ : ∃ i tk, w' = some (i, tk) := by cases w' with
      | none => simp at ew
      | some p => exact ⟨p.1, p.2, rfl⟩
    have ei : i = -1 := by simpa using ew
    subst ei
    refine tail_any (ops := [.str z t, .ref s4.heap.objs.size]) (typeIs_str _ _ _) PySem.F.slot_str_getitem.lookup (wpAny_getItem_str_slice (l := none) (u := none) (st := some (-1, tk)) ⟨_, Heap.get?_push_size _ rfl, rfl, rfl⟩ rfl ?_) (by with_unfolding_all rfl)
    rw [made_rev]
    have hl : (revS z).length ≤ sizeLine := by
      show z.cps.toList.reverse.toArray.size ≤ sizeLine
      rw [List.size_toArray, List.length_reverse, Array.length_toList]
      exact hz
    exact ⟨hl, .str _, H4, I5.tok _, ⟨_, rfl⟩, q⟩
theorem sOk_rev {z : Str} (h : sOk z = true) : sOk (revS z) = true := by
  have h1 : (z.cps.all fun c => decide (c < 0x110000)) = true := (Bool.and_eq_true_iff.mp h).1
  refine sOk_of ?_ ?_
  · show ((revS z).cps.all fun c => decide (c < 0x110000)) = true
    refine strOk_of fun c hc => ?_
    rw [← Array.all_toList, List.all_eq_true] at h1
    unfold revS at hc
    simp only [List.mem_reverse] at hc
    exact of_decide_eq_true (h1 c hc)
  · refine Nat.le_trans ?_ (sOk_len h)
    show z.cps.toList.reverse.toArray.size ≤ z.cps.size
    simp
theorem us_rev {Z : Zt} : UnS Z W (rRevA Z.K) opRev := fun F G O ρ ts σ H Q dx x k hZ R hx P => by
  unfold opRev at P
  split at P
  · rename_i o xs
    obtain ⟨a, vs, rfl, q, r⟩ := repO_lst R.gh hx
    rw [hZ] at q
    refine .inl ⟨a, vs, rfl, q, fun p hp => P.newLst R (Reps.of_get (by rw [List.length_reverse, List.length_reverse, r.length]) fun i x d e1 e2 => ?_) hp⟩
    have l := r.length
    have i1 := get_lt e1
    have i2 := get_lt e2
    rw [List.length_reverse] at i1 i2
    rw [List.getElem?_reverse i1] at e1
    rw [List.getElem?_reverse i2, l] at e2
    obtain ⟨v, h1, h2⟩ := r.get e2
    rw [e1] at h1
    cases h1
    exact h2
  · obtain ⟨rfl, o⟩ := repO_str hx
    exact .inr ⟨_, rfl, sOk_len o, P.val R (by simp only [Rep]; exact ⟨trivial, sOk_rev o⟩)⟩
  · exact P.elim
theorem ej_rev (he : EJ X io W e f) : EJ X io W (.Subscript e (.Slice none none (some (.UnaryOp .USub (.Constant (.int 1) k p1) p2)) p3) pos) (eUn opRev f) := PE.imp (pe_revA he) fun σ H Q h => t_un us_rev σ H Q h
/-- three names, stored from the right -/
theorem sj_par3 {i j l : Nat} {x y z : Str} {g : M (List PV)} {px py pz pt : Pos} {kt k2 : Nat} {pt2 : Pos} (hc : X.calm = true) (hN : X.N.Nodup) (hi : X.N[i]? = some x) (hj : X.N[j]? = some y) (hl : X.N[l]? = some z) (hij : i ≠ j) (hil : i ≠ l) (hjl : j ≠ l)
    (hx : X.env.scope.names.lookup x = some .local) (hy : X.env.scope.names.lookup y = some .local) (hz : X.env.scope.names.lookup z = some .local) (ha : UJ X io W [a, b, c] g) (hio : ∀ k ∈ [i, j, l], k ∉ io := by decide)
    (hw : swappedStores [.Tuple [.Name x px, .Name y py, .Name z pz] kt pt] (.Tuple [a, b, c] k2 pt2) X.env = pure (some [x, y, z]) := by rfl)
    (hs : swapsWithSole [.Tuple [.Name x px, .Name y py, .Name z pz] kt pt] (.Tuple [a, b, c] k2 pt2) pos.line X.env = pure false := by rfl) :
    SJ X io W (.Assign [.Tuple [.Name x px, .Name y py, .Name z pz] kt pt] (.Tuple [a, b, c] k2 pt2) pos) (sPar [i, j, l] g) := by
  refine PS.imp (ps_par3 hc hN hi hj hl hij hil hjl hx hy hz ha hw hs) ?_
  rintro D σ H ⟨F, G, O, ρ, ts, hZ, R, P⟩
  refine SU.bind hZ R P fun G1 O1 H1 ρ1 vs xs ll R1 P1 => ?_
  cases e : setAll [i, j, l] vs ρ1 with
  | none => rw [e] at P1; exact P1.elim
  | some ρ2 =>
    rw [e] at P1
    obtain ⟨x1, r1, e1, x2, r2, e2, x3, r3, e3, e4, q⟩ := storeAll (Q := D.nx) R1 ll e (by rw [hZ]; exact hio) P1
    subst e4 e3 e2
    exact ⟨x1, x2, x3, e1, q⟩
end
end Wv
namespace Wv
open PySem PySem.Spec PyProof.Rows L2
/-! words of the printed derivations -/
theorem reps_nil {Z : Zt} {G : Hp} : Reps Z G [] [] := by simp only [Reps]
theorem takesW0 {X : Cx} : Takes X W0 := takes0
def gtT (n : Nat) (gs : List PV → Sl → Option Sl) : Gt := fun d ρ => match d with
  | .tup ds => if ds.length = n then gs ds ρ else none
  | _ => none
theorem gj_tupT {X : Cx} {io : List Nat} {pos : Pos} {tgs : List Expr} {js : List Nat} {k : Nat} {gs : List PV → Sl → Option Sl} {n : Nat} (hc : X.calm = true) (h : GsJ X io tgs js gs) (hn : (assignEach tgs X.env).length = n := by rfl) (hst : (assignEach tgs X.env).findIdx? (·.1) = none := by rfl) :
    GJ X io (.Tuple tgs k pos) js (gtT n gs) := gj_tup hc h hn hst
end Wv
namespace Wv
open PySem PySem.Spec PyProof.Rows L2
theorem room_u {k : Nat} {A : Around} (r : Room k A) : A.units + 65 < cLine := by have := r.un; omega
end Wv

set_option Elab.async false
set_option linter.all false
set_option autoImplicit false
set_option maxRecDepth 100000
/-! WvW: dicts with keys that are tuples, or whole numbers and texts. -/
namespace Wv
open PySem PySem.Spec PyProof.Rows L2

/-! ### as the model has them -/
def PV.isTupK (d : PV) : Bool := match d with
  | .tup _ => match d.key with
    | some n => decide (n.depth ≤ 8)
    | none => false
  | _ => false
def PV.isFlatK : PV → Bool
  | .int _ => true
  | .str _ => true
  | _ => false
/-- which keys a dict has -/
def dkT (kvs : List (PV × PV)) : Bool := kvs.all fun p => p.1.isTupK
def dkF (kvs : List (PV × PV)) : Bool := kvs.all fun p => p.1.isFlatK
def kfind (kvs : List (PV × PV)) (k : PV) : Option PV := (kvs.find? fun p => decide (p.1.key = k.key)).map (·.2)
def khas (kvs : List (PV × PV)) (k : PV) : Bool := kvs.any fun p => decide (p.1.key = k.key)
def kstore (kvs : List (PV × PV)) (k v : PV) : List (PV × PV) := if khas kvs k then kvs.map (fun p => if p.1.key = k.key then (p.1, v) else p) else kvs ++ [(k, v)]
theorem kfind_some {kvs : List (PV × PV)} {k : PV} : (kfind kvs k).isSome = khas kvs k := by
  unfold kfind khas
  rw [Option.isSome_map]
  induction kvs with
  | nil => rfl
  | cons p r ih =>
    rw [List.find?_cons, List.any_cons]
    cases decide (p.1.key = k.key) with
    | true => rfl
    | false => simpa using ih
theorem kstore_keys {kvs : List (PV × PV)} {k v : PV} (h : (kvs.map fun p => p.1.key).Nodup) : ((kstore kvs k v).map fun p => p.1.key).Nodup := by
  unfold kstore
  split
  · have : (kvs.map (fun p => if p.1.key = k.key then (p.1, v) else p)).map (fun p => p.1.key) = kvs.map fun p => p.1.key := by
      rw [List.map_map]
      refine List.map_congr_left fun p _ => ?_
      by_cases q : p.1.key = k.key <;> simp [q]
    rw [this]
    exact h
  · rename_i nk
    rw [List.map_append, List.nodup_append]
    refine ⟨h, by simp, fun a ha b hb e => nk ?_⟩
    obtain ⟨p, hp, rfl⟩ := List.mem_map.mp ha
    simp only [List.map_cons, List.map_nil, List.mem_singleton] at hb
    unfold khas
    rw [List.any_eq_true]
    exact ⟨p, hp, decide_eq_true (e.trans hb)⟩
theorem kstore_length {kvs : List (PV × PV)} {k v : PV} : (kstore kvs k v).length ≤ kvs.length + 1 := by
  unfold kstore
  split
  · simp
  · simp
section
variable {X : Cx} {pins : List (Addr × Obj)} {σ : St} {H G : Hp} {s : Shared} {Z : Zt}
mutual
theorem rep_nested (I : L2.Inv X pins σ H s) (k : Sub G H) (hK : Z.K = X.K) : ∀ (d : PV) (x : V) (v : Value) (n : NestedKey), Rep Z G d x → d.key = some n → RelV x v → NestedIs s.heap n v
  | .non, x, v, n, h, e, r => by
    simp only [Rep] at h
    subst h
    simp only [PV.key, Option.some.injEq] at e
    subst e
    cases r
    exact .none
  | .bl b, x, v, n, h, e, r => by
    simp only [Rep] at h
    subst h
    simp only [PV.key, Option.some.injEq] at e
    subst e
    cases r
    exact .bool rfl
  | .int i, x, v, n, h, e, r => by
    simp only [Rep] at h
    subst h
    simp only [PV.key, Option.some.injEq] at e
    subst e
    obtain ⟨t, rfl⟩ := r
    exact .int i t
  | .str z, x, v, n, h, e, r => by
    simp only [Rep] at h
    obtain ⟨rfl, _⟩ := h
    simp only [PV.key, Option.some.injEq] at e
    subst e
    obtain ⟨t, rfl⟩ := r
    exact .text z t
  | .tup xs, x, v, n, h, e, r => by
    simp only [Rep] at h
    obtain ⟨a, vs, rfl, q, rr⟩ := h
    cases r
    simp only [PV.key] at e
    cases ek : PV.keys xs with
    | none => rw [ek] at e; cases e
    | some ks =>
      rw [ek] at e
      cases e
      rw [hK] at q
      obtain ⟨its, rv, pl, _⟩ := I.tuple (sub_sqT k q)
      obtain ⟨o, h1, h2, m, h3⟩ := pl
      exact .tup h1 h2 h3 (by simpa using reps_nested I k hK xs vs its ks rr ek rv)
  | .lst _ _, _, _, _, _, e, _ => by simp only [PV.key] at e; cases e
  | .dct _ _, _, _, _, _, e, _ => by simp only [PV.key] at e; cases e
  | .obj _ _ _, _, _, _, _, e, _ => by simp only [PV.key] at e; cases e
  | .exc _ _, _, _, _, _, e, _ => by simp only [PV.key] at e; cases e
theorem reps_nested (I : L2.Inv X pins σ H s) (k : Sub G H) (hK : Z.K = X.K) : ∀ (ds : List PV) (xs : List V) (us : List Value) (ns : List NestedKey), Reps Z G ds xs → PV.keys ds = some ns → Vals xs us → NestedAll s.heap ns us
  | [], xs, us, ns, h, e, r => by
    simp only [Reps] at h
    subst h
    simp only [PV.keys, Option.some.injEq] at e
    subst e
    cases r
    exact .nil
  | d :: ds, xs, us, ns, h, e, r => by
    simp only [Reps] at h
    obtain ⟨x, xr, rfl, h1, h2⟩ := h
    simp only [PV.keys] at e
    cases e1 : d.key with
    | none => rw [e1] at e; cases e
    | some n =>
      cases e2 : PV.keys ds with
      | none => rw [e1, e2] at e; cases e
      | some m =>
        rw [e1, e2] at e
        cases e
        cases r with
        | cons rx rr => exact .cons (rep_nested I k hK d x _ n h1 e1 rx) (reps_nested I k hK ds xr _ m h2 e2 rr)
end
/-- a dict that stands for kvs -/
structure DIn (Z : Zt) (G H : Hp) (a : Addr) (kvs : List (PV × PV)) (es : Nat × List DictEntry) : Prop where
  at_ : H a = some (.ext (dictAt a es))
  sm : (a == sysModules) = false
  sz : es.2.length ≤ sizeLine
  nd : (kvs.map fun p => p.1.key).Nodup
  rep : RepKV Z G kvs es.2
/-! keys that are tuples -/
def KXs (Z : Zt) (G : Hp) : List (PV × PV) → List (NestedKey × Addr × Value) → Prop
  | [], xs => xs = []
  | (k, d) :: kvs, xs => ∃ n a u r, xs = (n, a, u) :: r ∧ k.key = some n ∧ n.depth ≤ 8 ∧ Rep Z G k (.ref a) ∧ (∃ x, RelV x u ∧ Rep Z G d x) ∧ KXs Z G kvs r
theorem kxs_of : ∀ {kvs : List (PV × PV)} {es : List DictEntry}, RepKV Z G kvs es → dkT kvs = true → ∃ xs, es = xs.map (entryOfKey (nestedKind Z.P Z.w)) ∧ KXs Z G kvs xs
  | [], es, r, _ => by
    simp only [RepKV] at r
    exact ⟨[], by simp [r], rfl⟩
  | (k, d) :: kvs, es, r, t => by
    simp only [RepKV] at r
    obtain ⟨e, er, rfl, ⟨n, hn, hh⟩, ⟨x, rx, hx⟩, ⟨y, ry, hy⟩, r2⟩ := r
    unfold dkT at t
    simp only [List.all_cons, Bool.and_eq_true] at t
    obtain ⟨xs, e2, h2⟩ := kxs_of r2 t.2
    have tk := t.1
    unfold PV.isTupK at tk
    split at tk
    · rename_i zs
      rw [hn] at tk
      have hd : n.depth ≤ 8 := by simpa using tk
      have hx' := hx
      simp only [Rep] at hx'
      obtain ⟨a, vs, rfl, _, _⟩ := hx'
      have ek : e.key = .ref a := rx
      refine ⟨(n, a, e.val) :: xs, ?_, n, a, e.val, xs, rfl, hn, hd, hx, ⟨y, ry, hy⟩, h2⟩
      obtain ⟨eh, ekk, ev⟩ := e
      simp only at hh ek
      subst hh ek
      simp only [List.map_cons, e2]
      rfl
    · cases tk
theorem kxs_back : ∀ {kvs : List (PV × PV)} {xs : List (NestedKey × Addr × Value)}, KXs Z G kvs xs → RepKV Z G kvs (xs.map (entryOfKey (nestedKind Z.P Z.w)))
  | [], xs, h => by
    have h : xs = [] := h
    subst h
    simp only [List.map_nil, RepKV]
  | (k, d) :: kvs, xs, h => by
    obtain ⟨n, a, u, r, rfl, hn, _, hk, ⟨x, rx, hx⟩, h2⟩ := h
    simp only [List.map_cons, RepKV]
    exact ⟨_, _, rfl, ⟨n, hn, rfl⟩, ⟨.ref a, rfl, hk⟩, ⟨x, rx, hx⟩, kxs_back h2⟩
theorem kxs_keys : ∀ {kvs : List (PV × PV)} {xs : List (NestedKey × Addr × Value)}, KXs Z G kvs xs → (xs.map fun x => some x.1) = kvs.map fun p => p.1.key
  | [], xs, h => by
    have h : xs = [] := h
    subst h
    rfl
  | (k, d) :: kvs, xs, h => by
    obtain ⟨n, a, u, r, rfl, hn, _, _, _, h2⟩ := h
    simp only [List.map_cons, kxs_keys h2, hn]
theorem kxs_is (I : L2.Inv X pins σ H s) (k : Sub G H) (hK : Z.K = X.K) : ∀ {kvs : List (PV × PV)} {xs : List (NestedKey × Addr × Value)}, KXs Z G kvs xs → ∀ x ∈ xs, (nestedKind X.prog X.w).is s.heap x.1 x.2.1
  | [], xs, h, x, hx => by
    have h : xs = [] := h
    subst h
    cases hx
  | (q, d) :: kvs, xs, h, x, hx => by
    obtain ⟨n, a, u, r, rfl, hn, hd, hk, _, h2⟩ := h
    rcases List.mem_cons.mp hx with rfl | hx
    · exact ⟨rep_nested I k hK q _ _ n hk hn rfl, hd⟩
    · exact kxs_is I k hK h2 x hx
theorem kxs_at {k : PV} {n : NestedKey} (hn : k.key = some n) : ∀ {kvs : List (PV × PV)} {xs : List (NestedKey × Addr × Value)}, KXs Z G kvs xs →
    (kfind kvs k = none ∧ atKey xs n = none) ∨ ∃ d a u, kfind kvs k = some d ∧ atKey xs n = some (a, u) ∧ ∃ x, RelV x u ∧ Rep Z G d x
  | [], xs, h => by
    have h : xs = [] := h
    subst h
    exact .inl ⟨rfl, rfl⟩
  | (q, d) :: kvs, xs, h => by
    obtain ⟨m, a, u, r, rfl, hm, hd, hk, hv, h2⟩ := h
    unfold kfind atKey
    rw [List.find?_cons, List.find?_cons]
    by_cases e : m = n
    · subst e
      simp only [hm, hn, decide_true]
      exact .inr ⟨d, a, u, rfl, rfl, hv⟩
    · have e' : ¬ (q.key = k.key) := by rw [hm, hn]; exact fun z => e (Option.some.inj z)
      simp only [e, e', decide_false]
      exact kxs_at hn h2
theorem kxs_put {k : PV} {n : NestedKey} {v : PV} {a : Addr} {u : Value} (hn : k.key = some n) (hd : n.depth ≤ 8) (hk : Rep Z G k (.ref a)) (hv : ∃ x, RelV x u ∧ Rep Z G v x) {kvs : List (PV × PV)} {xs : List (NestedKey × Addr × Value)} (h : KXs Z G kvs xs) : KXs Z G (kstore kvs k v) (storedH xs n a u) := by
  have hs : (atKey xs n).isSome = khas kvs k := by
    rw [← kfind_some]
    rcases kxs_at hn h with ⟨e1, e2⟩ | ⟨d, a', u', e1, e2, _⟩ <;> rw [e1, e2] <;> rfl
  unfold kstore storedH
  rw [hs]
  cases khas kvs k with
  | true =>
    simp only [if_true]
    clear hs
    induction kvs generalizing xs with
    | nil =>
      have h : xs = [] := h
      subst h
      rfl
    | cons p kvs ih =>
      obtain ⟨q, d⟩ := p
      obtain ⟨m, b, w, r, rfl, hm, hd2, hk2, hv2, h2⟩ := h
      simp only [List.map_cons]
      by_cases e : m = n
      · have e' : q.key = k.key := by rw [hm, hn, e]
        rw [if_pos e']
        unfold putAt
        rw [if_pos e]
        exact ⟨m, b, u, _, rfl, hm, hd2, hk2, hv, ih h2⟩
      · have e' : ¬ (q.key = k.key) := by rw [hm, hn]; exact fun z => e (Option.some.inj z)
        rw [if_neg e']
        unfold putAt
        rw [if_neg e]
        exact ⟨m, b, w, _, rfl, hm, hd2, hk2, hv2, ih h2⟩
  | false =>
    simp only [Bool.false_eq_true, if_false]
    clear hs
    induction kvs generalizing xs with
    | nil =>
      have h : xs = [] := h
      subst h
      exact ⟨n, a, u, [], rfl, hn, hd, hk, hv, rfl⟩
    | cons p kvs ih =>
      obtain ⟨q, d⟩ := p
      obtain ⟨m, b, w, r, rfl, hm, hd2, hk2, hv2, h2⟩ := h
      exact ⟨m, b, w, _, rfl, hm, hd2, hk2, hv2, ih h2⟩
theorem dict_obj {a : Addr} {es : Nat × List DictEntry} (I : L2.Inv X pins σ H s) (h : H a = some (.ext (dictAt a es))) : s.heap.get? a = some { cls := .type "dict", data := .dict es.2.toArray es.1 } := (show ObjOk X.prog X.w H s.heap a (.ext (dictAt a es)) from I.hok a _ h).1
theorem ext_ok {P : Program} {w : World} {h : Heap} {a : Addr} {es : List DictEntry} {ep : Nat} (e : h.get? a = some { cls := .type "dict", data := .dict es.toArray ep }) : ObjOk P w H h a (.ext (dictAt a (ep, es))) :=
  ⟨e, ⟨_, e⟩, fun h1 h2 q k => k _ q⟩
theorem DIn.ofH {a : Addr} {kvs : List (PV × PV)} {es : Nat × List DictEntry} (D : DIn Z G H a kvs es) (I : L2.Inv X pins σ H s) (k : Sub G H) (hZ : Z.P = X.prog ∧ Z.w = X.w ∧ Z.K = X.K) (t : dkT kvs = true) :
    ∃ xs, KXs Z G kvs xs ∧ s.heap.DictOfH (nestedKind X.prog X.w) a xs := by
  obtain ⟨xs, e, h⟩ := kxs_of D.rep t
  have he := dict_obj I D.at_
  refine ⟨xs, h, _, es.2.toArray, es.1, he, ⟨rfl, rfl, rfl⟩, rfl, ?_, kxs_is I k hZ.2.2 h, ?_⟩
  · rw [← hZ.1, ← hZ.2.1]
    exact e
  · have nd := D.nd
    rw [← kxs_keys h] at nd
    have e2 : (xs.map fun x => some x.1) = (xs.map (·.1)).map some := by rw [List.map_map]; rfl
    rw [e2] at nd
    exact List.Pairwise.of_map some (fun a b h e => h (congrArg some e)) nd
/-! keys that are whole numbers and texts -/
def fkey : PV → Option L2.Key
  | .int i => some (.inl i)
  | .str z => some (.inr z)
  | _ => none
theorem fkey_eq {k k' : PV} {q q' : L2.Key} (h : fkey k = some q) (h' : fkey k' = some q') : (k.key = k'.key) ↔ q = q' := by
  cases k <;> simp only [fkey, Option.some.injEq] at h <;> first | cases h | skip
  all_goals cases k' <;> simp only [fkey, Option.some.injEq] at h' <;> first | cases h' | skip
  all_goals simp [PV.key]
def FXs (Z : Zt) (G : Hp) : List (PV × PV) → List (L2.Key × Value) → Prop
  | [], xs => xs = []
  | (k, d) :: kvs, xs => ∃ q u r, xs = (q, u) :: r ∧ fkey k = some q ∧ Rep Z G k (L2.kV q) ∧ (∃ x, RelV x u ∧ Rep Z G d x) ∧ FXs Z G kvs r
theorem flat_of {k : PV} {x : V} (h : Rep Z G k x) (f : k.isFlatK = true) : ∃ q, fkey k = some q ∧ x = L2.kV q := by
  cases k with
  | int i => simp only [Rep] at h; exact ⟨.inl i, rfl, h⟩
  | str z => simp only [Rep] at h; exact ⟨.inr z, rfl, h.1⟩
  | _ => cases f
theorem key_of {k : PV} {q : L2.Key} {n : NestedKey} {w : World} (h : fkey k = some q) (hn : k.key = some n) : n.hash w = keyH w q := by
  cases k <;> simp only [fkey, Option.some.injEq] at h <;> first | cases h | skip
  all_goals
    simp only [PV.key, Option.some.injEq] at hn
    subst hn
    rfl
theorem kV_is' {q : L2.Key} {u : Value} (r : RelV (L2.kV q) u) {P : Program} {w : World} : (mixKind P w).is q u = true := kV_is r
theorem fxs_of : ∀ {kvs : List (PV × PV)} {es : List DictEntry}, RepKV Z G kvs es → dkF kvs = true → ∃ xs, FXs Z G kvs xs ∧ Pairs (mixKind Z.P Z.w) es xs ∧ ∀ e ∈ es, ∃ k, (mixKind Z.P Z.w).is k e.key = true ∧ e.hash = (mixKind Z.P Z.w).hash k
  | [], es, r, _ => by
    simp only [RepKV] at r
    subst r
    exact ⟨[], rfl, .nil, fun e he => by cases he⟩
  | (k, d) :: kvs, es, r, t => by
    simp only [RepKV] at r
    obtain ⟨e, er, rfl, ⟨n, hn, hh⟩, ⟨x, rx, hx⟩, ⟨y, ry, hy⟩, r2⟩ := r
    unfold dkF at t
    simp only [List.all_cons, Bool.and_eq_true] at t
    obtain ⟨xs, h2, p2, k2⟩ := fxs_of r2 t.2
    obtain ⟨q, hq, rfl⟩ := flat_of hx t.1
    refine ⟨(q, e.val) :: xs, ⟨q, e.val, xs, rfl, hq, hx, ⟨y, ry, hy⟩, h2⟩, .cons (kV_is' rx) rfl p2, fun e' he => ?_⟩
    rcases List.mem_cons.mp he with rfl | he
    · exact ⟨q, kV_is' rx, hh.trans (key_of hq hn)⟩
    · exact k2 e' he
theorem flat_key {k : PV} {q : L2.Key} (h : fkey k = some q) : ∃ n, k.key = some n := by
  cases k with
  | int i => exact ⟨.num i, by simp only [PV.key]⟩
  | str z => exact ⟨.text z, by simp only [PV.key]⟩
  | _ => simp only [fkey] at h; cases h
theorem is_kV {q : L2.Key} {u : Value} (h : keyIs q u = true) : RelV (L2.kV q) u := by
  rcases keyIs_shape h with ⟨i, t, rfl, rfl⟩ | ⟨x, t, rfl, rfl⟩
  · exact ⟨t, rfl⟩
  · exact ⟨t, rfl⟩
theorem fxs_back : ∀ {kvs : List (PV × PV)} {xs : List (L2.Key × Value)} {es : List DictEntry}, FXs Z G kvs xs → Pairs (mixKind Z.P Z.w) es xs → (∀ e ∈ es, ∃ k, (mixKind Z.P Z.w).is k e.key = true ∧ e.hash = (mixKind Z.P Z.w).hash k) → RepKV Z G kvs es
  | [], xs, es, h, p, _ => by
    have h : xs = [] := h
    subst h
    cases p
    simp only [RepKV]
  | (k, d) :: kvs, xs, es, h, p, ke => by
    obtain ⟨q, u, r, rfl, hq, hk, ⟨x, rx, hx⟩, h2⟩ := h
    cases p with
    | @cons e _ es' _ p1 p2 p3 =>
      simp only [RepKV]
      obtain ⟨n, hn⟩ := flat_key hq
      obtain ⟨q', i1, i2⟩ := ke e List.mem_cons_self
      have := (mixKind Z.P Z.w).inj _ _ _ p1 i1
      have eq : q = q' := this
      subst eq
      refine ⟨e, es', rfl, ⟨n, hn, i2.trans (key_of hq hn).symm⟩, ⟨L2.kV q, is_kV p1, hk⟩, ⟨x, by rw [p2]; exact rx, hx⟩, fxs_back h2 p3 fun e' he => ke e' (List.mem_cons_of_mem _ he)⟩
theorem fxs_keys : ∀ {kvs : List (PV × PV)} {xs : List (L2.Key × Value)}, FXs Z G kvs xs → (kvs.map fun p => p.1.key).Nodup → (xs.map (·.1)).Nodup
  | [], xs, h, _ => by
    have h : xs = [] := h
    subst h
    exact List.nodup_nil
  | (k, d) :: kvs, xs, h, nd => by
    obtain ⟨q, u, r, rfl, hq, _, _, h2⟩ := h
    simp only [List.map_cons, List.nodup_cons] at nd ⊢
    refine ⟨fun m => nd.1 ?_, fxs_keys h2 nd.2⟩
    have : ∀ {kvs : List (PV × PV)} {r : List (L2.Key × Value)}, FXs Z G kvs r → q ∈ r.map (·.1) → k.key ∈ kvs.map fun p => p.1.key := by
      intro kvs
      induction kvs with
      | nil =>
        intro r h m
        have h : r = [] := h
        subst h
        cases m
      | cons p kvs ih =>
        intro r h m
        obtain ⟨k', d'⟩ := p
        obtain ⟨q', u', r', rfl, hq', _, _, h2'⟩ := h
        simp only [List.map_cons, List.mem_cons] at m ⊢
        rcases m with rfl | m
        · exact .inl ((fkey_eq hq hq').mpr rfl)
        · exact .inr (ih h2' m)
    exact this h2 m
theorem fxs_at {k : PV} {q : L2.Key} (hn : fkey k = some q) : ∀ {kvs : List (PV × PV)} {xs : List (L2.Key × Value)}, FXs Z G kvs xs →
    (kfind kvs k = none ∧ valueAt xs q = none) ∨ ∃ d u, kfind kvs k = some d ∧ valueAt xs q = some u ∧ ∃ x, RelV x u ∧ Rep Z G d x
  | [], xs, h => by
    have h : xs = [] := h
    subst h
    exact .inl ⟨rfl, rfl⟩
  | (k', d) :: kvs, xs, h => by
    obtain ⟨m, u, r, rfl, hm, hk, hv, h2⟩ := h
    unfold kfind valueAt
    rw [List.find?_cons, List.find?_cons]
    by_cases e : m = q
    · have e' : k'.key = k.key := (fkey_eq hm hn).mpr e
      simp only [e, e', decide_true]
      exact .inr ⟨d, u, rfl, rfl, hv⟩
    · have e' : ¬ (k'.key = k.key) := fun z => e ((fkey_eq hm hn).mp z)
      simp only [e, e', decide_false]
      exact fxs_at hn h2
theorem valueAt_has {xs : List (L2.Key × Value)} {q : L2.Key} : (valueAt xs q).isSome = xs.any fun kv => decide (kv.1 = q) := by
  unfold valueAt
  rw [Option.isSome_map]
  induction xs with
  | nil => rfl
  | cons p r ih =>
    rw [List.find?_cons, List.any_cons]
    cases decide (p.1 = q) with
    | true => rfl
    | false => simpa using ih
theorem fxs_put {k : PV} {q : L2.Key} {v : PV} {u : Value} (hn : fkey k = some q) (hk : Rep Z G k (L2.kV q)) (hv : ∃ x, RelV x u ∧ Rep Z G v x) {kvs : List (PV × PV)} {xs : List (L2.Key × Value)} (h : FXs Z G kvs xs) : FXs Z G (kstore kvs k v) (stored xs q u) := by
  have hs : (xs.any fun kv => decide (kv.1 = q)) = khas kvs k := by
    rw [← kfind_some, ← valueAt_has]
    rcases fxs_at hn h with ⟨e1, e2⟩ | ⟨d, u', e1, e2, _⟩ <;> rw [e1, e2] <;> rfl
  unfold kstore stored
  rw [hs]
  cases khas kvs k with
  | true =>
    simp only [if_true]
    clear hs
    induction kvs generalizing xs with
    | nil =>
      have h : xs = [] := h
      subst h
      rfl
    | cons p kvs ih =>
      obtain ⟨k', d⟩ := p
      obtain ⟨m, w, r, rfl, hm, hk2, hv2, h2⟩ := h
      simp only [List.map_cons]
      by_cases e : m = q
      · have e' : k'.key = k.key := (fkey_eq hm hn).mpr e
        rw [if_pos e', if_pos e]
        exact ⟨m, u, _, rfl, hm, hk2, hv, ih h2⟩
      · have e' : ¬ (k'.key = k.key) := fun z => e ((fkey_eq hm hn).mp z)
        rw [if_neg e', if_neg e]
        exact ⟨m, w, _, rfl, hm, hk2, hv2, ih h2⟩
  | false =>
    simp only [Bool.false_eq_true, if_false]
    clear hs
    induction kvs generalizing xs with
    | nil =>
      have h : xs = [] := h
      subst h
      exact ⟨q, u, [], rfl, hn, hk, hv, rfl⟩
    | cons p kvs ih =>
      obtain ⟨k', d⟩ := p
      obtain ⟨m, w, r, rfl, hm, hk2, hv2, h2⟩ := h
      exact ⟨m, w, _, rfl, hm, hk2, hv2, ih h2⟩
theorem DIn.ofF {a : Addr} {kvs : List (PV × PV)} {es : Nat × List DictEntry} (D : DIn Z G H a kvs es) (I : L2.Inv X pins σ H s) (hZ : Z.P = X.prog ∧ Z.w = X.w ∧ Z.K = X.K) (t : dkF kvs = true) :
    ∃ xs, FXs Z G kvs xs ∧ s.heap.DictOf (mixKind X.prog X.w) a xs := by
  obtain ⟨xs, h, p, ke⟩ := fxs_of D.rep t
  have he := dict_obj I D.at_
  refine ⟨xs, h, _, es.2.toArray, es.1, he, ⟨rfl, rfl, rfl⟩, rfl, ?_, ?_, fxs_keys h D.nd⟩
  · rw [← hZ.1, ← hZ.2.1]
    exact fun e he => ke e (by simpa using he)
  · rw [← hZ.1, ← hZ.2.1]
    exact p
end

/-! ### what is asked of a dict -/
def dkOk (kvs : List (PV × PV)) (k : PV) : Bool := (dkT kvs && k.isTupK) || (dkF kvs && k.isFlatK)
section
variable {X : Cx} {io : List Nat}
def rDin (Z : Zt) (neg : Bool) : R2 := fun x y H Q => ∃ G k a kvs es, y = .ref a ∧ Sub G H ∧ DIn Z G H a kvs es ∧ Rep Z G k x ∧ dkOk kvs k = true ∧ Q (.bl (if neg then !khas kvs k else khas kvs k)) H
theorem tup_of {Z : Zt} {G : Hp} {k : PV} {x : V} (h : Rep Z G k x) (t : k.isTupK = true) : ∃ b n, x = .ref b ∧ k.key = some n ∧ n.depth ≤ 8 := by
  unfold PV.isTupK at t
  split at t
  · simp only [Rep] at h
    obtain ⟨b, _, rfl, _⟩ := h
    split at t
    · rename_i n e
      exact ⟨b, n, rfl, e, of_decide_eq_true t⟩
    · cases t
  · cases t
theorem or_din (neg : Bool) (hu : X.A.units + 65 < cLine) : OpR X (compareOp (if neg then .NotIn else .In)) (rDin (X.zt io) neg) := by
  intro pins s σ H x y v u Q I rx ry h
  obtain ⟨G, k, a, kvs, es, rfl, sub, D, hk, ok, q⟩ := h
  cases ry
  have room : (nestedKind X.prog X.w).room X.A.in1 := by show X.A.units + 1 + 8 < cLine; omega
  unfold dkOk at ok
  rw [Bool.or_eq_true, Bool.and_eq_true, Bool.and_eq_true] at ok
  rcases ok with ⟨t, tk⟩ | ⟨t, tk⟩
  · obtain ⟨b, n, rfl, hn, hd⟩ := tup_of hk tk
    cases rx
    obtain ⟨xs, kx, hm⟩ := D.ofH I sub ⟨rfl, rfl, rfl⟩ t
    have key : (nestedKind X.prog X.w).is s.heap n b := ⟨rep_nested I sub rfl k _ _ n hk hn rfl, hd⟩
    have e : (atKey xs n).isSome = khas kvs k := by
      rw [← kfind_some]
      rcases kxs_at hn kx with ⟨e1, e2⟩ | ⟨d, a', u', e1, e2, _⟩ <;> rw [e1, e2] <;> rfl
    cases neg with
    | false => exact wpAny_in_heap room key D.sm hm (by rw [e]; exact ⟨.bl _, H, I.tok _, rfl, q⟩)
    | true =>
      have hm' : s.heap.DictKeyed (nestedKind X.prog X.w) a (pairsH xs) := ⟨xs, hm, rfl⟩
      refine notIn_keyed room key D.sm hm' ?_
      rw [valueAt_pairsH, Option.isSome_map, e]
      exact ⟨.bl _, H, I.tok _, rfl, q⟩
  · obtain ⟨f, hf, rfl⟩ := flat_of hk tk
    obtain ⟨xs, fx, hm⟩ := D.ofF I ⟨rfl, rfl, rfl⟩ t
    have e : (valueAt xs f).isSome = khas kvs k := by
      rw [← kfind_some]
      rcases fxs_at hf fx with ⟨e1, e2⟩ | ⟨d, u', e1, e2, _⟩ <;> rw [e1, e2] <;> rfl
    cases neg with
    | false => exact wpAny_in_of (kV_is' rx) D.sm hm.mapOf (by rw [e]; exact ⟨.bl _, H, I.tok _, rfl, q⟩)
    | true => exact wpAny_notIn_of (kV_is' rx) D.sm hm.mapOf (by rw [e]; exact ⟨.bl _, H, I.tok _, rfl, q⟩)
/-- d[k], k there -/
def rDix (Z : Zt) : R2 := fun x y H Q => ∃ G k a kvs es d, x = .ref a ∧ Sub G H ∧ DIn Z G H a kvs es ∧ Rep Z G k y ∧ dkOk kvs k = true ∧ kfind kvs k = some d ∧ ∀ v, Rep Z G d v → Q v H
theorem get_d (hu : X.A.units + 65 < cLine) {pins : List (Addr × Obj)} {s : Shared} {σ : St} {H : Hp} {x y : V} {v u : Value} {Q : VK} (I : L2.Inv X pins σ H s) (rx : RelV x v) (ry : RelV y u) (h : rDix (X.zt io) x y H Q) : wpAny (model X.prog X.w) X.A (getItem v u) (EP X pins σ Q) X.xe s := by
  obtain ⟨G, k, a, kvs, es, d, rfl, sub, D, hk, ok, hd, q⟩ := h
  cases rx
  have room : (nestedKind X.prog X.w).room X.A.in1 := by show X.A.units + 1 + 8 < cLine; omega
  unfold dkOk at ok
  rw [Bool.or_eq_true, Bool.and_eq_true, Bool.and_eq_true] at ok
  rcases ok with ⟨t, tk⟩ | ⟨t, tk⟩
  · obtain ⟨b, n, rfl, hn, hdp⟩ := tup_of hk tk
    cases ry
    obtain ⟨xs, kx, hm⟩ := D.ofH I sub ⟨rfl, rfl, rfl⟩ t
    have key : (nestedKind X.prog X.w).is s.heap n b := ⟨rep_nested I sub rfl k _ _ n hk hn rfl, hdp⟩
    rcases kxs_at hn kx with ⟨e1, _⟩ | ⟨d', a', u', e1, e2, x, rx, hx⟩
    · rw [hd] at e1; cases e1
    · rw [hd] at e1
      cases e1
      exact wpAny_getItem_heap room key hm e2 ⟨x, H, I.tok _, rx, q x hx⟩
  · obtain ⟨f, hf, rfl⟩ := flat_of hk tk
    obtain ⟨xs, fx, hm⟩ := D.ofF I ⟨rfl, rfl, rfl⟩ t
    rcases fxs_at hf fx with ⟨e1, _⟩ | ⟨d', u', e1, e2, x, rx, hx⟩
    · rw [hd] at e1; cases e1
    · rw [hd] at e1
      cases e1
      exact wpAny_getItem_of (kV_is' ry) hm.mapOf e2 ⟨x, H, I.tok _, rx, q x hx⟩
/-- d[k] = v -/
def rDset (Z : Zt) : TSet := fun o i v H Q => ∃ G k w a kvs es, o = .ref a ∧ Sub G H ∧ DIn Z G H a kvs es ∧ Rep Z G k i ∧ Rep Z G w v ∧ dkOk kvs k = true ∧ kvs.length < sizeLine ∧ ∀ es' : Nat × List DictEntry, es'.2.length = (kstore kvs k w).length → RepKV Z G (kstore kvs k w) es'.2 → Q (upd H a (.ext (dictAt a es')))
theorem RepKV.length {Z : Zt} {G : Hp} : ∀ {kvs : List (PV × PV)} {es : List DictEntry}, RepKV Z G kvs es → kvs.length = es.length
  | [], es, r => by simp only [RepKV] at r; subst r; rfl
  | (k, d) :: kvs, es, r => by
    simp only [RepKV] at r
    obtain ⟨e, er, rfl, _, _, _, r2⟩ := r
    simp [RepKV.length r2]
theorem set_d (hu : X.A.units + 65 < cLine) : PSet X (rDset (X.zt io)) := by
  intro pins s σ H o i v ov iv u Q I ro ri rv h
  obtain ⟨G, k, w, a, kvs, es, rfl, sub, D, hk, hw, ok, hl, q⟩ := h
  cases ro
  have room : (nestedKind X.prog X.w).room X.A.in1 := by show X.A.units + 1 + 8 < cLine; omega
  have fin : ∀ {h' : Heap} {tk : Nat} {es' : List DictEntry} {ep : Nat}, Heap.SameBut a s.heap h' → h'.get? a = some { cls := .type "dict", data := .dict es'.toArray ep } → RepKV (X.zt io) G (kstore kvs k w) es' → ∃ H', L2.Inv X pins σ H' { s with heap := h', toks := tk } ∧ Q H' := fun {h' tk es' ep} sb he r =>
    ⟨_, I.write (e := a) (t' := tk) (by rw [D.at_]; trivial) (.inl rfl) (fun b ob hb hu => (sb.2 b hb).trans hu) ⟨_, he⟩ (ext_ok he), q (ep, es') r.length.symm r⟩
  unfold dkOk at ok
  rw [Bool.or_eq_true, Bool.and_eq_true, Bool.and_eq_true] at ok
  rcases ok with ⟨t, tk⟩ | ⟨t, tk⟩
  · obtain ⟨b, n, rfl, hn, hdp⟩ := tup_of hk tk
    cases ri
    obtain ⟨xs, kx, hm⟩ := D.ofH I sub ⟨rfl, rfl, rfl⟩ t
    have key : (nestedKind X.prog X.w).is s.heap n b := ⟨rep_nested I sub rfl k _ _ n hk hn rfl, hdp⟩
    have lx : xs.length = kvs.length := by
      have := congrArg List.length (kxs_keys kx)
      simpa using this
    refine wpAny_setItem_heap room key hm (fun h' hm' sb => ?_) (by rw [lx]; omega)
    obtain ⟨⟨c0, d0, x0, l0⟩, es', ep, ho, ⟨hc, hdd, hsl⟩, hdat, hes, _, _⟩ := hm'
    simp only at hc hdd hsl hdat
    subst hc hdd hsl hdat
    refine fin (es' := es'.toList) (ep := ep) sb (by simpa using ho) ?_
    rw [hes]
    exact kxs_back (kxs_put hn hdp hk ⟨_, rv, hw⟩ kx)
  · obtain ⟨f, hf, rfl⟩ := flat_of hk tk
    obtain ⟨xs, fx, hm⟩ := D.ofF I ⟨rfl, rfl, rfl⟩ t
    have lx : ∀ {kvs : List (PV × PV)} {xs : List (L2.Key × Value)}, FXs (X.zt io) G kvs xs → xs.length = kvs.length := by
      intro kvs
      induction kvs with
      | nil => intro xs h; have h : xs = [] := h; subst h; rfl
      | cons p kvs ih =>
        intro xs h
        obtain ⟨k', d'⟩ := p
        obtain ⟨_, _, r, rfl, _, _, _, h2⟩ := h
        simp [ih h2]
    refine wpAny_setItem_pairs (kV_is' ri) hm (fun h' hm' sb => ?_) (by rw [lx fx]; omega)
    obtain ⟨⟨c0, d0, x0, l0⟩, es', ep, ho, ⟨hc, hdd, hsl⟩, hdat, hko, hps, _⟩ := hm'
    simp only at hc hdd hsl hdat
    subst hc hdd hsl hdat
    refine fin (es' := es'.toList) (ep := ep) sb (by simpa using ho) ?_
    exact fxs_back (fxs_put hf hk ⟨_, rv, hw⟩ fx) hps fun e he => hko e (by simpa using he)
end
end Wv

set_option Elab.async false
set_option linter.all false
set_option autoImplicit false
set_option maxRecDepth 100000
/-! WvX: what code does with dicts. -/
namespace Wv
open PySem PySem.Spec PyProof.Rows L2

section
variable {X : Cx} {io : List Nat} {W : WX} {a b e : Expr} {f g u v : M PV} {pos p px apos cpos : Pos} {i j : Nat} {x n : Str}
theorem repO_dct {F : Fr} {G H : Hp} {O : Own} {k : Nat} {o : Bool} {kvs : List (PV × PV)} {y : V} (s : Sub G H) (h : RepO F G O H k (.dct o kvs) y) : ∃ a es, y = .ref a ∧ DIn F.Z G H a kvs es := by
  cases o with
  | true =>
    obtain ⟨a, es, e, _, ha, sm, ⟨z, nd⟩, r⟩ := h
    exact ⟨a, es, e, ha, sm, z, nd, r⟩
  | false =>
    have h' : Rep F.Z G (.dct false kvs) y := h
    simp only [Rep] at h'
    obtain ⟨a, es, e, ha, sm, ⟨z, nd⟩, r⟩ := h'
    exact ⟨a, es, e, s _ _ ha, sm, z, nd, r⟩
theorem dk_calm {kvs : List (PV × PV)} {k : PV} (h : dkOk kvs k = true) : k.own = false ∧ k.isE = false := by
  unfold dkOk at h
  cases k <;> first | exact ⟨rfl, rfl⟩ | simp [PV.isTupK, PV.isFlatK] at h
def opInA : PV → PV → M PV
  | k, .dct _ kvs => if dkOk kvs k then M.ret (.bl (khas kvs k)) else bad
  | x, y => opIn x y
def opNotInA : PV → PV → M PV
  | k, .dct _ kvs => if dkOk kvs k then M.ret (.bl (!khas kvs k)) else bad
  | x, y => opNotIn x y
theorem or_inAll (hu : X.A.units + 65 < cLine) : OpR X (compareOp .In) (fun x y H Q => (fun x y H Q => rInS x y H Q ∨ rInA X.K false x y H Q : R2) x y H Q ∨ rDin (X.zt io) false x y H Q) := OpR.or (or_in hu) (or_din (io := io) false hu)
theorem or_notInAll (hu : X.A.units + 65 < cLine) : OpR X (compareOp .NotIn) (fun x y H Q => (fun x y H Q => rNotInS x y H Q ∨ rInA X.K true x y H Q : R2) x y H Q ∨ rDin (X.zt io) true x y H Q) := OpR.or (or_notIn hu) (or_din (io := io) true hu)
theorem os_inAll : OpS (X.zt io) W (fun x y H Q => (fun x y H Q => rInS x y H Q ∨ rInA X.K false x y H Q : R2) x y H Q ∨ rDin (X.zt io) false x y H Q) opInA := fun F G O ρ ts σ H Q dx dy x y k l hZ R hx hy P => by
  unfold opInA at P
  split at P
  · rename_i o kvs
    split at P
    · rename_i ok
      obtain ⟨a, es, e, D⟩ := repO_dct R.gh hy
      obtain ⟨c1, c2⟩ := dk_calm ok
      rw [hZ] at D
      have hk := repO_rep hx c1 c2
      rw [hZ] at hk
      exact .inr ⟨G, dx, a, kvs, es, e, R.gh, D, hk, ok, P.val R (by simp only [Rep]; rfl)⟩
    · exact P.elim
  · exact .inl (os_in F G O ρ ts σ H Q dx dy x y k l hZ R hx hy P)
theorem os_notInAll : OpS (X.zt io) W (fun x y H Q => (fun x y H Q => rNotInS x y H Q ∨ rInA X.K true x y H Q : R2) x y H Q ∨ rDin (X.zt io) true x y H Q) opNotInA := fun F G O ρ ts σ H Q dx dy x y k l hZ R hx hy P => by
  unfold opNotInA at P
  split at P
  · rename_i o kvs
    split at P
    · rename_i ok
      obtain ⟨a, es, e, D⟩ := repO_dct R.gh hy
      obtain ⟨c1, c2⟩ := dk_calm ok
      rw [hZ] at D
      have hk := repO_rep hx c1 c2
      rw [hZ] at hk
      exact .inr ⟨G, dx, a, kvs, es, e, R.gh, D, hk, ok, P.val R (by simp only [Rep]; rfl)⟩
    · exact P.elim
  · exact .inl (os_notIn F G O ρ ts σ H Q dx dy x y k l hZ R hx hy P)
/-! ### d[k] -/
def opIdxA : PV → PV → M PV
  | .dct _ kvs, k => if dkOk kvs k then ofO (kfind kvs k) else bad
  | x, y => opIdx x y
theorem ix_d (hu : X.A.units + 65 < cLine) : IxR X (rDix (X.zt io)) := by
  intro value slice pins s σ H x y v u Q I rx ry h hs
  have h0 := h
  obtain ⟨G, k, a, kvs, es, d, rfl, sub, D, hk, ok, hd, q⟩ := h
  cases rx
  have he := dict_obj I D.at_
  exact tail_any (s := s) (T := "dict") ⟨_, he, rfl⟩ PySem.F.slot_dict_getitem.lookup (get_d hu I (x := .ref a) (show RelV (.ref a) (.ref a) from rfl) ry h0) hs
theorem ix_all (hu : X.A.units + 65 < cLine) : IxR X (fun x y H Q => rIx X.K x y H Q ∨ rDix (X.zt io) x y H Q) := IxR.or ix_seq (ix_d hu)
theorem os_idxA : OpS (X.zt io) W (fun x y H Q => rIx X.K x y H Q ∨ rDix (X.zt io) x y H Q) opIdxA := fun F G O ρ ts σ H Q dx dy x y k l hZ R hx hy P => by
  unfold opIdxA at P
  split at P
  · rename_i o kvs
    split at P
    · rename_i ok
      obtain ⟨a, es, e, D⟩ := repO_dct R.gh hx
      obtain ⟨c1, c2⟩ := dk_calm ok
      rw [hZ] at D
      have hk := repO_rep hy c1 c2
      rw [hZ] at hk
      cases z : kfind kvs dy with
      | none => rw [z] at P; exact P.elim
      | some d =>
        rw [z] at P
        exact .inr ⟨G, dy, a, kvs, es, d, e, R.gh, D, hk, ok, z, fun v rv => PostE.val R (v := d) P (by rw [hZ]; exact rv)⟩
    · exact P.elim
  · exact .inl (os_idx F G O ρ ts σ H Q dx dy x y k l hZ R hx hy P)
theorem ej_idxA (hu : X.A.units + 65 < cLine) (ha : EJ X io W a f) (hb : EJ X io W b g) (hs : PlainIx b := by exact fun _ _ => rfl) : EJ X io W (.Subscript a b pos) (eBin opIdxA f g) := PE.imp (pe_ix (ix_all hu) ha hb hs) (t_op os_idxA)
theorem ej_idxAL (hu : X.A.units + 65 < cLine) (hN : X.N[i]? = some x) (hv : Vis X.env.scope x) (hb : EJ X io W b g) (hs : PlainIx b := by exact fun _ _ => rfl) (hd : (x == ("__debug__" : Str)) = false := by decide) (hcd : (x == ("__classdict__" : Str)) = false := by decide) : EJ X io W (.Subscript (.Name x px) b pos) (eBinL opIdxA i g) :=
  PE.imp (pe_ix (ix_all hu) (pe_var hN hv hd hcd) hb hs) fun σ H Q h => t_opL os_idxA h

/-! ### {} -/
def eDict0 : M PV := M.ret (.dct true [])
def tDNew : TE := fun _ H Q => ∀ p, H p = none → (p == sysModules) = false → Q (.ref p) (upd H p (.ext (dictAt p (0, []))))
theorem pe_dnew : PE X (.Dict [] [] pos) tDNew := ⟨fun pins s σ H Q I h =>
  wpAny_Dict_empty ⟨.ref s.heap.objs.size, _, I.laid (a := s.heap.objs.size) (o := .ext (dictAt s.heap.objs.size (0, []))) (t' := s.toks) (fun _ _ q => Heap.get?_push_of_some _ q) (Nat.le_refl _) (ext_ok (es := []) (Heap.get?_push_size _ rfl)), rfl,
    h _ (I.hok.fresh (Nat.le_refl _)) (beq_eq_false_iff_ne.mpr (Ne.symm (Nat.ne_of_lt I.big)))⟩⟩
theorem ej_dict0 : EJ X io W (.Dict [] [] pos) eDict0 := by
  refine PE.imp pe_dnew ?_
  rintro σ H Q ⟨F, G, O, ρ, ts, hZ, R, P⟩ q hq sm
  refine P _ _ _ _ (R.layO (d := .dct true []) hq ⟨q, (0, []), rfl, own1_same, upd_same, sm, ⟨Nat.zero_le _, List.nodup_nil⟩, by simp only [RepKV]⟩)

/-! ### x[k] = v: a list, a dict -/
theorem PSet.or {t t' : TSet} (h : PSet X t) (h' : PSet X t') : PSet X (fun o i v H Q => t o i v H Q ∨ t' o i v H Q) := by
  intro pins s σ H o i v ov iv u Q I ro ri rv q
  rcases q with q | q
  · exact h pins s σ H o i v ov iv u Q I ro ri rv q
  · exact h' pins s σ H o i v ov iv u Q I ro ri rv q
def setItemA (d k w : PV) : Option PV := match d with
  | .dct true kvs => if dkOk kvs k && lenOk (kvs.length + 1) then some (.dct true (kstore kvs k w)) else none
  | _ => setItemL d k w
def sStA (u : M PV) (i : Nat) (v : M PV) : SM := sE (M.bind u frzM) fun w ρ1 => match ρ1[i]? with
  | some (some _) => sE v (fun k ρ => match ρ[i]? with
    | some (some d) => match setItemA d k w with
      | some d' => .nx (ρ.set i (some d'))
      | none => .bad
    | _ => .bad) ρ1
  | _ => .bad
theorem set_slot {F : Fr} {G : Hp} {O : Own} {ρ : Sl} {ts : List (PV × V)} {σ : St} {H : Hp} {d d' k w : PV} {z yk y : V} {m : Nat} {Q : Hp → Prop} (hZ : F.Z = X.zt io) (R : Rel F G O ρ ts σ H) (e : ρ[i]? = some (some d)) (hz : σ[i]? = some (some z)) (hk : RepO F G O H m k yk) (hw : Rep F.Z G w y) (q : setItemA d k w = some d')
    (P : ∀ H', Rel F G O (ρ.set i (some d')) ts σ H' → Q H') : rSetL z yk y H Q ∨ rDset (X.zt io) z yk y H Q := by
  obtain ⟨v', hv', h2'⟩ := R.sl i _ e
  rw [hz] at hv'
  cases hv'
  unfold setItemA at q
  split at q
  · rename_i kvs
    split at q
    · rename_i ok
      cases q
      rw [Bool.and_eq_true] at ok
      obtain ⟨ok, hl⟩ := ok
      have hl := lenOk_le hl
      obtain ⟨c1, c2⟩ := dk_calm ok
      have hk' := repO_rep hk c1 c2
      obtain ⟨a, es, rfl, oa, ha, sm, ⟨sz, nd⟩, r⟩ := h2'
      have D : DIn F.Z G H a kvs es := ⟨ha, sm, sz, nd, r⟩
      have hw0 := hw
      rw [hZ] at D hk' hw
      refine .inr ⟨G, k, w, a, kvs, es, rfl, R.gh, D, hk', hw, ok, by omega, fun es' le' r' => P _ (R.write e hz oa ⟨a, es', rfl, oa, upd_same, sm, ⟨?_, kstore_keys nd⟩, by rw [hZ]; exact r'⟩)⟩
      rw [le']
      have := kstore_length (kvs := kvs) (k := k) (v := w)
      omega
    · cases q
  · unfold setItemL at q
    split at q
    · rename_i xs n _
      simp only [Option.map_eq_some_iff] at q
      obtain ⟨j, hj, rfl⟩ := q
      obtain ⟨p, vs, rfl, oa, ha', r⟩ := own_lst h2'
      obtain rfl := repO_int hk
      exact .inl ⟨p, vs, n, j, rfl, rfl, ha', by rw [← r.length]; exact hj, P _ (R.relist e hz rfl oa (Reps.set hw j r))⟩
    · cases q
theorem sj_setA (hu : X.A.units + 65 < cLine) (hN : X.N[i]? = some x) (hv : Vis X.env.scope x) (he : EJ X io W e u) (hk : EJ X io W a v)
    (ha : ∀ v, assign (.Subscript (.Name x px) a apos) X.env v = (do
      let ov ← holding [v] (eval (.Name x px) X.env)
      let iv ← holding [v, ov] (eval a X.env)
      standAt apos
      holding [v, ov, iv] (setItem ov iv v)
      release [v, ov, iv] []) := by intro _; rfl)
    (hs : swapsWithSole [.Subscript (.Name x px) a apos] e pos.line X.env = pure false := by rfl) (hw : swappedStores [.Subscript (.Name x px) a apos] e X.env = pure none := by rfl)
    (h1 : (assignEach [.Subscript (.Name x px) a apos] X.env).map (·.2) = [assign (.Subscript (.Name x px) a apos) X.env] := by rfl)
    (hd : (x == ("__debug__" : Str)) = false := by decide) (hcd : (x == ("__classdict__" : Str)) = false := by decide) :
    SJ X io W (.Assign [.Subscript (.Name x px) a apos] e pos) (sStA u i v) := by
  refine PS.imp (ps_asg he (pg_sub (pe_var hN hv hd hcd) hk (PSet.or set_list (set_d (io := io) hu)) ha) hs hw h1) ?_
  rintro D σ H ⟨F, G, O, ρ, ts, hZ, R, P⟩
  refine ST.bindF hZ R P fun G1 O1 H1 ρ1 w y R1 rw1 P1 => ?_
  obtain ⟨ff, fe⟩ := rep_free rw1
  split at P1
  · rename_i d0 e0
    obtain ⟨z, hz, _⟩ := R1.sl i _ e0
    refine ⟨z, hz, ?_⟩
    refine ST.bindU (us := [(w, y)]) hZ R1 P1 fun G2 O2 H2 ρ2 k yk R2 P2 => ?_
    have hw2 := R2.retop ff fe
    have hk2 := R2.top
    have R3 : Rel F G2 O2 ρ2 ts σ H2 := R2.pop.pop
    split at P2
    · rename_i d e2
      cases q : setItemA d k w with
      | none => rw [q] at P2; exact P2.elim
      | some d' =>
        rw [q] at P2
        exact set_slot hZ R3 e2 hz hk2 hw2 q fun H' R' => P2 _ _ _ _ R'
    · exact P2.elim
  · exact P1.elim

/-! ### d.get(k), d.get(k, v) -/
/-- the receiver is a dict that is tracked here -/
def tyD (H : Hp) (x : V) : Prop := ∃ a es, x = .ref a ∧ H a = some (.ext (dictAt a es))
def tDM (r : V → List V → Hp → VK → Prop) (to : TE) (t : TA) : TE := fun σ H Q => to σ H fun x H1 => tyD H1 x ∧ t σ H1 fun xs H2 => r x xs H2 Q
theorem pe_dm {o : Expr} {es : List Expr} {to : TE} {t : TA} {name : Str} {id : String} {r : V → List V → Hp → VK → Prop} (slot : Slot "dict" name id) (hty : typeOf (.builtin id) = pure (.type "method_descriptor")) (hm : MtR X id r) (ho : PE X o to) (ha : PA X (e :: es) t)
    (hbase : attributeBase o name X.env (eval o X.env) = eval o X.env := by rfl)
    (hfew : ((backTo cpos (starEach (e :: es) X.env)).all (fun x => !x.1) && (backToKw cpos (keywordEach [] X.env)).all (fun x => x.1.isSome)
      && decide ((e :: es).length + ([] : List Keyword).length + (if ([] : List Keyword).isEmpty then 0 else 1) < 30)) = true := by rfl)
    (hline : (apos.endLine == cpos.line) = true := by rfl) (hs : starEach (e :: es) X.env = (false, eval e X.env) :: starEach es X.env := by rfl) (hplain : (backTo cpos (starEach es X.env)).any (·.1) = false := by rfl) :
    PE X (.Call (.Attribute o name apos) (e :: es) [] cpos) (tDM r to t) := by
  constructor
  intro pins s σ H Q I h
  refine wpAny_Call_method_late hbase hfew hline rfl (thn (ho.run pins s σ H _ I h) fun v s1 ⟨y, H1, I1, r1, ⟨a, es', ey, ha1⟩, q1⟩ => ?_)
  subst ey
  cases r1
  have hob := dict_obj I1 ha1
  refine ⟨"dict", id, PySem.F.plainAttrs_dict, slot, hty, ⟨_, hob, rfl⟩, fun a' e' => (by cases e'; exact ⟨_, hob, rfl⟩), ?_⟩
  have hA := ha.run cpos pins s1 σ H1 _ I1 q1
  rw [hs] at hA ⊢
  exact Calls.callWith_builtin (by show (false || (backTo cpos (starEach es X.env)).any (·.1)) = false; rw [hplain] <;> rfl) (Calls.evalArgs_plain (thn hA fun us s2 ⟨vs, H2, I2, r2, q2⟩ => hm pins s2 σ H2 (.ref a) vs (.ref a) us Q I2 rfl r2 q2))
def rGet1 (Z : Zt) : V → List V → Hp → VK → Prop := fun x xs H Q => ∃ G k y a kvs es, x = .ref a ∧ xs = [y] ∧ Sub G H ∧ DIn Z G H a kvs es ∧ Rep Z G k y ∧ dkOk kvs k = true ∧ ∀ v, Rep Z G ((kfind kvs k).getD .non) v → Q v H
theorem mt_get1 (hu : X.A.units + 65 < cLine) : MtR X "dict.get" (rGet1 (X.zt io)) := by
  intro pins s σ H x xs v us Q I rx rxs h
  obtain ⟨G, k, y, a, kvs, es, rfl, rfl, sub, D, hk, ok, q⟩ := h
  cases rx
  obtain ⟨u, rfl, ry⟩ := rxs.one
  have room : (nestedKind X.prog X.w).room X.A.in1 := by show X.A.units + 1 + 8 < cLine; omega
  unfold dkOk at ok
  rw [Bool.or_eq_true, Bool.and_eq_true, Bool.and_eq_true] at ok
  rcases ok with ⟨t, tk⟩ | ⟨t, tk⟩
  · obtain ⟨b, n, rfl, hn, hdp⟩ := tup_of hk tk
    cases ry
    obtain ⟨xs, kx, hm⟩ := D.ofH I sub ⟨rfl, rfl, rfl⟩ t
    have key : (nestedKind X.prog X.w).is s.heap n b := ⟨rep_nested I sub rfl k _ _ n hk hn rfl, hdp⟩
    refine call_meetsIn PySem.F.slot_dict_get hm.typeIs PySem.F.entry_dict_get (PySem.F.args_dict_get_2 _ _) (meetsH_dict_get (nestedKind X.prog X.w) a b D.sm) ⟨room, n, xs, key, hm, ?_⟩
    rcases kxs_at hn kx with ⟨e1, e2⟩ | ⟨d', a', u', e1, e2, x, rx, hx⟩
    · rw [e1] at q
      rw [e2]
      exact ⟨.non, H, I.tok _, rfl, q .non (by simp only [Option.getD, Rep])⟩
    · rw [e1] at q
      rw [e2]
      exact ⟨x, H, I.tok _, rx, q x hx⟩
  · obtain ⟨f, hf, rfl⟩ := flat_of hk tk
    obtain ⟨xs, fx, hm⟩ := D.ofF I ⟨rfl, rfl, rfl⟩ t
    refine call_meetsIn PySem.F.slot_dict_get hm.typeIs PySem.F.entry_dict_get (PySem.F.args_dict_get_2 _ _) (meets_dict_get (mixKind X.prog X.w) a (kV_is' ry) D.sm) ⟨_, hm.mapOf, ?_⟩
    rcases fxs_at hf fx with ⟨e1, e2⟩ | ⟨d', u', e1, e2, x, rx, hx⟩
    · rw [e1] at q
      rw [e2]
      exact ⟨.non, H, I.tok _, rfl, q .non (by simp only [Option.getD, Rep])⟩
    · rw [e1] at q
      rw [e2]
      exact ⟨x, H, I.tok _, rx, q x hx⟩
def opGet : PV → PV → M PV
  | .dct _ kvs, k => if dkOk kvs k then M.ret ((kfind kvs k).getD .non) else bad
  | _, _ => bad
abbrev rGetD (Z : Zt) : R2 := fun x y H Q => tyD H x ∧ rGet1 Z x [y] H Q
theorem os_get : OpS (X.zt io) W (fun x y H Q => rGet1 (X.zt io) x [y] H Q) opGet := fun F G O ρ ts σ H Q dx dy x y k l hZ R hx hy P => by
  unfold opGet at P
  split at P
  · rename_i o kvs
    split at P
    · rename_i ok
      obtain ⟨a, es, e, D⟩ := repO_dct R.gh hx
      obtain ⟨c1, c2⟩ := dk_calm ok
      rw [hZ] at D
      have hk := repO_rep hy c1 c2
      rw [hZ] at hk
      exact ⟨G, dy, y, a, kvs, es, e, rfl, R.gh, D, hk, ok, fun v rv => P.val R (by rw [hZ]; exact rv)⟩
    · exact P.elim
  · exact P.elim
/-- the first operand is a dict -/
def isDct : PV → Bool
  | .dct _ _ => true
  | _ => false
def eGet (f g : M PV) : M PV := M.bind f fun d => if isDct d then M.bind g fun k => opGet d k else bad
def eGetB (i : Nat) (g : M PV) : M PV := fun ρ => match ρ[i]? with
  | some (some d) => if isDct d then M.bind g (fun k ρ' => match ρ'[i]? with
    | some (some d') => opGet d' k ρ'
    | _ => .bad) ρ else .bad
  | _ => .bad
theorem isDct_of {F : Fr} {G H : Hp} {O : Own} {k : Nat} {d : PV} {y : V} (s : Sub G H) (h : RepO F G O H k d y) (c : isDct d = true) : tyD H y := by
  cases d with
  | dct o kvs =>
    obtain ⟨a, es, e, D⟩ := repO_dct s h
    exact ⟨a, es, e, D.at_⟩
  | _ => cases c
theorem ej_get {o : Expr} (hu : X.A.units + 65 < cLine) (ho : EJ X io W o f) (ha : EJ X io W e g) (hbase : attributeBase o "get" X.env (eval o X.env) = eval o X.env := by rfl)
    (hfew : ((backTo cpos (starEach [e] X.env)).all (fun x => !x.1) && (backToKw cpos (keywordEach [] X.env)).all (fun x => x.1.isSome)
      && decide (([e] : List Expr).length + ([] : List Keyword).length + (if ([] : List Keyword).isEmpty then 0 else 1) < 30)) = true := by rfl)
    (hline : (apos.endLine == cpos.line) = true := by rfl) (hs : starEach [e] X.env = (false, eval e X.env) :: starEach [] X.env := by rfl) (hplain : (backTo cpos (starEach [] X.env)).any (·.1) = false := by rfl) : EJ X io W (.Call (.Attribute o "get" apos) [e] [] cpos) (eGet f g) := by
  refine PE.imp (pe_dm (apos := apos) (cpos := cpos) PySem.F.slot_dict_get PySem.F.type_dict_get (mt_get1 (io := io) hu) ho (pa_cons ha pa_nil hs) hbase hfew hline hs hplain) ?_
  rintro σ H Q ⟨F, G, O, ρ, ts, hZ, R, P⟩
  refine T.bindK hZ R P fun G1 O1 H1 ρ1 d y R1 P1 => ?_
  by_cases c : isDct d = true
  · rw [if_pos c] at P1
    refine ⟨isDct_of R1.gh R1.top c, T.bindU (us := [(d, y)]) hZ R1 P1 fun G2 O2 H2 ρ2 k yk R2 P2 => ?_⟩
    exact os_get F G2 O2 ρ2 ts σ H2 Q d k y yk _ _ hZ R2.pop2 R2.snd.1 R2.snd.2 P2
  · rw [if_neg c] at P1
    exact P1.elim
theorem ej_getB (hu : X.A.units + 65 < cLine) (hN : X.N[i]? = some x) (hv : Vis X.env.scope x) (ha : EJ X io W e g) (hbase : attributeBase (.Name x px) "get" X.env (eval (.Name x px) X.env) = eval (.Name x px) X.env := by rfl)
    (hfew : ((backTo cpos (starEach [e] X.env)).all (fun x => !x.1) && (backToKw cpos (keywordEach [] X.env)).all (fun x => x.1.isSome)
      && decide (([e] : List Expr).length + ([] : List Keyword).length + (if ([] : List Keyword).isEmpty then 0 else 1) < 30)) = true := by rfl)
    (hline : (apos.endLine == cpos.line) = true := by rfl) (hs : starEach [e] X.env = (false, eval e X.env) :: starEach [] X.env := by rfl) (hplain : (backTo cpos (starEach [] X.env)).any (·.1) = false := by rfl)
    (hd : (x == ("__debug__" : Str)) = false := by decide) (hcd : (x == ("__classdict__" : Str)) = false := by decide) : EJ X io W (.Call (.Attribute (.Name x px) "get" apos) [e] [] cpos) (eGetB i g) := by
  refine PE.imp (pe_dm (apos := apos) (cpos := cpos) PySem.F.slot_dict_get PySem.F.type_dict_get (mt_get1 (io := io) hu) (pe_var hN hv hd hcd) (pa_cons ha pa_nil hs) hbase hfew hline hs hplain) ?_
  rintro σ H Q ⟨F, G, O, ρ, ts, hZ, R, P⟩
  unfold eGetB at P
  split at P
  · rename_i d e0
    by_cases c : isDct d = true
    · rw [if_pos c] at P
      obtain ⟨y, h1, h2⟩ := R.sl i _ e0
      refine ⟨y, h1, isDct_of R.gh h2 c, T.bindK hZ R P fun G1 O1 H1 ρ1 k yk R1 P1 => ?_⟩
      obtain ⟨d', v', e', h1', h2', P2⟩ := slot_get (i := i) (k := fun d' => opGet d' k ρ1) R1.pop P1
      rw [h1] at h1'
      cases h1'
      exact os_get F G1 O1 ρ1 ts σ H1 Q d' k y yk i _ hZ R1.pop h2' R1.top P2
    · rw [if_neg c] at P
      exact P.elim
  · exact P.elim
end
end Wv

set_option Elab.async false
set_option linter.all false
set_option autoImplicit false
set_option maxRecDepth 100000
/-! WvY: dicts walked; enumerate. -/
namespace Wv
open PySem PySem.Spec PyProof.Rows L2

theorem repKV_lists {Z : Zt} {G : Hp} : ∀ {kvs : List (PV × PV)} {es : List DictEntry}, RepKV Z G kvs es → ∃ kx vx, Reps Z G (kvs.map (·.1)) kx ∧ Reps Z G (kvs.map (·.2)) vx ∧ Vals kx (es.map (·.key)) ∧ Vals vx (es.map (·.val))
  | [], es, r => by
    simp only [RepKV] at r
    subst r
    exact ⟨[], [], by simp only [List.map_nil, Reps], by simp only [List.map_nil, Reps], .nil, .nil⟩
  | (k, d) :: kvs, es, r => by
    simp only [RepKV] at r
    obtain ⟨e, er, rfl, _, ⟨x, rx, hx⟩, ⟨y, ry, hy⟩, r2⟩ := r
    obtain ⟨kx, vx, h1, h2, h3, h4⟩ := repKV_lists r2
    exact ⟨x :: kx, y :: vx, by simp only [List.map_cons, Reps]; exact ⟨x, kx, rfl, hx, h1⟩, by simp only [List.map_cons, Reps]; exact ⟨y, vx, rfl, hy, h2⟩, .cons rx h3, .cons ry h4⟩

/-- the dict at a, which stays: its keys -/
def ItK (a : Addr) (es : Nat × List DictEntry) (kx : List V) : It :=
  ⟨fun i H => H a = some (.ext (dictAt a es)) ∧ i < es.2.length, fun i H x H' => H' = H ∧ kx[i]? = some x, fun i H => H a = some (.ext (dictAt a es)) ∧ es.2.length ≤ i⟩
/-- its pairs -/
def ItP (a : Addr) (es : Nat × List DictEntry) (kx vx : List V) : It :=
  ⟨fun i H => H a = some (.ext (dictAt a es)) ∧ i < es.2.length, fun i H x H' => ∃ T k v, kx[i]? = some k ∧ vx[i]? = some v ∧ x = .ref T ∧ H T = none ∧ H' = upd H T (.tup [k, v]), fun i H => H a = some (.ext (dictAt a es)) ∧ es.2.length ≤ i⟩
theorem vals_at {xs : List V} {us : List Value} (h : Vals xs us) {i : Nat} (l : i < us.length) : ∃ x, xs[i]? = some x ∧ RelV x us[i] := by
  have hl := h.length
  obtain ⟨u, e, r⟩ := h.get (i := i) (List.getElem?_eq_getElem (show i < xs.length by omega))
  rw [List.getElem?_eq_getElem l] at e
  cases e
  exact ⟨_, List.getElem?_eq_getElem _, r⟩
section
variable {X : Cx} {pins : List (Addr × Obj)} {σ : St} {H : Hp} {s : Shared}
theorem dict_raw {a : Addr} {es : Nat × List DictEntry} (I : L2.Inv X pins σ H s) (h : H a = some (.ext (dictAt a es))) : s.heap.DictRaw a es.2.toArray es.1 := ⟨_, dict_obj I h, ⟨rfl, rfl, rfl⟩, rfl⟩
end
section
variable {P : Program} {w : World} {K : PySem.W.Frag} {tg : Expr} {a : Addr} {es : Nat × List DictEntry} {kx vx : List V}
theorem turn_keysD (it : Addr) (hv : Vals kx (es.2.map (·.key))) : Turn P w K tg (ItK a es kx) [it] it (fun i h => h.IsKeyIter it a i es.2.toArray.size es.1) where
  mem := by simp
  obj := fun i h st b hb => by
    have e : b = it := by simpa using hb
    subst e
    obtain ⟨oi, e, c, dd⟩ := st
    exact ⟨oi, e, fun v z => by rw [dd] at z; cases z⟩
  keep := fun i h h' st k => st.at fun oi e => k it (by simp) oi e
  item := by
    intro X hP hw hK hc i pins s σ H E I hf st hg
    subst hP hw hK
    obtain ⟨hd, hi⟩ := hg
    obtain ⟨f0, f1, f2, f3, f4, f5⟩ := hf it (by simp)
    obtain ⟨x, hx, rx⟩ := vals_at hv (i := i) (by simpa using hi)
    refine wpAny_pyNext_keys_item_raw st (dict_raw I hd) (by simpa using hi) fun h' st' sb => ?_
    have I1 : L2.Inv X pins σ H { s with heap := h' } := I.turned (t' := s.toks) (fun b ob hb e => (sb.2 b hb).trans e) f0 f1 f3 f4 f5
    obtain ⟨oi, e, c, dd⟩ := id st'
    exact ⟨_, rfl, go_of (s := { s with heap := h' }) e c dd (by decide) ⟨x, H, I1, by simpa using rx, ⟨rfl, hx⟩, st', fun b hb => (hf b hb).1⟩⟩
  done := by
    intro X hP hw hK hc i pins s σ H E I hf st hg
    subst hP hw hK
    obtain ⟨hd, hi⟩ := hg
    obtain ⟨f0, f1, f2, f3, f4, f5⟩ := hf it (by simp)
    exact wpAny_pyNext_keys_end_raw (I.ok.hd hc) st (dict_raw I hd) (by simpa using hi) fun h' eb => ⟨rfl, I.turned (t' := s.toks) (fun b ob hb e => eb b ob hb e) f0 f1 f3 f4 f5⟩
  self := fun A i s Q E st h => by
    refine wpAny_pyIter_slot st.typeIs F.slot_dict_keyiterator_iter (wpAny_call_entry F.slot_dict_keyiterator_iter st.typeIs F.entry_dict_keyiterator_iter ?_ (F.args_dict_keyiterator_iter_1 _))
    show wpAny _ _ (ret (.ref it)) _ _ s
    exact wpAny_pure ⟨_, rfl, "dict_keyiterator", _, st.typeIs, F.slot_dict_keyiterator_next.lookup, h⟩
theorem turn_valsD (it : Addr) (hv : Vals vx (es.2.map (·.val))) : Turn P w K tg (ItK a es vx) [it] it (fun i h => h.IsValIter it a i es.2.toArray.size es.1) where
  mem := by simp
  obj := fun i h st b hb => by
    have e : b = it := by simpa using hb
    subst e
    obtain ⟨oi, e, c, dd⟩ := st
    exact ⟨oi, e, fun v z => by rw [dd] at z; cases z⟩
  keep := fun i h h' st k => st.at fun oi e => k it (by simp) oi e
  item := by
    intro X hP hw hK hc i pins s σ H E I hf st hg
    subst hP hw hK
    obtain ⟨hd, hi⟩ := hg
    obtain ⟨f0, f1, f2, f3, f4, f5⟩ := hf it (by simp)
    obtain ⟨x, hx, rx⟩ := vals_at hv (i := i) (by simpa using hi)
    refine wpAny_pyNext_values_item_raw st (dict_raw I hd) (by simpa using hi) fun h' st' sb => ?_
    have I1 : L2.Inv X pins σ H { s with heap := h' } := I.turned (t' := s.toks) (fun b ob hb e => (sb.2 b hb).trans e) f0 f1 f3 f4 f5
    obtain ⟨oi, e, c, dd⟩ := id st'
    exact ⟨_, rfl, go_of (s := { s with heap := h' }) e c dd (by decide) ⟨x, H, I1, by simpa using rx, ⟨rfl, hx⟩, st', fun b hb => (hf b hb).1⟩⟩
  done := by
    intro X hP hw hK hc i pins s σ H E I hf st hg
    subst hP hw hK
    obtain ⟨hd, hi⟩ := hg
    obtain ⟨f0, f1, f2, f3, f4, f5⟩ := hf it (by simp)
    exact wpAny_pyNext_values_end_raw (I.ok.hd hc) st (dict_raw I hd) (by simpa using hi) fun h' eb => ⟨rfl, I.turned (t' := s.toks) (fun b ob hb e => eb b ob hb e) f0 f1 f3 f4 f5⟩
  self := fun A i s Q E st h => wpAny_pyIter_valiter st h
theorem turn_itemsD {elts : List Expr} {kk : Nat} {tpos : Pos} (it : Addr) (hk : Vals kx (es.2.map (·.key))) (hv : Vals vx (es.2.map (·.val))) :
    Turn P w K (.Tuple elts kk tpos) (ItP a es kx vx) [it] it (fun i h => ∃ ok ov, IsItemIter h it a i es.2.toArray.size es.1 ok ov) where
  mem := by simp
  obj := fun i h st b hb => by
    have e : b = it := by simpa using hb
    subst e
    obtain ⟨ok, ov, e⟩ := st
    exact ⟨_, e, fun v z => nomatch z⟩
  keep := fun i h h' st k => let ⟨ok, ov, e⟩ := st; ⟨ok, ov, k it (by simp) _ e⟩
  item := by
    intro X hP hw hK hc i pins s σ H E I hf st hg
    subst hP hw hK
    obtain ⟨hd, hi⟩ := hg
    obtain ⟨x, hx, rx⟩ := vals_at hk (i := i) (by simpa using hi)
    obtain ⟨y, hy, ry⟩ := vals_at hv (i := i) (by simpa using hi)
    obtain ⟨ok, ov, he⟩ := st
    have hlt : it < s.heap.objs.size := Heap.lt_size he
    refine wpAny_pyNext_items_item_raw he (dict_raw I hd) (by simpa using hi) fun h' ho hT hz hk => ?_
    refine ⟨_, rfl, wpAny_letOwnedTupleGo_items (s := { s with heap := h' }) ho fun h'' he' sb => ?_⟩
    have hT2 := (sb.2 _ (Nat.ne_of_gt hlt)).trans hT
    have new : ObjOk X.prog X.w (upd H s.heap.objs.size (.tup [x, y])) h'' s.heap.objs.size (.tup [x, y]) :=
      ⟨by show 2 ≤ sizeLine; decide, [_, _], .cons (by simpa using rx) (.cons (by simpa using ry) .nil), ⟨_, hT2, rfl, _, rfl⟩⟩
    have I1 : L2.Inv X pins σ (upd H s.heap.objs.size (.tup [x, y])) { s with heap := h'' } :=
      I.turnedNew (t' := s.toks) (ch := [it]) (fun b ob hb e => (sb.2 b (by simpa using hb)).trans (hk b ob (by simpa using hb) e)) hf (Nat.le_refl _) new
    refine ⟨.ref s.heap.objs.size, _, I1, rfl, ⟨_, x, y, hx, hy, rfl, I.hok.fresh (Nat.le_refl _), rfl⟩, ⟨_, _, he'⟩, fun b hb => ?_⟩
    have e : b = it := by simpa using hb
    rw [e, upd_ne (Nat.ne_of_lt hlt)]
    exact (hf it (by simp)).1
  done := by
    intro X hP hw hK hc i pins s σ H E I hf st hg
    subst hP hw hK
    obtain ⟨hd, hi⟩ := hg
    obtain ⟨f0, f1, f2, f3, f4, f5⟩ := hf it (by simp)
    obtain ⟨ok, ov, he⟩ := st
    exact wpAny_pyNext_items_end_raw (I.ok.hd hc) he (dict_raw I hd) (by simpa using hi) fun h' eb => ⟨rfl, I.turned (t' := s.toks) (fun b ob hb e => eb b ob hb e) f0 f1 f3 f4 f5⟩
  self := fun A i s Q E st h => let ⟨_, _, e⟩ := st; wpAny_pyIter_itemiter e h
end

/-! ### what is asked -/
def DStand (H : Hp) (a : Addr) (es : Nat × List DictEntry) (kx vx : List V) : Prop := H a = some (.ext (dictAt a es)) ∧ (a == sysModules) = false ∧ Vals kx (es.2.map (·.key)) ∧ Vals vx (es.2.map (·.val))
/-- a list, a tuple, a dict -/
def iAnyTI (K : PySem.W.Frag) (t : TE) : TI := fun σ H R => t σ H fun x H1 => (∃ a, x = .ref a ∧ ((∃ xs, SqL K H1 a xs) ∧ R (Itl K a) H1 ∨ (∃ xs, SqT K H1 a xs) ∧ R (Itt K a) H1 ∨ ∃ es kx vx, DStand H1 a es kx vx ∧ R (ItK a es kx) H1)) ∨ ∃ z, x = .str z ∧ R (Its z) H1
def iValsTI (t : TE) : TI := fun σ H R => t σ H fun x H1 => ∃ a, x = .ref a ∧ ∃ es kx vx, DStand H1 a es kx vx ∧ R (ItK a es vx) H1
def iItemsTI (t : TE) : TI := fun σ H R => t σ H fun x H1 => ∃ a, x = .ref a ∧ ∃ es kx vx, DStand H1 a es kx vx ∧ R (ItP a es kx vx) H1
section
variable {X : Cx} {tg e : Expr} {td : TE} {apos cpos : Pos}
theorem pi_any (hl : PE X e td) : PI X tg e (iAnyTI X.K td) := by
  refine ⟨fun pins s σ H R I h => ?_⟩
  refine thn (hl.run pins s σ H _ I h) fun v s1 ⟨x, H1, I1, r1, q1⟩ => ?_
  rcases q1 with ⟨a, e, q⟩ | ⟨z, e, q⟩
  case inr =>
    subst e
    obtain ⟨t, rfl⟩ := r1
    cases ha : z.cps.all (· < 128)
    · exact wpAny_pyIter_wide ha (pi_one (tk := s1.toks) I1 _ (turn_str _ z t "str_iterator" (.inr rfl)) ⟨_, Heap.get?_push_size _ rfl, rfl, rfl⟩ q)
    · exact wpAny_pyIter_ascii ha (pi_one (tk := s1.toks) I1 _ (turn_str _ z t "str_ascii_iterator" (.inl rfl)) ⟨_, Heap.get?_push_size _ rfl, rfl, rfl⟩ q)
  subst e
  cases r1
  rcases q with ⟨⟨xs, hq⟩, q⟩ | ⟨⟨xs, hq⟩, q⟩ | ⟨es, kx, vx, ⟨hd, hs, hk, hv⟩, q⟩
  · obtain ⟨its, rv, p, hz⟩ := I1.list hq
    exact wpAny_pyIter_list p.isList (pi_one (tk := s1.toks) I1 _ (turn_list a _) ⟨_, Heap.get?_push_size _ rfl, rfl, rfl⟩ q)
  · obtain ⟨its, rv, p, hz⟩ := I1.tuple hq
    exact wpAny_pyIter_tuple (show s1.heap.IsTuple a its.toArray from p) (pi_one (tk := s1.toks) I1 _ (turn_tuple a _) ⟨_, Heap.get?_push_size _ rfl, rfl, rfl⟩ q)
  · exact wpAny_pyIter_dict_raw hs (dict_raw I1 hd) (pi_one (tk := s1.toks) I1 _ (turn_keysD _ hk) ⟨_, Heap.get?_push_size _ rfl, rfl, rfl⟩ q)
theorem pi_valsD (he : PE X e td) (hbase : attributeBase e "values" X.env (eval e X.env) = eval e X.env := by rfl) (hline : (apos.endLine == cpos.line) = true := by rfl) : PI X tg (.Call (.Attribute e "values" apos) [] [] cpos) (iValsTI td) := by
  refine ⟨fun pins s σ H R I h => ?_⟩
  refine wpAny_Call_method (T := "dict") (id := "dict.values") hbase rfl hline F.plainAttrs_dict F.slot_dict_values F.type_dict_values (thn (he.run pins s σ H _ I h) fun u s1 ⟨x, H1, I1, rx, a, ex, es, kx, vx, ⟨hd, hs, hk, hv⟩, q⟩ => ?_)
  subst ex
  obtain rfl : u = Value.ref a := rx
  have D := dict_raw I1 hd
  refine ⟨D.typeIs, (fun b e => by cases e; exact ⟨_, dict_obj I1 hd, rfl⟩), ?_⟩
  have I2 : L2.Inv X pins σ H1 { s1 with heap := s1.heap.push { cls := .type "dict_values", data := .fields #[.ref a] } } := I1.kept (t' := s1.toks) fun b ob q => Heap.get?_push_of_some _ q
  have fin : wpAny (model X.prog X.w) X.A (pyIter (.ref s1.heap.objs.size)) (PIE X pins σ tg R) X.xe { s1 with heap := s1.heap.push { cls := .type "dict_values", data := .fields #[.ref a] } } :=
    wpAny_pyIter_values_raw (d := a) ⟨_, Heap.get?_push_size _ rfl, rfl, rfl⟩ (dict_raw I2 hd) (pi_one (tk := s1.toks) I2 _ (turn_valsD _ hv) ⟨_, Heap.get?_push_size _ rfl, rfl, rfl⟩ q)
  show wpAny _ _ (callWith cpos (.builtin "dict.values") [.ref a] [] []) _ X.xe s1
  exact method_meetsIn F.slot_dict_values F.entry_dict_values rfl (PySem.evalArgs_none ⟨rfl, D.typeIs, F.args_dict_values_1 _, _, meets_dict_values_raw a hs, ⟨_, _, D⟩, fin⟩)
theorem pi_itemsD {elts : List Expr} {kk : Nat} {tpos : Pos} (he : PE X e td) (hbase : attributeBase e "items" X.env (eval e X.env) = eval e X.env := by rfl) (hline : (apos.endLine == cpos.line) = true := by rfl) :
    PI X (.Tuple elts kk tpos) (.Call (.Attribute e "items" apos) [] [] cpos) (iItemsTI td) := by
  refine ⟨fun pins s σ H R I h => ?_⟩
  refine wpAny_Call_method (T := "dict") (id := "dict.items") hbase rfl hline F.plainAttrs_dict F.slot_dict_items F.type_dict_items (thn (he.run pins s σ H _ I h) fun u s1 ⟨x, H1, I1, rx, a, ex, es, kx, vx, ⟨hd, hs, hk, hv⟩, q⟩ => ?_)
  subst ex
  obtain rfl : u = Value.ref a := rx
  have D := dict_raw I1 hd
  refine ⟨D.typeIs, (fun b e => by cases e; exact ⟨_, dict_obj I1 hd, rfl⟩), ?_⟩
  have I2 : L2.Inv X pins σ H1 { s1 with heap := s1.heap.push { cls := .type "dict_items", data := .fields #[.ref a] } } := I1.kept (t' := s1.toks) fun b ob q => Heap.get?_push_of_some _ q
  have fin : wpAny (model X.prog X.w) X.A (pyIter (.ref s1.heap.objs.size)) (PIE X pins σ (.Tuple elts kk tpos) R) X.xe { s1 with heap := s1.heap.push { cls := .type "dict_items", data := .fields #[.ref a] } } :=
    wpAny_pyIter_items_raw (d := a) ⟨_, Heap.get?_push_size _ rfl, rfl, rfl⟩ (dict_raw I2 hd) (pi_one (tk := s1.toks) I2 _ (turn_itemsD _ hk hv) ⟨.none, .none, Heap.get?_push_size _ rfl⟩ q)
  show wpAny _ _ (callWith cpos (.builtin "dict.items") [.ref a] [] []) _ X.xe s1
  exact method_meetsIn F.slot_dict_items F.entry_dict_items rfl (PySem.evalArgs_none ⟨rfl, D.typeIs, F.args_dict_items_1 _, _, meets_dict_items_raw a hs, ⟨_, _, D⟩, fin⟩)
end

/-! ### the walkers -/
theorem wk_at {F : Fr} {a : Addr} {es : Nat × List DictEntry} {ks : List PV} {kx : List V} {us : List (PV × V)} (h : F.G0 a = some (.ext (dictAt a es))) (r : Reps F.Z F.G0 ks kx) (l : kx.length = es.2.length) : Wk F (ItK a es kx) us ks := by
  intro G O ρ ts ws σ H R
  have hd : H a = some (.ext (dictAt a es)) := R.gh _ _ (R.g0 _ _ h)
  have rl := r.length
  refine ⟨⟨hd, by omega⟩, fun i x hx => ⟨⟨hd, by have := get_lt hx; omega⟩, fun y H2 hy => ?_⟩⟩
  obtain ⟨rfl, hy⟩ := hy
  obtain ⟨v, hv, rv⟩ := r.get hx
  rw [hv] at hy
  cases hy
  exact ⟨G, R.pushF (Rep.sub R.g0 _ _ rv)⟩
def pairsOf (kvs : List (PV × PV)) : List PV := kvs.map fun p => .tup [p.1, p.2]
theorem wk_pairs {F : Fr} {a : Addr} {es : Nat × List DictEntry} {kvs : List (PV × PV)} {kx vx : List V} {us : List (PV × V)} (h : F.G0 a = some (.ext (dictAt a es))) (r : Reps F.Z F.G0 (kvs.map (·.1)) kx) (r2 : Reps F.Z F.G0 (kvs.map (·.2)) vx) (l : kx.length = es.2.length) : Wk F (ItP a es kx vx) us (pairsOf kvs) := by
  intro G O ρ ts ws σ H R
  have hd : H a = some (.ext (dictAt a es)) := R.gh _ _ (R.g0 _ _ h)
  have rl := r.length
  rw [List.length_map] at rl
  have pl : (pairsOf kvs).length = kvs.length := List.length_map ..
  refine ⟨⟨hd, by omega⟩, fun i x hx => ⟨⟨hd, by have := get_lt hx; omega⟩, fun y H2 hy => ?_⟩⟩
  obtain ⟨T, k, v, hk, hv, rfl, hT, rfl⟩ := hy
  unfold pairsOf at hx
  rw [List.getElem?_map] at hx
  cases hp : kvs[i]? with
  | none => rw [hp] at hx; cases hx
  | some p =>
    rw [hp] at hx
    cases hx
    obtain ⟨k', hk', rk⟩ := r.get (i := i) (d := p.1) (by rw [List.getElem?_map, hp]; rfl)
    obtain ⟨v', hv', rv⟩ := r2.get (i := i) (d := p.2) (by rw [List.getElem?_map, hp]; rfl)
    rw [hk] at hk'
    rw [hv] at hv'
    cases hk'
    cases hv'
    have R1 := R.layF (o := .tup [k, v]) hT
    have sg : Sub F.G0 (upd G T (.tup [k, v])) := R1.g0
    refine ⟨_, R1.pushF ?_⟩
    simp only [Rep]
    refine ⟨T, [k, v], rfl, .inl (.inl upd_same), ?_⟩
    simp only [Reps]
    exact ⟨k, [v], rfl, Rep.sub sg _ _ rk, v, [], rfl, Rep.sub sg _ _ rv, rfl⟩
theorem dct_stand {F : Fr} {G : Hp} {H : Hp} {kvs : List (PV × PV)} {x : V} (gh : Sub G H) (r : Rep F.Z G (.dct false kvs) x) : ∃ a es kx vx, x = .ref a ∧ DStand H a es kx vx ∧ G a = some (.ext (dictAt a es)) ∧ Reps F.Z G (kvs.map (·.1)) kx ∧ Reps F.Z G (kvs.map (·.2)) vx := by
  simp only [Rep] at r
  obtain ⟨a, es, rfl, ga, sm, _, rk⟩ := r
  obtain ⟨kx, vx, h1, h2, h3, h4⟩ := repKV_lists rk
  exact ⟨a, es, kx, vx, rfl, ⟨gh _ _ ga, sm, h3, h4⟩, ga, h1, h2⟩
/-- the letters of a text -/
def chrs (z : Str) : List PV := z.cps.toList.map fun c => .str ⟨#[c]⟩
theorem wk_str {F : Fr} {z : Str} {us : List (PV × V)} (o : sOk z = true) : Wk F (Its z) us (chrs z) := by
  intro G O ρ ts ws σ H R
  refine ⟨by simp [Its, chrs], fun i x hx => ?_⟩
  unfold chrs at hx
  rw [List.getElem?_map] at hx
  cases e : z.cps.toList[i]? with
  | none => rw [e] at hx; cases hx
  | some c =>
    rw [e] at hx
    cases hx
    have l := get_lt e
    have e2 : z.cps[i]? = some c := by rw [← Array.getElem?_toList]; exact e
    refine ⟨by simpa [Its] using l, fun y H2 hy => ?_⟩
    obtain ⟨rfl, d, hd, rfl⟩ := hy
    rw [e2] at hd
    cases hd
    refine ⟨G, R.pushF ?_⟩
    simp only [Rep, true_and]
    refine sOk_chr o (i := (i : Int)) ?_
    unfold atI ixN
    rw [if_pos (by omega), if_pos (by exact_mod_cast l)]
    exact e
/-- what a for walks: a text, a list, a tuple, the keys of a dict -/
def PV.itemsA : PV → Option (List PV)
  | .tup xs => some xs
  | .lst _ xs => some xs
  | .dct _ kvs => some (kvs.map (·.1))
  | .str z => some (chrs z)
  | _ => none
def iAny (f : M PV) : M (List PV) := M.bind f fun v => ofO v.itemsA
def iVals (f : M PV) : M (List PV) := M.bind f fun v => match v with
  | .dct _ kvs => M.ret (kvs.map (·.2))
  | _ => bad
def iItems (f : M PV) : M (List PV) := M.bind f fun v => match v with
  | .dct _ kvs => M.ret (pairsOf kvs)
  | _ => bad
section
variable {X : Cx} {io : List Nat} {W : WX} {a : Expr} {f : M PV} {apos cpos : Pos}
theorem Rel.frzDct {F : Fr} {G : Hp} {O : Own} {ρ : Sl} {ts : List (PV × V)} {σ : St} {H : Hp} {o : Bool} {kvs : List (PV × PV)} {x : V} (R : Rel F G O ρ (ts ++ [(.dct o kvs, x)]) σ H) :
    ∃ G1 O1 a es kx vx, Rel F G1 O1 ρ ts σ H ∧ x = .ref a ∧ DStand H a es kx vx ∧ G1 a = some (.ext (dictAt a es)) ∧ Reps F.Z G1 (kvs.map (·.1)) kx ∧ Reps F.Z G1 (kvs.map (·.2)) vx ∧ kx.length = es.2.length := by
  obtain ⟨R2, r2⟩ := R.frzTop (d := .dct o kvs) rfl
  have r2' : Rep F.Z (frzG O H G (ρ.length + ts.length)) (.dct false kvs) x := by cases o <;> exact r2
  obtain ⟨a, es, kx, vx, e, D, ga, h1, h2⟩ := dct_stand R2.gh r2'
  exact ⟨_, _, a, es, kx, vx, R2.pop, e, D, ga, h1, h2, by have := D.2.2.1.length; simpa using this⟩
theorem ij_any {tg : Expr} (ha : EJ X io W a f) : IJ X io W tg a (iAny f) := by
  refine PI.imp (pi_any ha) ?_
  rintro σ H Q ⟨F, G, O, ρ, ts, hZ, R, P⟩
  refine ⟨F, G, O, ρ, ts, hZ, R, ?_⟩
  unfold iAny M.bind at P
  cases e : f ρ with
  | bad => rw [e] at P; exact P
  | exc C fs ρ' => rw [e] at P; exact P
  | ok v ρ1 =>
    rw [e] at P
    intro G1 O1 H1 x R1
    cases v with
    | tup xs =>
      obtain ⟨p, vs, rfl, q, r⟩ := repO_tup R1.gh R1.top
      rw [hZ] at q
      refine .inl ⟨p, rfl, .inr (.inl ⟨⟨vs, q⟩, ?_⟩)⟩
      have w : Wk (F.at G1) (Itt F.Z.K p) [(.tup xs, .ref p)] xs := wk_tup
      rw [hZ] at w
      exact P _ _ _ _ _ R1 w
    | lst o xs =>
      obtain ⟨R2, r2⟩ := R1.frzTop (d := .lst o xs) rfl
      have r2' : Rep F.Z (frzG O1 H1 G1 (ρ1.length + ts.length)) (.lst false xs) x := by cases o <;> exact r2
      have R2' : Rel F (frzG O1 H1 G1 (ρ1.length + ts.length)) (frzO O1 (ρ1.length + ts.length)) ρ1 (ts ++ [(.lst false xs, x)]) σ H1 := by cases o <;> exact R2
      simp only [Rep] at r2'
      obtain ⟨p, vs, rfl, q, r⟩ := r2'
      have w : Wk (F.at (frzG O1 H1 G1 (ρ1.length + ts.length))) (Itl F.Z.K p) [(.lst false xs, .ref p)] xs := wk_list
      rw [hZ] at w q
      exact .inl ⟨p, rfl, .inl ⟨⟨vs, sub_sqL R2'.gh q⟩, P _ _ _ _ _ R2' w⟩⟩
    | dct o kvs =>
      obtain ⟨G2, O2, p, es, kx, vx, R2, rfl, D, ga, h1, h2, l⟩ := R1.frzDct
      exact .inl ⟨p, rfl, .inr (.inr ⟨es, kx, vx, D, P _ _ _ _ [] (by simpa using R2) (wk_at (F := F.at G2) ga h1 l)⟩)⟩
    | str z =>
      obtain ⟨rfl, o⟩ := repO_str R1.top
      exact .inr ⟨z, rfl, P _ _ _ _ [] (by simpa using R1.pop) (wk_str o)⟩
    | _ => exact P.elim
theorem ij_vals {tg : Expr} (ha : EJ X io W a f) (hbase : attributeBase a "values" X.env (eval a X.env) = eval a X.env := by rfl) (hline : (apos.endLine == cpos.line) = true := by rfl) : IJ X io W tg (.Call (.Attribute a "values" apos) [] [] cpos) (iVals f) := by
  refine PI.imp (pi_valsD ha hbase hline) ?_
  rintro σ H Q ⟨F, G, O, ρ, ts, hZ, R, P⟩
  refine ⟨F, G, O, ρ, ts, hZ, R, ?_⟩
  unfold iVals M.bind at P
  cases e : f ρ with
  | bad => rw [e] at P; exact P
  | exc C fs ρ' => rw [e] at P; exact P
  | ok v ρ1 =>
    rw [e] at P
    intro G1 O1 H1 x R1
    cases v with
    | dct o kvs =>
      obtain ⟨G2, O2, p, es, kx, vx, R2, rfl, D, ga, h1, h2, l⟩ := R1.frzDct
      have l2 : vx.length = es.2.length := by have := D.2.2.2.length; simpa using this
      exact ⟨p, rfl, es, kx, vx, D, P _ _ _ _ [] (by simpa using R2) (wk_at (F := F.at G2) ga h2 l2)⟩
    | _ => exact P.elim
theorem ij_items {elts : List Expr} {kk : Nat} {tpos : Pos} (ha : EJ X io W a f) (hbase : attributeBase a "items" X.env (eval a X.env) = eval a X.env := by rfl) (hline : (apos.endLine == cpos.line) = true := by rfl) :
    IJ X io W (.Tuple elts kk tpos) (.Call (.Attribute a "items" apos) [] [] cpos) (iItems f) := by
  refine PI.imp (pi_itemsD ha hbase hline) ?_
  rintro σ H Q ⟨F, G, O, ρ, ts, hZ, R, P⟩
  refine ⟨F, G, O, ρ, ts, hZ, R, ?_⟩
  unfold iItems M.bind at P
  cases e : f ρ with
  | bad => rw [e] at P; exact P
  | exc C fs ρ' => rw [e] at P; exact P
  | ok v ρ1 =>
    rw [e] at P
    intro G1 O1 H1 x R1
    cases v with
    | dct o kvs =>
      obtain ⟨G2, O2, p, es, kx, vx, R2, rfl, D, ga, h1, h2, l⟩ := R1.frzDct
      exact ⟨p, rfl, es, kx, vx, D, P _ _ _ _ [] (by simpa using R2) (wk_pairs (F := F.at G2) ga h1 h2 l)⟩
    | _ => exact P.elim
end
end Wv

set_option Elab.async false
set_option linter.all false
set_option autoImplicit false
set_option maxRecDepth 100000
/-! WvZ: enumerate. -/
namespace Wv
open PySem PySem.Spec PyProof.Rows L2

/-- the tuple at a, each item in a new pair -/
def Itet (K : PySem.W.Frag) (a : Addr) : It :=
  ⟨fun i H => ∃ (xs : List V) (x : V), SqT K H a xs ∧ xs[i]? = some x, fun i H v H' => ∃ T x, v = .ref T ∧ H T = none ∧ H' = upd H T (.tup [.int (i : Nat), x]) ∧ ∀ xs, SqT K H a xs → xs[i]? = some x, fun i H => ∃ xs : List V, SqT K H a xs ∧ xs.length ≤ i⟩
theorem turn_enumT {P : Program} {w : World} {K : PySem.W.Frag} {elts : List Expr} {kk : Nat} {tpos : Pos} (a e it : Addr) :
    Turn P w K (.Tuple elts kk tpos) (Itet K a) [e, it] e (fun i h => (∃ old, IsEnum h e it ((i : Nat) : Int) old) ∧ h.IsTupleIter it a i ∧ e ≠ it) where
  mem := by simp
  obj := fun i h st b hb => by
    obtain ⟨⟨old, he⟩, ⟨o, ho, hc, hd⟩, _⟩ := st
    have e' : b = e ∨ b = it := by simpa using hb
    rcases e' with z | z
    · rw [z]; exact ⟨_, he, fun v q => nomatch q⟩
    · rw [z]; exact ⟨o, ho, fun v q => by rw [hd] at q; cases q⟩
  keep := fun i h h' st k => let ⟨⟨old, he⟩, hi, hne⟩ := st; ⟨⟨old, k e (by simp) _ he⟩, hi.at fun o q => k it (by simp) o q, hne⟩
  item := by
    intro X hP hw hK hc i pins s σ H E I hf st hg
    subst hP hw hK
    obtain ⟨⟨old, he⟩, hit, hne⟩ := st
    obtain ⟨xs, x, hq, hx⟩ := hg
    obtain ⟨its, rv, p, hz⟩ := I.tuple hq
    obtain ⟨u, hu, ru⟩ := rv.get hx
    have hT0 : s.heap.IsTuple a its.toArray := p
    have hel : e < s.heap.objs.size := Heap.lt_size he
    have hil : it < s.heap.objs.size := by obtain ⟨_, q, _⟩ := hit; exact Heap.lt_size q
    have hnea : a ≠ it := fun z => by
      obtain ⟨o1, e1, c1, _⟩ := hit
      obtain ⟨o2, e2, c2, _⟩ := hT0
      rw [z, e1] at e2
      cases e2
      rw [c1] at c2
      injection c2 with c3
      exact absurd c3 (by decide)
    have hea : a ≠ e := fun z => by
      obtain ⟨o2, e2, c2, _⟩ := hT0
      rw [z] at e2
      have := he.symm.trans e2
      cases this
      injection c2 with c3
      exact absurd c3 (by decide)
    refine wpAny_pyNext_enum_itemD (Draws.tuple (A := X.A.in1) (I.ok.hd hc) it a hnea its.toArray) he ⟨hit, hT0⟩ (i := i) ?_ hne ?_ fun x' h' tk hP ho hst hT hsz hk => ?_
    · have := List.getElem?_eq_some_iff.mp hu
      simpa using this.1
    · simp [hne, hea.symm]
    have hxu : x' = u := by
      have : its.toArray[i]? = some x' := hP
      rw [List.getElem?_toArray, hu] at this
      cases this
      rfl
    subst hxu
    refine ⟨_, rfl, wpAny_letOwnedTupleGo_enum (s := { s with heap := h', toks := tk + 1 }) ho fun h'' he' sb => ?_⟩
    have hT2 : h''.get? s.heap.objs.size = some { cls := .type "tuple", data := .seq #[.int i tk, x'] } := (sb.2 _ (Nat.ne_of_gt hel)).trans hT
    have new : ObjOk X.prog X.w (upd H s.heap.objs.size (.tup [.int (i : Nat), x])) h'' s.heap.objs.size (.tup [.int (i : Nat), x]) :=
      ⟨by show 2 ≤ sizeLine; decide, [.int i tk, x'], .cons ⟨_, rfl⟩ (.cons ru .nil), ⟨_, hT2, rfl, _, rfl⟩⟩
    have I1 : L2.Inv X pins σ (upd H s.heap.objs.size (.tup [.int (i : Nat), x])) { s with heap := h'', toks := tk + 1 } :=
      I.turnedNew (ch := [e, it]) (fun b ob hb q => (sb.2 b (fun z => hb (by simp [z]))).trans (hk b ob (fun z => hb (by simp [z])) (fun z => hb (by simp [z])) q)) hf (Nat.le_refl _) new
    refine ⟨.ref s.heap.objs.size, _, I1, rfl, ⟨_, x, rfl, I.hok.fresh (Nat.le_refl _), rfl, fun ys hy => by rw [I.tuple_inj hy hq]; exact hx⟩, ⟨⟨x', ?_⟩, hst.1.at fun o q => (sb.2 it (Ne.symm hne)).trans q, hne⟩, fun b hb => ?_⟩
    · have e1 : ((i + 1 : Nat) : Int) = (i : Int) + 1 := by omega
      rw [e1]; exact he'
    · have hb' : b < s.heap.objs.size := by
        have e' : b = e ∨ b = it := by simpa using hb
        rcases e' with z | z
        · rw [z]; exact hel
        · rw [z]; exact hil
      rw [upd_ne (Nat.ne_of_lt hb')]
      exact (hf b hb).1
  done := by
    intro X hP hw hK hc i pins s σ H E I hf st hg
    subst hP hw hK
    obtain ⟨⟨old, he⟩, hit, hne⟩ := st
    obtain ⟨xs, hq, hx⟩ := hg
    obtain ⟨its, rv, p, hz⟩ := I.tuple hq
    have hT0 : s.heap.IsTuple a its.toArray := p
    obtain ⟨f0, f1, f2, f3, f4, f5⟩ := hf it (by simp)
    have hl := rv.length
    have hT : s.TypeIs (.ref e) "enumerate" := ⟨_, he, rfl⟩
    unfold pyNext
    refine wpAny_bind (wpAny_attempt (wpAny_callSpecial?_slot (name := Str.ofString "__next__") hT F.slot_enumerate_next
      (wpAny_call_entry F.slot_enumerate_next hT F.entry_enumerate_next ?_ (F.args_enumerate_next_1 _))))
    show wpAny _ _ (field (.ref e) 2 >>= _) _ _ _
    refine wpAny_bind (wpAny_field he rfl (x := .ref it) rfl ?_)
    refine wpAny_bind (wpAny_nextOf_tuple_end (I.ok.hd hc) hit hT0 (by simp; omega) fun h' x he' hx' => ?_)
    obtain ⟨o, ho, hc'⟩ := hx'
    refine wpAny_bind (wpAny_isInstance (T := "StopIteration") (b := true) ⟨o, ho, hc'⟩ isSubtype_stop ?_)
    exact wpAny_pure ⟨rfl, I.turned (t' := s.toks) (fun b o hb q => he' b o hb q) f0 f1 f3 f4 f5⟩
  self := fun A i s Q E st h => let ⟨⟨_, he⟩, _⟩ := st; wpAny_pyIter_enum he h
theorem meets_enumT (l : Addr) (items : Array Value) (n : Nat) (dct : Option Addr) (sl : Array (Option Value)) :
    Meets (Builtin.«enumerate.__new__» ⟨[.type "enumerate", .ref l], []⟩) (fun _ R s => s.heap.get? l = some { cls := .type "tuple", dict := dct, data := .seq items n, slots := sl } ∧
      R (.ok (.ret (.ref (s.heap.push { cls := .type "tuple_iterator", data := .fields #[.ref l, .int 0 0] }).objs.size)))
        { s with heap := (s.heap.push { cls := .type "tuple_iterator", data := .fields #[.ref l, .int 0 0] }).push { cls := .type "enumerate", data := .fields #[.none, .bool false, .ref s.heap.objs.size, rawInt 0, .none, .none] } }) :=
  .of_wp fun prog w A R s h => by
    obtain ⟨hp, g, d, tk, os⟩ := s
    obtain ⟨hl, h⟩ := h
    have hsub := sub_enumerate
    have hL : Heap.IsTuple (Shared.heap ⟨hp, g, d, tk, os⟩) l items := ⟨_, hl, rfl, n, rfl⟩
    wp_walk using AutoSeq1.wpAny_loadPart' hl
    refine wpAny_stack_any fun st => wpAny_pure ?_
    split
    · rename_i c _ _ _ _ _
      cases (c == Value.type "enumerate")
      · wp_walk using AutoSeq1.wpAny_loadPart' hl, wpAny_pyIter_tuple hL
        exact ⟨_, rfl, h⟩
      · wp_walk using AutoSeq1.wpAny_loadPart' hl, wpAny_pyIter_tuple hL
        exact ⟨_, rfl, h⟩
    · wp_walk using AutoSeq1.wpAny_loadPart' hl, wpAny_pyIter_tuple hL
      exact ⟨_, rfl, h⟩
section
variable {prog : Program} {w : World} {A : Around} {E : Value → Shared → Prop} {s : Shared}
theorem call_enumT {l : Addr} {items : Array Value} {Q : Value → Shared → Prop} (hL : s.heap.IsTuple l items)
    (h : ∀ h', IsEnum h' (s.heap.objs.size + 1) s.heap.objs.size 0 .none → h'.IsTupleIter s.heap.objs.size l 0 → h'.objs.size = s.heap.objs.size + 2 →
      (∀ b o, s.heap.get? b = some o → h'.get? b = some o) → Q (.ref (s.heap.objs.size + 1)) { s with heap := h' }) :
    wpAny (model prog w) A (call (.type "enumerate") [.ref l]) Q E s := by
  obtain ⟨⟨c, dct, dt, sl⟩, hl, hc, n, hd⟩ := hL
  replace hc : c = .type "tuple" := hc
  replace hd : dt = .seq items n := hd
  subst hc hd
  refine callType_new F.called_enumerate (by decide) (F.typeCall_enumerate_1 _) (F.newCall_enumerate_1 _) (fun obj => F.args_object_init_2 obj _) F.entry_enumerate_new
    (meets_enumT l items n dct sl) ⟨hl, ?_⟩
  have hz : (s.heap.push { cls := .type "tuple_iterator", data := .fields #[.ref l, .int 0 0] }).objs.size = s.heap.objs.size + 1 := Heap.size_push ..
  show _ ∧ _
  rw [hz]
  have he : IsEnum ((s.heap.push { cls := .type "tuple_iterator", data := .fields #[.ref l, .int 0 0] }).push
      { cls := .type "enumerate", data := .fields #[.none, .bool false, .ref s.heap.objs.size, rawInt 0, .none, .none] }) (s.heap.objs.size + 1) s.heap.objs.size 0 .none := by
    have := Heap.get?_push_size (s.heap.push { cls := .type "tuple_iterator", data := .fields #[.ref l, .int 0 0] })
      (o := { cls := .type "enumerate", data := .fields #[.none, .bool false, .ref s.heap.objs.size, rawInt 0, .none, .none] }) rfl
    rw [hz] at this
    exact this
  exact ⟨⟨_, he, rfl⟩, h _ he ⟨_, Heap.get?_push_of_some _ (Heap.get?_push_size _ rfl), rfl, rfl⟩ (by rw [Heap.size_push, hz]) fun b o x => Heap.get?_push_of_some _ (Heap.get?_push_of_some _ x)⟩
end
def iEnumTI (K : PySem.W.Frag) (ta : TA) : TI := fun σ H R => ta σ H fun vs H1 => ∃ a, vs = [.ref a] ∧ ((∃ xs, SqL K H1 a xs) ∧ R (Ite K a) H1 ∨ (∃ xs, SqT K H1 a xs) ∧ R (Itet K a) H1)
theorem pi_enumA {X : Cx} {e : Expr} {ta : TA} {p pos tpos : Pos} {elts : List Expr} {kk : Nat} (hg : Gl X "enumerate") (hm : X.mg "enumerate" = none) (ha : PA X [e] ta) (hs : starEach [e] X.env = [(false, eval e X.env)] := by rfl) :
    PI X (.Tuple elts kk tpos) (.Call (.Name "enumerate" p) [e] [] pos) (iEnumTI X.K ta) := by
  refine ⟨fun pins s σ H R I h => ?_⟩
  refine Call_ (ld_blt I hg hm boot_enumerate (PyProof.Rows.callWith_type1 (thn (ha.run pos pins s σ H _ I h) fun us s1 ⟨vs, H1, I1, r1, q1⟩ => ?_) hs rfl))
  obtain ⟨a, ex, q1⟩ := q1
  subst ex
  cases r1 with
  | cons r rr =>
    cases rr
    cases r
    have fin : ∀ b ∈ [s1.heap.objs.size + 1, s1.heap.objs.size], FpOk X pins H1 b := fun b hb => by
      have e' : b = s1.heap.objs.size + 1 ∨ b = s1.heap.objs.size := by simpa using hb
      have hle : s1.heap.objs.size ≤ b := by
        rcases e' with z | z
        · rw [z]; exact Nat.le_add_right _ _
        · rw [z]; exact Nat.le_refl _
      exact I1.fpOk hle (I1.hok.fresh hle)
    rcases q1 with ⟨⟨xs, hq⟩, q⟩ | ⟨⟨xs, hq⟩, q⟩
    · obtain ⟨its, rv, p', hz⟩ := I1.list hq
      refine call_enumerate_list p'.isList fun h' he hit hsz hk => wpAny_pyIter_enum he ?_
      exact ⟨s1.heap.objs.size + 1, [s1.heap.objs.size + 1, s1.heap.objs.size], _, _, H1, rfl, I1.kept (t' := s1.toks) hk, turn_enum a (s1.heap.objs.size + 1) s1.heap.objs.size, ⟨⟨.none, he⟩, hit, Nat.succ_ne_self _⟩, fin, q⟩
    · obtain ⟨its, rv, p', hz⟩ := I1.tuple hq
      refine call_enumT (show s1.heap.IsTuple a its.toArray from p') fun h' he hit hsz hk => wpAny_pyIter_enum he ?_
      exact ⟨s1.heap.objs.size + 1, [s1.heap.objs.size + 1, s1.heap.objs.size], _, _, H1, rfl, I1.kept (t' := s1.toks) hk, turn_enumT a (s1.heap.objs.size + 1) s1.heap.objs.size, ⟨⟨.none, he⟩, hit, Nat.succ_ne_self _⟩, fin, q⟩

/-- (0, x0), (1, x1), .. -/
def enumV (xs : List PV) : List PV := xs.zipIdx.map fun p => .tup [.int (p.2 : Nat), p.1]
theorem enumV_get {xs : List PV} {i : Nat} {d : PV} (h : (enumV xs)[i]? = some d) : ∃ x, xs[i]? = some x ∧ d = .tup [.int (i : Nat), x] := by
  unfold enumV at h
  rw [List.getElem?_map, List.getElem?_zipIdx] at h
  cases e : xs[i]? with
  | none => rw [e] at h; cases h
  | some x =>
    rw [e] at h
    simp only [Option.map_some, Option.some.injEq, Nat.zero_add] at h
    exact ⟨x, rfl, h.symm⟩
theorem enumV_length {xs : List PV} : (enumV xs).length = xs.length := by simp [enumV]
theorem push_pair {F : Fr} {G : Hp} {O : Own} {ρ : Sl} {ts : List (PV × V)} {σ : St} {H : Hp} {T : Addr} {i : Nat} {d : PV} {x : V} (R : Rel F G O ρ ts σ H) (hT : H T = none) (r : Rep F.Z G d x) :
    ∃ G2, Rel F G2 O ρ (ts ++ [(.tup [.int (i : Nat), d], .ref T)]) σ (upd H T (.tup [.int (i : Nat), x])) := by
  have R1 := R.layF (o := .tup [.int (i : Nat), x]) hT
  have sg : Sub G (upd G T (.tup [.int (i : Nat), x])) := sub_upd (R.newG hT)
  refine ⟨_, R1.pushF ?_⟩
  simp only [Rep]
  refine ⟨T, [.int (i : Nat), x], rfl, .inl (.inl upd_same), ?_⟩
  simp only [Reps, Rep]
  exact ⟨_, [x], rfl, rfl, x, [], rfl, Rep.sub sg _ _ r, rfl⟩
theorem wk_enumL {F : Fr} {a : Addr} {xs : List PV} : Wk F (Ite F.Z.K a) [(.lst false xs, .ref a)] (enumV xs) := by
  intro G O ρ ts ws σ H R
  have r := R.asF (j := 0) rfl rfl rfl
  simp only [Rep] at r
  obtain ⟨a', vs, e, q, rr⟩ := r
  cases e
  have q' : SqL F.Z.K H a vs := sub_sqL R.gh q
  refine ⟨⟨vs, q', by rw [enumV_length, ← rr.length]; exact Nat.le_refl _⟩, fun i x hx => ?_⟩
  obtain ⟨d, hd, rfl⟩ := enumV_get hx
  obtain ⟨v, hv, rv⟩ := rr.get hd
  refine ⟨⟨vs, v, q', hv⟩, fun y H2 hy => ?_⟩
  obtain ⟨T, w, rfl, hT, rfl, hy⟩ := hy
  have := hy vs q'
  rw [hv] at this
  cases this
  exact push_pair R hT rv
theorem wk_enumT {F : Fr} {a : Addr} {xs : List PV} : Wk F (Itet F.Z.K a) [(.tup xs, .ref a)] (enumV xs) := by
  intro G O ρ ts ws σ H R
  have r := R.asF (j := 0) rfl rfl rfl
  simp only [Rep] at r
  obtain ⟨a', vs, e, q, rr⟩ := r
  cases e
  have q' : SqT F.Z.K H a vs := sub_sqT R.gh q
  refine ⟨⟨vs, q', by rw [enumV_length, ← rr.length]; exact Nat.le_refl _⟩, fun i x hx => ?_⟩
  obtain ⟨d, hd, rfl⟩ := enumV_get hx
  obtain ⟨v, hv, rv⟩ := rr.get hd
  refine ⟨⟨vs, v, q', hv⟩, fun y H2 hy => ?_⟩
  obtain ⟨T, w, rfl, hT, rfl, hy⟩ := hy
  have := hy vs q'
  rw [hv] at this
  cases this
  exact push_pair R hT rv
def iEnum (f : M PV) : M (List PV) := M.bind f fun v => match v with
  | .tup xs => M.ret (enumV xs)
  | .lst _ xs => M.ret (enumV xs)
  | _ => bad
section
variable {X : Cx} {io : List Nat} {W : WX} {a : Expr} {f : M PV} {pos : Pos}
theorem ij_enum {p tpos : Pos} {elts : List Expr} {kk : Nat} (hg : Gl X "enumerate") (hm : X.mg "enumerate" = none) (ha : EJ X io W a f) (hs : starEach [a] X.env = [(false, eval a X.env)] := by rfl) :
    IJ X io W (.Tuple elts kk tpos) (.Call (.Name "enumerate" p) [a] [] pos) (iEnum f) := by
  refine PI.imp (pi_enumA hg hm (pa_cons ha pa_nil hs) hs) ?_
  rintro σ H Q ⟨F, G, O, ρ, ts, hZ, R, P⟩
  refine IT.bindU (us := []) hZ (by simpa using R) P fun G1 O1 H1 ρ1 v x R1 P1 => ?_
  rw [List.append_nil] at R1
  cases v with
  | tup xs =>
    obtain ⟨p, vs, rfl, q, r⟩ := repO_tup R1.gh R1.top
    rw [hZ] at q
    refine ⟨p, rfl, .inr ⟨⟨vs, q⟩, ?_⟩⟩
    have w : Wk (F.at G1) (Itet F.Z.K p) [(.tup xs, .ref p)] (enumV xs) := wk_enumT
    rw [hZ] at w
    exact P1 _ _ _ _ _ R1 w
  | lst o xs =>
    obtain ⟨R2, r2⟩ := R1.frzTop (d := .lst o xs) rfl
    have r2' : Rep F.Z (frzG O1 H1 G1 (ρ1.length + ts.length)) (.lst false xs) x := by cases o <;> exact r2
    have R2' : Rel F (frzG O1 H1 G1 (ρ1.length + ts.length)) (frzO O1 (ρ1.length + ts.length)) ρ1 (ts ++ [(.lst false xs, x)]) σ H1 := by cases o <;> exact R2
    simp only [Rep] at r2'
    obtain ⟨p, vs, rfl, q, r⟩ := r2'
    have w : Wk (F.at (frzG O1 H1 G1 (ρ1.length + ts.length))) (Ite F.Z.K p) [(.lst false xs, .ref p)] (enumV xs) := wk_enumL
    rw [hZ] at w q
    exact ⟨p, rfl, .inl ⟨⟨vs, sub_sqL R2'.gh q⟩, P1 _ _ _ _ _ R2' w⟩⟩
  | _ => exact P1.elim
end
end Wv

set_option Elab.async false
set_option linter.all false
set_option autoImplicit false
set_option maxRecDepth 100000
/-! WwA: len(set(whole numbers)). -/
namespace Wv
open PySem PySem.Spec PyProof.Rows L2

def disI : List Int → List Int
  | [] => []
  | x :: r => if x ∈ disI r then disI r else x :: disI r
theorem mem_disI {k : Int} : ∀ {l : List Int}, k ∈ disI l ↔ k ∈ l
  | [] => Iff.rfl
  | x :: r => by
    unfold disI
    split
    · rename_i h
      rw [mem_disI, List.mem_cons]
      constructor
      · exact .inr
      · rintro (rfl | h')
        · exact mem_disI.mp h
        · exact h'
    · rw [List.mem_cons, List.mem_cons, mem_disI]
theorem nodup_disI : ∀ {l : List Int}, (disI l).Nodup
  | [] => List.nodup_nil
  | x :: r => by
    unfold disI
    split
    · exact nodup_disI
    · exact List.nodup_cons.mpr ⟨by assumption, nodup_disI⟩
def PV.ints : List PV → Option (List Int)
  | [] => some []
  | .int i :: r => (PV.ints r).map (i :: ·)
  | _ => none
theorem ints_rep {Z : Zt} {G : Hp} : ∀ {ds : List PV} {ns : List Int} {xs : List V}, PV.ints ds = some ns → Reps Z G ds xs → xs = ns.map V.int
  | [], ns, xs, h, r => by
    simp only [PV.ints, Option.some.injEq] at h
    simp only [Reps] at r
    subst h r
    rfl
  | d :: ds, ns, xs, h, r => by
    simp only [Reps] at r
    obtain ⟨v, q, rfl, r1, r2⟩ := r
    cases d with
    | int i =>
      simp only [PV.ints, Option.map_eq_some_iff] at h
      obtain ⟨m, hm, rfl⟩ := h
      simp only [Rep] at r1
      subst r1
      rw [ints_rep hm r2, List.map_cons]
    | _ => simp only [PV.ints] at h; cases h
def opLenSet : PV → M PV
  | .tup xs => match PV.ints xs with
    | some ns => if decide (ns.length ≤ 1000) then M.ret (.int (disI ns).length) else bad
    | none => bad
  | _ => bad
def rLenSetI (K : PySem.W.Frag) : V → Hp → VK → Prop := fun x H1 Q => ∃ (l : Addr) (ns : List Int), x = .ref l ∧ SqT K H1 l (ns.map V.int) ∧ ns.length ≤ 1000 ∧ Q (.int (disI ns).length) H1
def tLenSetI (K : PySem.W.Frag) (ta : TE) : TE := fun σ H Q => ta σ H fun x H1 => rLenSetI K x H1 Q
section
variable {X : Cx} {io : List Nat} {W : WX} {f : M PV}
theorem pe_lenSetI {a : Expr} {ta : TE} {p p2 q pos : Pos} (hc : X.calm = true) (hg : Gl X "len") (hm : X.mg "len" = none) (hg2 : Gl X "set") (hm2 : X.mg "set" = none) (ha : PE X a ta)
    (na : starEach [a] X.env = (false, eval a X.env) :: starEach [] X.env := by rfl) : PE X (.Call (.Name "len" p) [.Call (.Name "set" p2) [a] [] q] [] pos) (tLenSetI X.K ta) := by
  refine ⟨fun pins s σ H Q I h => ?_⟩
  refine Call_ (ld_blt I hg hm boot_len ?_)
  refine PyProof.Rows.callWith_builtin1 (PyProof.Rows.args_cons ?_ rfl) rfl rfl
  refine Call_ (ld_blt I hg2 hm2 boot_set ?_)
  refine PyProof.Rows.callWith_type1 (PyProof.Rows.args_cons (thn (ha.run pins s σ H _ I h) fun v s1 ⟨x, H1, I1, r1, q1⟩ => PyProof.Rows.args_nil ?_) na) na rfl
  obtain ⟨l, ns, rfl, hq, hl, q1⟩ := q1
  cases r1
  obtain ⟨its, rv, pt, hz⟩ := I1.tuple hq
  have hi : IntsAre its.toArray.toList ns := ints_of_vals rv
  refine call_set_tupI ns (I1.ok.hd hc) (show s1.heap.IsTuple l its.toArray from pt) hi (by unfold scanBound; omega) fun h' tk c R1 hcn k => ?_
  obtain ⟨o, es, ep, t, ho, hex, hdt, g, nd, hm2, hb, hf, hn, hr, hl2⟩ := R1
  refine PyProof.Rows.args_nil ?_
  have I2 : L2.Inv X pins σ H1 { s1 with heap := h', toks := tk } := I1.kept fun b o e => k b o e
  have hp : (es.toList.map keyOf).Perm (disI ns) := (List.perm_ext_iff_of_nodup nd nodup_disI).mpr fun j => by
    rw [← hm2 j, decide_eq_true_eq, mem_disI]
  have hs : es.size = (disI ns).length := by
    have := hp.length_eq
    simpa using this
  refine call_len_set ho hex hdt hf (by rw [hn]; omega) ⟨.int (disI ns).length, H1, I2.tok _, ⟨_, by rw [hs]⟩, q1⟩
theorem us_lenSet : UnS (X.zt io) W (rLenSetI X.K) opLenSet := fun F G O ρ ts σ H Q dx x k hZ R hx P1 => by
  cases dx with
  | tup xs =>
    unfold opLenSet at P1
    simp only at P1
    cases e : PV.ints xs with
    | none => rw [e] at P1; exact P1.elim
    | some ns =>
      rw [e] at P1
      simp only at P1
      split at P1
      · rename_i hl
        obtain ⟨p, vs, rfl, q, r⟩ := repO_tup R.gh hx
        rw [hZ] at q
        rw [ints_rep e r] at q
        exact ⟨p, ns, rfl, q, of_decide_eq_true hl, P1.val R (by simp only [Rep])⟩
      · exact P1.elim
  | _ => exact P1.elim
theorem ej_lenSet {a : Expr} {p p2 q pos : Pos} (hc : X.calm = true) (hg : Gl X "len") (hm : X.mg "len" = none) (hg2 : Gl X "set") (hm2 : X.mg "set" = none) (ha : EJ X io W a f)
    (na : starEach [a] X.env = (false, eval a X.env) :: starEach [] X.env := by rfl) : EJ X io W (.Call (.Name "len" p) [.Call (.Name "set" p2) [a] [] q] [] pos) (eUn opLenSet f) := by
  exact PE.imp (pe_lenSetI hc hg hm hg2 hm2 ha na) fun σ H Q h => t_un' us_lenSet h
end
end Wv

set_option Elab.async false
set_option linter.all false
set_option autoImplicit false
set_option maxRecDepth 100000
/-! WwB: starred items; op= on an item, on a name; texts walked. -/
namespace Wv
open PySem PySem.Spec PyProof.Rows L2

theorem reps_free {Z : Zt} {G : Hp} : ∀ {ds : List PV} {xs : List V}, Reps Z G ds xs → ∀ d ∈ ds, d.own = false ∧ d.isE = false
  | [], _, _ => fun d h => by cases h
  | d :: ds, xs, h => by
    simp only [Reps] at h
    obtain ⟨v, r, rfl, h1, h2⟩ := h
    intro e he
    rcases List.mem_cons.mp he with rfl | he
    · exact rep_free h1
    · exact reps_free h2 e he
theorem Rel.asReps {F : Fr} {G : Hp} {O : Own} {ρ : Sl} {σ : St} {H : Hp} : ∀ {ds : List PV} {xs : List V} {ts ws : List (PV × V)}, Rel F G O ρ (ts ++ ds.zip xs ++ ws) σ H → ds.length = xs.length → (∀ d ∈ ds, d.own = false ∧ d.isE = false) → Reps F.Z G ds xs
  | [], [], _, _, _, _, _ => by simp only [Reps]
  | d :: ds, x :: xs, ts, ws, R, l, f => by
    simp only [Reps]
    have h1 : Rep F.Z G d x := by
      obtain ⟨f1, f2⟩ := f d (List.mem_cons_self ..)
      exact R.asF (us := (d :: ds).zip (x :: xs)) (j := 0) rfl f1 f2
    have R2 : Rel F G O ρ (ts ++ [(d, x)] ++ ds.zip xs ++ ws) σ H := by
      have e : ts ++ [(d, x)] ++ ds.zip xs ++ ws = ts ++ (d :: ds).zip (x :: xs) ++ ws := by simp
      rw [e]
      exact R
    exact ⟨x, xs, rfl, h1, R2.asReps (by simpa using l) fun e he => f e (List.mem_cons_of_mem _ he)⟩
def aStar (f : M PV) (g : M (List PV)) : M (List PV) := M.bind f fun v => match v with
  | .tup xs => M.bind g fun ys => M.ret (xs ++ ys)
  | .lst _ xs => M.bind g fun ys => M.ret (xs ++ ys)
  | _ => bad
section
variable {X : Cx} {io : List Nat} {W : WX} {a : Expr} {es : List Expr} {f u v : M PV} {g : M (List PV)} {p : Pos}
theorem aj_star (ha : EJ X io W a f) (hr : AJ X io W es g) (hs : starEach (.Starred a p :: es) X.env = (true, eval a X.env) :: starEach es X.env := by rfl) : AJ X io W (.Starred a p :: es) (aStar f g) := by
  refine PA.imp (StX.pa_star ha hr hs) ?_
  rintro σ H Q ⟨F, G, O, ρ, ts, hZ, R, P⟩
  refine AT.bindK (us := []) hZ (by simpa using R) P fun G1 O1 H1 ρ1 w x R1 P1 => ?_
  rw [List.append_nil] at R1
  have fin : ∀ (G2 : Hp) (O2 : Own) (xs : List PV) (vs : List V), Rel F G2 O2 ρ1 ts σ H1 → Reps F.Z G2 xs vs → PostA W F ts σ Q (M.bind g (fun ys => M.ret (xs ++ ys)) ρ1) → TAr (X.zt io) W g σ H1 (fun ys H2 => Q (vs ++ ys) H2) := fun G2 O2 xs vs R2 r P2 => by
    have l := r.length
    refine AA.bindU (us := xs.zip vs) hZ (R2.pushAll r) P2 fun G3 O3 H3 ρ3 ds ws r3 R3 P3 => ?_
    have r2 : Reps F.Z G3 xs vs := R3.asReps l (reps_free r)
    refine P3 G3 O3 H3 (vs ++ ws) (r2.append r3) ?_
    rw [List.zip_append l, ← List.append_assoc]
    exact R3
  cases w with
  | tup xs =>
    obtain ⟨q, vs, rfl, hq, r⟩ := repO_tup R1.gh R1.top
    rw [hZ] at hq
    exact ⟨q, vs, rfl, .inl hq, fin _ _ xs vs R1.pop r P1⟩
  | lst o xs =>
    obtain ⟨R2, r2⟩ := R1.frzTop (d := .lst o xs) rfl
    have r2' : Rep F.Z (frzG O1 H1 G1 (ρ1.length + ts.length)) (.lst false xs) x := by cases o <;> exact r2
    simp only [Rep] at r2'
    obtain ⟨q, vs, rfl, hq, r⟩ := r2'
    rw [hZ] at hq
    exact ⟨q, vs, rfl, .inr (sub_sqL R2.gh hq), fin _ _ xs vs R2.pop r P1⟩
  | _ => exact P1.elim

/-! ### d[k] op= e: a list of whole numbers, k from the start -/
def rGetI : V → V → Hp → VK → Prop := fun o i H Q => ∃ p xs, ∃ n : Nat, ∃ z, o = .ref p ∧ i = .int n ∧ (n : Int) < 2 ^ 63 ∧ H p = some (.lst xs) ∧ xs[n]? = some z ∧ Q z H
theorem get_listI : PGet X rGetI := by
  intro pins s σ H o i ov iv Q I ro ri h
  obtain ⟨q, xs, n, z, rfl, rfl, hn, hq, hz, k⟩ := h
  cases ro
  obtain ⟨t, rfl⟩ := ri
  obtain ⟨its, c, rv, e, _⟩ := I.lst hq
  obtain ⟨w, hw, rw'⟩ := rv.get hz
  exact wpAny_getItem_list ⟨_, e, rfl, c, rfl⟩ (Int.natCast_nonneg n) hn (by simpa using hw) ⟨z, H, I, rw', k⟩
def sAugI (op : Int → Int → Int) (i : Nat) (k e : M PV) : SM := fun ρ0 => match ρ0[i]? with
  | some (some _) => sE k (fun kd ρ1 => match kd, ρ1[i]? with
    | .int n, some (some (.lst true xs)) => if decide (0 ≤ n) && decide (n < 9223372036854775808) then match xs[n.toNat]? with
        | some (.int a) => sE e (fun w ρ2 => match w, ρ2[i]? with
          | .int b, some (some (.lst true ys)) => if decide (n.toNat < ys.length) then .nx (ρ2.set i (some (.lst true (ys.set n.toNat (.int (op a b)))))) else .bad
          | _, _ => .bad) ρ1
        | _ => .bad
      else .bad
    | _, _ => .bad) ρ0
  | _ => .bad
theorem sj_augI {x : Str} {px tpos pos : Pos} {k e : Expr} {i : Nat} {o : Operator} {op : Int → Int → Int} (hp : PIp X o (ipI op)) (hN : X.N[i]? = some x) (hv : Vis X.env.scope x) (hk : EJ X io W k u) (he : EJ X io W e v)
    (ha : ∀ ov iv new, augStore k ov iv new = (do holding [new, ov, iv] (setItem ov iv new); release [new, ov, iv] []; pure .next) := by intros; rfl)
    (hd : (x == ("__debug__" : Str)) = false := by decide) (hcd : (x == ("__classdict__" : Str)) = false := by decide) : SJ X io W (.AugAssign (.Subscript (.Name x px) k tpos) o e pos) (sAugI op i u v) := by
  refine PS.imp (ps_augS (pe_var hN hv hd hcd) hk get_listI he hp set_list ha) ?_
  rintro D σ H ⟨F, G, O, ρ, ts, hZ, R, P⟩
  unfold sAugI at P
  split at P
  · rename_i d0 e0
    obtain ⟨z, hz, _⟩ := R.sl i _ e0
    refine ⟨z, hz, ?_⟩
    refine ST.bindK hZ R P fun G1 O1 H1 ρ1 kd y R1 P1 => ?_
    split at P1
    · rename_i n xs e1
      split at P1
      · rename_i hn
        rw [Bool.and_eq_true, decide_eq_true_eq, decide_eq_true_eq] at hn
        split at P1
        · rename_i a ea
          obtain rfl := repO_int R1.top
          obtain ⟨z1, hz1, r1⟩ := R1.sl i _ e1
          rw [hz] at hz1
          cases hz1
          obtain ⟨q, vs, rfl, oa, hq, r⟩ := own_lst r1
          obtain ⟨w0, hw0, rw0⟩ := r.get ea
          simp only [Rep] at rw0
          subst rw0
          refine ⟨q, vs, n.toNat, .int a, rfl, by rw [Int.toNat_of_nonneg hn.1], by omega, hq, hw0, ?_⟩
          refine ST.bindK hZ R1.pop P1 fun G2 O2 H2 ρ2 w yw R2 P2 => ?_
          split at P2
          · rename_i b ys e2
            split at P2
            · rename_i hlt
              obtain rfl := repO_int R2.top
              obtain ⟨z2, hz2, r2⟩ := R2.sl i _ e2
              rw [hz] at hz2
              cases hz2
              obtain ⟨q2, vs2, e3, oa2, hq2, r3⟩ := own_lst r2
              cases e3
              have l3 := r3.length
              have hlt := of_decide_eq_true hlt
              refine ⟨a, b, rfl, rfl, ⟨q, vs2, n, n.toNat, rfl, rfl, hq2, ?_, ?_⟩⟩
              · unfold ixN; rw [if_pos hn.1, if_pos (by omega)]
              · refine P2 _ _ _ _ (R2.pop.relist e2 hz rfl oa2 (Reps.set ?_ n.toNat r3))
                simp only [Rep]
            · exact P2.elim
          · exact P2.elim
        · exact P1.elim
      · exact P1.elim
    · exact P1.elim
  · exact P.elim
/-! ### x op= e, whole numbers -/
def sAugN (op : Int → Int → Int) (i : Nat) (e : M PV) : SM := fun ρ0 => match ρ0[i]? with
  | some (some (.int a)) => sE e (fun w ρ => match w with
    | .int b => if i < ρ.length then .nx (ρ.set i (some (.int (op a b)))) else .bad
    | _ => .bad) ρ0
  | _ => .bad
theorem sj_augN {x : Str} {px pos : Pos} {e : Expr} {i : Nat} {o : Operator} {op : Int → Int → Int} (hp : PIp X o (ipI op)) (hNd : X.N.Nodup) (hN : X.N[i]? = some x) (hv : Loc X.env.scope x) (he : EJ X io W e v) (hio : i ∉ io)
    (hf : X.fn x = true ∨ X.env.scope.names.lookup x = some .local := by first | exact .inl rfl | exact .inr rfl | assumption) : SJ X io W (.AugAssign (.Name x px) o e pos) (sAugN op i v) := by
  refine PS.imp (ps_aug hNd hN hv he hp hf) ?_
  rintro D σ H ⟨F, G, O, ρ, ts, hZ, R, P⟩
  unfold sAugN at P
  split at P
  · rename_i a e0
    obtain ⟨z, hz, r0⟩ := R.sl i _ e0
    obtain rfl := repO_int r0
    refine ⟨_, hz, ?_⟩
    refine ST.bindK hZ R P fun G1 O1 H1 ρ1 w y R1 P1 => ?_
    split at P1
    · rename_i b
      split at P1
      · rename_i hl
        obtain rfl := repO_int R1.top
        have R2 := R1.pop.pushF (d := .int (op a b)) (x := .int (op a b)) (by simp only [Rep])
        exact ⟨a, b, rfl, rfl, P1 _ _ _ _ (R2.store hl (by rw [hZ]; exact hio))⟩
      · exact P1.elim
    · exact P1.elim
  · exact P.elim
end
end Wv

set_option Elab.async false
set_option linter.all false
set_option autoImplicit false
set_option maxRecDepth 100000
/-! WwC: f(k = v, ..), all by keyword. -/
namespace Wv
open PySem PySem.Spec PyProof.Rows L2

def pick {α : Type} (pm : List Nat) (xs : List α) : List α := pm.filterMap fun i => xs[i]?
theorem pick_vals {xs : List V} {us : List Value} (h : Vals xs us) : ∀ pm : List Nat, Vals (pick pm xs) (pick pm us)
  | [] => .nil
  | i :: pm => by
    have ih := pick_vals h pm
    unfold pick at ih ⊢
    cases e : xs[i]? with
    | none =>
      rw [List.filterMap_cons_none e, List.filterMap_cons_none (Vals.none_of h e)]
      exact ih
    | some x =>
      obtain ⟨u, e2, r⟩ := h.get e
      rw [List.filterMap_cons_some e, List.filterMap_cons_some e2]
      exact .cons r ih
theorem reps_none {Z : Zt} {G : Hp} {ds : List PV} {xs : List V} {i : Nat} (h : Reps Z G ds xs) (e : ds[i]? = none) : xs[i]? = none := by
  have := h.length
  rw [List.getElem?_eq_none_iff] at e ⊢
  omega
theorem pick_reps {Z : Zt} {G : Hp} {ds : List PV} {xs : List V} (h : Reps Z G ds xs) : ∀ pm : List Nat, Reps Z G (pick pm ds) (pick pm xs)
  | [] => by simp only [pick, List.filterMap_nil, Reps]
  | i :: pm => by
    have ih := pick_reps h pm
    unfold pick at ih ⊢
    cases e : ds[i]? with
    | none =>
      rw [List.filterMap_cons_none e, List.filterMap_cons_none (reps_none h e)]
      exact ih
    | some d =>
      obtain ⟨x, e2, r⟩ := h.get e
      rw [List.filterMap_cons_some e, List.filterMap_cons_some e2]
      simp only [Reps]
      exact ⟨x, _, rfl, r, ih⟩
theorem pick_length {α : Type} {xs : List α} : ∀ {pm : List Nat}, (∀ i ∈ pm, i < xs.length) → (pick pm xs).length = pm.length
  | [], _ => rfl
  | i :: pm, h => by
    have ih := pick_length (pm := pm) fun j hj => h j (List.mem_cons_of_mem _ hj)
    unfold pick at ih ⊢
    rw [List.filterMap_cons_some (List.getElem?_eq_getElem (h i (List.mem_cons_self ..))), List.length_cons, ih, List.length_cons]
/-- how a call with nothing but keywords binds -/
structure KwB (fd : FuncData) (ps ks : List Str) (pm : List Nat) : Prop where
  to : ∀ (s : Shared) (ws : List Value), ws.length = ks.length → BindsTo s fd ⟨[], ks.zip ws⟩ (ps.zip (pick pm ws))
theorem kwB_of {K : PySem.W.Frag} {x qual : Str} {params : Arguments} {body : List Stmt} {scope : Scope} {kws : List (Str × V)} {f : Addr} {fd : FuncData} {ps ks : List Str} {pm : List Nat} (F : FunD K x qual params body scope [] kws f fd)
    (h : ∀ (kV doc pm' : Value) (an : Option Addr) (cdv ct : Value) (ws : List Value), ws.length = ks.length → bindArgs (PySem.W.fnOf x qual params body scope .none kV doc pm' an cdv ct) ⟨[], ks.zip ws⟩ = pure (ps.zip (pick pm ws))) : KwB fd ps ks pm := by
  obtain ⟨oc, od, dV, kV, doc, pm', an, cdv, ct, osl, rfl, lk, hcd, hD, hK⟩ := F.ex
  rcases hD with ⟨_, rfl⟩ | ⟨e, _⟩
  · exact ⟨fun s ws l => .of_eq (h kV doc pm' an cdv ct ws l)⟩
  · exact absurd rfl e
def tCallKG (sp : Sp) (pm : List Nat) (W : WX) (n : Nat) (t : TA) : TE := fun σ H Q => t σ H fun zs H2 => zs.length = n ∧ sp (pick pm zs) H2 Q (WE W σ)
def eCallK (n : Nat) (pm : List Nat) (sem : List PV → FRes) (g : M (List PV)) : M PV := M.bind g fun ds => if ds.length = n then callR (List.replicate pm.length .f) [] [] sem (pick pm ds) else bad
def KJ (X : Cx) (io : List Nat) (W : WX) (kws : List Keyword) (g : M (List PV)) : Prop := PK X kws (TAr (X.zt io) W g)
section
variable {X : Cx} {io : List Nat} {W : WX} {a : Expr} {f : M PV} {g : M (List PV)} {kws : List Keyword} {nm : Option Str} {kpos p pos : Pos} {k np : Nat} {fa : Addr} {fd : FuncData} {ps ks N : List Str} {pm : List Nat} {sem : List PV → FRes} {x : Str}
theorem t_cons {σ : St} {H : Hp} {Q : List V → Hp → Prop} (h : TAr (X.zt io) W (aCons f g) σ H Q) : tCons (T (X.zt io) W f) (TAr (X.zt io) W g) σ H Q := by
  obtain ⟨F, G, O, ρ, ts, hZ, R, P⟩ := h
  refine AT.bindK (us := []) hZ (by simpa using R) P fun G1 O1 H1 ρ1 v x R1 P1 => ?_
  by_cases c : v.calm = true
  · have e : frzM v ρ1 = .ok v.frz ρ1 := by unfold frzM; rw [if_pos c]; rfl
    rw [M.bind_ok e] at P1
    rw [List.append_nil] at R1
    obtain ⟨R2, q⟩ := R1.frzTop c
    refine AA.bindU (us := [(v.frz, x)]) hZ R2 P1 fun G3 O3 H3 ρ3 vs xs r3 R3 P3 => ?_
    have e3 : ts ++ [(v.frz, x)] ++ vs.zip xs = ts ++ (v.frz :: vs).zip (x :: xs) := by simp
    rw [e3] at R3
    refine P3 G3 O3 H3 (x :: xs) ?_ R3
    simp only [Reps]
    have q3 : RepO F G3 O3 H3 (ρ3.length + ts.length) v.frz x := R3.tp ts.length (v.frz, x) (by simp)
    exact ⟨x, xs, rfl, repO_frz c q3, r3⟩
  · have e : frzM v ρ1 = .bad := by unfold frzM; rw [if_neg c]; rfl
    unfold M.bind at P1
    rw [e] at P1
    exact P1.elim
theorem kj_nil : KJ X io W [] aNil := ⟨fun pos pins s σ H Q I ⟨F, G, O, ρ, ts, hZ, R, P⟩ => pk_nil.run pos pins s σ H Q I (P G O H [] (by simp only [Reps]) (by simpa using R))⟩
theorem kj_cons (ha : EJ X io W a f) (hr : KJ X io W kws g) : KJ X io W (⟨nm, a, kpos⟩ :: kws) (aCons f g) :=
  ⟨fun pos pins s σ H Q I h => (pk_cons ha hr).run pos pins s σ H Q I (t_cons h)⟩
theorem args_f {Z : Zt} {G : Hp} {σ : St} : ∀ {ds : List PV} {xs : List V}, Reps Z G ds xs → ArgR σ (List.replicate ds.length .f) xs xs ∧ MdOk (List.replicate ds.length .f) ds
  | [], xs, h => by
    simp only [Reps] at h
    subst h
    exact ⟨.nil, .nil⟩
  | d :: ds, xs, h => by
    simp only [Reps] at h
    obtain ⟨v, r, rfl, h1, h2⟩ := h
    obtain ⟨a1, a2⟩ := args_f (σ := σ) h2
    obtain ⟨f1, f2⟩ := rep_free h1
    exact ⟨.f v a1, .f f1 f2 a2⟩
theorem ej_callK (X1 : FnG X.prog X.w X.K X.mg X.base k fa fd ps (spF (X.zt []) N np sem)) (hr : Room k X.A) (gd : X.A.guards = some []) (tk : Takes X W) (hg : Gl X x) (hm : X.mg x = some (.ref fa)) (hk : PySem.W.keepIn X.K (.ref fa) = true) (hb : KwB fd ps ks pm)
    (ha : KJ X io W kws g) (hN : np ≤ N.length := by decide) (hnp : pm.length = np := by rfl) (hpm : ∀ i ∈ pm, i < ks.length := by decide)
    (hall : (backToKw pos (keywordEach kws X.env)).all (·.1.isSome) = true := by rfl) (hks : (backToKw pos (keywordEach kws X.env)).filterMap (·.1) = ks := by rfl) (hdb : (x == ("__debug__" : Str)) = false := by decide)
    (hpl : ((backTo pos (starEach [] X.env)).any (·.1) || (backToKw pos (keywordEach kws X.env)).any (·.1.isNone)) = false := by rfl) : EJ X io W (.Call (.Name x p) [] kws pos) (eCallK ks.length pm sem g) := by
  have pe : PE X (.Call (.Name x p) [] kws pos) (tCallKG (spF (X.zt []) N np sem) pm W ks.length (TAr (X.zt io) W g)) := by
    refine ⟨fun pins s σ H Q I h => ?_⟩
    refine wpAny_Call_Name_kw (ld_glob I hg hm ?_ hdb)
    refine PySem.W.callWith_KW0 (h₀ := X.base) I.ok.mod.kin hk hall ?_ hpl
    refine thn (ha.run pos pins s σ H _ I h) fun ws s2 ⟨zs, H2, I2, rz, l2, q2⟩ => ⟨I2.kIn, ?_⟩
    rw [hks]
    have both := pick_vals rz pm
    refine wpAny_call (codeAny_mono (X1.run X.A X.stack s2 H2 ⟨[], ks.zip ws⟩ (pick pm ws) (pick pm zs) Q (WE W σ) hr gd I2.env0 (hb.to s2 ws (rz.length.symm.trans l2)) both q2) fun r s' hq => ?_)
    match r, hq with
    | .error e, hq => exact passAt tk σ pins H2 s2 e s' I2 hq
    | .ok (.ret u), hq => exact I2.after hq
    | .ok .next, hq => exact False.elim hq
    | .ok .brk, hq => exact False.elim hq
    | .ok .cont, hq => exact False.elim hq
  refine PE.imp pe ?_
  rintro σ H Q ⟨F, G, O, ρ, ts, hZ, R, P⟩
  unfold eCallK at P
  refine ET.bindA (us := []) hZ (by simpa using R) P fun G1 O1 H1 ρ1 ds xs r R1 P1 => ?_
  rw [List.append_nil] at R1
  split at P1
  · rename_i hl
    have hx := r.length
    refine ⟨by omega, ?_⟩
    have rp := pick_reps r pm
    have lp : (pick pm ds).length = pm.length := pick_length fun i hi => by have := hpm i hi; omega
    obtain ⟨ar, mo⟩ := args_f (σ := σ) rp
    rw [lp] at ar mo
    have R2 := R1.drop.pushAll rp
    have := call_core (dvs := []) (N := N) (np := np) hZ R2 ar mo (by
      unfold msOk
      rw [List.all_eq_true]
      intro j hj
      have : slotOf (List.replicate pm.length Md.f) j = none := by
        unfold slotOf
        cases e : (List.replicate pm.length Md.f)[j]? with
        | none => rfl
        | some m =>
          rw [List.getElem?_replicate] at e
          split at e
          · cases e; rfl
          · cases e
      rw [this]
      rfl) (by simp only [Reps]) hN (by simpa using hnp) (fun j hj => by cases hj) P1
    rw [List.append_nil] at this
    exact this
  · exact P1.elim
end
end Wv

set_option Elab.async false
set_option linter.all false
set_option autoImplicit false
set_option maxRecDepth 100000
/-! WxA: what holds behind code: weakest conditions, one equation for each construct. -/
namespace Wv.Z
open Wv
open PySem PySem.Spec PyProof.Rows L2

abbrev _root_.Wv.EQ := Str → List (Str × PV) → Sl → Prop
def WM {α : Type} (f : M α) (ρ : Sl) (Q : α → Sl → Prop) (E : EQ) : Prop := match f ρ with
  | .ok a ρ' => Q a ρ'
  | .exc C fs ρ' => E C fs ρ'
  | .bad => False
def WS (f : SM) (ρ : Sl) (Q : Out → Prop) : Prop := match f ρ with
  | .bad => False
  | o => Q o
def WF (r : FRes) (Q : PV → List (Option PV) → Prop) (E : Str → List (Str × PV) → List (Option PV) → Prop) : Prop := match r with
  | .ok v os => Q v os
  | .exc C fs os => E C fs os
  | .bad => False
/-- what is in a slot -/
def GV (x : Option (Option PV)) (k : PV → Prop) : Prop := match x with
  | some (some d) => k d
  | _ => False
def OV {α : Type} (x : Option α) (k : α → Prop) : Prop := match x with
  | some d => k d
  | none => False
def Cnd (b : Bool) (A B : Prop) : Prop := match b with
  | true => A
  | false => B
/-- k, the slots brought to their plain form ahead of it -/
def NRM {β : Type} (x : β) (k : β → Prop) : Prop := k x
theorem nrm {β : Type} {x : β} {k : β → Prop} : NRM x k = k x := rfl
def _root_.Wv.XQ (Q : Out → Prop) : EQ := fun C fs ρ => Q (.exc C fs ρ)
def _root_.Wv.noE : Str → List (Str × PV) → List (Option PV) → Prop := fun _ _ _ => False
section
variable {α β : Type} {f g h : M PV} {p q : M Bool} {ρ : Sl} {Q : PV → Sl → Prop} {QB : Bool → Sl → Prop} {QA : List PV → Sl → Prop} {QS : Out → Prop} {E : EQ} {u : M (List PV)} {ga : M (List PV)} {i j : Nat} {op op' : PV → PV → M PV} {o1 : PV → M PV} {s t : SM}
theorem gv_some {d : PV} {k : PV → Prop} : GV (some (some d)) k = k d := rfl
theorem ov_some {d : α} {k : α → Prop} : OV (some d) k = k d := rfl
theorem cnd_t {A B : Prop} : Cnd true A B = A := rfl
theorem cnd_f {A B : Prop} : Cnd false A B = B := rfl
theorem cnd_of {b : Bool} {A B : Prop} (h1 : b = true → A) (h2 : b = false → B) : Cnd b A B := by
  cases b with
  | true => exact h1 rfl
  | false => exact h2 rfl
theorem cnd_go {b : Bool} {A B : Prop} (h : b = true) (ha : A) : Cnd b A B := by
  rw [h]
  exact ha
theorem ov_of {x : Option α} {d : α} {k : α → Prop} (e : x = some d) (h : k d) : OV x k := by rw [e]; exact h
theorem wf_ok {v : PV} {os : List (Option PV)} {Q : PV → List (Option PV) → Prop} {E : Str → List (Str × PV) → List (Option PV) → Prop} : WF (.ok v os) Q E = Q v os := rfl
theorem ov_none {k : α → Prop} : OV none k = False := rfl
theorem wf_mono {r : FRes} {P Q : PV → List (Option PV) → Prop} {E : Str → List (Str × PV) → List (Option PV) → Prop} (h : WF r P noE) (k : ∀ v os, P v os → Q v os) : WF r Q E := by
  cases r with
  | ok v os => exact k v os h
  | exc C fs os => exact h.elim
  | bad => exact h
theorem wf_eq {r : FRes} {v : PV} {os : List (Option PV)} (h : WF r (fun v' os' => v' = v ∧ os' = os) noE) : r = .ok v os := by
  cases r with
  | ok v' os' => obtain ⟨rfl, rfl⟩ := h; rfl
  | exc C fs os' => exact h.elim
  | bad => exact h.elim
theorem wm_mono {f : M α} {P R : α → Sl → Prop} {E' : EQ} (h : WM f ρ P E) (k : ∀ v os, P v os → R v os) (ke : ∀ C fs ρ, E C fs ρ → E' C fs ρ) : WM f ρ R E' := by
  unfold WM at h ⊢
  cases e : f ρ with
  | ok v os => rw [e] at h; exact k v os h
  | exc C fs os => rw [e] at h; exact ke _ _ _ h
  | bad => rw [e] at h; exact h
theorem ws_mono {P R : Out → Prop} (h : WS s ρ P) (k : ∀ o, P o → R o) : WS s ρ R := by
  unfold WS at h ⊢
  cases e : s ρ <;> rw [e] at h <;> first | exact k _ h | exact h
/-! ### expressions -/
theorem wm_bind {f : M α} {g : α → M β} {Q : β → Sl → Prop} : WM (M.bind f g) ρ Q E = WM f ρ (fun a ρ' => WM (g a) ρ' Q E) E := by
  unfold WM M.bind
  cases f ρ <;> rfl
theorem wm_ret {a : α} {Q : α → Sl → Prop} : WM (M.ret a) ρ Q E = Q a ρ := rfl
theorem wm_ofO {x : Option α} {Q : α → Sl → Prop} : WM (ofO x) ρ Q E = OV x (fun a => Q a ρ) := by cases x <;> rfl
theorem wm_eK {v : PV} : WM (eK v) ρ Q E = Q v ρ := rfl
/-- the value of a slot -/
def EV (x : Option (Option PV)) (i : Nat) (ρ : Sl) (Q : PV → Sl → Prop) : Prop := match x with
  | some (some d) => if d.own then (if d.calm then Q d.frz (ρ.set i (some d.frz)) else False) else Q d ρ
  | _ => False
theorem wm_eV : WM (eV i) ρ Q E = EV (ρ[i]?) i ρ Q := by
  unfold WM eV EV
  cases ρ[i]? with
  | none => rfl
  | some x => cases x with
    | none => rfl
    | some d => cases h : d.own <;> cases h2 : d.calm <;> simp [h, h2]
theorem ev_int' {n : Int} : EV (some (some (.int n))) i ρ Q = Q (.int n) ρ := rfl
theorem ev_bl {n : Bool} : EV (some (some (.bl n))) i ρ Q = Q (.bl n) ρ := rfl
theorem ev_str {n : Str} : EV (some (some (.str n))) i ρ Q = Q (.str n) ρ := rfl
theorem ev_non : EV (some (some .non)) i ρ Q = Q .non ρ := rfl
theorem ev_tup {xs : List PV} : EV (some (some (.tup xs))) i ρ Q = Q (.tup xs) ρ := rfl
theorem ev_lstF {xs : List PV} : EV (some (some (.lst false xs))) i ρ Q = Q (.lst false xs) ρ := rfl
theorem ev_dctF {xs : List (PV × PV)} : EV (some (some (.dct false xs))) i ρ Q = Q (.dct false xs) ρ := rfl
theorem ev_objF {C : Str} {xs : List (Str × PV)} : EV (some (some (.obj false C xs))) i ρ Q = Q (.obj false C xs) ρ := rfl
theorem ev_lstT {xs : List PV} : EV (some (some (.lst true xs))) i ρ Q = NRM (ρ.set i (some (.lst false xs))) (fun ρ' => Q (.lst false xs) ρ') := rfl
theorem ev_dctT {xs : List (PV × PV)} : EV (some (some (.dct true xs))) i ρ Q = NRM (ρ.set i (some (.dct false xs))) (fun ρ' => Q (.dct false xs) ρ') := rfl
theorem ev_free {d : PV} (h : d.own = false) : EV (some (some d)) i ρ Q = Q d ρ := by unfold EV; simp [h]
theorem wm_eBin : WM (eBin op f g) ρ Q E = WM f ρ (fun x ρ1 => WM g ρ1 (fun y ρ2 => WM (op x y) ρ2 Q E) E) E := by
  unfold eBin
  rw [wm_bind]
  congr 1
  funext x ρ1
  rw [wm_bind]
theorem wm_eBinL : WM (eBinL op i g) ρ Q E = GV ρ[i]? (fun _ => WM g ρ (fun y ρ' => GV ρ'[i]? (fun d => WM (op d y) ρ' Q E)) E) := by
  unfold eBinL WM M.bind
  dsimp only
  cases ρ[i]? with
  | none => rfl
  | some x => cases x with
    | none => rfl
    | some d =>
      unfold GV
      dsimp only
      cases g ρ with
      | ok a ρ' =>
        dsimp only
        show _ = (match ρ'[i]? with | some (some d) => _ | _ => False)
        cases ρ'[i]? with
        | none => rfl
        | some y => cases y <;> rfl
      | exc C fs ρ' => rfl
      | bad => rfl
theorem wm_eBinR : WM (eBinR op f i) ρ Q E = WM f ρ (fun x ρ' => GV ρ'[i]? (fun d => WM (op x d) ρ' Q E)) E := by
  unfold eBinR
  rw [wm_bind]
  congr 1
  funext x ρ'
  unfold WM
  dsimp only
  cases ρ'[i]? with
  | none => rfl
  | some y => cases y <;> rfl
theorem wm_eBinB : WM (eBinB op i j) ρ Q E = GV ρ[i]? (fun d => GV ρ[j]? (fun d' => WM (op d d') ρ Q E)) := by
  unfold eBinB WM
  dsimp only
  cases ρ[i]? with
  | none => rfl
  | some y => cases y with
    | none => rfl
    | some d => cases ρ[j]? with
      | none => rfl
      | some y => cases y <;> rfl
theorem wm_eUn : WM (eUn o1 f) ρ Q E = WM f ρ (fun x ρ1 => WM (o1 x) ρ1 Q E) E := wm_bind
theorem wm_eUnB : WM (eUnB o1 i) ρ Q E = GV ρ[i]? (fun d => WM (o1 d) ρ Q E) := by
  unfold eUnB WM
  dsimp only
  cases ρ[i]? with
  | none => rfl
  | some y => cases y <;> rfl
theorem wm_eAnd : WM (eAnd f g) ρ Q E = WM f ρ (fun v ρ1 => OV v.truth (fun b => Cnd b (WM g ρ1 Q E) (Q v ρ1))) E := by
  unfold eAnd
  rw [wm_bind]
  congr 1
  funext v ρ1
  cases v.truth with
  | none => rfl
  | some b => cases b <;> rfl
theorem wm_eOr : WM (eOr f g) ρ Q E = WM f ρ (fun v ρ1 => OV v.truth (fun b => Cnd b (Q v ρ1) (WM g ρ1 Q E))) E := by
  unfold eOr
  rw [wm_bind]
  congr 1
  funext v ρ1
  cases v.truth with
  | none => rfl
  | some b => cases b <;> rfl
theorem wm_bT : WM (bT f) ρ QB E = WM f ρ (fun v ρ1 => OV v.truth (fun b => QB b ρ1)) E := by
  unfold bT
  rw [wm_bind]
  congr 1
  funext v ρ1
  exact wm_ofO
theorem wm_bV : WM (bV f) ρ QB E = WM f ρ (fun v ρ1 => OV v.bool (fun b => QB b ρ1)) E := by
  unfold bV
  rw [wm_bind]
  congr 1
  funext v ρ1
  exact wm_ofO
theorem wm_bAnd : WM (bAnd p q) ρ QB E = WM p ρ (fun b ρ1 => Cnd b (WM q ρ1 QB E) (QB false ρ1)) E := by
  unfold bAnd
  rw [wm_bind]
  congr 1
  funext b ρ1
  cases b <;> rfl
theorem wm_bOr : WM (bOr p q) ρ QB E = WM p ρ (fun b ρ1 => Cnd b (QB true ρ1) (WM q ρ1 QB E)) E := by
  unfold bOr
  rw [wm_bind]
  congr 1
  funext b ρ1
  cases b <;> rfl
theorem wm_bNot : WM (bNot p) ρ QB E = WM p ρ (fun b ρ1 => QB (!b) ρ1) E := wm_bind
theorem wm_bYes : WM bYes ρ QB E = QB true ρ := rfl
theorem wm_eIf : WM (eIf p f g) ρ Q E = WM p ρ (fun b ρ1 => Cnd b (WM f ρ1 Q E) (WM g ρ1 Q E)) E := by
  unfold eIf
  rw [wm_bind]
  congr 1
  funext b ρ1
  cases b <;> rfl
theorem wm_eChn : WM (eChn op op' f g h) ρ Q E = WM f ρ (fun x ρ1 => WM g ρ1 (fun y ρ2 => WM (op x y) ρ2 (fun z ρ3 => OV z.bool (fun b => Cnd b (WM h ρ3 (fun w ρ4 => WM (op' y w) ρ4 Q E) E) (Q (.bl false) ρ3))) E) E) E := by
  unfold eChn
  rw [wm_bind]
  congr 1
  funext x ρ1
  rw [wm_bind]
  congr 1
  funext y ρ2
  rw [wm_bind]
  congr 1
  funext z ρ3
  cases z with
  | bl b =>
    cases b with
    | true => exact wm_bind
    | false => rfl
  | _ => rfl
theorem wm_frzM {v : PV} : WM (frzM v) ρ Q E = Cnd v.calm (Q v.frz ρ) False := by
  unfold frzM
  cases v.calm <;> rfl
theorem wm_aNil : WM aNil ρ QA E = QA [] ρ := rfl
theorem wm_aCons : WM (aCons f u) ρ QA E = WM f ρ (fun x ρ1 => WM (frzM x) ρ1 (fun y ρ2 => WM u ρ2 (fun ys ρ3 => QA (y :: ys) ρ3) E) E) E := by
  unfold aCons
  rw [wm_bind]
  congr 1
  funext x ρ1
  rw [wm_bind]
  congr 1
  funext y ρ2
  rw [wm_bind]
  rfl
theorem wm_uCons : WM (uCons f u) ρ QA E = WM f ρ (fun x ρ1 => WM u ρ1 (fun ys ρ3 => QA (x :: ys) ρ3) E) E := by
  unfold uCons
  rw [wm_bind]
  congr 1
  funext x ρ1
  rw [wm_bind]
  rfl
/-- starred: the items -/
def _root_.Wv.PV.seq : PV → Option (List PV)
  | .tup xs => some xs
  | .lst _ xs => some xs
  | _ => none
theorem wm_aStar : WM (aStar f u) ρ QA E = WM f ρ (fun v ρ1 => OV v.seq (fun xs => WM u ρ1 (fun ys ρ2 => QA (xs ++ ys) ρ2) E)) E := by
  unfold aStar
  rw [wm_bind]
  congr 1
  funext v ρ1
  cases v <;> first | exact wm_bind | rfl
theorem wm_mT : WM (mT f u) ρ QA E = WM f ρ (fun x ρ1 => Cnd x.calm (WM u ρ1 (fun ys ρ2 => QA (x :: ys) ρ2) E) False) E := by
  unfold mT
  rw [wm_bind]
  congr 1
  funext x ρ1
  cases x.calm with
  | true => exact wm_bind
  | false => rfl
theorem wm_mS : WM (mS i u) ρ QA E = GV ρ[i]? (fun _ => WM u ρ (fun ys ρ2 => QA (.non :: ys) ρ2) E) := by
  unfold mS WM
  dsimp only
  cases ρ[i]? with
  | none => rfl
  | some x => cases x with
    | none => rfl
    | some d => exact wm_bind (f := u) (g := fun ys => M.ret (.non :: ys))
theorem wm_eTup : WM (eTup u) ρ Q E = WM u ρ (fun xs ρ1 => Cnd (lenOk xs.length) (Q (.tup xs) ρ1) False) E := by
  unfold eTup
  rw [wm_bind]
  congr 1
  funext xs ρ1
  cases lenOk xs.length <;> rfl
theorem wm_eLst : WM (eLst u) ρ Q E = WM u ρ (fun xs ρ1 => Cnd (lenOk xs.length) (Q (.lst true xs) ρ1) False) E := by
  unfold eLst
  rw [wm_bind]
  congr 1
  funext xs ρ1
  cases lenOk xs.length <;> rfl
theorem wm_eDict0 : WM eDict0 ρ Q E = Q (.dct true []) ρ := rfl
theorem wm_eSl0 : WM (eSl0 f) ρ Q E = WM f ρ (fun x ρ1 => WM (opSlc x none none) ρ1 Q E) E := wm_bind
theorem wm_eSlL : WM (eSlL f g) ρ Q E = WM f ρ (fun x ρ1 => WM g ρ1 (fun y ρ2 => OV y.toI (fun i => WM (opSlc x (some i) none) ρ2 Q E)) E) E := by
  unfold eSlL
  simp only [wm_bind, wm_ofO]
theorem wm_eSlH : WM (eSlH f g) ρ Q E = WM f ρ (fun x ρ1 => WM g ρ1 (fun y ρ2 => OV y.toI (fun i => WM (opSlc x none (some i)) ρ2 Q E)) E) E := by
  unfold eSlH
  simp only [wm_bind, wm_ofO]
theorem wm_eSlB : WM (eSlB f g h) ρ Q E = WM f ρ (fun x ρ1 => WM g ρ1 (fun y ρ2 => OV y.toI (fun i => WM h ρ2 (fun z ρ3 => OV z.toI (fun j => WM (opSlc x (some i) (some j)) ρ3 Q E)) E)) E) E := by
  unfold eSlB
  simp only [wm_bind, wm_ofO]
theorem wm_eGet : WM (eGet f g) ρ Q E = WM f ρ (fun d ρ1 => Cnd (isDct d) (WM g ρ1 (fun k ρ2 => WM (opGet d k) ρ2 Q E) E) False) E := by
  unfold eGet
  rw [wm_bind]
  congr 1
  funext d ρ1
  cases isDct d with
  | true => exact wm_bind
  | false => rfl
theorem wm_eGetB : WM (eGetB i g) ρ Q E = GV ρ[i]? (fun d => Cnd (isDct d) (WM g ρ (fun k ρ' => GV ρ'[i]? (fun d' => WM (opGet d' k) ρ' Q E)) E) False) := by
  unfold eGetB WM
  dsimp only
  cases ρ[i]? with
  | none => rfl
  | some x => cases x with
    | none => rfl
    | some d =>
      show _ = Cnd (isDct d) _ _
      cases h : isDct d with
      | false => simp only [h]; rfl
      | true =>
        simp only [h, if_true, M.bind, cnd_t]
        cases g ρ with
        | ok a ρ' =>
          dsimp only
          cases ρ'[i]? with
          | none => rfl
          | some y => cases y <;> rfl
        | exc C fs ρ' => rfl
        | bad => rfl
theorem wm_callR {ms : List Md} {io dd : _} {sem : List PV → FRes} {ds : List PV} : WM (callR ms io dd sem ds) ρ Q E = OV (argsAt ms ds ρ) (fun cs => WF (sem (cs ++ dd)) (fun v outs => NRM (putB ms io outs ρ) (fun ρ' => Q v ρ')) (fun C fs outs => E C fs (putB ms io outs ρ))) := by
  unfold callR WM
  dsimp only
  cases argsAt ms ds ρ with
  | none => rfl
  | some cs =>
    show _ = WF (sem (cs ++ dd)) _ _
    unfold WF
    cases h : sem (cs ++ dd) <;> simp [h, NRM]
theorem wm_eCall {ms : List Md} {io : List Nat} {dd : List PV} {sem : List PV → FRes} : WM (eCall ms io dd sem u) ρ Q E = WM u ρ (fun ds ρ1 => WM (callR ms io dd sem ds) ρ1 Q E) E := wm_bind
theorem wm_eCallK {n : Nat} {pm : List Nat} {sem : List PV → FRes} : WM (eCallK n pm sem u) ρ Q E = WM u ρ (fun ds ρ1 => Cnd (decide (ds.length = n)) (WM (callR (List.replicate pm.length .f) [] [] sem (pick pm ds)) ρ1 Q E) False) E := by
  unfold eCallK
  rw [wm_bind]
  congr 1
  funext ds ρ1
  by_cases h : ds.length = n
  · simp only [h, if_true, decide_true]; rfl
  · simp only [h, if_false, decide_false]; rfl
theorem wm_eMeth {Cn m : Str} {ms : List Md} {io : List Nat} {dd : List PV} {sem : List PV → FRes} : WM (eMeth Cn m ms io dd sem f u) ρ Q E = WM f ρ (fun d ρ1 => WM (frzM d) ρ1 (fun d' ρ2 => Cnd (isObjOf Cn m d') (WM u ρ2 (fun ds ρ3 => WM (callR (.f :: ms) io dd sem (d' :: ds)) ρ3 Q E) E) False) E) E := by
  unfold eMeth
  rw [wm_bind]
  congr 1
  funext d ρ1
  rw [wm_bind]
  congr 1
  funext d' ρ2
  cases isObjOf Cn m d' with
  | true => exact wm_bind
  | false => rfl
/-- what a constructor's call leaves -/
def _root_.Wv.MkQ (ms : List Md) (io : List Nat) (ρ : Sl) (Q : PV → Sl → Prop) : PV → List (Option PV) → Prop := fun v os => match v, os with
  | .non, some d0 :: outs => Q d0 (putB (.t :: ms) io (some d0 :: outs) ρ)
  | _, _ => False
theorem mkq {ms : List Md} {io : List Nat} {d0 : PV} {outs : List (Option PV)} : MkQ ms io ρ Q .non (some d0 :: outs) = NRM (putB (.t :: ms) io (some d0 :: outs) ρ) (fun ρ' => Q d0 ρ') := rfl
theorem wm_eMake {Cn : Str} {ms : List Md} {io : List Nat} {dd : List PV} {sem : List PV → FRes} : WM (eMake Cn ms io dd sem u) ρ Q E = WM u ρ (fun ds ρ1 => OV (argsAt ms ds ρ1) (fun cs => WF (sem (.obj true Cn [] :: (cs ++ dd))) (MkQ ms io ρ1 Q) (fun C fs outs => E C fs (putB (.t :: ms) io outs ρ1)))) E := by
  unfold eMake
  rw [wm_bind]
  congr 1
  funext ds ρ1
  unfold WM
  dsimp only
  cases argsAt ms ds ρ1 with
  | none => rfl
  | some cs =>
    show _ = WF (sem (.obj true Cn [] :: (cs ++ dd))) _ _
    unfold WF
    cases h : sem (.obj true Cn [] :: (cs ++ dd)) with
    | ok v outs =>
      simp only [h]
      cases v <;> first | rfl | (cases outs with
        | nil => rfl
        | cons o outs => cases o <;> rfl)
    | exc C fs outs => simp only [h]
    | bad => simp only [h]
/-! ### lists that are walked -/
theorem wm_iAny : WM (iAny f) ρ QA E = WM f ρ (fun v ρ1 => OV v.itemsA (fun xs => QA xs ρ1)) E := by
  unfold iAny
  simp only [wm_bind, wm_ofO]
/-- the pairs, the values of a dict -/
def _root_.Wv.PV.dprs : PV → Option (List PV)
  | .dct _ kvs => some (pairsOf kvs)
  | _ => none
def _root_.Wv.PV.dvls : PV → Option (List PV)
  | .dct _ kvs => some (kvs.map (·.2))
  | _ => none
def _root_.Wv.PV.enums : PV → Option (List PV)
  | .tup xs => some (enumV xs)
  | .lst _ xs => some (enumV xs)
  | _ => none
def _root_.Wv.PV.rng : PV → Option (List PV)
  | .int j => if bd62 j then some (rngV 0 j.toNat) else none
  | _ => none
theorem wm_iItems : WM (iItems f) ρ QA E = WM f ρ (fun v ρ1 => OV v.dprs (fun xs => QA xs ρ1)) E := by
  unfold iItems
  rw [wm_bind]
  congr 1
  funext v ρ1
  cases v <;> rfl
theorem wm_iVals : WM (iVals f) ρ QA E = WM f ρ (fun v ρ1 => OV v.dvls (fun xs => QA xs ρ1)) E := by
  unfold iVals
  rw [wm_bind]
  congr 1
  funext v ρ1
  cases v <;> rfl
theorem wm_iEnum : WM (iEnum f) ρ QA E = WM f ρ (fun v ρ1 => OV v.enums (fun xs => QA xs ρ1)) E := by
  unfold iEnum
  rw [wm_bind]
  congr 1
  funext v ρ1
  cases v <;> rfl
theorem wm_iRange1 : WM (iRange1 f) ρ QA E = WM f ρ (fun v ρ1 => OV v.rng (fun xs => QA xs ρ1)) E := by
  unfold iRange1
  rw [wm_bind]
  congr 1
  funext v ρ1
  cases v with
  | int k =>
    unfold PV.rng
    cases h : bd62 k <;> simp only [h] <;> rfl
  | _ => rfl
theorem wm_iRange2 : WM (iRange2 f g) ρ QA E = WM f ρ (fun v ρ1 => WM g ρ1 (fun w ρ2 => OV v.toI (fun i => OV w.toI (fun j => Cnd (bd62 i && bd62 j) (QA (rngV i (j - i).toNat) ρ2) False))) E) E := by
  unfold iRange2
  rw [wm_bind]
  congr 1
  funext v ρ1
  rw [wm_bind]
  congr 1
  funext w ρ2
  cases v <;> cases w <;> try rfl
  rename_i i j
  show _ = Cnd (bd62 i && bd62 j) _ _
  cases h : (bd62 i && bd62 j) <;> simp only [h] <;> rfl
/-! ### changes of owned things -/
/-- an owned list -/
def _root_.Wv.isOL : PV → Bool
  | .lst true _ => true
  | _ => false
def GL (x : Option (Option PV)) (k : PV → Prop) : Prop := GV x fun d => Cnd (isOL d) (k d) False
theorem gl_lst {xs : List PV} {k : PV → Prop} : GL (some (some (.lst true xs))) k = k (.lst true xs) := rfl
theorem wm_mLst {op : PV → List PV → Option (PV × PV)} : WM (mLst op i u) ρ Q E = GL ρ[i]? (fun _ => WM u ρ (fun vs ρ' => GV ρ'[i]? (fun d => OV (op d vs) (fun r => NRM (ρ'.set i (some r.2)) (fun ρ2 => Q r.1 ρ2)))) E) := by
  unfold mLst WM
  dsimp only
  cases ρ[i]? with
  | none => rfl
  | some x => cases x with
    | none => rfl
    | some d =>
      cases d with
      | lst o xs =>
        cases o with
        | true =>
          rw [gl_lst]
          dsimp only [M.bind]
          cases u ρ with
          | ok a ρ' =>
            dsimp only
            cases ρ'[i]? with
            | none => rfl
            | some y => cases y with
              | none => rfl
              | some d =>
                rw [gv_some]
                dsimp only
                cases op d a with
                | none => rfl
                | some r => obtain ⟨y, d'⟩ := r; rfl
          | exc C fs ρ' => rfl
          | bad => rfl
        | false => rfl
      | _ => rfl
end
end Wv.Z

set_option Elab.async false
set_option linter.all false
set_option autoImplicit false
set_option maxRecDepth 100000
/-! WxB: what holds behind statements, loops, comprehensions, defs. -/
namespace Wv.Z
open Wv
open PySem PySem.Spec PyProof.Rows L2

def SQ (g : SM) (Q : Out → Prop) : Out → Prop
  | .nx ρ => WS g ρ Q
  | o => Q o
def RQ (io : List Nat) (Q : PV → List (Option PV) → Prop) (E : Str → List (Str × PV) → List (Option PV) → Prop) : Out → Prop
  | .rt v ρ => Cnd v.calm (NRM (outsOf io ρ) (fun os => Q v os)) False
  | .nx ρ => NRM (outsOf io ρ) (fun os => Q .non os)
  | .exc C fs ρ => E C fs (outsOf io ρ)
  | _ => False
/-- behind a turn of a loop: J, or what is wanted behind the loop -/
def _root_.Wv.LQ (J : Sl → Prop) (Q : Out → Prop) : Out → Prop
  | .nx ρ => J ρ
  | .ct ρ => J ρ
  | .bk ρ => Q (.nx ρ)
  | o => Q o
def _root_.Wv.noX : EQ := fun _ _ _ => False
section
variable {α β : Type} {f g h : M PV} {p q : M Bool} {ρ : Sl} {Q : Out → Prop} {u : M (List PV)} {i j : Nat} {s t : SM} {J : Sl → Prop} {gt : Gt}
theorem sq_nx : SQ s Q (.nx ρ) = WS s ρ Q := rfl
theorem sq_rt {v : PV} : SQ s Q (.rt v ρ) = Q (.rt v ρ) := rfl
theorem sq_bk : SQ s Q (.bk ρ) = Q (.bk ρ) := rfl
theorem sq_ct : SQ s Q (.ct ρ) = Q (.ct ρ) := rfl
theorem sq_exc {C : Str} {fs : List (Str × PV)} : SQ s Q (.exc C fs ρ) = Q (.exc C fs ρ) := rfl
theorem lq_nx : LQ J Q (.nx ρ) = J ρ := rfl
theorem lq_rt {v : PV} : LQ J Q (.rt v ρ) = Q (.rt v ρ) := rfl
theorem lq_bk : LQ J Q (.bk ρ) = Q (.nx ρ) := rfl
theorem lq_ct : LQ J Q (.ct ρ) = J ρ := rfl
theorem lq_exc {C : Str} {fs : List (Str × PV)} : LQ J Q (.exc C fs ρ) = Q (.exc C fs ρ) := rfl
theorem rq_nx {io : List Nat} {R : PV → List (Option PV) → Prop} {E : Str → List (Str × PV) → List (Option PV) → Prop} : RQ io R E (.nx ρ) = NRM (outsOf io ρ) (fun os => R .non os) := rfl
theorem rq_rt {v : PV} {io : List Nat} {R : PV → List (Option PV) → Prop} {E : Str → List (Str × PV) → List (Option PV) → Prop} : RQ io R E (.rt v ρ) = Cnd v.calm (NRM (outsOf io ρ) (fun os => R v os)) False := rfl
theorem rq_exc {C : Str} {fs : List (Str × PV)} {io : List Nat} {R : PV → List (Option PV) → Prop} {E : Str → List (Str × PV) → List (Option PV) → Prop} : RQ io R E (.exc C fs ρ) = E C fs (outsOf io ρ) := rfl
theorem xq {C : Str} {fs : List (Str × PV)} : XQ Q C fs ρ = Q (.exc C fs ρ) := rfl
theorem ws_sE {f : M α} {k : α → SM} : WS (sE f k) ρ Q = WM f ρ (fun v ρ1 => WS (k v) ρ1 Q) (XQ Q) := by
  unfold WS sE WM XQ
  cases f ρ <;> rfl
theorem ws_sNil : WS sNil ρ Q = Q (.nx ρ) := rfl
theorem ws_nx : WS Out.nx ρ Q = Q (.nx ρ) := rfl
theorem ws_bk : WS Out.bk ρ Q = Q (.bk ρ) := rfl
theorem ws_ct : WS Out.ct ρ Q = Q (.ct ρ) := rfl
theorem ws_rtv {v : PV} : WS (Out.rt v) ρ Q = Q (.rt v ρ) := rfl
theorem ws_sBad : WS sBad ρ Q = False := rfl
theorem ws_sSeq : WS (sSeq s t) ρ Q = WS s ρ (SQ t Q) := by
  unfold WS sSeq SQ WS
  cases s ρ <;> rfl
theorem ws_sDrop : WS (sDrop f) ρ Q = WM f ρ (fun _ ρ1 => Q (.nx ρ1)) (XQ Q) := ws_sE
theorem ws_sRet : WS (sRet f) ρ Q = WM f ρ (fun v ρ1 => Q (.rt v ρ1)) (XQ Q) := ws_sE
theorem ws_sRetN : WS sRetN ρ Q = Q (.rt .non ρ) := rfl
theorem ws_sIf : WS (sIf p s t) ρ Q = WM p ρ (fun b ρ1 => Cnd b (WS s ρ1 Q) (WS t ρ1 Q)) (XQ Q) := by
  unfold sIf
  rw [ws_sE]
  congr 1
  funext b ρ1
  cases b <;> rfl
theorem ws_sAsg : WS (sAsg gt f) ρ Q = WM f ρ (fun v ρ1 => OV (gt v ρ1) (fun ρ2 => Q (.nx ρ2))) (XQ Q) := by
  unfold sAsg
  rw [ws_sE]
  congr 1
  funext v ρ1
  unfold WS
  dsimp only
  cases gt v ρ1 <;> rfl
theorem ov_gtN {d : PV} {k : Sl → Prop} : OV (gtN i d ρ) k = Cnd (decide (i < ρ.length)) (NRM (ρ.set i (some d)) k) False := by
  unfold gtN
  by_cases h : i < ρ.length
  · simp only [h, if_true, decide_true]; rfl
  · simp only [h, if_false, decide_false]; rfl
theorem ov_gtT {n : Nat} {gs : List PV → Sl → Option Sl} {ds : List PV} {k : Sl → Prop} : OV (gtT n gs (.tup ds) ρ) k = Cnd (decide (ds.length = n)) (OV (gs ds ρ) k) False := by
  unfold gtT
  by_cases h : ds.length = n
  · simp only [h, if_true, decide_true]; rfl
  · simp only [h, if_false, decide_false]; rfl
theorem ov_gtCons {gs : List PV → Sl → Option Sl} {d : PV} {ds : List PV} {k : Sl → Prop} : OV (gtCons gt gs (d :: ds) ρ) k = OV (gt d ρ) (fun ρ1 => OV (gs ds ρ1) k) := by
  show OV ((gt d ρ).bind (gs ds)) k = _
  cases gt d ρ <;> rfl
theorem ov_gtNil {k : Sl → Prop} : OV (gtNil [] ρ) k = k ρ := rfl
theorem ws_sPar {is : List Nat} : WS (sPar is u) ρ Q = WM u ρ (fun vs ρ1 => OV (setAll is vs ρ1) (fun ρ2 => Q (.nx ρ2))) (XQ Q) := by
  unfold sPar
  rw [ws_sE]
  congr 1
  funext v ρ1
  unfold WS
  dsimp only
  cases setAll is v ρ1 <;> rfl
theorem ov_setAll {is : List Nat} {v : PV} {vs : List PV} {k : Sl → Prop} : OV (setAll (i :: is) (v :: vs) ρ) k = Cnd (decide (i < ρ.length)) (NRM (ρ.set i (some v)) (fun ρ' => OV (setAll is vs ρ') k)) False := by
  show OV (if i < ρ.length then setAll is vs (ρ.set i (some v)) else none) k = _
  by_cases h : i < ρ.length
  · simp only [h, if_true, decide_true]; rfl
  · simp only [h, if_false, decide_false]; rfl
theorem ov_setNil {k : Sl → Prop} : OV (setAll [] [] ρ) k = k ρ := rfl
theorem ws_sFor : WS (sFor u gt s) ρ Q = WM u ρ (fun xs ρ1 => WS (sItems gt s xs) ρ1 Q) (XQ Q) := ws_sE
theorem ws_items0 : WS (sItems gt s []) ρ Q = Q (.nx ρ) := rfl
theorem ws_items1 {x : PV} {xs : List PV} : WS (sItems gt s (x :: xs)) ρ Q = OV (gt x ρ) (fun ρ1 => WS s ρ1 (LQ (fun ρ2 => WS (sItems gt s xs) ρ2 Q) Q)) := by
  show (match (match gt x ρ with | none => Out.bad | some ρ1 => match s ρ1 with | .nx ρ2 => sItems gt s xs ρ2 | .ct ρ2 => sItems gt s xs ρ2 | .bk ρ2 => .nx ρ2 | o => o) with | .bad => False | o => Q o) = _
  cases gt x ρ with
  | none => rfl
  | some ρ1 =>
    show _ = (match s ρ1 with | .bad => False | o => LQ (fun ρ2 => WS (sItems gt s xs) ρ2 Q) Q o)
    cases h : s ρ1 <;> simp only [h] <;> rfl
theorem ws_sStA : WS (sStA f i g) ρ Q = WM f ρ (fun w0 ρ0 => WM (frzM w0) ρ0 (fun w ρ1 => GV ρ1[i]? (fun _ => WM g ρ1 (fun k ρ2 => GV ρ2[i]? (fun d => OV (setItemA d k w) (fun d' => NRM (ρ2.set i (some d')) (fun ρ3 => Q (.nx ρ3))))) (XQ Q))) (XQ Q)) (XQ Q) := by
  unfold sStA
  rw [ws_sE, wm_bind]
  congr 1
  funext w0 ρ0
  congr 1
  funext w ρ1
  unfold WS
  dsimp only
  cases ρ1[i]? with
  | none => rfl
  | some x => cases x with
    | none => rfl
    | some d0 =>
      show WS (sE g _) ρ1 Q = _
      rw [ws_sE]
      show WM g ρ1 _ (XQ Q) = WM g ρ1 _ (XQ Q)
      congr 1
      funext k ρ2
      unfold WS
      dsimp only
      cases ρ2[i]? with
      | none => rfl
      | some x => cases x with
        | none => rfl
        | some d =>
          show (match (match setItemA d k w with | some d' => Out.nx (ρ2.set i (some d')) | none => .bad) with | .bad => False | o => Q o) = OV (setItemA d k w) _
          cases setItemA d k w <;> rfl
def _root_.Wv.lstInt (d : PV) (n : Int) : Option Int := match d with
  | .lst true xs => if decide (0 ≤ n) && decide (n < 9223372036854775808) then match xs[n.toNat]? with
    | some (.int a) => some a
    | _ => none
    else none
  | _ => none
def _root_.Wv.lstPut (d : PV) (n : Int) (v : Int) : Option PV := match d with
  | .lst true ys => if decide (n.toNat < ys.length) then some (.lst true (ys.set n.toNat (.int v))) else none
  | _ => none
theorem ws_sAugN {op : Int → Int → Int} : WS (sAugN op i f) ρ Q = GV ρ[i]? (fun d => OV d.toI (fun a => WM f ρ (fun w ρ1 => OV w.toI (fun b => Cnd (decide (i < ρ1.length)) (NRM (ρ1.set i (some (.int (op a b)))) (fun ρ3 => Q (.nx ρ3))) False)) (XQ Q))) := by
  unfold sAugN
  show (match (match ρ[i]? with | some (some (.int a)) => _ | _ => Out.bad) with | .bad => False | o => Q o) = _
  cases ρ[i]? with
  | none => rfl
  | some x => cases x with
    | none => rfl
    | some d => cases d with
      | int a =>
        show WS (sE f _) ρ Q = WM f ρ _ (XQ Q)
        rw [ws_sE]
        congr 1
        funext w ρ1
        cases w with
        | int b =>
          show (match (if i < ρ1.length then Out.nx (ρ1.set i (some (.int (op a b)))) else .bad) with | .bad => False | o => Q o) = Cnd (decide (i < ρ1.length)) _ _
          by_cases h : i < ρ1.length
          · simp only [h, if_true, decide_true]; rfl
          · simp only [h, if_false, decide_false]; rfl
        | _ => rfl
      | _ => rfl
theorem ws_sAugI {op : Int → Int → Int} : WS (sAugI op i f g) ρ Q = GV ρ[i]? (fun _ => WM f ρ (fun kd ρ1 => OV kd.toI (fun n => GV ρ1[i]? (fun d => OV (lstInt d n) (fun a => WM g ρ1 (fun w ρ2 => OV w.toI (fun b => GV ρ2[i]? (fun d' => OV (lstPut d' n (op a b)) (fun e => NRM (ρ2.set i (some e)) (fun ρ3 => Q (.nx ρ3)))))) (XQ Q))))) (XQ Q)) := by
  unfold sAugI
  show (match (match ρ[i]? with | some (some _) => _ | _ => Out.bad) with | .bad => False | o => Q o) = _
  cases ρ[i]? with
  | none => rfl
  | some x => cases x with
    | none => rfl
    | some d0 =>
      show WS (sE f _) ρ Q = WM f ρ _ (XQ Q)
      rw [ws_sE]
      congr 1
      funext kd ρ1
      cases kd with
      | int n =>
        show (match (match (PV.int n), ρ1[i]? with | .int n, some (some (.lst true xs)) => _ | _, _ => Out.bad) with | .bad => False | o => Q o) = GV ρ1[i]? _
        cases ρ1[i]? with
        | none => rfl
        | some x => cases x with
          | none => rfl
          | some d => cases d with
            | lst o xs => cases o with
              | true =>
                show (match (if (decide (0 ≤ n) && decide (n < 9223372036854775808)) = true then (match xs[n.toNat]? with | some (.int a) => _ | _ => Out.bad) else Out.bad) with | .bad => False | o => Q o) = OV (if (decide (0 ≤ n) && decide (n < 9223372036854775808)) = true then (match xs[n.toNat]? with | some (.int a) => some a | _ => none) else none) _
                by_cases hb : (decide (0 ≤ n) && decide (n < 9223372036854775808)) = true
                · rw [if_pos hb, if_pos hb]
                  cases xs[n.toNat]? with
                  | none => rfl
                  | some y => cases y with
                    | int a =>
                      show WS (sE g _) ρ1 Q = WM g ρ1 _ (XQ Q)
                      rw [ws_sE]
                      congr 1
                      funext w ρ2
                      cases w with
                      | int b =>
                        show (match (match (PV.int b), ρ2[i]? with | .int b, some (some (.lst true ys)) => _ | _, _ => Out.bad) with | .bad => False | o => Q o) = GV ρ2[i]? _
                        cases ρ2[i]? with
                        | none => rfl
                        | some x => cases x with
                          | none => rfl
                          | some d => cases d with
                            | lst o ys => cases o with
                              | true =>
                                show (match (if decide (n.toNat < ys.length) = true then Out.nx (ρ2.set i (some (.lst true (ys.set n.toNat (.int (op a b)))))) else Out.bad) with | .bad => False | o => Q o) = OV (if decide (n.toNat < ys.length) = true then some (PV.lst true (ys.set n.toNat (.int (op a b)))) else none) _
                                by_cases hc : decide (n.toNat < ys.length) = true
                                · rw [if_pos hc, if_pos hc]; rfl
                                · rw [if_neg hc, if_neg hc]; rfl
                              | false => rfl
                            | _ => rfl
                      | _ => rfl
                    | _ => rfl
                · rw [if_neg hb, if_neg hb]; rfl
              | false => rfl
            | _ => rfl
      | _ => rfl
theorem ws_sFldS {Cn fl : Str} : WS (sFldS Cn fl f i) ρ Q = WM f ρ (fun w0 ρ0 => WM (frzM w0) ρ0 (fun w ρ1 => GV ρ1[i]? (fun d => OV (setFld Cn fl w d) (fun d' => NRM (ρ1.set i (some d')) (fun ρ3 => Q (.nx ρ3))))) (XQ Q)) (XQ Q) := by
  unfold sFldS
  rw [ws_sE, wm_bind]
  congr 1
  funext w0 ρ0
  congr 1
  funext w ρ1
  unfold WS
  dsimp only
  cases ρ1[i]? with
  | none => rfl
  | some x => cases x with
    | none => rfl
    | some d =>
      show (match (match setFld Cn fl w d with | some d' => Out.nx (ρ1.set i (some d')) | none => .bad) with | .bad => False | o => Q o) = OV (setFld Cn fl w d) _
      cases setFld Cn fl w d <;> rfl
theorem wf_runF {n : Nat} {io : List Nat} {ds : List PV} {R : PV → List (Option PV) → Prop} {E : Str → List (Str × PV) → List (Option PV) → Prop} : WF (runF n io s ds) R E = NRM (startS n ds) (fun ρ => WS s ρ (RQ io R E)) := by
  show _ = WS s (startS n ds) (RQ io R E)
  unfold runF WS
  cases s (startS n ds) with
  | rt v ρ =>
    show _ = Cnd v.calm _ False
    cases h : v.calm <;> simp only [h] <;> rfl
  | _ => rfl
/-! ### loops -/
theorem ws_items (I : Nat → Sl → Prop) : ∀ {xs : List PV} {ρ : Sl} {n : Nat}, I n ρ → (∀ i x ρ, xs[i]? = some x → I (n + i) ρ → OV (gt x ρ) (fun ρ1 => WS s ρ1 (LQ (I (n + i + 1)) Q))) → (∀ ρ, I (n + xs.length) ρ → Q (.nx ρ)) → WS (sItems gt s xs) ρ Q
  | [], ρ, n, h0, _, hd => hd ρ h0
  | x :: xs, ρ, n, h0, hs, hd => by
    rw [ws_items1]
    have h1 := hs 0 x ρ rfl h0
    revert h1
    cases gt x ρ with
    | none => exact id
    | some ρ1 =>
      intro h1
      refine ws_mono h1 fun o ho => ?_
      have next : ∀ ρ2, I (n + 0 + 1) ρ2 → WS (sItems gt s xs) ρ2 Q := fun ρ2 h2 => ws_items I h2 (fun i y ρ3 hy h3 => by
        have := hs (i + 1) y ρ3 (by simpa using hy) (by rw [show n + (i + 1) = n + 0 + 1 + i by omega]; exact h3)
        rw [show n + (i + 1) + 1 = n + 0 + 1 + i + 1 by omega] at this
        exact this) (fun ρ3 h3 => hd ρ3 (by rw [List.length_cons, show n + (xs.length + 1) = n + 0 + 1 + xs.length by omega]; exact h3))
      cases o with
      | nx ρ2 => exact next ρ2 ho
      | ct ρ2 => exact next ρ2 ho
      | _ => exact ho
/-- the walk of things that are written as values -/
theorem ws_for {ys : List α} {enc : α → PV} (I : Nat → Sl → Prop) (h0 : I 0 ρ) (hs : ∀ i y ρ, ys[i]? = some y → I i ρ → OV (gt (enc y) ρ) (fun ρ1 => WS s ρ1 (LQ (I (i + 1)) Q))) (hd : ∀ ρ, I ys.length ρ → Q (.nx ρ)) : WS (sItems gt s (ys.map enc)) ρ Q :=
  ws_items I (n := 0) h0 (fun i x ρ hx hi => by
    rw [List.getElem?_map, Option.map_eq_some_iff] at hx
    obtain ⟨y, hy, rfl⟩ := hx
    rw [Nat.zero_add] at hi ⊢
    exact hs i y ρ hy hi) (fun ρ h => hd ρ (by rw [List.length_map, Nat.zero_add] at h; exact h))
theorem ws_range {n : Nat} (I : Nat → Sl → Prop) (h0 : I 0 ρ) (hs : ∀ (i : Nat) ρ, i < n → I i ρ → OV (gt (.int i) ρ) (fun ρ1 => WS s ρ1 (LQ (I (i + 1)) Q))) (hd : ∀ ρ, I n ρ → Q (.nx ρ)) : WS (sItems gt s (rngV 0 n)) ρ Q := by
  refine ws_for I h0 (fun i y ρ hy hi => ?_) (fun ρ h => hd ρ (by rw [List.length_range] at h; exact h))
  have hl : i < n := by have := get_lt hy; simpa using this
  rw [List.getElem?_range hl] at hy
  cases hy
  rw [Int.zero_add]
  exact hs i ρ hl hi
/-! ### comprehensions -/
theorem wm_eLc {vs : List Nat} {R : PV → Sl → Prop} {E : EQ} : WM (eLc vs u gt p f) ρ R E = WM u ρ (fun xs ρ1 => WM (lcItems vs gt p f xs []) ρ1 (fun ys ρ2 => NRM (wipS ρ2 vs) (fun ρ3 => R (.lst true ys) ρ3)) E) E := by
  unfold eLc
  rw [wm_bind]
  congr 1
  funext xs ρ1
  rw [wm_bind]
  congr 1
theorem wm_lc0 {vs : List Nat} {enc : α → PV} (P : α → Bool) (F : α → PV) {R : List PV → Sl → Prop} {E : EQ} {ρ0 : Sl} : ∀ {ys : List α} {acc : List PV} {ρ : Sl}, acc.length + ys.length ≤ 16777216 → wipS ρ vs = ρ0 →
    (∀ y ∈ ys, OV (gt (enc y) ρ0) (fun ρ1 => WM p ρ1 (fun b ρ2 => b = P y ∧ Cnd b (WM f ρ2 (fun v ρ3 => v.calm = true ∧ v.frz = F y ∧ wipS ρ3 vs = ρ0) noX) (wipS ρ2 vs = ρ0)) noX)) →
    (∀ ρ', wipS ρ' vs = ρ0 → R (acc ++ (ys.filter P).map F) ρ') → WM (lcItems vs gt p f (ys.map enc) acc) ρ R E
  | [], acc, ρ, _, e0, _, hq => by
    have := hq ρ e0
    simp only [List.filter_nil, List.map_nil, List.append_nil] at this
    exact this
  | y :: ys, acc, ρ, l, e0, hs, hq => by
    have h1 := hs y List.mem_cons_self
    have l' : acc.length + ys.length + 1 ≤ 16777216 := by simpa [Nat.add_assoc] using l
    rw [List.map_cons]
    unfold WM lcItems
    rw [e0]
    revert h1
    cases gt (enc y) ρ0 with
    | none => intro h1; exact h1.elim
    | some ρ1 =>
      intro h1
      have h1 : WM p ρ1 _ noX := h1
      unfold WM at h1
      dsimp only
      cases e : p ρ1 with
      | ok b ρ2 =>
        rw [e] at h1
        obtain ⟨hb, h2⟩ := h1
        cases b with
        | true =>
          have h2 : WM f ρ2 _ noX := h2
          unfold WM at h2
          dsimp only [M.bind]
          cases e2 : f ρ2 with
          | ok v ρ3 =>
            rw [e2] at h2
            obtain ⟨c, ef, ew⟩ := h2
            simp only [frzM, c, if_true, M.ret, ef]
            have lo : lenOk (acc.length + 1) = true := by unfold lenOk; exact decide_eq_true (by omega)
            simp only [lo, if_true]
            refine wm_lc0 P F (by rw [List.length_append]; simp only [List.length_cons, List.length_nil]; omega) ew (fun z hz => hs z (List.mem_cons_of_mem _ hz)) fun ρ' h' => ?_
            have := hq ρ' h'
            rw [List.filter_cons_of_pos hb.symm, List.map_cons] at this
            rw [List.append_assoc]
            exact this
          | exc C fs ρ3 => rw [e2] at h2; exact h2.elim
          | bad => rw [e2] at h2; exact h2.elim
        | false =>
          refine wm_lc0 P F (by omega) h2 (fun z hz => hs z (List.mem_cons_of_mem _ hz)) fun ρ' h' => ?_
          have := hq ρ' h'
          rw [List.filter_cons_of_neg (by rw [← hb]; decide)] at this
          exact this
      | exc C fs ρ3 => rw [e] at h1; exact h1.elim
      | bad => rw [e] at h1; exact h1.elim
theorem wm_lc {vs : List Nat} {ys : List α} {enc : α → PV} (P : α → Bool) (F : α → PV) {R : List PV → Sl → Prop} {E : EQ} (l : ys.length ≤ 16777216) (hs : ∀ y ∈ ys, OV (gt (enc y) (wipS ρ vs)) (fun ρ1 => WM p ρ1 (fun b ρ2 => b = P y ∧ Cnd b (WM f ρ2 (fun v ρ3 => v.calm = true ∧ v.frz = F y ∧ wipS ρ3 vs = wipS ρ vs) noX) (wipS ρ2 vs = wipS ρ vs)) noX)) (hq : R ((ys.filter P).map F) (wipS ρ vs)) : WM (lcItems vs gt p f (ys.map enc) []) ρ (fun zs ρ2 => NRM (wipS ρ2 vs) (fun ρ3 => R zs ρ3)) E :=
  wm_lc0 P F (by simpa using l) rfl hs fun ρ' h' => by rw [h']; exact hq
/-- a comprehension without a condition -/
theorem wm_lcY {vs : List Nat} {ys : List α} {enc : α → PV} (F : α → PV) {R : List PV → Sl → Prop} {E : EQ} (l : ys.length ≤ 16777216) (hs : ∀ y ∈ ys, OV (gt (enc y) (wipS ρ vs)) (fun ρ1 => WM f ρ1 (fun v ρ3 => v.calm = true ∧ v.frz = F y ∧ wipS ρ3 vs = wipS ρ vs) noX)) (hq : R (ys.map F) (wipS ρ vs)) : WM (lcItems vs gt bYes f (ys.map enc) []) ρ (fun zs ρ2 => NRM (wipS ρ2 vs) (fun ρ3 => R zs ρ3)) E :=
  wm_lc (fun _ => true) F l (fun y hy => by
    have := hs y hy
    revert this
    cases gt (enc y) (wipS ρ vs) with
    | none => exact id
    | some ρ1 => exact fun h => ⟨rfl, h⟩) (by rw [List.filter_eq_self.mpr (fun _ _ => rfl)]; exact hq)
end
end Wv.Z

set_option Elab.async false
set_option linter.all false
set_option autoImplicit false
set_option maxRecDepth 100000
/-! WxC: operators on values that are known by their form. -/
namespace Wv.Z
open Wv
open PySem PySem.Spec PyProof.Rows L2
section
variable {ρ : Sl} {Q : PV → Sl → Prop} {E : EQ} {i j : Int} {xs ys : List PV} {o o' : Bool} {a b : Str} {kvs : List (PV × PV)} {cs : List Str}
theorem wo_if {c : Prop} [Decidable c] {v : PV} : WM (if c then M.ret v else bad) ρ Q E = Cnd (decide c) (Q v ρ) False := by
  by_cases h : c
  · simp only [h, if_true, decide_true]; rfl
  · simp only [h, if_false, decide_false]; rfl
theorem wo_add : WM (opAdd (.int i) (.int j)) ρ Q E = Q (.int (i + j)) ρ := rfl
theorem wo_addS : WM (opAdd (.str a) (.str b)) ρ Q E = Cnd (decide (a.length + b.length ≤ sizeLine)) (Q (.str (a ++ b)) ρ) False := wo_if
theorem wo_addL : WM (opAdd (.lst o xs) (.lst o' ys)) ρ Q E = Cnd (decide (xs.length + ys.length ≤ sizeLine)) (Q (.lst true (xs ++ ys)) ρ) False := wo_if
theorem wo_addT : WM (opAdd (.tup xs) (.tup ys)) ρ Q E = Cnd (decide (xs.length + ys.length ≤ sizeLine)) (Q (.tup (xs ++ ys)) ρ) False := wo_if
theorem wo_sub : WM (opSub (.int i) (.int j)) ρ Q E = Q (.int (i - j)) ρ := rfl
theorem wo_neg : WM (opNeg (.int i)) ρ Q E = Q (.int (-i)) ρ := rfl
theorem wo_times : WM (opTimes (.int i) (.int j)) ρ Q E = Cnd (decide (mulOk i j = true)) (Q (.int (i * j)) ρ) False := wo_if
theorem wo_timesL : WM (opTimes (.lst true xs) (.int j)) ρ Q E = Cnd (decide (xs.length * j.toNat ≤ 16777216 ∧ -9223372036854775808 ≤ j ∧ j < 9223372036854775808)) (Q (.lst true (List.replicate j.toNat xs).flatten) ρ) False := wo_if
theorem wo_timesT : WM (opTimes (.tup xs) (.int j)) ρ Q E = Cnd (decide (xs ≠ [] ∧ 2 ≤ j ∧ j ≤ 1000 ∧ xs.length ≤ 1000)) (Q (.tup (List.replicate j.toNat xs).flatten) ρ) False := wo_if
theorem wo_mod : WM (opMod (.int i) (.int j)) ρ Q E = Cnd (decide (0 < j)) (Q (.int (i % j)) ρ) False := wo_if
theorem wo_div : WM (opDiv (.int i) (.int j)) ρ Q E = Cnd (decide (0 < j ∧ j < 18446744073709551616)) (Q (.int (i / j)) ρ) False := wo_if
theorem wo_eqI : WM (opEq (.int i) (.int j)) ρ Q E = Q (.bl (decide (i = j))) ρ := rfl
theorem wo_neI : WM (opNe (.int i) (.int j)) ρ Q E = Q (.bl (!decide (i = j))) ρ := rfl
theorem wo_ltI : WM (opLt (.int i) (.int j)) ρ Q E = Q (.bl (decide (i < j))) ρ := rfl
theorem wo_leI : WM (opLe (.int i) (.int j)) ρ Q E = Q (.bl (decide (i ≤ j))) ρ := rfl
theorem wo_gtI : WM (opGt (.int i) (.int j)) ρ Q E = Q (.bl (decide (j < i))) ρ := rfl
theorem wo_geI : WM (opGe (.int i) (.int j)) ρ Q E = Q (.bl (decide (j ≤ i))) ρ := rfl
theorem wo_is {d : PV} : WM (opIs d .non) ρ Q E = Q (.bl d.isNon) ρ := rfl
theorem wo_isNot {d : PV} : WM (opIsNot d .non) ρ Q E = Q (.bl (!d.isNon)) ρ := rfl
theorem wo_max : WM (opMax (.int i) (.int j)) ρ Q E = Q (.int (if j > i then j else i)) ρ := rfl
theorem wo_min : WM (opMin (.int i) (.int j)) ρ Q E = Q (.int (if j < i then j else i)) ρ := rfl
theorem wo_abs : WM (opAbs (.int i)) ρ Q E = Q (.int (if i < 0 then -i else i)) ρ := rfl
theorem wo_intI : WM (opInt (.int i)) ρ Q E = Q (.int i) ρ := rfl
theorem wo_intB {k : Bool} : WM (opInt (.bl k)) ρ Q E = Q (.int (if k then 1 else 0)) ρ := rfl
theorem wo_lenL : WM (opLen (.lst o xs)) ρ Q E = Q (.int xs.length) ρ := rfl
theorem wo_lenT : WM (opLen (.tup xs)) ρ Q E = Q (.int xs.length) ρ := rfl
theorem wo_lenS : WM (opLen (.str a)) ρ Q E = Q (.int a.length) ρ := rfl
theorem wo_not {d : PV} : WM (opNot d) ρ Q E = OV d.truth (fun k => Q (.bl (!k)) ρ) := by
  unfold opNot
  cases d.truth <;> rfl
theorem wo_idxL : WM (opIdxA (.lst o xs) (.int i)) ρ Q E = OV (atI xs i) (fun d => Q d ρ) := by
  cases o <;> exact wm_ofO
theorem wo_idxT : WM (opIdxA (.tup xs) (.int i)) ρ Q E = OV (atI xs i) (fun d => Q d ρ) := wm_ofO
theorem wo_idxD {k : PV} : WM (opIdxA (.dct o kvs) k) ρ Q E = Cnd (dkOk kvs k) (OV (kfind kvs k) (fun d => Q d ρ)) False := by
  show WM (if dkOk kvs k then ofO (kfind kvs k) else bad) ρ Q E = _
  cases h : dkOk kvs k with
  | true => exact wm_ofO
  | false => rfl
theorem wo_slcL {lo hi : Option Int} : WM (opSlc (.lst o xs) lo hi) ρ Q E = Q (.lst true (cutL xs lo hi)) ρ := by cases o <;> rfl
theorem wo_slcT {lo hi : Option Int} : WM (opSlc (.tup xs) lo hi) ρ Q E = Q (.tup (cutL xs lo hi)) ρ := rfl
theorem wo_slcS {lo hi : Option Int} : WM (opSlc (.str a) lo hi) ρ Q E = Q (.str (cutS a lo hi)) ρ := rfl
theorem wo_revL : WM (opRev (.lst o xs)) ρ Q E = Q (.lst true xs.reverse) ρ := by cases o <;> rfl
theorem wo_revS : WM (opRev (.str a)) ρ Q E = Q (.str (revS a)) ρ := rfl
theorem wo_tupL : WM (opTupOf (.lst o xs)) ρ Q E = Q (.tup xs) ρ := by cases o <;> rfl
theorem wo_tupT : WM (opTupOf (.tup xs)) ρ Q E = Q (.tup xs) ρ := rfl
theorem wo_lstL : WM (opListOf (.lst o xs)) ρ Q E = Q (.lst true xs) ρ := by cases o <;> rfl
theorem wo_lstT : WM (opListOf (.tup xs)) ρ Q E = Q (.lst true xs) ρ := rfl
theorem wo_sum : WM (opSum (.lst o xs)) ρ Q E = OV (PV.intsL xs) (fun ns => Q (.int ns.sum) ρ) := by
  cases o <;> (show WM (M.bind (ofO (PV.intsL xs)) _) ρ Q E = _; rw [wm_bind, wm_ofO]; rfl)
theorem wo_all : WM (opAll (.lst o xs)) ρ Q E = OV (PV.blsL xs) (fun ns => Q (.bl (ns.all id)) ρ) := by
  cases o <;> (show WM (M.bind (ofO (PV.blsL xs)) _) ρ Q E = _; rw [wm_bind, wm_ofO]; rfl)
theorem wo_any : WM (opAny (.lst o xs)) ρ Q E = OV (PV.blsL xs) (fun ns => Q (.bl (ns.any id)) ρ) := by
  cases o <;> (show WM (M.bind (ofO (PV.blsL xs)) _) ρ Q E = _; rw [wm_bind, wm_ofO]; rfl)
theorem wo_sortL : WM (opSorted (.lst o xs)) ρ Q E = Cnd (sortOk xs) (Q (.lst true (sortV xs)) ρ) False := by
  cases o <;> (show WM (M.bind (ofO (some xs)) _) ρ Q E = _; rw [wm_bind]; cases h : sortOk xs <;> simp only [wm_ofO, ov_some, h] <;> rfl)
theorem wo_sortT : WM (opSorted (.tup xs)) ρ Q E = Cnd (sortOk xs) (Q (.lst true (sortV xs)) ρ) False := by
  show WM (M.bind (ofO (some xs)) _) ρ Q E = _
  rw [wm_bind]
  cases h : sortOk xs <;> simp only [wm_ofO, ov_some, h] <;> rfl
theorem wo_get {k : PV} : WM (opGet (.dct o kvs) k) ρ Q E = Cnd (dkOk kvs k) (Q ((kfind kvs k).getD .non) ρ) False := by
  show WM (if dkOk kvs k then M.ret ((kfind kvs k).getD .non) else bad) ρ Q E = _
  cases h : dkOk kvs k <;> rfl
theorem wo_inD {k : PV} : WM (opInA k (.dct o kvs)) ρ Q E = Cnd (dkOk kvs k) (Q (.bl (khas kvs k)) ρ) False := by
  have : opInA k (.dct o kvs) = if dkOk kvs k then M.ret (.bl (khas kvs k)) else bad := by cases k <;> rfl
  rw [this]
  cases h : dkOk kvs k <;> rfl
theorem wo_notInD {k : PV} : WM (opNotInA k (.dct o kvs)) ρ Q E = Cnd (dkOk kvs k) (Q (.bl (!khas kvs k)) ρ) False := by
  have : opNotInA k (.dct o kvs) = if dkOk kvs k then M.ret (.bl (!khas kvs k)) else bad := by cases k <;> rfl
  rw [this]
  cases h : dkOk kvs k <;> rfl
theorem wo_inS : WM (opInA (.str a) (.str b)) ρ Q E = Q (.bl (strIn a b)) ρ := rfl
theorem wo_inLI : WM (opInA (.int i) (.lst o xs)) ρ Q E = OV (inData (.int i) xs) (fun b => Q (.bl b) ρ) := by
  show WM (M.bind (ofO (inData (.int i) xs)) fun b => M.ret (.bl b)) ρ Q E = _
  rw [wm_bind, wm_ofO]; rfl
theorem wo_inTI : WM (opInA (.int i) (.tup xs)) ρ Q E = OV (inData (.int i) xs) (fun b => Q (.bl b) ρ) := by
  show WM (M.bind (ofO (inData (.int i) xs)) fun b => M.ret (.bl b)) ρ Q E = _
  rw [wm_bind, wm_ofO]; rfl
theorem wo_inLS : WM (opInA (.str a) (.lst o xs)) ρ Q E = OV (inData (.str a) xs) (fun b => Q (.bl b) ρ) := by
  show WM (M.bind (ofO (inData (.str a) xs)) fun b => M.ret (.bl b)) ρ Q E = _
  rw [wm_bind, wm_ofO]; rfl
theorem wo_inTS : WM (opInA (.str a) (.tup xs)) ρ Q E = OV (inData (.str a) xs) (fun b => Q (.bl b) ρ) := by
  show WM (M.bind (ofO (inData (.str a) xs)) fun b => M.ret (.bl b)) ρ Q E = _
  rw [wm_bind, wm_ofO]; rfl
theorem wo_notInLS : WM (opNotInA (.str a) (.lst o xs)) ρ Q E = OV (inData (.str a) xs) (fun b => Q (.bl (!b)) ρ) := by
  show WM (M.bind (ofO (inData (.str a) xs)) fun b => M.ret (.bl (!b))) ρ Q E = _
  rw [wm_bind, wm_ofO]; rfl
theorem wo_fld {Cn fl : Str} {d : PV} : WM (opFld Cn fl d) ρ Q E = OV (fldOf Cn fl d) (fun v => Q v ρ) := wm_ofO
theorem wo_isB {T : Bt} {d : PV} : WM (opIsB cs T d) ρ Q E = OV (isiB cs T d) (fun b => Q (.bl b) ρ) := by
  unfold opIsB
  rw [wm_bind, wm_ofO]
  rfl
theorem wo_isO {D : Str} {d : PV} : WM (opIsO cs D d) ρ Q E = OV (isiO cs D d) (fun b => Q (.bl b) ρ) := by
  unfold opIsO
  rw [wm_bind, wm_ofO]
  rfl
theorem isB_non {T : Bt} : isiB cs T .non = some false := rfl
theorem isB_bl {T : Bt} {k : Bool} : isiB cs T (.bl k) = some (decide (T = .bool) || decide (T = .int)) := rfl
theorem isB_int {T : Bt} : isiB cs T (.int i) = some (decide (T = .int)) := rfl
theorem isB_str {T : Bt} : isiB cs T (.str a) = some (decide (T = .str)) := rfl
theorem isB_tup {T : Bt} : isiB cs T (.tup xs) = some (decide (T = .tuple)) := rfl
theorem isB_lst {T : Bt} : isiB cs T (.lst o xs) = some (decide (T = .list)) := rfl
theorem isB_dct {T : Bt} : isiB cs T (.dct o kvs) = some (decide (T = .dict)) := rfl
/-! frozen -/
theorem wz_int : WM (frzM (.int i)) ρ Q E = Q (.int i) ρ := rfl
theorem wz_bl {k : Bool} : WM (frzM (.bl k)) ρ Q E = Q (.bl k) ρ := rfl
theorem wz_str : WM (frzM (.str a)) ρ Q E = Q (.str a) ρ := rfl
theorem wz_non : WM (frzM .non) ρ Q E = Q .non ρ := rfl
theorem wz_tup : WM (frzM (.tup xs)) ρ Q E = Q (.tup xs) ρ := rfl
theorem wz_lst : WM (frzM (.lst o xs)) ρ Q E = Q (.lst false xs) ρ := by cases o <;> rfl
theorem wz_dct : WM (frzM (.dct o kvs)) ρ Q E = Q (.dct false kvs) ρ := by cases o <;> rfl
theorem wz_objF {C : Str} {fs : List (Str × PV)} : WM (frzM (.obj false C fs)) ρ Q E = Q (.obj false C fs) ρ := rfl
/-- neither owned nor an exception -/
def _root_.Wv.PV.fine (d : PV) : Bool := !d.own && !d.isE
theorem fine_own {d : PV} (h : d.fine = true) : d.own = false := by
  unfold PV.fine at h
  cases e : d.own <;> simp_all
theorem fine_frz {d : PV} (h : d.fine = true) : d.calm = true ∧ d.frz = d := by
  cases d with
  | obj o C fs => cases o with
    | true => cases h
    | false => exact ⟨rfl, rfl⟩
  | lst o xs => cases o with
    | true => cases h
    | false => exact ⟨rfl, rfl⟩
  | dct o xs => cases o with
    | true => cases h
    | false => exact ⟨rfl, rfl⟩
  | exc C fs => cases h
  | _ => exact ⟨rfl, rfl⟩
theorem wz_fine {d : PV} (h : d.fine = true) : WM (frzM d) ρ Q E = Q d ρ := by
  rw [wm_frzM, (fine_frz h).1, (fine_frz h).2]
  rfl
theorem ev_fine {d : PV} {i : Nat} (h : d.fine = true) : EV (some (some d)) i ρ Q = Q d ρ := ev_free (fine_own h)
theorem ev_own {d : PV} {i : Nat} (h : d.own = true) (c : d.calm = true) : EV (some (some d)) i ρ Q = NRM (ρ.set i (some d.frz)) (fun ρ' => Q d.frz ρ') := by
  unfold EV NRM
  simp [h, c]
theorem calm_fine {d : PV} (h : d.fine = true) : d.calm = true := (fine_frz h).1
theorem cm_int : (PV.int i).calm = true := rfl
theorem cm_bl {k : Bool} : (PV.bl k).calm = true := rfl
theorem cm_str : (PV.str a).calm = true := rfl
theorem cm_non : PV.non.calm = true := rfl
theorem cm_tup : (PV.tup xs).calm = true := rfl
theorem cm_lst : (PV.lst o xs).calm = true := by cases o <;> rfl
theorem cm_dct : (PV.dct o kvs).calm = true := by cases o <;> rfl
theorem cm_objF {C : Str} {fs : List (Str × PV)} : (PV.obj false C fs).calm = true := rfl
theorem cm_objT {C : Str} {fs : List (Str × PV)} : (PV.obj true C fs).calm = fs.all (fun p => !p.2.isE) := rfl
theorem tr_bl {k : Bool} : (PV.bl k).truth = some k := rfl
theorem tr_non : PV.non.truth = some false := rfl
theorem tr_int : (PV.int i).truth = some (i != 0) := rfl
theorem bo_bl {k : Bool} : (PV.bl k).bool = some k := rfl
theorem it_lst : (PV.lst o xs).itemsA = some xs := rfl
theorem it_tup : (PV.tup xs).itemsA = some xs := rfl
theorem it_dct : (PV.dct o kvs).itemsA = some (kvs.map (·.1)) := rfl
theorem it_str : (PV.str a).itemsA = some (a.cps.toList.map fun c => .str ⟨#[c]⟩) := rfl
theorem dp_dct : (PV.dct o kvs).dprs = some (pairsOf kvs) := rfl
theorem dv_dct : (PV.dct o kvs).dvls = some (kvs.map (·.2)) := rfl
theorem en_lst : (PV.lst o xs).enums = some (enumV xs) := rfl
theorem en_tup : (PV.tup xs).enums = some (enumV xs) := rfl
theorem sq_tup : (PV.tup xs).seq = some xs := rfl
theorem sq_lst : (PV.lst o xs).seq = some xs := rfl
theorem toI_int : (PV.int i).toI = some i := rfl
theorem ov_rng {k : List PV → Prop} : OV (PV.rng (.int i)) k = Cnd (bd62 i) (k (rngV 0 i.toNat)) False := by
  unfold PV.rng
  cases h : bd62 i <;> simp only [h] <;> rfl
theorem isdct : isDct (.dct o kvs) = true := rfl
theorem nn_non : PV.isNon .non = true := rfl
theorem nn_int : PV.isNon (.int i) = false := rfl
theorem nn_lst : PV.isNon (.lst o xs) = false := rfl
theorem nn_tup : PV.isNon (.tup xs) = false := rfl
theorem nn_str : PV.isNon (.str a) = false := rfl
theorem nn_bl {k : Bool} : PV.isNon (.bl k) = false := rfl
/-! lists by place -/
theorem at_nat {α : Type} {xs : List α} {n : Nat} : atI xs (n : Int) = xs[n]? := by
  unfold atI ixN
  rw [if_pos (by omega)]
  by_cases h : n < xs.length
  · rw [if_pos (by omega)]
    rfl
  · rw [if_neg (by omega), List.getElem?_eq_none (by omega)]
    rfl
theorem at_0 {α : Type} {x : α} {xs : List α} : atI (x :: xs) 0 = some x := at_nat (n := 0)
theorem at_1 {α : Type} {x y : α} {xs : List α} : atI (x :: y :: xs) 1 = some y := at_nat (n := 1)
theorem at_2 {α : Type} {x y z : α} {xs : List α} : atI (x :: y :: z :: xs) 2 = some z := at_nat (n := 2)
theorem ix_nat {m n : Nat} (h : n < m) : ixN m (n : Int) = some n := by
  unfold ixN
  rw [if_pos (by omega), if_pos (by omega)]
  rfl
theorem ix_0 {m : Nat} : ixN (m + 1) 0 = some 0 := ix_nat (n := 0) (by omega)
theorem ix_1 {m : Nat} : ixN (m + 2) 1 = some 1 := ix_nat (n := 1) (by omega)
theorem ix_2 {m : Nat} : ixN (m + 3) 2 = some 2 := ix_nat (n := 2) (by omega)
theorem ix_3 {m : Nat} : ixN (m + 4) 3 = some 3 := ix_nat (n := 3) (by omega)
theorem at_int {α : Type} {xs : List α} {i : Int} (h : 0 ≤ i) : atI xs i = xs[i.toNat]? := by
  have := at_nat (xs := xs) (n := i.toNat)
  rwa [Int.toNat_of_nonneg h] at this
theorem at_last' {α : Type} {xs : List α} {x : α} : atI (xs ++ [x]) (-1) = some x := by
  unfold atI ixN
  rw [if_neg (by decide), if_pos (by simp only [List.length_append, List.length_cons, List.length_nil]; omega)]
  show (xs ++ [x])[(-1 + ((xs ++ [x]).length : Int)).toNat]? = _
  rw [show (-1 + ((xs ++ [x]).length : Int)).toNat = xs.length by simp only [List.length_append, List.length_cons, List.length_nil]; omega]
  simp
theorem mu_app {y : PV} (h : xs.length < 16777216) : muAppend (.lst true xs) [y] = some (.non, .lst true (xs ++ [y])) := by
  unfold muAppend
  have : lenOk (xs.length + 1) = true := by unfold lenOk; exact decide_eq_true (by omega)
  simp only [this, if_true]
theorem ov_app {y : PV} {k : PV × PV → Prop} : OV (muAppend (.lst true xs) [y]) k = Cnd (lenOk (xs.length + 1)) (k (.non, .lst true (xs ++ [y]))) False := by
  unfold muAppend
  cases h : lenOk (xs.length + 1) <;> simp only [h] <;> rfl
theorem ov_ins {y : PV} {k : PV × PV → Prop} : OV (muInsert (.lst true xs) [.int i, y]) k = Cnd (decide (lenOk (xs.length + 1) = true ∧ 0 ≤ i ∧ i < 9223372036854775808)) (k (.non, .lst true (xs.take i.toNat ++ [y] ++ xs.drop i.toNat))) False := by
  unfold muInsert
  by_cases h : lenOk (xs.length + 1) = true ∧ 0 ≤ i ∧ i < 9223372036854775808
  · simp only [h, if_true, decide_true]; rfl
  · simp only [h, if_false, decide_false]; rfl
theorem ov_ext {k : PV × PV → Prop} : OV (muExtend (.lst true xs) [.lst false ys]) k = Cnd (lenOk (xs.length + ys.length)) (k (.non, .lst true (xs ++ ys))) False := by
  unfold muExtend
  cases h : lenOk (xs.length + ys.length) <;> simp only [h] <;> rfl
theorem ov_setL {n : Int} {w : PV} {k : PV → Prop} : OV (setItemA (.lst true xs) (.int n) w) k = OV (ixN xs.length n) (fun j => k (.lst true (xs.set j w))) := by
  show OV ((ixN xs.length n).map fun j => .lst true (xs.set j w)) k = _
  cases ixN xs.length n <;> rfl
theorem ov_setD {n w : PV} {k : PV → Prop} : OV (setItemA (.dct true kvs) n w) k = Cnd (dkOk kvs n && lenOk (kvs.length + 1)) (k (.dct true (kstore kvs n w))) False := by
  show OV (if dkOk kvs n && lenOk (kvs.length + 1) then some (PV.dct true (kstore kvs n w)) else none) k = _
  cases (dkOk kvs n && lenOk (kvs.length + 1)) <;> rfl
theorem ov_setF {Cn fl : Str} {w : PV} {fs : List (Str × PV)} {k : PV → Prop} : OV (setFld Cn fl w (.obj true Cn fs)) k = Cnd (decide (fs.length < 1000)) (k (.obj true Cn (putP fl w fs))) False := by
  show OV (if Cn = Cn ∧ fs.length < 1000 then some (PV.obj true Cn (putP fl w fs)) else none) k = _
  by_cases h : fs.length < 1000
  · simp only [h, true_and, and_true, if_true, decide_true]; rfl
  · simp only [h, and_false, if_false, decide_false]; rfl
/-! arguments -/
theorem oa_nil {k : List PV → Prop} : OV (argsAt [] [] ρ) k = k [] := rfl
theorem oa_f {ms : List Md} {d : PV} {ds : List PV} {k : List PV → Prop} : OV (argsAt (.f :: ms) (d :: ds) ρ) k = OV (argsAt ms ds ρ) (fun r => k (d :: r)) := by
  show OV ((argsAt ms ds ρ).map fun r => d :: r) k = _
  cases argsAt ms ds ρ <;> rfl
theorem oa_t {ms : List Md} {d : PV} {ds : List PV} {k : List PV → Prop} : OV (argsAt (.t :: ms) (d :: ds) ρ) k = OV (argsAt ms ds ρ) (fun r => k (d :: r)) := by
  show OV ((argsAt ms ds ρ).map fun r => d :: r) k = _
  cases argsAt ms ds ρ <;> rfl
theorem oa_s {n : Nat} {ms : List Md} {d : PV} {ds : List PV} {k : List PV → Prop} : OV (argsAt (.s n :: ms) (d :: ds) ρ) k = GV ρ[n]? (fun d => Cnd d.calm (OV (argsAt ms ds ρ) (fun r => k (d :: r))) False) := by
  show OV (match ρ[n]? with | some (some d) => (if d.calm then (argsAt ms ds ρ).map fun r => d :: r else none) | _ => none) k = _
  cases ρ[n]? with
  | none => rfl
  | some x => cases x with
    | none => rfl
    | some d =>
      rw [gv_some]
      show OV (if d.calm then (argsAt ms ds ρ).map fun r => d :: r else none) k = _
      cases h : d.calm with
      | true =>
        show OV ((argsAt ms ds ρ).map fun r => d :: r) k = _
        cases argsAt ms ds ρ <;> rfl
      | false => rfl
theorem isobj {C m : Str} {fs : List (Str × PV)} {p : Bool} : isObjOf C m (.obj p C fs) = (fs.lookup m).isNone := by
  show ((C == C) && (fs.lookup m).isNone) = _
  rw [beq_self_eq_true, Bool.true_and]
theorem fldof {C fl : Str} {fs : List (Str × PV)} {p : Bool} : fldOf C fl (.obj p C fs) = (match fs.lookup fl with | some d => (if d.own || d.isE then none else some d) | none => none) := by
  unfold fldOf
  dsimp only
  rw [if_pos rfl]
  try (cases fs.lookup fl <;> rfl)
end
end Wv.Z

set_option Elab.async false
set_option linter.all false
set_option autoImplicit false
set_option maxRecDepth 100000
/-! WxD: the equations of WxA .. WxC over names that simp leaves as they are: what stands behind is looked at only when it is reached. -/
namespace Wv
open PySem PySem.Spec PyProof.Rows L2
/-- a token: what another argument's type speaks of is not rewritten by simp -/
structure Tk {α : Sort _} (a : α) : Type where
@[irreducible] def WM {α : Type} (f : M α) (ρ : Sl) (Q : α → Sl → Prop) (E : EQ) (_ : Tk Q := .mk) (_ : Tk E := .mk) : Prop := Z.WM f ρ Q E
@[irreducible] def WS (f : SM) (ρ : Sl) (Q : Out → Prop) (_ : Tk Q := .mk) : Prop := Z.WS f ρ Q
@[irreducible] def WF (r : FRes) (Q : PV → List (Option PV) → Prop) (E : Str → List (Str × PV) → List (Option PV) → Prop) (_ : Tk Q := .mk) (_ : Tk E := .mk) : Prop := Z.WF r Q E
@[irreducible] def GV (x : Option (Option PV)) (k : PV → Prop) (_ : Tk k := .mk) : Prop := Z.GV x k
@[irreducible] def OV {α : Type} (x : Option α) (k : α → Prop) (_ : Tk k := .mk) : Prop := Z.OV x k
@[irreducible] def Cnd (b : Bool) (A B : Prop) (_ : Tk A := .mk) (_ : Tk B := .mk) : Prop := Z.Cnd b A B
@[irreducible] def NRM {β : Type} (x : β) (k : β → Prop) (_ : Tk k := .mk) : Prop := Z.NRM x k
@[irreducible] def EV (x : Option (Option PV)) (i : Nat) (ρ : Sl) (Q : PV → Sl → Prop) (_ : Tk Q := .mk) : Prop := Z.EV x i ρ Q
@[irreducible] def GL (x : Option (Option PV)) (k : PV → Prop) (_ : Tk k := .mk) : Prop := Z.GL x k
@[irreducible] def SQ (g : SM) (Q : Out → Prop) : Out → Prop := Z.SQ g Q
@[irreducible] def RQ (io : List Nat) (Q : PV → List (Option PV) → Prop) (E : Str → List (Str × PV) → List (Option PV) → Prop) : Out → Prop := Z.RQ io Q E
theorem nrm {β : Type} {x : β} {k : β → Prop} : NRM x k = k x := by with_unfolding_all exact Z.nrm 
section
variable {α β : Type} {f g h : M PV} {p q : M Bool} {ρ : Sl} {Q : PV → Sl → Prop} {QB : Bool → Sl → Prop} {QA : List PV → Sl → Prop} {QS : Out → Prop} {E : EQ} {u : M (List PV)} {ga : M (List PV)} {i j : Nat} {op op' : PV → PV → M PV} {o1 : PV → M PV} {s t : SM}
theorem gv_some {d : PV} {k : PV → Prop} : GV (some (some d)) k = k d := by with_unfolding_all exact Z.gv_some 
theorem ov_some {d : α} {k : α → Prop} : OV (some d) k = k d := by with_unfolding_all exact Z.ov_some 
theorem cnd_t {A B : Prop} : Cnd true A B = A := by with_unfolding_all exact Z.cnd_t 
theorem cnd_f {A B : Prop} : Cnd false A B = B := by with_unfolding_all exact Z.cnd_f 
theorem cnd_of {b : Bool} {A B : Prop} (h1 : b = true → A) (h2 : b = false → B) : Cnd b A B := by with_unfolding_all exact Z.cnd_of h1 h2
theorem cnd_go {b : Bool} {A B : Prop} (h : b = true) (ha : A) : Cnd b A B := by with_unfolding_all exact Z.cnd_go h ha
theorem ov_of {x : Option α} {d : α} {k : α → Prop} (e : x = some d) (h : k d) : OV x k := by with_unfolding_all exact Z.ov_of e h
theorem wf_ok {v : PV} {os : List (Option PV)} {Q : PV → List (Option PV) → Prop} {E : Str → List (Str × PV) → List (Option PV) → Prop} : WF (.ok v os) Q E = Q v os := by with_unfolding_all exact Z.wf_ok 
theorem ov_none {k : α → Prop} : OV none k = False := by with_unfolding_all exact Z.ov_none 
theorem wf_mono {r : FRes} {P Q : PV → List (Option PV) → Prop} {E : Str → List (Str × PV) → List (Option PV) → Prop} (h : WF r P noE) (k : ∀ v os, P v os → Q v os) : WF r Q E := by with_unfolding_all exact Z.wf_mono h k
theorem wf_eq {r : FRes} {v : PV} {os : List (Option PV)} (h : WF r (fun v' os' => v' = v ∧ os' = os) noE) : r = .ok v os := by with_unfolding_all exact Z.wf_eq h
theorem wm_mono {f : M α} {P R : α → Sl → Prop} {E' : EQ} (h : WM f ρ P E) (k : ∀ v os, P v os → R v os) (ke : ∀ C fs ρ, E C fs ρ → E' C fs ρ) : WM f ρ R E' := by with_unfolding_all exact Z.wm_mono h k ke
theorem ws_mono {P R : Out → Prop} (h : WS s ρ P) (k : ∀ o, P o → R o) : WS s ρ R := by with_unfolding_all exact Z.ws_mono h k
theorem wm_bind {f : M α} {g : α → M β} {Q : β → Sl → Prop} : WM (M.bind f g) ρ Q E = WM f ρ (fun a ρ' => WM (g a) ρ' Q E) E := by with_unfolding_all exact Z.wm_bind 
theorem wm_ret {a : α} {Q : α → Sl → Prop} : WM (M.ret a) ρ Q E = Q a ρ := by with_unfolding_all exact Z.wm_ret 
theorem wm_ofO {x : Option α} {Q : α → Sl → Prop} : WM (ofO x) ρ Q E = OV x (fun a => Q a ρ) := by with_unfolding_all exact Z.wm_ofO 
theorem wm_eK {v : PV} : WM (eK v) ρ Q E = Q v ρ := by with_unfolding_all exact Z.wm_eK 
theorem wm_eV : WM (eV i) ρ Q E = EV (ρ[i]?) i ρ Q := by with_unfolding_all exact Z.wm_eV 
theorem ev_int' {n : Int} : EV (some (some (.int n))) i ρ Q = Q (.int n) ρ := by with_unfolding_all exact Z.ev_int' 
theorem ev_bl {n : Bool} : EV (some (some (.bl n))) i ρ Q = Q (.bl n) ρ := by with_unfolding_all exact Z.ev_bl 
theorem ev_str {n : Str} : EV (some (some (.str n))) i ρ Q = Q (.str n) ρ := by with_unfolding_all exact Z.ev_str 
theorem ev_non : EV (some (some .non)) i ρ Q = Q .non ρ := by with_unfolding_all exact Z.ev_non 
theorem ev_tup {xs : List PV} : EV (some (some (.tup xs))) i ρ Q = Q (.tup xs) ρ := by with_unfolding_all exact Z.ev_tup 
theorem ev_lstF {xs : List PV} : EV (some (some (.lst false xs))) i ρ Q = Q (.lst false xs) ρ := by with_unfolding_all exact Z.ev_lstF 
theorem ev_dctF {xs : List (PV × PV)} : EV (some (some (.dct false xs))) i ρ Q = Q (.dct false xs) ρ := by with_unfolding_all exact Z.ev_dctF 
theorem ev_objF {C : Str} {xs : List (Str × PV)} : EV (some (some (.obj false C xs))) i ρ Q = Q (.obj false C xs) ρ := by with_unfolding_all exact Z.ev_objF 
theorem ev_lstT {xs : List PV} : EV (some (some (.lst true xs))) i ρ Q = NRM (ρ.set i (some (.lst false xs))) (fun ρ' => Q (.lst false xs) ρ') := by with_unfolding_all exact Z.ev_lstT 
theorem ev_dctT {xs : List (PV × PV)} : EV (some (some (.dct true xs))) i ρ Q = NRM (ρ.set i (some (.dct false xs))) (fun ρ' => Q (.dct false xs) ρ') := by with_unfolding_all exact Z.ev_dctT 
theorem ev_free {d : PV} (h : d.own = false) : EV (some (some d)) i ρ Q = Q d ρ := by with_unfolding_all exact Z.ev_free h
theorem wm_eBin : WM (eBin op f g) ρ Q E = WM f ρ (fun x ρ1 => WM g ρ1 (fun y ρ2 => WM (op x y) ρ2 Q E) E) E := by with_unfolding_all exact Z.wm_eBin 
theorem wm_eBinL : WM (eBinL op i g) ρ Q E = GV ρ[i]? (fun _ => WM g ρ (fun y ρ' => GV ρ'[i]? (fun d => WM (op d y) ρ' Q E)) E) := by with_unfolding_all exact Z.wm_eBinL 
theorem wm_eBinR : WM (eBinR op f i) ρ Q E = WM f ρ (fun x ρ' => GV ρ'[i]? (fun d => WM (op x d) ρ' Q E)) E := by with_unfolding_all exact Z.wm_eBinR 
theorem wm_eBinB : WM (eBinB op i j) ρ Q E = GV ρ[i]? (fun d => GV ρ[j]? (fun d' => WM (op d d') ρ Q E)) := by with_unfolding_all exact Z.wm_eBinB 
theorem wm_eUn : WM (eUn o1 f) ρ Q E = WM f ρ (fun x ρ1 => WM (o1 x) ρ1 Q E) E := by with_unfolding_all exact Z.wm_eUn 
theorem wm_eUnB : WM (eUnB o1 i) ρ Q E = GV ρ[i]? (fun d => WM (o1 d) ρ Q E) := by with_unfolding_all exact Z.wm_eUnB 
theorem wm_eAnd : WM (eAnd f g) ρ Q E = WM f ρ (fun v ρ1 => OV v.truth (fun b => Cnd b (WM g ρ1 Q E) (Q v ρ1))) E := by with_unfolding_all exact Z.wm_eAnd 
theorem wm_eOr : WM (eOr f g) ρ Q E = WM f ρ (fun v ρ1 => OV v.truth (fun b => Cnd b (Q v ρ1) (WM g ρ1 Q E))) E := by with_unfolding_all exact Z.wm_eOr 
theorem wm_bT : WM (bT f) ρ QB E = WM f ρ (fun v ρ1 => OV v.truth (fun b => QB b ρ1)) E := by with_unfolding_all exact Z.wm_bT 
theorem wm_bV : WM (bV f) ρ QB E = WM f ρ (fun v ρ1 => OV v.bool (fun b => QB b ρ1)) E := by with_unfolding_all exact Z.wm_bV 
theorem wm_bAnd : WM (bAnd p q) ρ QB E = WM p ρ (fun b ρ1 => Cnd b (WM q ρ1 QB E) (QB false ρ1)) E := by with_unfolding_all exact Z.wm_bAnd 
theorem wm_bOr : WM (bOr p q) ρ QB E = WM p ρ (fun b ρ1 => Cnd b (QB true ρ1) (WM q ρ1 QB E)) E := by with_unfolding_all exact Z.wm_bOr 
theorem wm_bNot : WM (bNot p) ρ QB E = WM p ρ (fun b ρ1 => QB (!b) ρ1) E := by with_unfolding_all exact Z.wm_bNot 
theorem wm_bYes : WM bYes ρ QB E = QB true ρ := by with_unfolding_all exact Z.wm_bYes 
theorem wm_eIf : WM (eIf p f g) ρ Q E = WM p ρ (fun b ρ1 => Cnd b (WM f ρ1 Q E) (WM g ρ1 Q E)) E := by with_unfolding_all exact Z.wm_eIf 
theorem wm_eChn : WM (eChn op op' f g h) ρ Q E = WM f ρ (fun x ρ1 => WM g ρ1 (fun y ρ2 => WM (op x y) ρ2 (fun z ρ3 => OV z.bool (fun b => Cnd b (WM h ρ3 (fun w ρ4 => WM (op' y w) ρ4 Q E) E) (Q (.bl false) ρ3))) E) E) E := by with_unfolding_all exact Z.wm_eChn 
theorem wm_frzM {v : PV} : WM (frzM v) ρ Q E = Cnd v.calm (Q v.frz ρ) False := by with_unfolding_all exact Z.wm_frzM 
theorem wm_aNil : WM aNil ρ QA E = QA [] ρ := by with_unfolding_all exact Z.wm_aNil 
theorem wm_aCons : WM (aCons f u) ρ QA E = WM f ρ (fun x ρ1 => WM (frzM x) ρ1 (fun y ρ2 => WM u ρ2 (fun ys ρ3 => QA (y :: ys) ρ3) E) E) E := by with_unfolding_all exact Z.wm_aCons 
theorem wm_uCons : WM (uCons f u) ρ QA E = WM f ρ (fun x ρ1 => WM u ρ1 (fun ys ρ3 => QA (x :: ys) ρ3) E) E := by with_unfolding_all exact Z.wm_uCons 
theorem wm_aStar : WM (aStar f u) ρ QA E = WM f ρ (fun v ρ1 => OV v.seq (fun xs => WM u ρ1 (fun ys ρ2 => QA (xs ++ ys) ρ2) E)) E := by with_unfolding_all exact Z.wm_aStar 
theorem wm_mT : WM (mT f u) ρ QA E = WM f ρ (fun x ρ1 => Cnd x.calm (WM u ρ1 (fun ys ρ2 => QA (x :: ys) ρ2) E) False) E := by with_unfolding_all exact Z.wm_mT 
theorem wm_mS : WM (mS i u) ρ QA E = GV ρ[i]? (fun _ => WM u ρ (fun ys ρ2 => QA (.non :: ys) ρ2) E) := by with_unfolding_all exact Z.wm_mS 
theorem wm_eTup : WM (eTup u) ρ Q E = WM u ρ (fun xs ρ1 => Cnd (lenOk xs.length) (Q (.tup xs) ρ1) False) E := by with_unfolding_all exact Z.wm_eTup 
theorem wm_eLst : WM (eLst u) ρ Q E = WM u ρ (fun xs ρ1 => Cnd (lenOk xs.length) (Q (.lst true xs) ρ1) False) E := by with_unfolding_all exact Z.wm_eLst 
theorem wm_eDict0 : WM eDict0 ρ Q E = Q (.dct true []) ρ := by with_unfolding_all exact Z.wm_eDict0 
theorem wm_eSl0 : WM (eSl0 f) ρ Q E = WM f ρ (fun x ρ1 => WM (opSlc x none none) ρ1 Q E) E := by with_unfolding_all exact Z.wm_eSl0 
theorem wm_eSlL : WM (eSlL f g) ρ Q E = WM f ρ (fun x ρ1 => WM g ρ1 (fun y ρ2 => OV y.toI (fun i => WM (opSlc x (some i) none) ρ2 Q E)) E) E := by with_unfolding_all exact Z.wm_eSlL 
theorem wm_eSlH : WM (eSlH f g) ρ Q E = WM f ρ (fun x ρ1 => WM g ρ1 (fun y ρ2 => OV y.toI (fun i => WM (opSlc x none (some i)) ρ2 Q E)) E) E := by with_unfolding_all exact Z.wm_eSlH 
theorem wm_eSlB : WM (eSlB f g h) ρ Q E = WM f ρ (fun x ρ1 => WM g ρ1 (fun y ρ2 => OV y.toI (fun i => WM h ρ2 (fun z ρ3 => OV z.toI (fun j => WM (opSlc x (some i) (some j)) ρ3 Q E)) E)) E) E := by with_unfolding_all exact Z.wm_eSlB 
theorem wm_eGet : WM (eGet f g) ρ Q E = WM f ρ (fun d ρ1 => Cnd (isDct d) (WM g ρ1 (fun k ρ2 => WM (opGet d k) ρ2 Q E) E) False) E := by with_unfolding_all exact Z.wm_eGet 
theorem wm_eGetB : WM (eGetB i g) ρ Q E = GV ρ[i]? (fun d => Cnd (isDct d) (WM g ρ (fun k ρ' => GV ρ'[i]? (fun d' => WM (opGet d' k) ρ' Q E)) E) False) := by with_unfolding_all exact Z.wm_eGetB 
theorem wm_callR {ms : List Md} {io dd : _} {sem : List PV → FRes} {ds : List PV} : WM (callR ms io dd sem ds) ρ Q E = OV (argsAt ms ds ρ) (fun cs => WF (sem (cs ++ dd)) (fun v outs => NRM (putB ms io outs ρ) (fun ρ' => Q v ρ')) (fun C fs outs => E C fs (putB ms io outs ρ))) := by with_unfolding_all exact Z.wm_callR 
theorem wm_eCall {ms : List Md} {io : List Nat} {dd : List PV} {sem : List PV → FRes} : WM (eCall ms io dd sem u) ρ Q E = WM u ρ (fun ds ρ1 => WM (callR ms io dd sem ds) ρ1 Q E) E := by with_unfolding_all exact Z.wm_eCall 
theorem wm_eCallK {n : Nat} {pm : List Nat} {sem : List PV → FRes} : WM (eCallK n pm sem u) ρ Q E = WM u ρ (fun ds ρ1 => Cnd (decide (ds.length = n)) (WM (callR (List.replicate pm.length .f) [] [] sem (pick pm ds)) ρ1 Q E) False) E := by with_unfolding_all exact Z.wm_eCallK 
theorem wm_eMeth {Cn m : Str} {ms : List Md} {io : List Nat} {dd : List PV} {sem : List PV → FRes} : WM (eMeth Cn m ms io dd sem f u) ρ Q E = WM f ρ (fun d ρ1 => WM (frzM d) ρ1 (fun d' ρ2 => Cnd (isObjOf Cn m d') (WM u ρ2 (fun ds ρ3 => WM (callR (.f :: ms) io dd sem (d' :: ds)) ρ3 Q E) E) False) E) E := by with_unfolding_all exact Z.wm_eMeth 
theorem mkq {ms : List Md} {io : List Nat} {d0 : PV} {outs : List (Option PV)} : MkQ ms io ρ Q .non (some d0 :: outs) = NRM (putB (.t :: ms) io (some d0 :: outs) ρ) (fun ρ' => Q d0 ρ') := by with_unfolding_all exact Z.mkq 
theorem wm_eMake {Cn : Str} {ms : List Md} {io : List Nat} {dd : List PV} {sem : List PV → FRes} : WM (eMake Cn ms io dd sem u) ρ Q E = WM u ρ (fun ds ρ1 => OV (argsAt ms ds ρ1) (fun cs => WF (sem (.obj true Cn [] :: (cs ++ dd))) (MkQ ms io ρ1 Q) (fun C fs outs => E C fs (putB (.t :: ms) io outs ρ1)))) E := by with_unfolding_all exact Z.wm_eMake 
theorem wm_iAny : WM (iAny f) ρ QA E = WM f ρ (fun v ρ1 => OV v.itemsA (fun xs => QA xs ρ1)) E := by with_unfolding_all exact Z.wm_iAny 
theorem wm_iItems : WM (iItems f) ρ QA E = WM f ρ (fun v ρ1 => OV v.dprs (fun xs => QA xs ρ1)) E := by with_unfolding_all exact Z.wm_iItems 
theorem wm_iVals : WM (iVals f) ρ QA E = WM f ρ (fun v ρ1 => OV v.dvls (fun xs => QA xs ρ1)) E := by with_unfolding_all exact Z.wm_iVals 
theorem wm_iEnum : WM (iEnum f) ρ QA E = WM f ρ (fun v ρ1 => OV v.enums (fun xs => QA xs ρ1)) E := by with_unfolding_all exact Z.wm_iEnum 
theorem wm_iRange1 : WM (iRange1 f) ρ QA E = WM f ρ (fun v ρ1 => OV v.rng (fun xs => QA xs ρ1)) E := by with_unfolding_all exact Z.wm_iRange1 
theorem wm_iRange2 : WM (iRange2 f g) ρ QA E = WM f ρ (fun v ρ1 => WM g ρ1 (fun w ρ2 => OV v.toI (fun i => OV w.toI (fun j => Cnd (bd62 i && bd62 j) (QA (rngV i (j - i).toNat) ρ2) False))) E) E := by with_unfolding_all exact Z.wm_iRange2 
theorem gl_lst {xs : List PV} {k : PV → Prop} : GL (some (some (.lst true xs))) k = k (.lst true xs) := by with_unfolding_all exact Z.gl_lst 
theorem wm_mLst {op : PV → List PV → Option (PV × PV)} : WM (mLst op i u) ρ Q E = GL ρ[i]? (fun _ => WM u ρ (fun vs ρ' => GV ρ'[i]? (fun d => OV (op d vs) (fun r => NRM (ρ'.set i (some r.2)) (fun ρ2 => Q r.1 ρ2)))) E) := by with_unfolding_all exact Z.wm_mLst 
end
section
variable {α β : Type} {f g h : M PV} {p q : M Bool} {ρ : Sl} {Q : Out → Prop} {u : M (List PV)} {i j : Nat} {s t : SM} {J : Sl → Prop} {gt : Gt}
theorem sq_nx : SQ s Q (.nx ρ) = WS s ρ Q := by with_unfolding_all exact Z.sq_nx 
theorem sq_rt {v : PV} : SQ s Q (.rt v ρ) = Q (.rt v ρ) := by with_unfolding_all exact Z.sq_rt 
theorem sq_bk : SQ s Q (.bk ρ) = Q (.bk ρ) := by with_unfolding_all exact Z.sq_bk 
theorem sq_ct : SQ s Q (.ct ρ) = Q (.ct ρ) := by with_unfolding_all exact Z.sq_ct 
theorem sq_exc {C : Str} {fs : List (Str × PV)} : SQ s Q (.exc C fs ρ) = Q (.exc C fs ρ) := by with_unfolding_all exact Z.sq_exc 
theorem lq_nx : LQ J Q (.nx ρ) = J ρ := by with_unfolding_all exact Z.lq_nx 
theorem lq_rt {v : PV} : LQ J Q (.rt v ρ) = Q (.rt v ρ) := by with_unfolding_all exact Z.lq_rt 
theorem lq_bk : LQ J Q (.bk ρ) = Q (.nx ρ) := by with_unfolding_all exact Z.lq_bk 
theorem lq_ct : LQ J Q (.ct ρ) = J ρ := by with_unfolding_all exact Z.lq_ct 
theorem lq_exc {C : Str} {fs : List (Str × PV)} : LQ J Q (.exc C fs ρ) = Q (.exc C fs ρ) := by with_unfolding_all exact Z.lq_exc 
theorem rq_nx {io : List Nat} {R : PV → List (Option PV) → Prop} {E : Str → List (Str × PV) → List (Option PV) → Prop} : RQ io R E (.nx ρ) = NRM (outsOf io ρ) (fun os => R .non os) := by with_unfolding_all exact Z.rq_nx 
theorem rq_rt {v : PV} {io : List Nat} {R : PV → List (Option PV) → Prop} {E : Str → List (Str × PV) → List (Option PV) → Prop} : RQ io R E (.rt v ρ) = Cnd v.calm (NRM (outsOf io ρ) (fun os => R v os)) False := by with_unfolding_all exact Z.rq_rt 
theorem rq_exc {C : Str} {fs : List (Str × PV)} {io : List Nat} {R : PV → List (Option PV) → Prop} {E : Str → List (Str × PV) → List (Option PV) → Prop} : RQ io R E (.exc C fs ρ) = E C fs (outsOf io ρ) := by with_unfolding_all exact Z.rq_exc 
theorem xq {C : Str} {fs : List (Str × PV)} : XQ Q C fs ρ = Q (.exc C fs ρ) := by with_unfolding_all exact Z.xq 
theorem ws_sE {f : M α} {k : α → SM} : WS (sE f k) ρ Q = WM f ρ (fun v ρ1 => WS (k v) ρ1 Q) (XQ Q) := by with_unfolding_all exact Z.ws_sE 
theorem ws_sNil : WS sNil ρ Q = Q (.nx ρ) := by with_unfolding_all exact Z.ws_sNil 
theorem ws_nx : WS Out.nx ρ Q = Q (.nx ρ) := by with_unfolding_all exact Z.ws_nx 
theorem ws_bk : WS Out.bk ρ Q = Q (.bk ρ) := by with_unfolding_all exact Z.ws_bk 
theorem ws_ct : WS Out.ct ρ Q = Q (.ct ρ) := by with_unfolding_all exact Z.ws_ct 
theorem ws_rtv {v : PV} : WS (Out.rt v) ρ Q = Q (.rt v ρ) := by with_unfolding_all exact Z.ws_rtv 
theorem ws_sBad : WS sBad ρ Q = False := by with_unfolding_all exact Z.ws_sBad 
theorem ws_sSeq : WS (sSeq s t) ρ Q = WS s ρ (SQ t Q) := by with_unfolding_all exact Z.ws_sSeq 
theorem ws_sDrop : WS (sDrop f) ρ Q = WM f ρ (fun _ ρ1 => Q (.nx ρ1)) (XQ Q) := by with_unfolding_all exact Z.ws_sDrop 
theorem ws_sRet : WS (sRet f) ρ Q = WM f ρ (fun v ρ1 => Q (.rt v ρ1)) (XQ Q) := by with_unfolding_all exact Z.ws_sRet 
theorem ws_sRetN : WS sRetN ρ Q = Q (.rt .non ρ) := by with_unfolding_all exact Z.ws_sRetN 
theorem ws_sIf : WS (sIf p s t) ρ Q = WM p ρ (fun b ρ1 => Cnd b (WS s ρ1 Q) (WS t ρ1 Q)) (XQ Q) := by with_unfolding_all exact Z.ws_sIf 
theorem ws_sAsg : WS (sAsg gt f) ρ Q = WM f ρ (fun v ρ1 => OV (gt v ρ1) (fun ρ2 => Q (.nx ρ2))) (XQ Q) := by with_unfolding_all exact Z.ws_sAsg 
theorem ov_gtN {d : PV} {k : Sl → Prop} : OV (gtN i d ρ) k = Cnd (decide (i < ρ.length)) (NRM (ρ.set i (some d)) k) False := by with_unfolding_all exact Z.ov_gtN 
theorem ov_gtT {n : Nat} {gs : List PV → Sl → Option Sl} {ds : List PV} {k : Sl → Prop} : OV (gtT n gs (.tup ds) ρ) k = Cnd (decide (ds.length = n)) (OV (gs ds ρ) k) False := by with_unfolding_all exact Z.ov_gtT 
theorem ov_gtCons {gs : List PV → Sl → Option Sl} {d : PV} {ds : List PV} {k : Sl → Prop} : OV (gtCons gt gs (d :: ds) ρ) k = OV (gt d ρ) (fun ρ1 => OV (gs ds ρ1) k) := by with_unfolding_all exact Z.ov_gtCons 
theorem ov_gtNil {k : Sl → Prop} : OV (gtNil [] ρ) k = k ρ := by with_unfolding_all exact Z.ov_gtNil 
theorem ws_sPar {is : List Nat} : WS (sPar is u) ρ Q = WM u ρ (fun vs ρ1 => OV (setAll is vs ρ1) (fun ρ2 => Q (.nx ρ2))) (XQ Q) := by with_unfolding_all exact Z.ws_sPar 
theorem ov_setAll {is : List Nat} {v : PV} {vs : List PV} {k : Sl → Prop} : OV (setAll (i :: is) (v :: vs) ρ) k = Cnd (decide (i < ρ.length)) (NRM (ρ.set i (some v)) (fun ρ' => OV (setAll is vs ρ') k)) False := by with_unfolding_all exact Z.ov_setAll 
theorem ov_setNil {k : Sl → Prop} : OV (setAll [] [] ρ) k = k ρ := by with_unfolding_all exact Z.ov_setNil 
theorem ws_sFor : WS (sFor u gt s) ρ Q = WM u ρ (fun xs ρ1 => WS (sItems gt s xs) ρ1 Q) (XQ Q) := by with_unfolding_all exact Z.ws_sFor 
theorem ws_items0 : WS (sItems gt s []) ρ Q = Q (.nx ρ) := by with_unfolding_all exact Z.ws_items0 
theorem ws_items1 {x : PV} {xs : List PV} : WS (sItems gt s (x :: xs)) ρ Q = OV (gt x ρ) (fun ρ1 => WS s ρ1 (LQ (fun ρ2 => WS (sItems gt s xs) ρ2 Q) Q)) := by with_unfolding_all exact Z.ws_items1 
theorem ws_sStA : WS (sStA f i g) ρ Q = WM f ρ (fun w0 ρ0 => WM (frzM w0) ρ0 (fun w ρ1 => GV ρ1[i]? (fun _ => WM g ρ1 (fun k ρ2 => GV ρ2[i]? (fun d => OV (setItemA d k w) (fun d' => NRM (ρ2.set i (some d')) (fun ρ3 => Q (.nx ρ3))))) (XQ Q))) (XQ Q)) (XQ Q) := by with_unfolding_all exact Z.ws_sStA 
theorem ws_sAugN {op : Int → Int → Int} : WS (sAugN op i f) ρ Q = GV ρ[i]? (fun d => OV d.toI (fun a => WM f ρ (fun w ρ1 => OV w.toI (fun b => Cnd (decide (i < ρ1.length)) (NRM (ρ1.set i (some (.int (op a b)))) (fun ρ3 => Q (.nx ρ3))) False)) (XQ Q))) := by with_unfolding_all exact Z.ws_sAugN 
theorem ws_sAugI {op : Int → Int → Int} : WS (sAugI op i f g) ρ Q = GV ρ[i]? (fun _ => WM f ρ (fun kd ρ1 => OV kd.toI (fun n => GV ρ1[i]? (fun d => OV (lstInt d n) (fun a => WM g ρ1 (fun w ρ2 => OV w.toI (fun b => GV ρ2[i]? (fun d' => OV (lstPut d' n (op a b)) (fun e => NRM (ρ2.set i (some e)) (fun ρ3 => Q (.nx ρ3)))))) (XQ Q))))) (XQ Q)) := by with_unfolding_all exact Z.ws_sAugI 
theorem ws_sFldS {Cn fl : Str} : WS (sFldS Cn fl f i) ρ Q = WM f ρ (fun w0 ρ0 => WM (frzM w0) ρ0 (fun w ρ1 => GV ρ1[i]? (fun d => OV (setFld Cn fl w d) (fun d' => NRM (ρ1.set i (some d')) (fun ρ3 => Q (.nx ρ3))))) (XQ Q)) (XQ Q) := by with_unfolding_all exact Z.ws_sFldS 
theorem wf_runF {n : Nat} {io : List Nat} {ds : List PV} {R : PV → List (Option PV) → Prop} {E : Str → List (Str × PV) → List (Option PV) → Prop} : WF (runF n io s ds) R E = NRM (startS n ds) (fun ρ => WS s ρ (RQ io R E)) := by with_unfolding_all exact Z.wf_runF 
theorem ws_for {ys : List α} {enc : α → PV} (I : Nat → Sl → Prop) (h0 : I 0 ρ) (hs : ∀ i y ρ, ys[i]? = some y → I i ρ → OV (gt (enc y) ρ) (fun ρ1 => WS s ρ1 (LQ (I (i + 1)) Q))) (hd : ∀ ρ, I ys.length ρ → Q (.nx ρ)) : WS (sItems gt s (ys.map enc)) ρ Q := by with_unfolding_all exact Z.ws_for I h0 hs hd
theorem ws_range {n : Nat} (I : Nat → Sl → Prop) (h0 : I 0 ρ) (hs : ∀ (i : Nat) ρ, i < n → I i ρ → OV (gt (.int i) ρ) (fun ρ1 => WS s ρ1 (LQ (I (i + 1)) Q))) (hd : ∀ ρ, I n ρ → Q (.nx ρ)) : WS (sItems gt s (rngV 0 n)) ρ Q := by with_unfolding_all exact Z.ws_range I h0 hs hd
theorem wm_eLc {vs : List Nat} {R : PV → Sl → Prop} {E : EQ} : WM (eLc vs u gt p f) ρ R E = WM u ρ (fun xs ρ1 => WM (lcItems vs gt p f xs []) ρ1 (fun ys ρ2 => NRM (wipS ρ2 vs) (fun ρ3 => R (.lst true ys) ρ3)) E) E := by with_unfolding_all exact Z.wm_eLc 
theorem wm_lc {vs : List Nat} {ys : List α} {enc : α → PV} (P : α → Bool) (F : α → PV) {R : List PV → Sl → Prop} {E : EQ} (l : ys.length ≤ 16777216) (hs : ∀ y ∈ ys, OV (gt (enc y) (wipS ρ vs)) (fun ρ1 => WM p ρ1 (fun b ρ2 => b = P y ∧ Cnd b (WM f ρ2 (fun v ρ3 => v.calm = true ∧ v.frz = F y ∧ wipS ρ3 vs = wipS ρ vs) noX) (wipS ρ2 vs = wipS ρ vs)) noX)) (hq : R ((ys.filter P).map F) (wipS ρ vs)) : WM (lcItems vs gt p f (ys.map enc) []) ρ (fun zs ρ2 => NRM (wipS ρ2 vs) (fun ρ3 => R zs ρ3)) E := by with_unfolding_all exact Z.wm_lc P F l hs hq
theorem wm_lcY {vs : List Nat} {ys : List α} {enc : α → PV} (F : α → PV) {R : List PV → Sl → Prop} {E : EQ} (l : ys.length ≤ 16777216) (hs : ∀ y ∈ ys, OV (gt (enc y) (wipS ρ vs)) (fun ρ1 => WM f ρ1 (fun v ρ3 => v.calm = true ∧ v.frz = F y ∧ wipS ρ3 vs = wipS ρ vs) noX)) (hq : R (ys.map F) (wipS ρ vs)) : WM (lcItems vs gt bYes f (ys.map enc) []) ρ (fun zs ρ2 => NRM (wipS ρ2 vs) (fun ρ3 => R zs ρ3)) E := by with_unfolding_all exact Z.wm_lcY F l hs hq
end
section
variable {ρ : Sl} {Q : PV → Sl → Prop} {E : EQ} {i j : Int} {xs ys : List PV} {o o' : Bool} {a b : Str} {kvs : List (PV × PV)} {cs : List Str}
theorem wo_if {c : Prop} [Decidable c] {v : PV} : WM (if c then M.ret v else bad) ρ Q E = Cnd (decide c) (Q v ρ) False := by with_unfolding_all exact Z.wo_if 
theorem wo_add : WM (opAdd (.int i) (.int j)) ρ Q E = Q (.int (i + j)) ρ := by with_unfolding_all exact Z.wo_add 
theorem wo_addS : WM (opAdd (.str a) (.str b)) ρ Q E = Cnd (decide (a.length + b.length ≤ sizeLine)) (Q (.str (a ++ b)) ρ) False := by with_unfolding_all exact Z.wo_addS 
theorem wo_addL : WM (opAdd (.lst o xs) (.lst o' ys)) ρ Q E = Cnd (decide (xs.length + ys.length ≤ sizeLine)) (Q (.lst true (xs ++ ys)) ρ) False := by with_unfolding_all exact Z.wo_addL 
theorem wo_addT : WM (opAdd (.tup xs) (.tup ys)) ρ Q E = Cnd (decide (xs.length + ys.length ≤ sizeLine)) (Q (.tup (xs ++ ys)) ρ) False := by with_unfolding_all exact Z.wo_addT 
theorem wo_sub : WM (opSub (.int i) (.int j)) ρ Q E = Q (.int (i - j)) ρ := by with_unfolding_all exact Z.wo_sub 
theorem wo_neg : WM (opNeg (.int i)) ρ Q E = Q (.int (-i)) ρ := by with_unfolding_all exact Z.wo_neg 
theorem wo_times : WM (opTimes (.int i) (.int j)) ρ Q E = Cnd (decide (mulOk i j = true)) (Q (.int (i * j)) ρ) False := by with_unfolding_all exact Z.wo_times 
theorem wo_timesL : WM (opTimes (.lst true xs) (.int j)) ρ Q E = Cnd (decide (xs.length * j.toNat ≤ 16777216 ∧ -9223372036854775808 ≤ j ∧ j < 9223372036854775808)) (Q (.lst true (List.replicate j.toNat xs).flatten) ρ) False := by with_unfolding_all exact Z.wo_timesL 
theorem wo_timesT : WM (opTimes (.tup xs) (.int j)) ρ Q E = Cnd (decide (xs ≠ [] ∧ 2 ≤ j ∧ j ≤ 1000 ∧ xs.length ≤ 1000)) (Q (.tup (List.replicate j.toNat xs).flatten) ρ) False := by with_unfolding_all exact Z.wo_timesT 
theorem wo_mod : WM (opMod (.int i) (.int j)) ρ Q E = Cnd (decide (0 < j)) (Q (.int (i % j)) ρ) False := by with_unfolding_all exact Z.wo_mod 
theorem wo_div : WM (opDiv (.int i) (.int j)) ρ Q E = Cnd (decide (0 < j ∧ j < 18446744073709551616)) (Q (.int (i / j)) ρ) False := by with_unfolding_all exact Z.wo_div 
theorem wo_eqI : WM (opEq (.int i) (.int j)) ρ Q E = Q (.bl (decide (i = j))) ρ := by with_unfolding_all exact Z.wo_eqI 
theorem wo_neI : WM (opNe (.int i) (.int j)) ρ Q E = Q (.bl (!decide (i = j))) ρ := by with_unfolding_all exact Z.wo_neI 
theorem wo_ltI : WM (opLt (.int i) (.int j)) ρ Q E = Q (.bl (decide (i < j))) ρ := by with_unfolding_all exact Z.wo_ltI 
theorem wo_leI : WM (opLe (.int i) (.int j)) ρ Q E = Q (.bl (decide (i ≤ j))) ρ := by with_unfolding_all exact Z.wo_leI 
theorem wo_gtI : WM (opGt (.int i) (.int j)) ρ Q E = Q (.bl (decide (j < i))) ρ := by with_unfolding_all exact Z.wo_gtI 
theorem wo_geI : WM (opGe (.int i) (.int j)) ρ Q E = Q (.bl (decide (j ≤ i))) ρ := by with_unfolding_all exact Z.wo_geI 
theorem wo_is {d : PV} : WM (opIs d .non) ρ Q E = Q (.bl d.isNon) ρ := by with_unfolding_all exact Z.wo_is 
theorem wo_isNot {d : PV} : WM (opIsNot d .non) ρ Q E = Q (.bl (!d.isNon)) ρ := by with_unfolding_all exact Z.wo_isNot 
theorem wo_max : WM (opMax (.int i) (.int j)) ρ Q E = Q (.int (if j > i then j else i)) ρ := by with_unfolding_all exact Z.wo_max 
theorem wo_min : WM (opMin (.int i) (.int j)) ρ Q E = Q (.int (if j < i then j else i)) ρ := by with_unfolding_all exact Z.wo_min 
theorem wo_abs : WM (opAbs (.int i)) ρ Q E = Q (.int (if i < 0 then -i else i)) ρ := by with_unfolding_all exact Z.wo_abs 
theorem wo_intI : WM (opInt (.int i)) ρ Q E = Q (.int i) ρ := by with_unfolding_all exact Z.wo_intI 
theorem wo_intB {k : Bool} : WM (opInt (.bl k)) ρ Q E = Q (.int (if k then 1 else 0)) ρ := by with_unfolding_all exact Z.wo_intB 
theorem wo_lenL : WM (opLen (.lst o xs)) ρ Q E = Q (.int xs.length) ρ := by with_unfolding_all exact Z.wo_lenL 
theorem wo_lenT : WM (opLen (.tup xs)) ρ Q E = Q (.int xs.length) ρ := by with_unfolding_all exact Z.wo_lenT 
theorem wo_lenS : WM (opLen (.str a)) ρ Q E = Q (.int a.length) ρ := by with_unfolding_all exact Z.wo_lenS 
theorem wo_not {d : PV} : WM (opNot d) ρ Q E = OV d.truth (fun k => Q (.bl (!k)) ρ) := by with_unfolding_all exact Z.wo_not 
theorem wo_idxL : WM (opIdxA (.lst o xs) (.int i)) ρ Q E = OV (atI xs i) (fun d => Q d ρ) := by with_unfolding_all exact Z.wo_idxL 
theorem wo_idxT : WM (opIdxA (.tup xs) (.int i)) ρ Q E = OV (atI xs i) (fun d => Q d ρ) := by with_unfolding_all exact Z.wo_idxT 
theorem wo_idxD {k : PV} : WM (opIdxA (.dct o kvs) k) ρ Q E = Cnd (dkOk kvs k) (OV (kfind kvs k) (fun d => Q d ρ)) False := by with_unfolding_all exact Z.wo_idxD 
theorem wo_slcL {lo hi : Option Int} : WM (opSlc (.lst o xs) lo hi) ρ Q E = Q (.lst true (cutL xs lo hi)) ρ := by with_unfolding_all exact Z.wo_slcL 
theorem wo_slcT {lo hi : Option Int} : WM (opSlc (.tup xs) lo hi) ρ Q E = Q (.tup (cutL xs lo hi)) ρ := by with_unfolding_all exact Z.wo_slcT 
theorem wo_slcS {lo hi : Option Int} : WM (opSlc (.str a) lo hi) ρ Q E = Q (.str (cutS a lo hi)) ρ := by with_unfolding_all exact Z.wo_slcS 
theorem wo_revL : WM (opRev (.lst o xs)) ρ Q E = Q (.lst true xs.reverse) ρ := by with_unfolding_all exact Z.wo_revL 
theorem wo_revS : WM (opRev (.str a)) ρ Q E = Q (.str (revS a)) ρ := by with_unfolding_all exact Z.wo_revS 
theorem wo_tupL : WM (opTupOf (.lst o xs)) ρ Q E = Q (.tup xs) ρ := by with_unfolding_all exact Z.wo_tupL 
theorem wo_tupT : WM (opTupOf (.tup xs)) ρ Q E = Q (.tup xs) ρ := by with_unfolding_all exact Z.wo_tupT 
theorem wo_lstL : WM (opListOf (.lst o xs)) ρ Q E = Q (.lst true xs) ρ := by with_unfolding_all exact Z.wo_lstL 
theorem wo_lstT : WM (opListOf (.tup xs)) ρ Q E = Q (.lst true xs) ρ := by with_unfolding_all exact Z.wo_lstT 
theorem wo_sum : WM (opSum (.lst o xs)) ρ Q E = OV (PV.intsL xs) (fun ns => Q (.int ns.sum) ρ) := by with_unfolding_all exact Z.wo_sum 
theorem wo_all : WM (opAll (.lst o xs)) ρ Q E = OV (PV.blsL xs) (fun ns => Q (.bl (ns.all id)) ρ) := by with_unfolding_all exact Z.wo_all 
theorem wo_any : WM (opAny (.lst o xs)) ρ Q E = OV (PV.blsL xs) (fun ns => Q (.bl (ns.any id)) ρ) := by with_unfolding_all exact Z.wo_any 
theorem wo_sortL : WM (opSorted (.lst o xs)) ρ Q E = Cnd (sortOk xs) (Q (.lst true (sortV xs)) ρ) False := by with_unfolding_all exact Z.wo_sortL 
theorem wo_sortT : WM (opSorted (.tup xs)) ρ Q E = Cnd (sortOk xs) (Q (.lst true (sortV xs)) ρ) False := by with_unfolding_all exact Z.wo_sortT 
theorem wo_get {k : PV} : WM (opGet (.dct o kvs) k) ρ Q E = Cnd (dkOk kvs k) (Q ((kfind kvs k).getD .non) ρ) False := by with_unfolding_all exact Z.wo_get 
theorem wo_inD {k : PV} : WM (opInA k (.dct o kvs)) ρ Q E = Cnd (dkOk kvs k) (Q (.bl (khas kvs k)) ρ) False := by with_unfolding_all exact Z.wo_inD 
theorem wo_notInD {k : PV} : WM (opNotInA k (.dct o kvs)) ρ Q E = Cnd (dkOk kvs k) (Q (.bl (!khas kvs k)) ρ) False := by with_unfolding_all exact Z.wo_notInD 
theorem wo_inS : WM (opInA (.str a) (.str b)) ρ Q E = Q (.bl (strIn a b)) ρ := by with_unfolding_all exact Z.wo_inS 
theorem wo_inLI : WM (opInA (.int i) (.lst o xs)) ρ Q E = OV (inData (.int i) xs) (fun b => Q (.bl b) ρ) := by with_unfolding_all exact Z.wo_inLI 
theorem wo_inTI : WM (opInA (.int i) (.tup xs)) ρ Q E = OV (inData (.int i) xs) (fun b => Q (.bl b) ρ) := by with_unfolding_all exact Z.wo_inTI 
theorem wo_inLS : WM (opInA (.str a) (.lst o xs)) ρ Q E = OV (inData (.str a) xs) (fun b => Q (.bl b) ρ) := by with_unfolding_all exact Z.wo_inLS 
theorem wo_inTS : WM (opInA (.str a) (.tup xs)) ρ Q E = OV (inData (.str a) xs) (fun b => Q (.bl b) ρ) := by with_unfolding_all exact Z.wo_inTS 
theorem wo_notInLS : WM (opNotInA (.str a) (.lst o xs)) ρ Q E = OV (inData (.str a) xs) (fun b => Q (.bl (!b)) ρ) := by with_unfolding_all exact Z.wo_notInLS 
theorem wo_fld {Cn fl : Str} {d : PV} : WM (opFld Cn fl d) ρ Q E = OV (fldOf Cn fl d) (fun v => Q v ρ) := by with_unfolding_all exact Z.wo_fld 
theorem wo_isB {T : Bt} {d : PV} : WM (opIsB cs T d) ρ Q E = OV (isiB cs T d) (fun b => Q (.bl b) ρ) := by with_unfolding_all exact Z.wo_isB 
theorem wo_isO {D : Str} {d : PV} : WM (opIsO cs D d) ρ Q E = OV (isiO cs D d) (fun b => Q (.bl b) ρ) := by with_unfolding_all exact Z.wo_isO 
theorem isB_non {T : Bt} : isiB cs T .non = some false := by with_unfolding_all exact Z.isB_non 
theorem isB_bl {T : Bt} {k : Bool} : isiB cs T (.bl k) = some (decide (T = .bool) || decide (T = .int)) := by with_unfolding_all exact Z.isB_bl 
theorem isB_int {T : Bt} : isiB cs T (.int i) = some (decide (T = .int)) := by with_unfolding_all exact Z.isB_int 
theorem isB_str {T : Bt} : isiB cs T (.str a) = some (decide (T = .str)) := by with_unfolding_all exact Z.isB_str 
theorem isB_tup {T : Bt} : isiB cs T (.tup xs) = some (decide (T = .tuple)) := by with_unfolding_all exact Z.isB_tup 
theorem isB_lst {T : Bt} : isiB cs T (.lst o xs) = some (decide (T = .list)) := by with_unfolding_all exact Z.isB_lst 
theorem isB_dct {T : Bt} : isiB cs T (.dct o kvs) = some (decide (T = .dict)) := by with_unfolding_all exact Z.isB_dct 
theorem wz_int : WM (frzM (.int i)) ρ Q E = Q (.int i) ρ := by with_unfolding_all exact Z.wz_int 
theorem wz_bl {k : Bool} : WM (frzM (.bl k)) ρ Q E = Q (.bl k) ρ := by with_unfolding_all exact Z.wz_bl 
theorem wz_str : WM (frzM (.str a)) ρ Q E = Q (.str a) ρ := by with_unfolding_all exact Z.wz_str 
theorem wz_non : WM (frzM .non) ρ Q E = Q .non ρ := by with_unfolding_all exact Z.wz_non 
theorem wz_tup : WM (frzM (.tup xs)) ρ Q E = Q (.tup xs) ρ := by with_unfolding_all exact Z.wz_tup 
theorem wz_lst : WM (frzM (.lst o xs)) ρ Q E = Q (.lst false xs) ρ := by with_unfolding_all exact Z.wz_lst 
theorem wz_dct : WM (frzM (.dct o kvs)) ρ Q E = Q (.dct false kvs) ρ := by with_unfolding_all exact Z.wz_dct 
theorem wz_objF {C : Str} {fs : List (Str × PV)} : WM (frzM (.obj false C fs)) ρ Q E = Q (.obj false C fs) ρ := by with_unfolding_all exact Z.wz_objF 
theorem fine_own {d : PV} (h : d.fine = true) : d.own = false := by with_unfolding_all exact Z.fine_own h
theorem fine_frz {d : PV} (h : d.fine = true) : d.calm = true ∧ d.frz = d := by with_unfolding_all exact Z.fine_frz h
theorem wz_fine {d : PV} (h : d.fine = true) : WM (frzM d) ρ Q E = Q d ρ := by with_unfolding_all exact Z.wz_fine h
theorem ev_fine {d : PV} {i : Nat} (h : d.fine = true) : EV (some (some d)) i ρ Q = Q d ρ := by with_unfolding_all exact Z.ev_fine h
theorem ev_own {d : PV} {i : Nat} (h : d.own = true) (c : d.calm = true) : EV (some (some d)) i ρ Q = NRM (ρ.set i (some d.frz)) (fun ρ' => Q d.frz ρ') := by with_unfolding_all exact Z.ev_own h c
theorem calm_fine {d : PV} (h : d.fine = true) : d.calm = true := by with_unfolding_all exact Z.calm_fine h
theorem cm_int : (PV.int i).calm = true := by with_unfolding_all exact Z.cm_int 
theorem cm_bl {k : Bool} : (PV.bl k).calm = true := by with_unfolding_all exact Z.cm_bl 
theorem cm_str : (PV.str a).calm = true := by with_unfolding_all exact Z.cm_str 
theorem cm_non : PV.non.calm = true := by with_unfolding_all exact Z.cm_non 
theorem cm_tup : (PV.tup xs).calm = true := by with_unfolding_all exact Z.cm_tup 
theorem cm_lst : (PV.lst o xs).calm = true := by with_unfolding_all exact Z.cm_lst 
theorem cm_dct : (PV.dct o kvs).calm = true := by with_unfolding_all exact Z.cm_dct 
theorem cm_objF {C : Str} {fs : List (Str × PV)} : (PV.obj false C fs).calm = true := by with_unfolding_all exact Z.cm_objF 
theorem cm_objT {C : Str} {fs : List (Str × PV)} : (PV.obj true C fs).calm = fs.all (fun p => !p.2.isE) := by with_unfolding_all exact Z.cm_objT 
theorem tr_bl {k : Bool} : (PV.bl k).truth = some k := by with_unfolding_all exact Z.tr_bl 
theorem tr_non : PV.non.truth = some false := by with_unfolding_all exact Z.tr_non 
theorem tr_int : (PV.int i).truth = some (i != 0) := by with_unfolding_all exact Z.tr_int 
theorem bo_bl {k : Bool} : (PV.bl k).bool = some k := by with_unfolding_all exact Z.bo_bl 
theorem it_lst : (PV.lst o xs).itemsA = some xs := by with_unfolding_all exact Z.it_lst 
theorem it_tup : (PV.tup xs).itemsA = some xs := by with_unfolding_all exact Z.it_tup 
theorem it_dct : (PV.dct o kvs).itemsA = some (kvs.map (·.1)) := by with_unfolding_all exact Z.it_dct 
theorem it_str : (PV.str a).itemsA = some (a.cps.toList.map fun c => .str ⟨#[c]⟩) := by with_unfolding_all exact Z.it_str 
theorem dp_dct : (PV.dct o kvs).dprs = some (pairsOf kvs) := by with_unfolding_all exact Z.dp_dct 
theorem dv_dct : (PV.dct o kvs).dvls = some (kvs.map (·.2)) := by with_unfolding_all exact Z.dv_dct 
theorem en_lst : (PV.lst o xs).enums = some (enumV xs) := by with_unfolding_all exact Z.en_lst 
theorem en_tup : (PV.tup xs).enums = some (enumV xs) := by with_unfolding_all exact Z.en_tup 
theorem sq_tup : (PV.tup xs).seq = some xs := by with_unfolding_all exact Z.sq_tup 
theorem sq_lst : (PV.lst o xs).seq = some xs := by with_unfolding_all exact Z.sq_lst 
theorem toI_int : (PV.int i).toI = some i := by with_unfolding_all exact Z.toI_int 
theorem ov_rng {k : List PV → Prop} : OV (PV.rng (.int i)) k = Cnd (bd62 i) (k (rngV 0 i.toNat)) False := by with_unfolding_all exact Z.ov_rng 
theorem isdct : isDct (.dct o kvs) = true := by with_unfolding_all exact Z.isdct 
theorem nn_non : PV.isNon .non = true := by with_unfolding_all exact Z.nn_non 
theorem nn_int : PV.isNon (.int i) = false := by with_unfolding_all exact Z.nn_int 
theorem nn_lst : PV.isNon (.lst o xs) = false := by with_unfolding_all exact Z.nn_lst 
theorem nn_tup : PV.isNon (.tup xs) = false := by with_unfolding_all exact Z.nn_tup 
theorem nn_str : PV.isNon (.str a) = false := by with_unfolding_all exact Z.nn_str 
theorem nn_bl {k : Bool} : PV.isNon (.bl k) = false := by with_unfolding_all exact Z.nn_bl 
theorem at_nat {α : Type} {xs : List α} {n : Nat} : atI xs (n : Int) = xs[n]? := by with_unfolding_all exact Z.at_nat 
theorem at_0 {α : Type} {x : α} {xs : List α} : atI (x :: xs) 0 = some x := by with_unfolding_all exact Z.at_0 
theorem at_1 {α : Type} {x y : α} {xs : List α} : atI (x :: y :: xs) 1 = some y := by with_unfolding_all exact Z.at_1 
theorem at_2 {α : Type} {x y z : α} {xs : List α} : atI (x :: y :: z :: xs) 2 = some z := by with_unfolding_all exact Z.at_2 
theorem ix_nat {m n : Nat} (h : n < m) : ixN m (n : Int) = some n := by with_unfolding_all exact Z.ix_nat h
theorem ix_0 {m : Nat} : ixN (m + 1) 0 = some 0 := by with_unfolding_all exact Z.ix_0 
theorem ix_1 {m : Nat} : ixN (m + 2) 1 = some 1 := by with_unfolding_all exact Z.ix_1 
theorem ix_2 {m : Nat} : ixN (m + 3) 2 = some 2 := by with_unfolding_all exact Z.ix_2 
theorem ix_3 {m : Nat} : ixN (m + 4) 3 = some 3 := by with_unfolding_all exact Z.ix_3 
theorem at_int {α : Type} {xs : List α} {i : Int} (h : 0 ≤ i) : atI xs i = xs[i.toNat]? := by with_unfolding_all exact Z.at_int h
theorem at_last' {α : Type} {xs : List α} {x : α} : atI (xs ++ [x]) (-1) = some x := by with_unfolding_all exact Z.at_last' 
theorem mu_app {y : PV} (h : xs.length < 16777216) : muAppend (.lst true xs) [y] = some (.non, .lst true (xs ++ [y])) := by with_unfolding_all exact Z.mu_app h
theorem ov_app {y : PV} {k : PV × PV → Prop} : OV (muAppend (.lst true xs) [y]) k = Cnd (lenOk (xs.length + 1)) (k (.non, .lst true (xs ++ [y]))) False := by with_unfolding_all exact Z.ov_app 
theorem ov_ins {y : PV} {k : PV × PV → Prop} : OV (muInsert (.lst true xs) [.int i, y]) k = Cnd (decide (lenOk (xs.length + 1) = true ∧ 0 ≤ i ∧ i < 9223372036854775808)) (k (.non, .lst true (xs.take i.toNat ++ [y] ++ xs.drop i.toNat))) False := by with_unfolding_all exact Z.ov_ins 
theorem ov_ext {k : PV × PV → Prop} : OV (muExtend (.lst true xs) [.lst false ys]) k = Cnd (lenOk (xs.length + ys.length)) (k (.non, .lst true (xs ++ ys))) False := by with_unfolding_all exact Z.ov_ext 
theorem ov_setL {n : Int} {w : PV} {k : PV → Prop} : OV (setItemA (.lst true xs) (.int n) w) k = OV (ixN xs.length n) (fun j => k (.lst true (xs.set j w))) := by with_unfolding_all exact Z.ov_setL 
theorem ov_setD {n w : PV} {k : PV → Prop} : OV (setItemA (.dct true kvs) n w) k = Cnd (dkOk kvs n && lenOk (kvs.length + 1)) (k (.dct true (kstore kvs n w))) False := by with_unfolding_all exact Z.ov_setD 
theorem ov_setF {Cn fl : Str} {w : PV} {fs : List (Str × PV)} {k : PV → Prop} : OV (setFld Cn fl w (.obj true Cn fs)) k = Cnd (decide (fs.length < 1000)) (k (.obj true Cn (putP fl w fs))) False := by with_unfolding_all exact Z.ov_setF 
theorem oa_nil {k : List PV → Prop} : OV (argsAt [] [] ρ) k = k [] := by with_unfolding_all exact Z.oa_nil 
theorem oa_f {ms : List Md} {d : PV} {ds : List PV} {k : List PV → Prop} : OV (argsAt (.f :: ms) (d :: ds) ρ) k = OV (argsAt ms ds ρ) (fun r => k (d :: r)) := by with_unfolding_all exact Z.oa_f 
theorem oa_t {ms : List Md} {d : PV} {ds : List PV} {k : List PV → Prop} : OV (argsAt (.t :: ms) (d :: ds) ρ) k = OV (argsAt ms ds ρ) (fun r => k (d :: r)) := by with_unfolding_all exact Z.oa_t 
theorem oa_s {n : Nat} {ms : List Md} {d : PV} {ds : List PV} {k : List PV → Prop} : OV (argsAt (.s n :: ms) (d :: ds) ρ) k = GV ρ[n]? (fun d => Cnd d.calm (OV (argsAt ms ds ρ) (fun r => k (d :: r))) False) := by with_unfolding_all exact Z.oa_s 
theorem isobj {C m : Str} {fs : List (Str × PV)} {p : Bool} : isObjOf C m (.obj p C fs) = (fs.lookup m).isNone := by with_unfolding_all exact Z.isobj 
theorem fldof {C fl : Str} {fs : List (Str × PV)} {p : Bool} : fldOf C fl (.obj p C fs) = (match fs.lookup fl with | some d => (if d.own || d.isE then none else some d) | none => none) := by with_unfolding_all exact Z.fldof 
end
end Wv

set_option Elab.async false
set_option linter.all false
set_option autoImplicit false
set_option maxRecDepth 100000
/-! WxE: lists of whole numbers and of texts, sorting, dicts: what operators make of them. -/
namespace Wv
open PySem PySem.Spec PyProof.Rows L2
section
variable {α : Type}
theorem blsL_map (f : α → Bool) : ∀ l : List α, PV.blsL (l.map fun x => .bl (f x)) = some (l.map f)
  | [] => rfl
  | x :: l => by
    show (PV.blsL (l.map fun x => .bl (f x))).map (fun r => f x :: r) = _
    rw [blsL_map f l]; rfl
theorem intsL_map (f : α → Int) : ∀ l : List α, PV.intsL (l.map fun x => .int (f x)) = some (l.map f)
  | [] => rfl
  | x :: l => by
    show (PV.intsL (l.map fun x => .int (f x))).map (fun r => f x :: r) = _
    rw [intsL_map f l]; rfl
theorem ints_map (f : α → Int) : ∀ l : List α, PV.ints (l.map fun x => .int (f x)) = some (l.map f)
  | [] => rfl
  | x :: l => by
    show (PV.ints (l.map fun x => .int (f x))).map (fun r => f x :: r) = _
    rw [ints_map f l]; rfl
theorem datas_map (f : α → PV) (g : α → PyData) : ∀ l : List α, (∀ x ∈ l, (f x).data = some (g x)) → PV.datas (l.map f) = some (l.map g)
  | [], _ => by simp [PV.datas]
  | x :: l, h => by
    rw [List.map_cons, PV.datas, h x List.mem_cons_self, datas_map f g l fun y hy => h y (List.mem_cons_of_mem _ hy)]
    rfl
theorem inData_int {i : Int} {l : List Int} : inData (.int i) (l.map .int) = some (decide (i ∈ l)) := by
  unfold inData
  rw [datas_map .int PyData.int l fun x _ => by simp [PV.data]]
  show (if PyData.depth (.int i) ≤ 60 then some _ else none) = _
  rw [if_pos (show PyData.depth (.int i) ≤ 60 from Nat.zero_le 60)]
  congr 1
  rw [List.any_map, Bool.eq_iff_iff, List.any_eq_true, decide_eq_true_eq]
  constructor
  · rintro ⟨x, hx, e⟩
    have e : (x == i) = true := e
    rw [← eq_of_beq e]; exact hx
  · exact fun h => ⟨i, h, (beq_self_eq_true i : (i == i) = true)⟩
theorem inData_nat {i : Nat} {l : List Nat} : inData (.int i) (l.map fun (k : Nat) => .int (k : Int)) = some (decide (i ∈ l)) := by
  have : (l.map fun (k : Nat) => PV.int (k : Int)) = (l.map fun (k : Nat) => (k : Int)).map .int := by rw [List.map_map]; rfl
  rw [this, inData_int]
  congr 1
  rw [Bool.eq_iff_iff, decide_eq_true_eq, decide_eq_true_eq, List.mem_map]
  constructor
  · rintro ⟨k, hk, e⟩
    rw [← Int.ofNat.inj e]; exact hk
  · exact fun h => ⟨i, h, rfl⟩
/-- a list, sorted as its values are -/
def sortBy (f : α → PV) (l : List α) : List α := l.mergeSort fun a b => PySem.W.dataLe false PV.enc (f a) (f b)
theorem sort_map (f : α → PV) (l : List α) : sortV (l.map f) = (sortBy f l).map f := (List.map_mergeSort (f := f) (r := fun a b => PySem.W.dataLe false PV.enc (f a) (f b)) (s := PySem.W.dataLe false PV.enc) fun _ _ _ _ => rfl).symm
theorem sort_perm (f : α → PV) (l : List α) : List.Perm (sortBy f l) l := List.mergeSort_perm ..
theorem sortOk_of {f : α → PV} {g : α → PyData} {l : List α} (h : ∀ x ∈ l, (f x).data = some (g x)) (d : ∀ x ∈ l, (g x).depth ≤ 60) (al : ∀ x ∈ l, ∀ y ∈ l, PySem.W.alike (g x) (g y) = true) (k : (∀ x ∈ l, tupB1 (g x) = true) ∨ ∀ x ∈ l, plainB1 (g x) = true) : sortOk (l.map f) = true := by
  have he : ∀ x ∈ l, (f x).enc = g x := fun x hx => by unfold PV.enc; rw [h x hx]; rfl
  unfold sortOk alikeB
  rw [Bool.and_eq_true, Bool.and_eq_true, Bool.or_eq_true]
  refine ⟨?_, ?_, ?_⟩
  · rw [List.all_map, List.all_eq_true]
    intro x hx
    show ((f x).data.isSome && decide ((f x).enc.depth ≤ 60)) = true
    rw [he x hx, h x hx]
    simp [d x hx]
  · rw [List.all_map, List.all_eq_true]
    intro x hx
    show ((l.map f).all fun e => PySem.W.alike (f x).enc e.enc) = true
    rw [List.all_map, List.all_eq_true]
    intro y hy
    show PySem.W.alike (f x).enc (f y).enc = true
    rw [he x hx, he y hy]
    exact al x hx y hy
  · refine k.imp (fun k => ?_) (fun k => ?_)
    · rw [List.all_map, List.all_eq_true]
      intro x hx
      show tupB1 (f x).enc = true
      rw [he x hx]; exact k x hx
    · rw [List.all_map, List.all_eq_true]
      intro x hx
      show plainB1 (f x).enc = true
      rw [he x hx]; exact k x hx
theorem sortOk_ints (f : α → Int) (l : List α) : sortOk (l.map fun x => .int (f x)) = true :=
  sortOk_of (g := fun x => .int (f x)) (fun x _ => by simp [PV.data]) (fun x _ => Nat.zero_le 60) (fun x _ y _ => by simp [PySem.W.alike]) (.inr fun x _ => rfl)
theorem disI_nodup : ∀ {l : List Int}, l.Nodup → disI l = l
  | [], _ => rfl
  | x :: l, h => by
    obtain ⟨h1, h2⟩ := List.nodup_cons.mp h
    unfold disI
    rw [disI_nodup h2, if_neg h1]
theorem wo_lenSet {l : List Int} {ρ : Sl} {Q : PV → Sl → Prop} {E : EQ} (nd : l.Nodup) (hl : l.length ≤ 1000) : WM (opLenSet (.tup (l.map .int))) ρ Q E = Q (.int l.length) ρ := by
  have : opLenSet (.tup (l.map .int)) = M.ret (.int l.length) := by
    unfold opLenSet
    dsimp only
    rw [show (l.map PV.int) = l.map fun x => .int (id x) from rfl, ints_map id l]
    simp only [List.map_id, hl, decide_true, if_true, disI_nodup nd]
  rw [this, wm_ret]
/-! ### dicts over pairs of keys and values -/
theorem khas_map {key : α → PV} {val : α → PV} {k : PV} {l : List α} : khas (l.map fun x => (key x, val x)) k = l.any fun x => decide ((key x).key = k.key) := by
  unfold khas
  rw [List.any_map]
  rfl
theorem kfind_map {key : α → PV} {val : α → PV} {k : PV} {l : List α} : kfind (l.map fun x => (key x, val x)) k = (l.find? fun x => decide ((key x).key = k.key)).map val := by
  unfold kfind
  rw [List.find?_map, Option.map_map]
  rfl
theorem kstore_new {kvs : List (PV × PV)} {k v : PV} (h : khas kvs k = false) : kstore kvs k v = kvs ++ [(k, v)] := by
  unfold kstore
  rw [h]
  rfl
/-! ### the texts of data -/
theorem textFrom_ok : ∀ {ts : List Str} {k : Nat} {acc : Str}, sOk acc = true → (∀ t ∈ ts, sOk t = true) → acc.length + (ts.map fun t => t.length + 2).sum ≤ 16000000 → sOk (textFrom k acc ts) = true ∧ (textFrom k acc ts).length ≤ acc.length + (ts.map fun t => t.length + 2).sum
  | [], k, acc, h, _, _ => ⟨h, by simp [textFrom]⟩
  | t :: ts, k, acc, h, ht, l => by
    simp only [List.map_cons, List.sum_cons] at l
    have hs : sOk (if k > 0 then ", " else "" : String) = true := by split <;> decide +kernel
    have hl : ((if k > 0 then ", " else "" : String) : Str).length ≤ 2 := by split <;> decide
    have hz := sizeLine_eq
    have e1 : (acc ++ ((if k > 0 then ", " else "" : String) : Str)).length = acc.length + ((if k > 0 then ", " else "" : String) : Str).length := strLen_append ..
    have h1 := sOk_append h hs (by omega)
    have e2 : (acc ++ ((if k > 0 then ", " else "" : String) : Str) ++ t).length = acc.length + ((if k > 0 then ", " else "" : String) : Str).length + t.length := by rw [strLen_append, e1]
    have h2 := sOk_append h1 (ht t List.mem_cons_self) (by omega)
    obtain ⟨a, b⟩ := textFrom_ok (ts := ts) (k := k + 1) h2 (fun u hu => ht u (List.mem_cons_of_mem _ hu)) (by omega)
    refine ⟨a, ?_⟩
    simp only [List.map_cons, List.sum_cons]
    have b' : (textFrom k acc (t :: ts)).length ≤ _ := b
    omega
theorem listText_ok {ts : List Str} (ht : ∀ t ∈ ts, sOk t = true) (l : (ts.map fun t => t.length + 2).sum ≤ 15000000) : sOk (listText ts) = true := by
  obtain ⟨a, b⟩ := textFrom_ok (ts := ts) (k := 0) (acc := "[") (by decide +kernel) ht (by show 1 + _ ≤ _; omega)
  have hz := sizeLine_eq
  have b' : (textFrom 0 "[" ts).length ≤ 1 + (ts.map fun t => t.length + 2).sum := b
  exact sOk_append a (b := "]") (by decide +kernel) (by show _ + 1 ≤ _; omega)
theorem intS_len {i : Int} (h : i.natAbs.log2 < 1920) : (intS i).length ≤ 1921 := by
  have e := int_text_length_le (k := 1920) (by decide) h
  unfold intS
  rw [PySem.ofString_length]
  exact e
theorem repr_ints {α : Type} {f : α → Int} {xs : List α} {o : Bool} (h : ∀ x ∈ xs, (f x).natAbs.log2 < 1920) (l : xs.length ≤ 5000) : opRepr (.lst o (xs.map fun x => .int (f x))) = M.ret (.str (PyData.shown (.list (xs.map fun x => .int (f x))))) := by
  have hd : (PV.lst o (xs.map fun x => .int (f x))).data = some (.list (xs.map fun x => .int (f x))) := by
    show (PV.datas (xs.map fun x => .int (f x))).map PyData.list = _
    rw [datas_map (fun x => .int (f x)) (fun x => .int (f x)) xs fun x _ => by simp [PV.data]]
    rfl
  have dp : ∀ ys : List α, PyData.depthAll (ys.map fun x => .int (f x)) = 0 := fun ys => by
    induction ys with
    | nil => rfl
    | cons y ys ih => rw [List.map_cons]; unfold PyData.depthAll; rw [ih]; rfl
  have sh : ∀ ys : List α, (∀ x ∈ ys, (f x).natAbs.log2 < 1920) → PyData.showableAll (ys.map fun x => .int (f x)) = true := fun ys hy => by
    induction ys with
    | nil => rfl
    | cons y ys ih =>
      rw [List.map_cons]
      unfold PyData.showableAll
      rw [ih fun x hx => hy x (List.mem_cons_of_mem _ hx)]
      simp [PyData.showable, hy y List.mem_cons_self]
  have ss : ∀ ys : List α, PyData.shownAll (ys.map fun x => .int (f x)) = ys.map fun x => intS (f x) := fun ys => by
    induction ys with
    | nil => rfl
    | cons y ys ih =>
      rw [List.map_cons, List.map_cons]
      unfold PyData.shownAll
      rw [ih]
      rfl
  have hs : sOk (PyData.shown (.list (xs.map fun x => .int (f x)))) = true := by
    show sOk (listText (PyData.shownAll _)) = true
    rw [ss]
    refine listText_ok (fun t ht => ?_) ?_
    · obtain ⟨x, hx, rfl⟩ := List.mem_map.mp ht
      exact intS_ok (h x hx)
    · rw [List.map_map]
      have : ∀ ys : List α, (∀ x ∈ ys, (f x).natAbs.log2 < 1920) → (ys.map ((fun t : Str => t.length + 2) ∘ fun x => intS (f x))).sum ≤ 1923 * ys.length := fun ys hy => by
        induction ys with
        | nil => exact Nat.zero_le _
        | cons y ys ih =>
          have a := ih fun x hx => hy x (List.mem_cons_of_mem _ hx)
          have b := intS_len (hy y List.mem_cons_self)
          simp only [List.map_cons, List.sum_cons, List.length_cons, Function.comp]
          have a' : (ys.map ((fun t : Str => t.length + 2) ∘ fun x => intS (f x))).sum ≤ 1923 * ys.length := a
          simp only [Function.comp_def] at a'
          omega
      have := this xs h
      omega
  have e1 : (PyData.list (xs.map fun x => .int (f x))).depth ≤ 60 := by unfold PyData.depth; rw [dp]; decide
  have e2 : (PyData.list (xs.map fun x => .int (f x))).showable = true := by unfold PyData.showable; exact sh xs h
  unfold opRepr
  rw [hd]
  simp only [e1, e2, hs, and_self, if_true]
theorem ne_str {a b : Str} : opNe (.str a) (.str b) = M.ret (.bl (!(a == b))) := rfl
end
end Wv

set_option Elab.async false
set_option linter.all false
set_option autoImplicit false
set_option maxRecDepth 100000
set_option maxHeartbeats 0
namespace Lk05
open PySem PySem.Spec PyProof.Rows L2 Wv
def top (i : Nat) : Stmt := PySem.Challenge.pw_whoselines_k05_rows_counted.main.body.getD i (.Pass ⟨0, 0, 0, 0⟩)
def meth (i j : Nat) : Stmt := match top i with
  | .ClassDef _ _ _ body _ _ _ _ _ _ _ => body.getD j (.Pass ⟨0, 0, 0, 0⟩)
  | _ => .Pass ⟨0, 0, 0, 0⟩
def clss : List Str := ["Machine"]
def w__law_spring : SM := (sSeq (sAsg (gtN 2) (eK (.int 0)))
    (sSeq (sIf (bV (eBinL opLt 1 (eUnB opLen 0))) (sAsg (gtN 2) (eUn opInt (eBinL opIdxA 0 (eV 1)))) sNil)
    (sSeq (sAsg (gtN 3) (eBin opMod (eUn opInt (eBin opAdd (eBin opAdd (eBin opTimes (eV 2) (eK (.int 7368787))) (eBin opTimes (eV 1) (eK (.int 32452867)))) (eK (.int 1299709)))) (eBin opAdd (eBin opPow (eK (.int 10)) (eK (.int 37))) (eK (.int 43)))))
    (sRet (eLst (aCons (eBin opMax (eK (.int 0)) (eBin opSub (eUnB opAbs 2) (eBin opPow (eK (.int 10)) (eK (.int 18))))) (aCons (eV 3) (aCons (eK (.int 0)) aNil))))))))
def s__law_spring : List PV → FRes := runF 4 [] w__law_spring
def w__law_roll : SM := (sSeq (sIf (bV (eBin opGt (eBinL opIdxA 0 (eK (.int 0))) (eK (.int 0)))) (sSeq (sAsg (gtN 2) (eBin opMod (eUn opInt (eBinL opIdxA 0 (eK (.int 0)))) (eV 1)))
    (sSeq (sStA (eBin opDiv (eBinL opIdxA 0 (eK (.int 0))) (eV 1)) 0 (eK (.int 0)))
    (sRet (eV 2)))) sNil)
    (sSeq (sStA (eBin opAdd (eBinL opIdxA 0 (eK (.int 2))) (eK (.int 1))) 0 (eK (.int 2)))
    (sSeq (sAsg (gtN 3) (eBinL opIdxA 0 (eK (.int 2))))
    (sSeq (sAsg (gtN 4) (eBin opMod (eUn opInt (eBin opAdd (eBin opPow (eBin opAdd (eBinL opIdxA 0 (eK (.int 1))) (eBin opTimes (eK (.int 86028121)) (eV 3))) (eK (.int 3))) (eV 3))) (eBin opAdd (eBin opPow (eK (.int 10)) (eK (.int 39))) (eK (.int 3)))))
    (sSeq (sAsg (gtN 4) (eBin opMod (eUn opInt (eBin opAdd (eBin opPow (eBin opAdd (eV 4) (eBin opTimes (eK (.int 15485867)) (eV 3))) (eK (.int 2))) (eV 4))) (eBin opAdd (eBin opPow (eK (.int 10)) (eK (.int 38))) (eK (.int 133)))))
    (sRet (eBin opMod (eUn opInt (eBin opDiv (eV 4) (eBin opPow (eK (.int 10)) (eK (.int 12))))) (eV 1))))))))
def s__law_roll : List PV → FRes := runF 5 [0] w__law_roll
def w__law_of : SM := (sRet (eBinL opIdxA 1 (eCall [.s 0, .f] [0] [] s__law_roll (mS 0 (aCons (eUnB opLen 1) aNil)))))
def s__law_of : List PV → FRes := runF 2 [0] w__law_of
def w__law_word : SM := (sSeq (sPar [1, 2] (uCons (eK (.str "abcdefghijklmnopqrstuvwxyz")) (uCons (eK (.str "")) aNil)))
    (sSeq (sFor (iRange1 (eCall [.s 0, .f] [0] [] s__law_of (mS 0 (aCons (eLst (aCons (eK (.int 1)) (aCons (eK (.int 1)) (aCons (eK (.int 1)) (aCons (eK (.int 2)) (aCons (eK (.int 3)) (aCons (eK (.int 8)) (aCons (eK (.int 5)) aNil)))))))) aNil)))) (gtN 3) (sAsg (gtN 2) (eBin opAdd (eV 2) (eBinL opIdxA 1 (eCall [.s 0, .f] [0] [] s__law_roll (mS 0 (aCons (eK (.int 26)) aNil)))))))
    (sRet (eV 2))))
def s__law_word : List PV → FRes := runF 4 [0] w__law_word
def w__law_signs : SM := (sSeq (sAsg (gtN 2) (eLst aNil))
    (sSeq (sFor (iRange1 (eV 1)) (gtN 3) (sSeq (sAsg (gtN 4) (eCall [.s 0] [0] [] s__law_word (mS 0 aNil)))
    (sSeq (sIf (bAnd (bV (eBinL opNe 2 (eLst aNil))) (bV (eBin opEq (eCall [.s 0, .f] [0] [] s__law_roll (mS 0 (aCons (eK (.int 4)) aNil))) (eK (.int 0))))) (sAsg (gtN 4) (eSlH (eCall [.s 0, .f] [0] [] s__law_of (mS 0 (aCons (eLst (aCons (eBin opAdd (eBinL opIdxA 2 (eUn opNeg (eK (.int 1)))) (eV 4)) (aCons (eUn opRev (eBinL opIdxA 2 (eK (.int 0)))) (aCons (eBin opAdd (eSlH (eBinL opIdxA 2 (eUn opNeg (eK (.int 1)))) (eUn opNeg (eK (.int 1)))) (eK (.str "z"))) (aCons (eBin opAdd (eK (.str "a")) (eBinL opIdxA 2 (eK (.int 0)))) aNil))))) aNil))) (eK (.int 8)))) sNil)
    (sIf (bV (eBinB opNotInA 4 2)) (sDrop (mLst muAppend 2 (aCons (eV 4) aNil))) sNil))))
    (sRet (eV 2))))
def s__law_signs : List PV → FRes := runF 5 [0] w__law_signs
def w__law_plan : SM := (sSeq (sPar [3, 4] (uCons (eBin opAdd (eK (.int 1)) (eCall [.s 0, .f] [0] [] s__law_roll (mS 0 (aCons (eV 2) aNil)))) (uCons (eLst aNil) aNil)))
    (sSeq (sAsg (gtN 5) (eCall [.s 0, .f] [0] [] s__law_roll (mS 0 (aCons (eK (.int 3)) aNil))))
    (sSeq (sFor (iRange1 (eV 3)) (gtN 6) (sFor (iAny (eV 1)) (gtN 7) (sIf (bAnd (bV (eBin opLt (eUnB opLen 4) (eK (.int 40)))) (bV (eBin opLt (eCall [.s 0, .f] [0] [] s__law_roll (mS 0 (aCons (eBin opAdd (eK (.int 2)) (eV 5)) aNil))) (eK (.int 2))))) (sDrop (mLst muInsert 4 (aCons (eCall [.s 0, .f] [0] [] s__law_roll (mS 0 (aCons (eBin opAdd (eUnB opLen 4) (eK (.int 1))) aNil))) (aCons (eTup (aCons (eV 6) (aCons (eV 7) (aCons (eCall [.s 0, .f] [0] [] s__law_roll (mS 0 (aCons (eV 3) aNil))) aNil)))) aNil)))) sNil)))
    (sSeq (sAsg (gtN 8) (eLst aNil))
    (sSeq (sFor (iRange1 (eV 3)) (gtN 6) (sIf (bV (eBin opEq (eCall [.s 0, .f] [0] [] s__law_roll (mS 0 (aCons (eK (.int 2)) aNil))) (eK (.int 0)))) (sDrop (mLst muInsert 8 (aCons (eCall [.s 0, .f] [0] [] s__law_roll (mS 0 (aCons (eBin opAdd (eUnB opLen 8) (eK (.int 1))) aNil))) (aCons (eV 6) aNil)))) sNil))
    (sRet (eTup (aCons (eV 3) (aCons (eUnB opTupOf 4) (aCons (eUnB opTupOf 8) aNil))))))))))
def s__law_plan : List PV → FRes := runF 9 [0] w__law_plan
def w_is_whole : SM := (sRet (eAnd (eUnB (opIsB clss .int) 0) (eUn opNot (eUnB (opIsB clss .bool) 0))))
def s_is_whole : List PV → FRes := runF 1 [] w_is_whole
def w_is_state : SM := (sRet (eAnd (eCall [.f] [] [] s_is_whole (aCons (eV 0) aNil)) (eChn opLe opLt (eK (.int 0)) (eV 0) (eV 1))))
def s_is_state : List PV → FRes := runF 2 [] w_is_state
def w_is_word : SM := (sSeq (sIf (bOr (bNot (bT (eUnB (opIsB clss .str) 0))) (bNot (bV (eChn opLe opLe (eK (.int 1)) (eUnB opLen 0) (eK (.int 8)))))) (sRet (eK (.bl false))) sNil)
    (sRet (eUn opAll (eLc [1] (iAny (eV 0)) (gtN 1) bYes (eBinL opInA 1 (eK (.str "abcdefghijklmnopqrstuvwxyz")))))))
def s_is_word : List PV → FRes := runF 2 [] w_is_word
def w_is_arrow : SM := (sSeq (sIf (bOr (bNot (bT (eUnB (opIsB clss .tuple) 0))) (bV (eBin opNe (eUnB opLen 0) (eK (.int 3))))) (sRet (eK (.bl false))) sNil)
    (sRet (eAnd (eCall [.f, .f] [] [] s_is_state (aCons (eBinL opIdxA 0 (eK (.int 0))) (aCons (eV 1) aNil))) (eAnd (eCall [.f] [] [] s_is_word (aCons (eBinL opIdxA 0 (eK (.int 1))) aNil)) (eCall [.f, .f] [] [] s_is_state (aCons (eBinL opIdxA 0 (eK (.int 2))) (aCons (eV 1) aNil)))))))
def s_is_arrow : List PV → FRes := runF 2 [] w_is_arrow
def w_paths_of : SM := (sSeq (sIf (bNot (bT (eUnB (opIsB clss .tuple) 0))) sBad sNil)
    (sSeq (sAsg (gtN 2) eDict0)
    (sSeq (sFor (iEnum (eV 0)) (gtT 2 (gtCons (gtN 3) (gtCons (gtN 4) gtNil))) (sSeq (sIf (bOr (bV (eBinL opGe 3 (eK (.int 40)))) (bOr (bNot (bT (eCall [.f, .f] [] [] s_is_arrow (aCons (eV 4) (aCons (eV 1) aNil))))) (bV (eBinR opInA (eSlH (eV 4) (eK (.int 2))) 2)))) sBad sNil)
    (sStA (eBinL opIdxA 4 (eK (.int 2))) 2 (eSlH (eV 4) (eK (.int 2))))))
    (sRet (eV 2)))))
def s_paths_of : List PV → FRes := runF 5 [] w_paths_of
def w_check_ends : SM := (sSeq (sIf (bOr (bNot (bT (eUnB (opIsB clss .tuple) 0))) (bNot (bT (eUn opAll (eLc [2] (iAny (eV 0)) (gtN 2) bYes (eCall [.f, .f] [] [] s_is_state (aCons (eV 2) (aCons (eV 1) aNil)))))))) sBad sNil)
    (sIf (bV (eBin opNe (eUn opLenSet (eV 0)) (eUnB opLen 0))) sBad sNil))
def s_check_ends : List PV → FRes := runF 3 [] w_check_ends
def w_Machine___init__ : SM := (sSeq (sIf (bOr (bNot (bT (eCall [.f] [] [] s_is_whole (aCons (eV 1) aNil)))) (bNot (bV (eChn opLe opLe (eK (.int 1)) (eV 1) (eK (.int 5)))))) sBad sNil)
    (sSeq (sFldS "Machine" "paths" (eCall [.f, .f] [] [] s_paths_of (aCons (eV 2) (aCons (eV 1) aNil))) 0)
    (sSeq (sDrop (eCall [.f, .f] [] [] s_check_ends (aCons (eV 3) (aCons (eV 1) aNil))))
    (sSeq (sFldS "Machine" "finals" (eUn opTupOf (eUnB opSorted 3)) 0)
    (sFldS "Machine" "states" (eV 1) 0)))))
def s_Machine___init__ : List PV → FRes := runF 4 [0] w_Machine___init__
def w__law_summed : SM := (sSeq (sAsg (gtN 2) (eLc [3] (iRange1 (eBinL opIdxA 0 (eK (.int 0)))) (gtN 3) bYes (eUn opInt (eBinL opEq 3 (eK (.int 0))))))
    (sSeq (sAsg (gtN 4) (eLst (aCons (eUn opSum (eLc [3] (iAny (eBinL opIdxA 0 (eK (.int 2)))) (gtN 3) bYes (eBinL opIdxA 2 (eV 3)))) aNil)))
    (sSeq (sFor (iRange1 (eV 1)) (gtN 5) (sSeq (sAsg (gtN 6) (eBin opTimes (eLst (aCons (eK (.int 0)) aNil)) (eBinL opIdxA 0 (eK (.int 0)))))
    (sSeq (sFor (iAny (eBinL opIdxA 0 (eK (.int 1)))) (gtN 7) (sStA (eBin opAdd (eBinL opIdxA 6 (eBinL opIdxA 7 (eK (.int 2)))) (eBinL opIdxA 2 (eBinL opIdxA 7 (eK (.int 0))))) 6 (eBinL opIdxA 7 (eK (.int 2)))))
    (sSeq (sAsg (gtN 2) (eV 6))
    (sDrop (mLst muAppend 4 (aCons (eUn opSum (eLc [3] (iAny (eBinL opIdxA 0 (eK (.int 2)))) (gtN 3) bYes (eBinL opIdxA 2 (eV 3)))) aNil)))))))
    (sRet (eV 4)))))
def s__law_summed : List PV → FRes := runF 8 [] w__law_summed
def w_check_length : SM := (sIf (bOr (bNot (bT (eCall [.f] [] [] s_is_whole (aCons (eV 0) aNil)))) (bNot (bV (eChn opLe opLe (eK (.int 0)) (eV 0) (eK (.int 200)))))) sBad sNil)
def s_check_length : List PV → FRes := runF 1 [] w_check_length
def w_Machine_size : SM := (sRet (eUnB (opFld "Machine" "states") 0))
def s_Machine_size : List PV → FRes := runF 1 [] w_Machine_size
def w_Machine_ends : SM := (sRet (eUnB (opFld "Machine" "finals") 0))
def s_Machine_ends : List PV → FRes := runF 1 [] w_Machine_ends
def w_Machine_arrows : SM := (sRet (eUn opTupOf (eUn opSorted (eLc [1, 2] (iItems (eUnB (opFld "Machine" "paths") 0)) (gtT 2 (gtCons (gtN 1) (gtCons (gtN 2) gtNil))) bYes (eTup (aStar (eV 1) (aCons (eV 2) aNil)))))))
def s_Machine_arrows : List PV → FRes := runF 3 [] w_Machine_arrows
def w_ways_to_ends : SM := (sSeq (sAsg (gtN 2) (eLst (aCons (eLc [3] (iRange1 (eMeth "Machine" "size" [] [] [] s_Machine_size (eV 0) aNil)) (gtN 3) bYes (eUn opInt (eBinL opInA 3 (eMeth "Machine" "ends" [] [] [] s_Machine_ends (eV 0) aNil)))) aNil)))
    (sSeq (sFor (iRange1 (eV 1)) (gtN 4) (sSeq (sAsg (gtN 5) (eBin opTimes (eLst (aCons (eK (.int 0)) aNil)) (eMeth "Machine" "size" [] [] [] s_Machine_size (eV 0) aNil)))
    (sSeq (sFor (iAny (eMeth "Machine" "arrows" [] [] [] s_Machine_arrows (eV 0) aNil)) (gtT 3 (gtCons (gtN 3) (gtCons (gtN 6) (gtCons (gtN 7) gtNil)))) (sAugI (· + ·) 5 (eV 3) (eBin opIdxA (eBinL opIdxA 2 (eUn opNeg (eK (.int 1)))) (eV 7))))
    (sDrop (mLst muAppend 2 (aCons (eV 5) aNil))))))
    (sRet (eV 2))))
def s_ways_to_ends : List PV → FRes := runF 8 [] w_ways_to_ends
def w_rows_count : SM := (sSeq (sDrop (eCall [.f] [] [] s_check_length (aCons (eV 1) aNil)))
    (sRet (eBin opIdxA (eBin opIdxA (eCall [.f, .f] [] [] s_ways_to_ends (aCons (eV 0) (aCons (eV 1) aNil))) (eV 1)) (eK (.int 0)))))
def s_rows_count : List PV → FRes := runF 2 [] w_rows_count
def w__law_paths : SM := (sSeq (sAsg (gtN 1) eDict0)
    (sSeq (sFor (iAny (eBinL opIdxA 0 (eK (.int 1)))) (gtT 3 (gtCons (gtN 2) (gtCons (gtN 3) (gtCons (gtN 4) gtNil)))) (sStA (eV 4) 1 (eTup (aCons (eV 2) (aCons (eV 3) aNil)))))
    (sRet (eV 1))))
def s__law_paths : List PV → FRes := runF 5 [] w__law_paths
def w__law_listed : SM := (sSeq (sPar [3, 4] (uCons (eLst (aCons (eTup (aCons (eLst aNil) (aCons (eK (.int 0)) aNil))) aNil)) (uCons (eCall [.f] [] [] s__law_paths (aCons (eV 0) aNil)) aNil)))
    (sSeq (sFor (iRange1 (eV 2)) (gtN 5) (sSeq (sAsg (gtN 6) (eLst aNil))
    (sSeq (sFor (iAny (eV 3)) (gtT 2 (gtCons (gtN 7) (gtCons (gtN 8) gtNil))) (sFor (iAny (eV 1)) (gtN 9) (sSeq (sAsg (gtN 10) (eGetB 4 (eTup (aCons (eV 8) (aCons (eV 9) aNil)))))
    (sIf (bV (eBinL opIsNot 10 (eK .non))) (sDrop (mLst muAppend 6 (aCons (eTup (aCons (eBin opAdd (eV 7) (eLst (aCons (eV 9) aNil))) (aCons (eV 10) aNil))) aNil))) sNil))))
    (sSeq (sAsg (gtN 3) (eV 6))
    (sIf (bV (eBin opGt (eUnB opLen 3) (eK (.int 600)))) (sRet (eK .non)) sNil)))))
    (sRet (eLc [7, 8] (iAny (eV 3)) (gtT 2 (gtCons (gtN 7) (gtCons (gtN 8) gtNil))) (bV (eBinL opInA 8 (eBinL opIdxA 0 (eK (.int 2))))) (eV 7)))))
def s__law_listed : List PV → FRes := runF 11 [] w__law_listed
def w__law_right : SM := (sSeq (sAsg (gtN 1) (eCall [.s 0, .f] [0] [] s__law_signs (mS 0 (aCons (eCall [.s 0, .f] [0] [] s__law_of (mS 0 (aCons (eLst (aCons (eK (.int 1)) (aCons (eK (.int 2)) (aCons (eK (.int 3)) (aCons (eK (.int 5)) (aCons (eK (.int 8)) aNil)))))) aNil))) aNil))))
    (sSeq (sAsg (gtN 2) (eCall [.s 0, .f, .f] [0] [] s__law_plan (mS 0 (aCons (eV 1) (aCons (eK (.int 5)) aNil)))))
    (sSeq (sPar [3, 4] (uCons (eMake "Machine" [.f, .f, .f] [0] [] s_Machine___init__ (aCons (eBinL opIdxA 2 (eK (.int 0))) (aCons (eBinL opIdxA 2 (eK (.int 1))) (aCons (eBinL opIdxA 2 (eK (.int 2))) aNil)))) (uCons (eCall [.f, .f] [] [] s__law_summed (aCons (eV 2) (aCons (eK (.int 200)) aNil))) aNil)))
    (sSeq (sAsg (gtN 5) (eLst (aCons (eK (.int 200)) (aCons (eK (.int 0)) (aCons (eK (.int 3)) (aCons (eCall [.s 0, .f] [0] [] s__law_roll (mS 0 (aCons (eK (.int 201)) aNil))) (aCons (eK (.int 1)) (aCons (eK (.int 4)) (aCons (eK (.int 2)) (aCons (eCall [.s 0, .f] [0] [] s__law_roll (mS 0 (aCons (eK (.int 40)) aNil))) (aCons (eK (.int 199)) aNil)))))))))))
    (sSeq (sFor (iAny (eV 5)) (gtN 6) (sSeq (sIf (bV (eBin opNe (eUn opRepr (eLst (aCons (eCall [.f, .f] [] [] s_rows_count (aCons (eV 3) (aCons (eV 6) aNil))) (aCons (eCallK 2 [1, 0] s_rows_count (aCons (eV 6) (aCons (eV 3) aNil))) aNil)))) (eUn opRepr (eBin opTimes (eLst (aCons (eBinL opIdxA 4 (eV 6)) aNil)) (eK (.int 2)))))) (sRet (eK (.bl false))) sNil)
    (sIf (bV (eBinL opLt 6 (eK (.int 5)))) (sSeq (sAsg (gtN 7) (eCall [.f, .f, .f] [] [] s__law_listed (aCons (eV 2) (aCons (eV 1) (aCons (eV 6) aNil)))))
    (sIf (bAnd (bV (eBinL opIsNot 7 (eK .non))) (bV (eBin opNe (eUnB opLen 7) (eBinL opIdxA 4 (eV 6))))) (sRet (eK (.bl false))) sNil)) sNil)))
    (sRet (eK (.bl true))))))))
def s__law_right : List PV → FRes := runF 8 [0] w__law_right
def w_law : SM := (sSeq (sFor (iRange1 (eBin opMax (eK (.int 1)) (eBin opMin (eK (.int 10)) (eUnB opLen 0)))) (gtN 1) (sIf (bNot (bT (eCall [.t] [0] [] s__law_right (mT (eCall [.f, .f] [] [] s__law_spring (aCons (eV 0) (aCons (eV 1) aNil))) aNil)))) (sRet (eK (.bl false))) sNil))
    (sRet (eK (.bl true))))
def s_law : List PV → FRes := runF 2 [] w_law
/-- what the head tells -/
structure Cd (K : PySem.W.Frag) (mg : Str → Option Value) : Prop where
  f_abs : mg "abs" = none
  f_all : mg "all" = none
  f_bool : mg "bool" = none
  f_enumerate : mg "enumerate" = none
  f_int : mg "int" = none
  f_isinstance : mg "isinstance" = none
  f_len : mg "len" = none
  f_max : mg "max" = none
  f_min : mg "min" = none
  f_range : mg "range" = none
  f_repr : mg "repr" = none
  f_set : mg "set" = none
  f_sorted : mg "sorted" = none
  f_str : mg "str" = none
  f_sum : mg "sum" = none
  f_tuple : mg "tuple" = none
  c_LETTERS : ∃ t, mg "LETTERS" = some (.str "abcdefghijklmnopqrstuvwxyz" t)
  c_MOST_LETTERS : ∃ t, mg "MOST_LETTERS" = some (.int 8 t)
  c_MOST_LENGTH : ∃ t, mg "MOST_LENGTH" = some (.int 200 t)
  c_MOST_STATES : ∃ t, mg "MOST_STATES" = some (.int 5 t)
  c_MOST_ARROWS : ∃ t, mg "MOST_ARROWS" = some (.int 40 t)
  g_Machine : mg "Machine" = some (.ref (He.ga K "Machine"))
  cl_Machine : Cls K (He.ga K "Machine")
  mk_Machine : Mk K (He.ga K "Machine") (He.fAd K ("Machine", some "__init__"))
  ask_Machine : Ask1 K clss "Machine"
  own : ∀ C ∈ clss, Own1 K C
  na_Machine_finals : NoAttr K (He.ga K "Machine") "finals"
  na_Machine_paths : NoAttr K (He.ga K "Machine") "paths"
  na_Machine_states : NoAttr K (He.ga K "Machine") "states"
  me_Machine_arrows : Meth K (He.ga K "Machine") "arrows" (He.fAd K ("Machine", some "arrows"))
  me_Machine_ends : Meth K (He.ga K "Machine") "ends" (He.fAd K ("Machine", some "ends"))
  me_Machine_size : Meth K (He.ga K "Machine") "size" (He.fAd K ("Machine", some "size"))
  g__law_spring : mg "_law_spring" = some (.ref (He.fAd K ("_law_spring", none)))
  d__law_spring : ∃ fd, FunD K "_law_spring" "_law_spring" (defArgs (top 28)) (defBody (top 28)) (defScope (top 28)) [] [] (He.fAd K ("_law_spring", none)) fd
  g__law_roll : mg "_law_roll" = some (.ref (He.fAd K ("_law_roll", none)))
  d__law_roll : ∃ fd, FunD K "_law_roll" "_law_roll" (defArgs (top 29)) (defBody (top 29)) (defScope (top 29)) [] [] (He.fAd K ("_law_roll", none)) fd
  g__law_of : mg "_law_of" = some (.ref (He.fAd K ("_law_of", none)))
  d__law_of : ∃ fd, FunD K "_law_of" "_law_of" (defArgs (top 30)) (defBody (top 30)) (defScope (top 30)) [] [] (He.fAd K ("_law_of", none)) fd
  g__law_word : mg "_law_word" = some (.ref (He.fAd K ("_law_word", none)))
  d__law_word : ∃ fd, FunD K "_law_word" "_law_word" (defArgs (top 31)) (defBody (top 31)) (defScope (top 31)) [] [] (He.fAd K ("_law_word", none)) fd
  g__law_signs : mg "_law_signs" = some (.ref (He.fAd K ("_law_signs", none)))
  d__law_signs : ∃ fd, FunD K "_law_signs" "_law_signs" (defArgs (top 32)) (defBody (top 32)) (defScope (top 32)) [] [] (He.fAd K ("_law_signs", none)) fd
  g__law_plan : mg "_law_plan" = some (.ref (He.fAd K ("_law_plan", none)))
  d__law_plan : ∃ fd, FunD K "_law_plan" "_law_plan" (defArgs (top 33)) (defBody (top 33)) (defScope (top 33)) [] [] (He.fAd K ("_law_plan", none)) fd
  g_is_whole : mg "is_whole" = some (.ref (He.fAd K ("is_whole", none)))
  d_is_whole : ∃ fd, FunD K "is_whole" "is_whole" (defArgs (top 11)) (defBody (top 11)) (defScope (top 11)) [] [] (He.fAd K ("is_whole", none)) fd
  g_is_state : mg "is_state" = some (.ref (He.fAd K ("is_state", none)))
  d_is_state : ∃ fd, FunD K "is_state" "is_state" (defArgs (top 22)) (defBody (top 22)) (defScope (top 22)) [] [] (He.fAd K ("is_state", none)) fd
  g_is_word : mg "is_word" = some (.ref (He.fAd K ("is_word", none)))
  d_is_word : ∃ fd, FunD K "is_word" "is_word" (defArgs (top 12)) (defBody (top 12)) (defScope (top 12)) [] [] (He.fAd K ("is_word", none)) fd
  g_is_arrow : mg "is_arrow" = some (.ref (He.fAd K ("is_arrow", none)))
  d_is_arrow : ∃ fd, FunD K "is_arrow" "is_arrow" (defArgs (top 23)) (defBody (top 23)) (defScope (top 23)) [] [] (He.fAd K ("is_arrow", none)) fd
  g_paths_of : mg "paths_of" = some (.ref (He.fAd K ("paths_of", none)))
  d_paths_of : ∃ fd, FunD K "paths_of" "paths_of" (defArgs (top 24)) (defBody (top 24)) (defScope (top 24)) [] [] (He.fAd K ("paths_of", none)) fd
  g_check_ends : mg "check_ends" = some (.ref (He.fAd K ("check_ends", none)))
  d_check_ends : ∃ fd, FunD K "check_ends" "check_ends" (defArgs (top 25)) (defBody (top 25)) (defScope (top 25)) [] [] (He.fAd K ("check_ends", none)) fd
  d_Machine___init__ : ∃ fd, FunD K "__init__" "Machine.__init__" (defArgs (meth 26 0)) (defBody (meth 26 0)) (defScope (meth 26 0)) [.ref (He.dflAt ("Machine", some "__init__") 0 K), .ref (He.dflAt ("Machine", some "__init__") 1 K)] [] (He.fAd K ("Machine", some "__init__")) fd
  g__law_summed : mg "_law_summed" = some (.ref (He.fAd K ("_law_summed", none)))
  d__law_summed : ∃ fd, FunD K "_law_summed" "_law_summed" (defArgs (top 36)) (defBody (top 36)) (defScope (top 36)) [] [] (He.fAd K ("_law_summed", none)) fd
  g_check_length : mg "check_length" = some (.ref (He.fAd K ("check_length", none)))
  d_check_length : ∃ fd, FunD K "check_length" "check_length" (defArgs (top 16)) (defBody (top 16)) (defScope (top 16)) [] [] (He.fAd K ("check_length", none)) fd
  d_Machine_size : ∃ fd, FunD K "size" "Machine.size" (defArgs (meth 26 2)) (defBody (meth 26 2)) (defScope (meth 26 2)) [] [] (He.fAd K ("Machine", some "size")) fd
  d_Machine_ends : ∃ fd, FunD K "ends" "Machine.ends" (defArgs (meth 26 4)) (defBody (meth 26 4)) (defScope (meth 26 4)) [] [] (He.fAd K ("Machine", some "ends")) fd
  d_Machine_arrows : ∃ fd, FunD K "arrows" "Machine.arrows" (defArgs (meth 26 3)) (defBody (meth 26 3)) (defScope (meth 26 3)) [] [] (He.fAd K ("Machine", some "arrows")) fd
  g_ways_to_ends : mg "ways_to_ends" = some (.ref (He.fAd K ("ways_to_ends", none)))
  d_ways_to_ends : ∃ fd, FunD K "ways_to_ends" "ways_to_ends" (defArgs (top 17)) (defBody (top 17)) (defScope (top 17)) [] [] (He.fAd K ("ways_to_ends", none)) fd
  g_rows_count : mg "rows_count" = some (.ref (He.fAd K ("rows_count", none)))
  d_rows_count : ∃ fd, FunD K "rows_count" "rows_count" (defArgs (top 18)) (defBody (top 18)) (defScope (top 18)) [] [] (He.fAd K ("rows_count", none)) fd
  g__law_paths : mg "_law_paths" = some (.ref (He.fAd K ("_law_paths", none)))
  d__law_paths : ∃ fd, FunD K "_law_paths" "_law_paths" (defArgs (top 34)) (defBody (top 34)) (defScope (top 34)) [] [] (He.fAd K ("_law_paths", none)) fd
  g__law_listed : mg "_law_listed" = some (.ref (He.fAd K ("_law_listed", none)))
  d__law_listed : ∃ fd, FunD K "_law_listed" "_law_listed" (defArgs (top 35)) (defBody (top 35)) (defScope (top 35)) [] [] (He.fAd K ("_law_listed", none)) fd
  g__law_right : mg "_law_right" = some (.ref (He.fAd K ("_law_right", none)))
  d__law_right : ∃ fd, FunD K "_law_right" "_law_right" (defArgs (top 37)) (defBody (top 37)) (defScope (top 37)) [] [] (He.fAd K ("_law_right", none)) fd
  g_law : mg "law" = some (.ref (He.fAd K ("law", none)))
  d_law : ∃ fd, FunD K "law" "law" (defArgs (top 38)) (defBody (top 38)) (defScope (top 38)) [] [] (He.fAd K ("law", none)) fd
variable {P : Program} {w : World} {K : PySem.W.Frag} {mg : Str → Option Value} {base : Heap}
theorem sc__law_spring : FnScope ["script", "place", "cell", "seed"] ["script", "place"] (defScope (top 28)) := ⟨rfl, rfl, rfl, by decide +kernel, rfl, by decide +kernel, by decide +kernel⟩
theorem g__law_spring (c : Cd K mg) : ∃ fd, FunD K "_law_spring" "_law_spring" (defArgs (top 28)) (defBody (top 28)) (defScope (top 28)) [] [] (He.fAd K ("_law_spring", none)) fd ∧ FnG P w K mg base 1 (He.fAd K ("_law_spring", none)) fd ["script", "place"] (spF ⟨P, w, K, []⟩ ["script", "place", "cell", "seed"] 2 s__law_spring) := by
  obtain ⟨fd, F⟩ := c.d__law_spring
  have ND := sc__law_spring.nd
  refine ⟨fd, F, fnG F sc__law_spring fun cdv A outer s H E hr gd => ?_⟩
  exact (ssj_cons (sj_set (i := 2) ND (by rfl) (by first | exact .inl rfl | exact .inr rfl) ej_int)
    (ssj_cons (sj_if (bj_cmpL (i := 1) or_lt os_lt (by rfl) (by first | exact .inl rfl | exact .inr (.inl rfl) | exact .inr (.inr rfl)) (ej_b1v (i := 0) cr_lenA us_len (by rfl) c.f_len boot_len (by rfl) (by first | exact .inl rfl | exact .inr (.inl rfl) | exact .inr (.inr rfl)))) (ssj_one (sj_set (i := 2) ND (by rfl) (by first | exact .inl rfl | exact .inr rfl) (ej_t1 call_int1 us_int (by rfl) c.f_int boot_int (ej_idxAL (i := 0) (by exact room_u hr) (by rfl) (by first | exact .inl rfl | exact .inr (.inl rfl) | exact .inr (.inr rfl)) (ej_v (i := 1) (by rfl) (by first | exact .inl rfl | exact .inr (.inl rfl) | exact .inr (.inr rfl))))))) ssj_nil)
    (ssj_cons (sj_set (i := 3) ND (by rfl) (by first | exact .inl rfl | exact .inr rfl) (ej_bin op_mod os_mod (ej_t1 call_int1 us_int (by rfl) c.f_int boot_int (ej_bin or_add os_add (ej_bin or_add os_add (ej_bin or_times os_times (ej_v (i := 2) (by rfl) (by first | exact .inl rfl | exact .inr (.inl rfl) | exact .inr (.inr rfl))) ej_int) (ej_bin or_times os_times (ej_v (i := 1) (by rfl) (by first | exact .inl rfl | exact .inr (.inl rfl) | exact .inr (.inr rfl))) ej_int)) ej_int)) (ej_bin or_add os_add (ej_bin or_powI os_pow ej_int ej_int) ej_int)))
    (ssj_one (sj_ret (ej_lst (aj_cons (ej_b2 (call_max2 rfl) os_max (by rfl) c.f_max boot_max ej_int (ej_bin op_sub os_sub (ej_b1v (i := 2) call_abs us_abs (by rfl) c.f_abs boot_abs (by rfl) (by first | exact .inl rfl | exact .inr (.inl rfl) | exact .inr (.inr rfl))) (ej_bin or_powI os_pow ej_int ej_int))) (aj_cons (ej_v (i := 3) (by rfl) (by first | exact .inl rfl | exact .inr (.inl rfl) | exact .inr (.inr rfl))) (aj_cons ej_int aj_nil)))))))))
theorem sc__law_roll : FnScope ["spring", "many", "digit", "turn", "mixed"] ["spring", "many"] (defScope (top 29)) := ⟨rfl, rfl, rfl, by decide +kernel, rfl, by decide +kernel, by decide +kernel⟩
theorem g__law_roll (c : Cd K mg) : ∃ fd, FunD K "_law_roll" "_law_roll" (defArgs (top 29)) (defBody (top 29)) (defScope (top 29)) [] [] (He.fAd K ("_law_roll", none)) fd ∧ FnG P w K mg base 1 (He.fAd K ("_law_roll", none)) fd ["spring", "many"] (spF ⟨P, w, K, [0]⟩ ["spring", "many", "digit", "turn", "mixed"] 2 s__law_roll) := by
  obtain ⟨fd, F⟩ := c.d__law_roll
  have ND := sc__law_roll.nd
  refine ⟨fd, F, fnG F sc__law_roll fun cdv A outer s H E hr gd => ?_⟩
  exact (ssj_cons (sj_if (bj_cmp or_gt os_gt (ej_idxAL (i := 0) (by exact room_u hr) (by rfl) (by first | exact .inl rfl | exact .inr (.inl rfl) | exact .inr (.inr rfl)) ej_int) ej_int) (ssj_cons (sj_set (i := 2) ND (by rfl) (by first | exact .inl rfl | exact .inr rfl) (ej_bin op_mod os_mod (ej_t1 call_int1 us_int (by rfl) c.f_int boot_int (ej_idxAL (i := 0) (by exact room_u hr) (by rfl) (by first | exact .inl rfl | exact .inr (.inl rfl) | exact .inr (.inr rfl)) ej_int)) (ej_v (i := 1) (by rfl) (by first | exact .inl rfl | exact .inr (.inl rfl) | exact .inr (.inr rfl)))))
    (ssj_cons (sj_setA (i := 0) (by exact room_u hr) (by rfl) (by first | exact .inl rfl | exact .inr (.inl rfl) | exact .inr (.inr rfl)) (ej_bin op_fdivW os_div (ej_idxAL (i := 0) (by exact room_u hr) (by rfl) (by first | exact .inl rfl | exact .inr (.inl rfl) | exact .inr (.inr rfl)) ej_int) (ej_v (i := 1) (by rfl) (by first | exact .inl rfl | exact .inr (.inl rfl) | exact .inr (.inr rfl)))) ej_int)
    (ssj_one (sj_ret (ej_v (i := 2) (by rfl) (by first | exact .inl rfl | exact .inr (.inl rfl) | exact .inr (.inr rfl))))))) ssj_nil)
    (ssj_cons (sj_setA (i := 0) (by exact room_u hr) (by rfl) (by first | exact .inl rfl | exact .inr (.inl rfl) | exact .inr (.inr rfl)) (ej_bin or_add os_add (ej_idxAL (i := 0) (by exact room_u hr) (by rfl) (by first | exact .inl rfl | exact .inr (.inl rfl) | exact .inr (.inr rfl)) ej_int) ej_int) ej_int)
    (ssj_cons (sj_set (i := 3) ND (by rfl) (by first | exact .inl rfl | exact .inr rfl) (ej_idxAL (i := 0) (by exact room_u hr) (by rfl) (by first | exact .inl rfl | exact .inr (.inl rfl) | exact .inr (.inr rfl)) ej_int))
    (ssj_cons (sj_set (i := 4) ND (by rfl) (by first | exact .inl rfl | exact .inr rfl) (ej_bin op_mod os_mod (ej_t1 call_int1 us_int (by rfl) c.f_int boot_int (ej_bin or_add os_add (ej_bin or_powI os_pow (ej_bin or_add os_add (ej_idxAL (i := 0) (by exact room_u hr) (by rfl) (by first | exact .inl rfl | exact .inr (.inl rfl) | exact .inr (.inr rfl)) ej_int) (ej_bin or_times os_times ej_int (ej_v (i := 3) (by rfl) (by first | exact .inl rfl | exact .inr (.inl rfl) | exact .inr (.inr rfl))))) ej_int) (ej_v (i := 3) (by rfl) (by first | exact .inl rfl | exact .inr (.inl rfl) | exact .inr (.inr rfl))))) (ej_bin or_add os_add (ej_bin or_powI os_pow ej_int ej_int) ej_int)))
    (ssj_cons (sj_set (i := 4) ND (by rfl) (by first | exact .inl rfl | exact .inr rfl) (ej_bin op_mod os_mod (ej_t1 call_int1 us_int (by rfl) c.f_int boot_int (ej_bin or_add os_add (ej_bin or_powI os_pow (ej_bin or_add os_add (ej_v (i := 4) (by rfl) (by first | exact .inl rfl | exact .inr (.inl rfl) | exact .inr (.inr rfl))) (ej_bin or_times os_times ej_int (ej_v (i := 3) (by rfl) (by first | exact .inl rfl | exact .inr (.inl rfl) | exact .inr (.inr rfl))))) ej_int) (ej_v (i := 4) (by rfl) (by first | exact .inl rfl | exact .inr (.inl rfl) | exact .inr (.inr rfl))))) (ej_bin or_add os_add (ej_bin or_powI os_pow ej_int ej_int) ej_int)))
    (ssj_one (sj_ret (ej_bin op_mod os_mod (ej_t1 call_int1 us_int (by rfl) c.f_int boot_int (ej_bin op_fdivW os_div (ej_v (i := 4) (by rfl) (by first | exact .inl rfl | exact .inr (.inl rfl) | exact .inr (.inr rfl))) (ej_bin or_powI os_pow ej_int ej_int))) (ej_v (i := 1) (by rfl) (by first | exact .inl rfl | exact .inr (.inl rfl) | exact .inr (.inr rfl)))))))))))
theorem sc__law_of : FnScope ["spring", "some"] ["spring", "some"] (defScope (top 30)) := ⟨rfl, rfl, rfl, by decide +kernel, rfl, by decide +kernel, by decide +kernel⟩
theorem g__law_of (c : Cd K mg) : ∃ fd, FunD K "_law_of" "_law_of" (defArgs (top 30)) (defBody (top 30)) (defScope (top 30)) [] [] (He.fAd K ("_law_of", none)) fd ∧ FnG P w K mg base 2 (He.fAd K ("_law_of", none)) fd ["spring", "some"] (spF ⟨P, w, K, [0]⟩ ["spring", "some"] 2 s__law_of) := by
  obtain ⟨fd__law_roll, F__law_roll, G__law_roll⟩ := g__law_roll (P := P) (w := w) (base := base) c
  have v__law_roll : Vals [] [] := .nil
  have b__law_roll : Binds K fd__law_roll ["spring", "many"] [] := F__law_roll.bindsN fun _ _ _ _ _ _ us hl => match us, hl with | [_, _], _ => rfl
  obtain ⟨fd, F⟩ := c.d__law_of
  have ND := sc__law_of.nd
  refine ⟨fd, F, fnG F sc__law_of fun cdv A outer s H E hr gd => ?_⟩
  exact (ssj_one (sj_ret (ej_idxAL (i := 1) (by exact room_u hr) (by rfl) (by first | exact .inl rfl | exact .inr (.inl rfl) | exact .inr (.inr rfl)) (ej_call (ms := [.s 0, .f]) (G__law_roll.mono (by decide)) hr gd (takes_of rfl rfl rfl rfl) (by rfl) c.g__law_roll F__law_roll.kp b__law_roll v__law_roll (fun _ => reps_nil) (mj_s (i := 0) (by rfl) (by first | exact .inl rfl | exact .inr (.inl rfl) | exact .inr (.inr rfl)) (mj_f (ej_b1v (i := 1) cr_lenA us_len (by rfl) c.f_len boot_len (by rfl) (by first | exact .inl rfl | exact .inr (.inl rfl) | exact .inr (.inr rfl))) mj_nil))))))
theorem sc__law_word : FnScope ["spring", "letters", "found", "k"] ["spring"] (defScope (top 31)) := ⟨rfl, rfl, rfl, by decide +kernel, rfl, by decide +kernel, by decide +kernel⟩
theorem g__law_word (c : Cd K mg) : ∃ fd, FunD K "_law_word" "_law_word" (defArgs (top 31)) (defBody (top 31)) (defScope (top 31)) [] [] (He.fAd K ("_law_word", none)) fd ∧ FnG P w K mg base 3 (He.fAd K ("_law_word", none)) fd ["spring"] (spF ⟨P, w, K, [0]⟩ ["spring", "letters", "found", "k"] 1 s__law_word) := by
  obtain ⟨fd__law_of, F__law_of, G__law_of⟩ := g__law_of (P := P) (w := w) (base := base) c
  have v__law_of : Vals [] [] := .nil
  have b__law_of : Binds K fd__law_of ["spring", "some"] [] := F__law_of.bindsN fun _ _ _ _ _ _ us hl => match us, hl with | [_, _], _ => rfl
  obtain ⟨fd__law_roll, F__law_roll, G__law_roll⟩ := g__law_roll (P := P) (w := w) (base := base) c
  have v__law_roll : Vals [] [] := .nil
  have b__law_roll : Binds K fd__law_roll ["spring", "many"] [] := F__law_roll.bindsN fun _ _ _ _ _ _ us hl => match us, hl with | [_, _], _ => rfl
  obtain ⟨fd, F⟩ := c.d__law_word
  have ND := sc__law_word.nd
  refine ⟨fd, F, fnG F sc__law_word fun cdv A outer s H E hr gd => ?_⟩
  exact (ssj_cons (by first | exact sj_par2 (i := 1) (j := 2) rfl ND rfl rfl (by decide) rfl (by rfl) (uj_cons ej_str (uj_cons ej_str uj_nil)) | exact sj_parT (is := [1, 2]) (n := 2) (by rfl) (uj_cons ej_str (uj_cons ej_str uj_nil)) (pgs_cons (pg_name (i := 1) ND (by rfl) (by first | exact .inl rfl | exact .inr rfl)) (pgs_cons (pg_name (i := 2) ND (by rfl) (by first | exact .inl rfl | exact .inr rfl)) pgs_nil)))
    (ssj_cons (sj_for (passes_of rfl) (by rfl) (ij_range1 (by rfl) c.f_range (ej_call (ms := [.s 0, .f]) (G__law_of.mono (by decide)) hr gd (takes_of rfl rfl rfl rfl) (by rfl) c.g__law_of F__law_of.kp b__law_of v__law_of (fun _ => reps_nil) (mj_s (i := 0) (by rfl) (by first | exact .inl rfl | exact .inr (.inl rfl) | exact .inr (.inr rfl)) (mj_f (ej_lst (aj_cons ej_int (aj_cons ej_int (aj_cons ej_int (aj_cons ej_int (aj_cons ej_int (aj_cons ej_int (aj_cons ej_int aj_nil)))))))) mj_nil)))) (gj_name (i := 3) ND (by rfl) (by first | exact .inl rfl | exact .inr rfl)) (ssj_one (sj_set (i := 2) ND (by rfl) (by first | exact .inl rfl | exact .inr rfl) (ej_bin or_add os_add (ej_v (i := 2) (by rfl) (by first | exact .inl rfl | exact .inr (.inl rfl) | exact .inr (.inr rfl))) (ej_idxAL (i := 1) (by exact room_u hr) (by rfl) (by first | exact .inl rfl | exact .inr (.inl rfl) | exact .inr (.inr rfl)) (ej_call (ms := [.s 0, .f]) (G__law_roll.mono (by decide)) hr gd (takes_of rfl rfl rfl rfl) (by rfl) c.g__law_roll F__law_roll.kp b__law_roll v__law_roll (fun _ => reps_nil) (mj_s (i := 0) (by rfl) (by first | exact .inl rfl | exact .inr (.inl rfl) | exact .inr (.inr rfl)) (mj_f ej_int mj_nil))))))))
    (ssj_one (sj_ret (ej_v (i := 2) (by rfl) (by first | exact .inl rfl | exact .inr (.inl rfl) | exact .inr (.inr rfl)))))))
theorem sc__law_signs : FnScope ["spring", "many", "found", "k", "word"] ["spring", "many"] (defScope (top 32)) := ⟨rfl, rfl, rfl, by decide +kernel, rfl, by decide +kernel, by decide +kernel⟩
theorem g__law_signs (c : Cd K mg) : ∃ fd, FunD K "_law_signs" "_law_signs" (defArgs (top 32)) (defBody (top 32)) (defScope (top 32)) [] [] (He.fAd K ("_law_signs", none)) fd ∧ FnG P w K mg base 4 (He.fAd K ("_law_signs", none)) fd ["spring", "many"] (spF ⟨P, w, K, [0]⟩ ["spring", "many", "found", "k", "word"] 2 s__law_signs) := by
  obtain ⟨fd__law_word, F__law_word, G__law_word⟩ := g__law_word (P := P) (w := w) (base := base) c
  have v__law_word : Vals [] [] := .nil
  have b__law_word : Binds K fd__law_word ["spring"] [] := F__law_word.bindsN fun _ _ _ _ _ _ us hl => match us, hl with | [_], _ => rfl
  obtain ⟨fd__law_roll, F__law_roll, G__law_roll⟩ := g__law_roll (P := P) (w := w) (base := base) c
  have v__law_roll : Vals [] [] := .nil
  have b__law_roll : Binds K fd__law_roll ["spring", "many"] [] := F__law_roll.bindsN fun _ _ _ _ _ _ us hl => match us, hl with | [_, _], _ => rfl
  obtain ⟨fd__law_of, F__law_of, G__law_of⟩ := g__law_of (P := P) (w := w) (base := base) c
  have v__law_of : Vals [] [] := .nil
  have b__law_of : Binds K fd__law_of ["spring", "some"] [] := F__law_of.bindsN fun _ _ _ _ _ _ us hl => match us, hl with | [_, _], _ => rfl
  obtain ⟨fd, F⟩ := c.d__law_signs
  have ND := sc__law_signs.nd
  refine ⟨fd, F, fnG F sc__law_signs fun cdv A outer s H E hr gd => ?_⟩
  exact (ssj_cons (sj_set (i := 2) ND (by rfl) (by first | exact .inl rfl | exact .inr rfl) (ej_lst aj_nil))
    (ssj_cons (sj_for (passes_of rfl) (by rfl) (ij_range1 (by rfl) c.f_range (ej_v (i := 1) (by rfl) (by first | exact .inl rfl | exact .inr (.inl rfl) | exact .inr (.inr rfl)))) (gj_name (i := 3) ND (by rfl) (by first | exact .inl rfl | exact .inr rfl)) (ssj_cons (sj_set (i := 4) ND (by rfl) (by first | exact .inl rfl | exact .inr rfl) (ej_call (ms := [.s 0]) (G__law_word.mono (by decide)) hr gd (takes_of rfl rfl rfl rfl) (by rfl) c.g__law_word F__law_word.kp b__law_word v__law_word (fun _ => reps_nil) (mj_s (i := 0) (by rfl) (by first | exact .inl rfl | exact .inr (.inl rfl) | exact .inr (.inr rfl)) mj_nil)))
    (ssj_cons (sj_if (bw_pt (bw_and (bj_cmpL (i := 2) (op_neD (by exact hr.units)) os_ne (by rfl) (by first | exact .inl rfl | exact .inr (.inl rfl) | exact .inr (.inr rfl)) (ej_lst aj_nil)) (bw_and1 (bj_cmp (op_eqD (by exact hr.units)) os_eq (ej_call (ms := [.s 0, .f]) (G__law_roll.mono (by decide)) hr gd (takes_of rfl rfl rfl rfl) (by rfl) c.g__law_roll F__law_roll.kp b__law_roll v__law_roll (fun _ => reps_nil) (mj_s (i := 0) (by rfl) (by first | exact .inl rfl | exact .inr (.inl rfl) | exact .inr (.inr rfl)) (mj_f ej_int mj_nil))) ej_int)))) (ssj_one (sj_set (i := 4) ND (by rfl) (by first | exact .inl rfl | exact .inr rfl) (ej_slH (ej_call (ms := [.s 0, .f]) (G__law_of.mono (by decide)) hr gd (takes_of rfl rfl rfl rfl) (by rfl) c.g__law_of F__law_of.kp b__law_of v__law_of (fun _ => reps_nil) (mj_s (i := 0) (by rfl) (by first | exact .inl rfl | exact .inr (.inl rfl) | exact .inr (.inr rfl)) (mj_f (ej_lst (aj_cons (ej_bin or_add os_add (ej_idxAL (i := 2) (by exact room_u hr) (by rfl) (by first | exact .inl rfl | exact .inr (.inl rfl) | exact .inr (.inr rfl)) (ej_neg ej_int)) (ej_v (i := 4) (by rfl) (by first | exact .inl rfl | exact .inr (.inl rfl) | exact .inr (.inr rfl)))) (aj_cons (ej_rev (ej_idxAL (i := 2) (by exact room_u hr) (by rfl) (by first | exact .inl rfl | exact .inr (.inl rfl) | exact .inr (.inr rfl)) ej_int)) (aj_cons (ej_bin or_add os_add (ej_slH (ej_idxAL (i := 2) (by exact room_u hr) (by rfl) (by first | exact .inl rfl | exact .inr (.inl rfl) | exact .inr (.inr rfl)) (ej_neg ej_int)) (ej_neg ej_int)) ej_str) (aj_cons (ej_bin or_add os_add ej_str (ej_idxAL (i := 2) (by exact room_u hr) (by rfl) (by first | exact .inl rfl | exact .inr (.inl rfl) | exact .inr (.inr rfl)) ej_int)) aj_nil))))) mj_nil))) ej_int))) ssj_nil)
    (ssj_one (sj_if (bj_cmpB (i := 4) (j := 2) (or_notInAll (by exact room_u hr)) os_notInAll (by rfl) (by first | exact .inl rfl | exact .inr (.inl rfl) | exact .inr (.inr rfl)) (by rfl) (by first | exact .inl rfl | exact .inr (.inl rfl) | exact .inr (.inr rfl))) (ssj_one (sj_expr (ej_append (i := 2) (by rfl) (by first | exact .inl rfl | exact .inr (.inl rfl) | exact .inr (.inr rfl)) (ej_v (i := 4) (by rfl) (by first | exact .inl rfl | exact .inr (.inl rfl) | exact .inr (.inr rfl)))))) ssj_nil)))))
    (ssj_one (sj_ret (ej_v (i := 2) (by rfl) (by first | exact .inl rfl | exact .inr (.inl rfl) | exact .inr (.inr rfl)))))))
theorem sc__law_plan : FnScope ["spring", "words", "most", "many", "rows", "thin", "spot", "word", "stops"] ["spring", "words", "most"] (defScope (top 33)) := ⟨rfl, rfl, rfl, by decide +kernel, rfl, by decide +kernel, by decide +kernel⟩
theorem g__law_plan (c : Cd K mg) : ∃ fd, FunD K "_law_plan" "_law_plan" (defArgs (top 33)) (defBody (top 33)) (defScope (top 33)) [] [] (He.fAd K ("_law_plan", none)) fd ∧ FnG P w K mg base 2 (He.fAd K ("_law_plan", none)) fd ["spring", "words", "most"] (spF ⟨P, w, K, [0]⟩ ["spring", "words", "most", "many", "rows", "thin", "spot", "word", "stops"] 3 s__law_plan) := by
  obtain ⟨fd__law_roll, F__law_roll, G__law_roll⟩ := g__law_roll (P := P) (w := w) (base := base) c
  have v__law_roll : Vals [] [] := .nil
  have b__law_roll : Binds K fd__law_roll ["spring", "many"] [] := F__law_roll.bindsN fun _ _ _ _ _ _ us hl => match us, hl with | [_, _], _ => rfl
  obtain ⟨fd, F⟩ := c.d__law_plan
  have ND := sc__law_plan.nd
  refine ⟨fd, F, fnG F sc__law_plan fun cdv A outer s H E hr gd => ?_⟩
  exact (ssj_cons (by first | exact sj_par2 (i := 3) (j := 4) rfl ND rfl rfl (by decide) rfl (by rfl) (uj_cons (ej_bin or_add os_add ej_int (ej_call (ms := [.s 0, .f]) (G__law_roll.mono (by decide)) hr gd (takes_of rfl rfl rfl rfl) (by rfl) c.g__law_roll F__law_roll.kp b__law_roll v__law_roll (fun _ => reps_nil) (mj_s (i := 0) (by rfl) (by first | exact .inl rfl | exact .inr (.inl rfl) | exact .inr (.inr rfl)) (mj_f (ej_v (i := 2) (by rfl) (by first | exact .inl rfl | exact .inr (.inl rfl) | exact .inr (.inr rfl))) mj_nil)))) (uj_cons (ej_lst aj_nil) uj_nil)) | exact sj_parT (is := [3, 4]) (n := 2) (by rfl) (uj_cons (ej_bin or_add os_add ej_int (ej_call (ms := [.s 0, .f]) (G__law_roll.mono (by decide)) hr gd (takes_of rfl rfl rfl rfl) (by rfl) c.g__law_roll F__law_roll.kp b__law_roll v__law_roll (fun _ => reps_nil) (mj_s (i := 0) (by rfl) (by first | exact .inl rfl | exact .inr (.inl rfl) | exact .inr (.inr rfl)) (mj_f (ej_v (i := 2) (by rfl) (by first | exact .inl rfl | exact .inr (.inl rfl) | exact .inr (.inr rfl))) mj_nil)))) (uj_cons (ej_lst aj_nil) uj_nil)) (pgs_cons (pg_name (i := 3) ND (by rfl) (by first | exact .inl rfl | exact .inr rfl)) (pgs_cons (pg_name (i := 4) ND (by rfl) (by first | exact .inl rfl | exact .inr rfl)) pgs_nil)))
    (ssj_cons (sj_set (i := 5) ND (by rfl) (by first | exact .inl rfl | exact .inr rfl) (ej_call (ms := [.s 0, .f]) (G__law_roll.mono (by decide)) hr gd (takes_of rfl rfl rfl rfl) (by rfl) c.g__law_roll F__law_roll.kp b__law_roll v__law_roll (fun _ => reps_nil) (mj_s (i := 0) (by rfl) (by first | exact .inl rfl | exact .inr (.inl rfl) | exact .inr (.inr rfl)) (mj_f ej_int mj_nil))))
    (ssj_cons (sj_for (passes_of rfl) (by rfl) (ij_range1 (by rfl) c.f_range (ej_v (i := 3) (by rfl) (by first | exact .inl rfl | exact .inr (.inl rfl) | exact .inr (.inr rfl)))) (gj_name (i := 6) ND (by rfl) (by first | exact .inl rfl | exact .inr rfl)) (ssj_one (sj_for (passes_of rfl) (by rfl) (ij_any (ej_v (i := 1) (by rfl) (by first | exact .inl rfl | exact .inr (.inl rfl) | exact .inr (.inr rfl)))) (gj_name (i := 7) ND (by rfl) (by first | exact .inl rfl | exact .inr rfl)) (ssj_one (sj_if (bw_pt (bw_and (bj_cmp or_lt os_lt (ej_b1v (i := 4) cr_lenA us_len (by rfl) c.f_len boot_len (by rfl) (by first | exact .inl rfl | exact .inr (.inl rfl) | exact .inr (.inr rfl))) ej_int) (bw_and1 (bj_cmp or_lt os_lt (ej_call (ms := [.s 0, .f]) (G__law_roll.mono (by decide)) hr gd (takes_of rfl rfl rfl rfl) (by rfl) c.g__law_roll F__law_roll.kp b__law_roll v__law_roll (fun _ => reps_nil) (mj_s (i := 0) (by rfl) (by first | exact .inl rfl | exact .inr (.inl rfl) | exact .inr (.inr rfl)) (mj_f (ej_bin or_add os_add ej_int (ej_v (i := 5) (by rfl) (by first | exact .inl rfl | exact .inr (.inl rfl) | exact .inr (.inr rfl)))) mj_nil))) ej_int)))) (ssj_one (sj_expr (ej_insert (i := 4) (by rfl) (by first | exact .inl rfl | exact .inr (.inl rfl) | exact .inr (.inr rfl)) (aj_cons (ej_call (ms := [.s 0, .f]) (G__law_roll.mono (by decide)) hr gd (takes_of rfl rfl rfl rfl) (by rfl) c.g__law_roll F__law_roll.kp b__law_roll v__law_roll (fun _ => reps_nil) (mj_s (i := 0) (by rfl) (by first | exact .inl rfl | exact .inr (.inl rfl) | exact .inr (.inr rfl)) (mj_f (ej_bin or_add os_add (ej_b1v (i := 4) cr_lenA us_len (by rfl) c.f_len boot_len (by rfl) (by first | exact .inl rfl | exact .inr (.inl rfl) | exact .inr (.inr rfl))) ej_int) mj_nil))) (aj_cons (ej_tup (aj_cons (ej_v (i := 6) (by rfl) (by first | exact .inl rfl | exact .inr (.inl rfl) | exact .inr (.inr rfl))) (aj_cons (ej_v (i := 7) (by rfl) (by first | exact .inl rfl | exact .inr (.inl rfl) | exact .inr (.inr rfl))) (aj_cons (ej_call (ms := [.s 0, .f]) (G__law_roll.mono (by decide)) hr gd (takes_of rfl rfl rfl rfl) (by rfl) c.g__law_roll F__law_roll.kp b__law_roll v__law_roll (fun _ => reps_nil) (mj_s (i := 0) (by rfl) (by first | exact .inl rfl | exact .inr (.inl rfl) | exact .inr (.inr rfl)) (mj_f (ej_v (i := 3) (by rfl) (by first | exact .inl rfl | exact .inr (.inl rfl) | exact .inr (.inr rfl))) mj_nil))) aj_nil)))) aj_nil))))) ssj_nil)))))
    (ssj_cons (sj_set (i := 8) ND (by rfl) (by first | exact .inl rfl | exact .inr rfl) (ej_lst aj_nil))
    (ssj_cons (sj_for (passes_of rfl) (by rfl) (ij_range1 (by rfl) c.f_range (ej_v (i := 3) (by rfl) (by first | exact .inl rfl | exact .inr (.inl rfl) | exact .inr (.inr rfl)))) (gj_name (i := 6) ND (by rfl) (by first | exact .inl rfl | exact .inr rfl)) (ssj_one (sj_if (bj_cmp (op_eqD (by exact hr.units)) os_eq (ej_call (ms := [.s 0, .f]) (G__law_roll.mono (by decide)) hr gd (takes_of rfl rfl rfl rfl) (by rfl) c.g__law_roll F__law_roll.kp b__law_roll v__law_roll (fun _ => reps_nil) (mj_s (i := 0) (by rfl) (by first | exact .inl rfl | exact .inr (.inl rfl) | exact .inr (.inr rfl)) (mj_f ej_int mj_nil))) ej_int) (ssj_one (sj_expr (ej_insert (i := 8) (by rfl) (by first | exact .inl rfl | exact .inr (.inl rfl) | exact .inr (.inr rfl)) (aj_cons (ej_call (ms := [.s 0, .f]) (G__law_roll.mono (by decide)) hr gd (takes_of rfl rfl rfl rfl) (by rfl) c.g__law_roll F__law_roll.kp b__law_roll v__law_roll (fun _ => reps_nil) (mj_s (i := 0) (by rfl) (by first | exact .inl rfl | exact .inr (.inl rfl) | exact .inr (.inr rfl)) (mj_f (ej_bin or_add os_add (ej_b1v (i := 8) cr_lenA us_len (by rfl) c.f_len boot_len (by rfl) (by first | exact .inl rfl | exact .inr (.inl rfl) | exact .inr (.inr rfl))) ej_int) mj_nil))) (aj_cons (ej_v (i := 6) (by rfl) (by first | exact .inl rfl | exact .inr (.inl rfl) | exact .inr (.inr rfl))) aj_nil))))) ssj_nil)))
    (ssj_one (sj_ret (ej_tup (aj_cons (ej_v (i := 3) (by rfl) (by first | exact .inl rfl | exact .inr (.inl rfl) | exact .inr (.inr rfl))) (aj_cons (ej_t1v (i := 4) call_tuple_of us_tupOf (by rfl) c.f_tuple boot_tuple (by rfl) (by first | exact .inl rfl | exact .inr (.inl rfl) | exact .inr (.inr rfl))) (aj_cons (ej_t1v (i := 8) call_tuple_of us_tupOf (by rfl) c.f_tuple boot_tuple (by rfl) (by first | exact .inl rfl | exact .inr (.inl rfl) | exact .inr (.inr rfl))) aj_nil)))))))))))
theorem sc_is_whole : FnScope ["thing"] ["thing"] (defScope (top 11)) := ⟨rfl, rfl, rfl, by decide +kernel, rfl, by decide +kernel, by decide +kernel⟩
theorem g_is_whole (c : Cd K mg) : ∃ fd, FunD K "is_whole" "is_whole" (defArgs (top 11)) (defBody (top 11)) (defScope (top 11)) [] [] (He.fAd K ("is_whole", none)) fd ∧ FnG P w K mg base 1 (He.fAd K ("is_whole", none)) fd ["thing"] (spF ⟨P, w, K, []⟩ ["thing"] 1 s_is_whole) := by
  obtain ⟨fd, F⟩ := c.d_is_whole
  have ND := sc_is_whole.nd
  refine ⟨fd, F, fnG F sc_is_whole fun cdv A outer s H E hr gd => ?_⟩
  exact (ssj_one (sj_ret (ej_and (ej_isBv (T := .int) (i := 0) c.own (by rfl) c.f_isinstance (by rfl) (by first | exact .inl rfl | exact .inr (.inl rfl) | exact .inr (.inr rfl)) (by rfl) c.f_int boot_int) (ej_one (ej_not (ej_isBv (T := .bool) (i := 0) c.own (by rfl) c.f_isinstance (by rfl) (by first | exact .inl rfl | exact .inr (.inl rfl) | exact .inr (.inr rfl)) (by rfl) c.f_bool boot_bool))))))
theorem sc_is_state : FnScope ["thing", "size"] ["thing", "size"] (defScope (top 22)) := ⟨rfl, rfl, rfl, by decide +kernel, rfl, by decide +kernel, by decide +kernel⟩
theorem g_is_state (c : Cd K mg) : ∃ fd, FunD K "is_state" "is_state" (defArgs (top 22)) (defBody (top 22)) (defScope (top 22)) [] [] (He.fAd K ("is_state", none)) fd ∧ FnG P w K mg base 2 (He.fAd K ("is_state", none)) fd ["thing", "size"] (spF ⟨P, w, K, []⟩ ["thing", "size"] 2 s_is_state) := by
  obtain ⟨fd_is_whole, F_is_whole, G_is_whole⟩ := g_is_whole (P := P) (w := w) (base := base) c
  have v_is_whole : Vals [] [] := .nil
  have b_is_whole : Binds K fd_is_whole ["thing"] [] := F_is_whole.bindsN fun _ _ _ _ _ _ us hl => match us, hl with | [_], _ => rfl
  obtain ⟨fd, F⟩ := c.d_is_state
  have ND := sc_is_state.nd
  refine ⟨fd, F, fnG F sc_is_state fun cdv A outer s H E hr gd => ?_⟩
  exact (ssj_one (sj_ret (ej_and (ej_call (ms := [.f]) (G_is_whole.mono (by decide)) hr gd (takes_of rfl rfl rfl rfl) (by rfl) c.g_is_whole F_is_whole.kp b_is_whole v_is_whole (fun _ => reps_nil) (mj_f (ej_v (i := 0) (by rfl) (by first | exact .inl rfl | exact .inr (.inl rfl) | exact .inr (.inr rfl))) mj_nil)) (ej_one (ej_chn or_le os_le or_lt os_lt ej_int (ej_v (i := 0) (by rfl) (by first | exact .inl rfl | exact .inr (.inl rfl) | exact .inr (.inr rfl))) (ej_v (i := 1) (by rfl) (by first | exact .inl rfl | exact .inr (.inl rfl) | exact .inr (.inr rfl))))))))
theorem sc_is_word : FnScope ["thing", "letter"] ["thing"] (defScope (top 12)) := ⟨rfl, rfl, rfl, by decide +kernel, rfl, by decide +kernel, by decide +kernel⟩
theorem g_is_word (c : Cd K mg) : ∃ fd, FunD K "is_word" "is_word" (defArgs (top 12)) (defBody (top 12)) (defScope (top 12)) [] [] (He.fAd K ("is_word", none)) fd ∧ FnG P w K mg base 1 (He.fAd K ("is_word", none)) fd ["thing"] (spF ⟨P, w, K, []⟩ ["thing", "letter"] 1 s_is_word) := by
  obtain ⟨t_LETTERS, c_LETTERS⟩ := c.c_LETTERS
  obtain ⟨t_MOST_LETTERS, c_MOST_LETTERS⟩ := c.c_MOST_LETTERS
  obtain ⟨fd, F⟩ := c.d_is_word
  have ND := sc_is_word.nd
  refine ⟨fd, F, fnG F sc_is_word fun cdv A outer s H E hr gd => ?_⟩
  exact (ssj_cons (sj_if (bw_pt (bw_or (bj_not (bj_truth (ej_isBv (T := .str) (i := 0) c.own (by rfl) c.f_isinstance (by rfl) (by first | exact .inl rfl | exact .inr (.inl rfl) | exact .inr (.inr rfl)) (by rfl) c.f_str boot_str))) (bw_or1 (bj_not (bj_chn or_le os_le or_le os_le ej_int (ej_b1v (i := 0) cr_lenA us_len (by rfl) c.f_len boot_len (by rfl) (by first | exact .inl rfl | exact .inr (.inl rfl) | exact .inr (.inr rfl))) (ej_gint (by rfl) c_MOST_LETTERS)))))) (ssj_one (sj_ret ej_bl)) ssj_nil)
    (ssj_one (sj_ret (ej_b1 (cr_all rfl) us_all (by rfl) c.f_all boot_all (ej_lc rfl ND (own := [("letter", 1)]) (ij_any (ej_v (i := 0) (by rfl) (by first | exact .inl rfl | exact .inr (.inl rfl) | exact .inr (.inr rfl)))) (blkOk_by (by rfl)) (fun _ _ _ _ _ => (gj_name (i := 1) ND (by rfl) (by first | exact .inl rfl | exact .inr rfl))) (fun _ _ _ _ _ => ptsj_nil) (fun _ _ _ _ _ => (ej_cmpL (i := 1) (or_inAll (by exact room_u hr)) os_inAll (by rfl) (by first | exact .inl rfl | exact .inr (.inl rfl) | exact .inr (.inr rfl)) (ej_gstr (by rfl) c_LETTERS))))))))
theorem sc_is_arrow : FnScope ["thing", "size"] ["thing", "size"] (defScope (top 23)) := ⟨rfl, rfl, rfl, by decide +kernel, rfl, by decide +kernel, by decide +kernel⟩
theorem g_is_arrow (c : Cd K mg) : ∃ fd, FunD K "is_arrow" "is_arrow" (defArgs (top 23)) (defBody (top 23)) (defScope (top 23)) [] [] (He.fAd K ("is_arrow", none)) fd ∧ FnG P w K mg base 3 (He.fAd K ("is_arrow", none)) fd ["thing", "size"] (spF ⟨P, w, K, []⟩ ["thing", "size"] 2 s_is_arrow) := by
  obtain ⟨fd_is_state, F_is_state, G_is_state⟩ := g_is_state (P := P) (w := w) (base := base) c
  have v_is_state : Vals [] [] := .nil
  have b_is_state : Binds K fd_is_state ["thing", "size"] [] := F_is_state.bindsN fun _ _ _ _ _ _ us hl => match us, hl with | [_, _], _ => rfl
  obtain ⟨fd_is_word, F_is_word, G_is_word⟩ := g_is_word (P := P) (w := w) (base := base) c
  have v_is_word : Vals [] [] := .nil
  have b_is_word : Binds K fd_is_word ["thing"] [] := F_is_word.bindsN fun _ _ _ _ _ _ us hl => match us, hl with | [_], _ => rfl
  obtain ⟨fd, F⟩ := c.d_is_arrow
  have ND := sc_is_arrow.nd
  refine ⟨fd, F, fnG F sc_is_arrow fun cdv A outer s H E hr gd => ?_⟩
  exact (ssj_cons (sj_if (bw_pt (bw_or (bj_not (bj_truth (ej_isBv (T := .tuple) (i := 0) c.own (by rfl) c.f_isinstance (by rfl) (by first | exact .inl rfl | exact .inr (.inl rfl) | exact .inr (.inr rfl)) (by rfl) c.f_tuple boot_tuple))) (bw_or1 (bj_cmp (op_neD (by exact hr.units)) os_ne (ej_b1v (i := 0) cr_lenA us_len (by rfl) c.f_len boot_len (by rfl) (by first | exact .inl rfl | exact .inr (.inl rfl) | exact .inr (.inr rfl))) ej_int)))) (ssj_one (sj_ret ej_bl)) ssj_nil)
    (ssj_one (sj_ret (ej_and (ej_call (ms := [.f, .f]) (G_is_state.mono (by decide)) hr gd (takes_of rfl rfl rfl rfl) (by rfl) c.g_is_state F_is_state.kp b_is_state v_is_state (fun _ => reps_nil) (mj_f (ej_idxAL (i := 0) (by exact room_u hr) (by rfl) (by first | exact .inl rfl | exact .inr (.inl rfl) | exact .inr (.inr rfl)) ej_int) (mj_f (ej_v (i := 1) (by rfl) (by first | exact .inl rfl | exact .inr (.inl rfl) | exact .inr (.inr rfl))) mj_nil))) (ej_and (ej_call (ms := [.f]) (G_is_word.mono (by decide)) hr gd (takes_of rfl rfl rfl rfl) (by rfl) c.g_is_word F_is_word.kp b_is_word v_is_word (fun _ => reps_nil) (mj_f (ej_idxAL (i := 0) (by exact room_u hr) (by rfl) (by first | exact .inl rfl | exact .inr (.inl rfl) | exact .inr (.inr rfl)) ej_int) mj_nil)) (ej_one (ej_call (ms := [.f, .f]) (G_is_state.mono (by decide)) hr gd (takes_of rfl rfl rfl rfl) (by rfl) c.g_is_state F_is_state.kp b_is_state v_is_state (fun _ => reps_nil) (mj_f (ej_idxAL (i := 0) (by exact room_u hr) (by rfl) (by first | exact .inl rfl | exact .inr (.inl rfl) | exact .inr (.inr rfl)) ej_int) (mj_f (ej_v (i := 1) (by rfl) (by first | exact .inl rfl | exact .inr (.inl rfl) | exact .inr (.inr rfl))) mj_nil)))))))))
theorem sc_paths_of : FnScope ["arrows", "size", "found", "index", "arrow"] ["arrows", "size"] (defScope (top 24)) := ⟨rfl, rfl, rfl, by decide +kernel, rfl, by decide +kernel, by decide +kernel⟩
theorem g_paths_of (c : Cd K mg) : ∃ fd, FunD K "paths_of" "paths_of" (defArgs (top 24)) (defBody (top 24)) (defScope (top 24)) [] [] (He.fAd K ("paths_of", none)) fd ∧ FnG P w K mg base 4 (He.fAd K ("paths_of", none)) fd ["arrows", "size"] (spF ⟨P, w, K, []⟩ ["arrows", "size", "found", "index", "arrow"] 2 s_paths_of) := by
  obtain ⟨fd_is_arrow, F_is_arrow, G_is_arrow⟩ := g_is_arrow (P := P) (w := w) (base := base) c
  have v_is_arrow : Vals [] [] := .nil
  have b_is_arrow : Binds K fd_is_arrow ["thing", "size"] [] := F_is_arrow.bindsN fun _ _ _ _ _ _ us hl => match us, hl with | [_, _], _ => rfl
  obtain ⟨t_MOST_ARROWS, c_MOST_ARROWS⟩ := c.c_MOST_ARROWS
  obtain ⟨fd, F⟩ := c.d_paths_of
  have ND := sc_paths_of.nd
  refine ⟨fd, F, fnG F sc_paths_of fun cdv A outer s H E hr gd => ?_⟩
  exact (ssj_cons (sj_if (bj_not (bj_truth (ej_isBv (T := .tuple) (i := 0) c.own (by rfl) c.f_isinstance (by rfl) (by first | exact .inl rfl | exact .inr (.inl rfl) | exact .inr (.inr rfl)) (by rfl) c.f_tuple boot_tuple))) (ssj_one sj_bad) ssj_nil)
    (ssj_cons (sj_set (i := 2) ND (by rfl) (by first | exact .inl rfl | exact .inr rfl) ej_dict0)
    (ssj_cons (sj_for (passes_of rfl) (by rfl) (ij_enum (by rfl) c.f_enumerate (ej_v (i := 0) (by rfl) (by first | exact .inl rfl | exact .inr (.inl rfl) | exact .inr (.inr rfl)))) (gj_tupT (n := 2) (by rfl) (gsj_cons (gj_name (i := 3) ND (by rfl) (by first | exact .inl rfl | exact .inr rfl)) (gsj_cons (gj_name (i := 4) ND (by rfl) (by first | exact .inl rfl | exact .inr rfl)) gsj_nil))) (ssj_cons (sj_if (bw_pt (bw_or (bj_cmpL (i := 3) or_ge os_ge (by rfl) (by first | exact .inl rfl | exact .inr (.inl rfl) | exact .inr (.inr rfl)) (ej_gint (by rfl) c_MOST_ARROWS)) (bw_or (bj_not (bj_truth (ej_call (ms := [.f, .f]) (G_is_arrow.mono (by decide)) hr gd (takes_of rfl rfl rfl rfl) (by rfl) c.g_is_arrow F_is_arrow.kp b_is_arrow v_is_arrow (fun _ => reps_nil) (mj_f (ej_v (i := 4) (by rfl) (by first | exact .inl rfl | exact .inr (.inl rfl) | exact .inr (.inr rfl))) (mj_f (ej_v (i := 1) (by rfl) (by first | exact .inl rfl | exact .inr (.inl rfl) | exact .inr (.inr rfl))) mj_nil))))) (bw_or1 (bj_cmpR (i := 2) (or_inAll (by exact room_u hr)) os_inAll (ej_slH (ej_v (i := 4) (by rfl) (by first | exact .inl rfl | exact .inr (.inl rfl) | exact .inr (.inr rfl))) ej_int) (by rfl) (by first | exact .inl rfl | exact .inr (.inl rfl) | exact .inr (.inr rfl))))))) (ssj_one sj_bad) ssj_nil)
    (ssj_one (sj_setA (i := 2) (by exact room_u hr) (by rfl) (by first | exact .inl rfl | exact .inr (.inl rfl) | exact .inr (.inr rfl)) (ej_idxAL (i := 4) (by exact room_u hr) (by rfl) (by first | exact .inl rfl | exact .inr (.inl rfl) | exact .inr (.inr rfl)) ej_int) (ej_slH (ej_v (i := 4) (by rfl) (by first | exact .inl rfl | exact .inr (.inl rfl) | exact .inr (.inr rfl))) ej_int)))))
    (ssj_one (sj_ret (ej_v (i := 2) (by rfl) (by first | exact .inl rfl | exact .inr (.inl rfl) | exact .inr (.inr rfl))))))))
theorem sc_check_ends : FnScope ["ends", "size", "end"] ["ends", "size"] (defScope (top 25)) := ⟨rfl, rfl, rfl, by decide +kernel, rfl, by decide +kernel, by decide +kernel⟩
theorem g_check_ends (c : Cd K mg) : ∃ fd, FunD K "check_ends" "check_ends" (defArgs (top 25)) (defBody (top 25)) (defScope (top 25)) [] [] (He.fAd K ("check_ends", none)) fd ∧ FnG P w K mg base 3 (He.fAd K ("check_ends", none)) fd ["ends", "size"] (spF ⟨P, w, K, []⟩ ["ends", "size", "end"] 2 s_check_ends) := by
  obtain ⟨fd_is_state, F_is_state, G_is_state⟩ := g_is_state (P := P) (w := w) (base := base) c
  have v_is_state : Vals [] [] := .nil
  have b_is_state : Binds K fd_is_state ["thing", "size"] [] := F_is_state.bindsN fun _ _ _ _ _ _ us hl => match us, hl with | [_, _], _ => rfl
  obtain ⟨fd, F⟩ := c.d_check_ends
  have ND := sc_check_ends.nd
  refine ⟨fd, F, fnG F sc_check_ends fun cdv A outer s H E hr gd => ?_⟩
  exact (ssj_cons (sj_if (bw_pt (bw_or (bj_not (bj_truth (ej_isBv (T := .tuple) (i := 0) c.own (by rfl) c.f_isinstance (by rfl) (by first | exact .inl rfl | exact .inr (.inl rfl) | exact .inr (.inr rfl)) (by rfl) c.f_tuple boot_tuple))) (bw_or1 (bj_not (bj_truth (ej_b1 (cr_all rfl) us_all (by rfl) c.f_all boot_all (ej_lc rfl ND (own := [("end", 2)]) (ij_any (ej_v (i := 0) (by rfl) (by first | exact .inl rfl | exact .inr (.inl rfl) | exact .inr (.inr rfl)))) (blkOk_by (by rfl)) (fun _ _ _ _ _ => (gj_name (i := 2) ND (by rfl) (by first | exact .inl rfl | exact .inr rfl))) (fun _ _ _ _ _ => ptsj_nil) (fun _ _ _ _ _ => (ej_call (ms := [.f, .f]) (G_is_state.mono (by decide)) hr gd takesW0 (by rfl) c.g_is_state F_is_state.kp b_is_state v_is_state (fun _ => reps_nil) (mj_f (ej_v (i := 2) (by rfl) (by first | exact .inl rfl | exact .inr (.inl rfl) | exact .inr (.inr rfl))) (mj_f (ej_v (i := 1) (by rfl) (by first | exact .inl rfl | exact .inr (.inl rfl) | exact .inr (.inr rfl))) mj_nil))))))))))) (ssj_one sj_bad) ssj_nil)
    (ssj_one (sj_if (bj_cmp (op_neD (by exact hr.units)) os_ne (ej_lenSet rfl (by rfl) c.f_len (by rfl) c.f_set (ej_v (i := 0) (by rfl) (by first | exact .inl rfl | exact .inr (.inl rfl) | exact .inr (.inr rfl)))) (ej_b1v (i := 0) cr_lenA us_len (by rfl) c.f_len boot_len (by rfl) (by first | exact .inl rfl | exact .inr (.inl rfl) | exact .inr (.inr rfl)))) (ssj_one sj_bad) ssj_nil)))
theorem sc_Machine___init__ : FnScope ["self", "size", "arrows", "ends"] ["self", "size", "arrows", "ends"] (defScope (meth 26 0)) := ⟨rfl, rfl, rfl, by decide +kernel, rfl, by decide +kernel, by decide +kernel⟩
theorem g_Machine___init__ (c : Cd K mg) : ∃ fd, FunD K "__init__" "Machine.__init__" (defArgs (meth 26 0)) (defBody (meth 26 0)) (defScope (meth 26 0)) [.ref (He.dflAt ("Machine", some "__init__") 0 K), .ref (He.dflAt ("Machine", some "__init__") 1 K)] [] (He.fAd K ("Machine", some "__init__")) fd ∧ FnG P w K mg base 5 (He.fAd K ("Machine", some "__init__")) fd ["self", "size", "arrows", "ends"] (spF ⟨P, w, K, [0]⟩ ["self", "size", "arrows", "ends"] 4 s_Machine___init__) := by
  obtain ⟨fd_is_whole, F_is_whole, G_is_whole⟩ := g_is_whole (P := P) (w := w) (base := base) c
  have v_is_whole : Vals [] [] := .nil
  have b_is_whole : Binds K fd_is_whole ["thing"] [] := F_is_whole.bindsN fun _ _ _ _ _ _ us hl => match us, hl with | [_], _ => rfl
  obtain ⟨fd_paths_of, F_paths_of, G_paths_of⟩ := g_paths_of (P := P) (w := w) (base := base) c
  have v_paths_of : Vals [] [] := .nil
  have b_paths_of : Binds K fd_paths_of ["arrows", "size"] [] := F_paths_of.bindsN fun _ _ _ _ _ _ us hl => match us, hl with | [_, _], _ => rfl
  obtain ⟨fd_check_ends, F_check_ends, G_check_ends⟩ := g_check_ends (P := P) (w := w) (base := base) c
  have v_check_ends : Vals [] [] := .nil
  have b_check_ends : Binds K fd_check_ends ["ends", "size"] [] := F_check_ends.bindsN fun _ _ _ _ _ _ us hl => match us, hl with | [_, _], _ => rfl
  obtain ⟨t_MOST_STATES, c_MOST_STATES⟩ := c.c_MOST_STATES
  obtain ⟨fd, F⟩ := c.d_Machine___init__
  have ND := sc_Machine___init__.nd
  refine ⟨fd, F, fnG F sc_Machine___init__ fun cdv A outer s H E hr gd => ?_⟩
  exact (ssj_cons (sj_if (bw_pt (bw_or (bj_not (bj_truth (ej_call (ms := [.f]) (G_is_whole.mono (by decide)) hr gd (takes_of rfl rfl rfl rfl) (by rfl) c.g_is_whole F_is_whole.kp b_is_whole v_is_whole (fun _ => reps_nil) (mj_f (ej_v (i := 1) (by rfl) (by first | exact .inl rfl | exact .inr (.inl rfl) | exact .inr (.inr rfl))) mj_nil)))) (bw_or1 (bj_not (bj_chn or_le os_le or_le os_le ej_int (ej_v (i := 1) (by rfl) (by first | exact .inl rfl | exact .inr (.inl rfl) | exact .inr (.inr rfl))) (ej_gint (by rfl) c_MOST_STATES)))))) (ssj_one sj_bad) ssj_nil)
    (ssj_cons (sj_fldS (i := 0) c.cl_Machine c.na_Machine_paths (by rfl) (by first | exact .inl rfl | exact .inr (.inl rfl) | exact .inr (.inr rfl)) (ej_call (ms := [.f, .f]) (G_paths_of.mono (by decide)) hr gd (takes_of rfl rfl rfl rfl) (by rfl) c.g_paths_of F_paths_of.kp b_paths_of v_paths_of (fun _ => reps_nil) (mj_f (ej_v (i := 2) (by rfl) (by first | exact .inl rfl | exact .inr (.inl rfl) | exact .inr (.inr rfl))) (mj_f (ej_v (i := 1) (by rfl) (by first | exact .inl rfl | exact .inr (.inl rfl) | exact .inr (.inr rfl))) mj_nil))))
    (ssj_cons (sj_expr (ej_call (ms := [.f, .f]) (G_check_ends.mono (by decide)) hr gd (takes_of rfl rfl rfl rfl) (by rfl) c.g_check_ends F_check_ends.kp b_check_ends v_check_ends (fun _ => reps_nil) (mj_f (ej_v (i := 3) (by rfl) (by first | exact .inl rfl | exact .inr (.inl rfl) | exact .inr (.inr rfl))) (mj_f (ej_v (i := 1) (by rfl) (by first | exact .inl rfl | exact .inr (.inl rfl) | exact .inr (.inr rfl))) mj_nil))))
    (ssj_cons (sj_fldS (i := 0) c.cl_Machine c.na_Machine_finals (by rfl) (by first | exact .inl rfl | exact .inr (.inl rfl) | exact .inr (.inr rfl)) (ej_t1 call_tuple_of us_tupOf (by rfl) c.f_tuple boot_tuple (ej_b1v (i := 3) (cr_sortD (by exact room_u hr)) us_sorted (by rfl) c.f_sorted boot_sorted (by rfl) (by first | exact .inl rfl | exact .inr (.inl rfl) | exact .inr (.inr rfl)))))
    (ssj_one (sj_fldS (i := 0) c.cl_Machine c.na_Machine_states (by rfl) (by first | exact .inl rfl | exact .inr (.inl rfl) | exact .inr (.inr rfl)) (ej_v (i := 1) (by rfl) (by first | exact .inl rfl | exact .inr (.inl rfl) | exact .inr (.inr rfl)))))))))
theorem sc__law_summed : FnScope ["plan", "most", "ways", "spot", "found", "k", "later", "one"] ["plan", "most"] (defScope (top 36)) := ⟨rfl, rfl, rfl, by decide +kernel, rfl, by decide +kernel, by decide +kernel⟩
theorem g__law_summed (c : Cd K mg) : ∃ fd, FunD K "_law_summed" "_law_summed" (defArgs (top 36)) (defBody (top 36)) (defScope (top 36)) [] [] (He.fAd K ("_law_summed", none)) fd ∧ FnG P w K mg base 1 (He.fAd K ("_law_summed", none)) fd ["plan", "most"] (spF ⟨P, w, K, []⟩ ["plan", "most", "ways", "spot", "found", "k", "later", "one"] 2 s__law_summed) := by
  obtain ⟨fd, F⟩ := c.d__law_summed
  have ND := sc__law_summed.nd
  refine ⟨fd, F, fnG F sc__law_summed fun cdv A outer s H E hr gd => ?_⟩
  exact (ssj_cons (by first | exact sj_setLc (i := 2) rfl ND rfl rfl (by rfl) (own := [("spot", 3)]) (ij_range1 (by rfl) c.f_range (ej_idxAL (i := 0) (by exact room_u hr) (by rfl) (by first | exact .inl rfl | exact .inr (.inl rfl) | exact .inr (.inr rfl)) ej_int)) (blkOk_by (by rfl)) (fun _ _ _ _ _ => (gj_name (i := 3) ND (by rfl) (by first | exact .inl rfl | exact .inr rfl))) (fun _ _ _ _ _ => ptsj_nil) (fun _ _ _ _ _ => (ej_t1 call_int1 us_int (by rfl) c.f_int boot_int (ej_cmpL (i := 3) (op_eqD (by exact hr.units)) os_eq (by rfl) (by first | exact .inl rfl | exact .inr (.inl rfl) | exact .inr (.inr rfl)) ej_int))) | exact sj_set (i := 2) ND (by rfl) (by first | exact .inl rfl | exact .inr rfl) (ej_lc rfl ND (own := [("spot", 3)]) (ij_range1 (by rfl) c.f_range (ej_idxAL (i := 0) (by exact room_u hr) (by rfl) (by first | exact .inl rfl | exact .inr (.inl rfl) | exact .inr (.inr rfl)) ej_int)) (blkOk_by (by rfl)) (fun _ _ _ _ _ => (gj_name (i := 3) ND (by rfl) (by first | exact .inl rfl | exact .inr rfl))) (fun _ _ _ _ _ => ptsj_nil) (fun _ _ _ _ _ => (ej_t1 call_int1 us_int (by rfl) c.f_int boot_int (ej_cmpL (i := 3) (op_eqD (by exact hr.units)) os_eq (by rfl) (by first | exact .inl rfl | exact .inr (.inl rfl) | exact .inr (.inr rfl)) ej_int)))))
    (ssj_cons (sj_set (i := 4) ND (by rfl) (by first | exact .inl rfl | exact .inr rfl) (ej_lst (aj_cons (ej_b1 (cr_sum rfl) us_sum (by rfl) c.f_sum boot_sum (ej_lc rfl ND (own := [("spot", 3)]) (ij_any (ej_idxAL (i := 0) (by exact room_u hr) (by rfl) (by first | exact .inl rfl | exact .inr (.inl rfl) | exact .inr (.inr rfl)) ej_int)) (blkOk_by (by rfl)) (fun _ _ _ _ _ => (gj_name (i := 3) ND (by rfl) (by first | exact .inl rfl | exact .inr rfl))) (fun _ _ _ _ _ => ptsj_nil) (fun _ _ _ _ _ => (ej_idxAL (i := 2) (by exact room_u hr) (by rfl) (by first | exact .inl rfl | exact .inr (.inl rfl) | exact .inr (.inr rfl)) (ej_v (i := 3) (by rfl) (by first | exact .inl rfl | exact .inr (.inl rfl) | exact .inr (.inr rfl))))))) aj_nil)))
    (ssj_cons (sj_for (passes_of rfl) (by rfl) (ij_range1 (by rfl) c.f_range (ej_v (i := 1) (by rfl) (by first | exact .inl rfl | exact .inr (.inl rfl) | exact .inr (.inr rfl)))) (gj_name (i := 5) ND (by rfl) (by first | exact .inl rfl | exact .inr rfl)) (ssj_cons (sj_set (i := 6) ND (by rfl) (by first | exact .inl rfl | exact .inr rfl) (ej_bin or_times os_times (ej_lst (aj_cons ej_int aj_nil)) (ej_idxAL (i := 0) (by exact room_u hr) (by rfl) (by first | exact .inl rfl | exact .inr (.inl rfl) | exact .inr (.inr rfl)) ej_int)))
    (ssj_cons (sj_for (passes_of rfl) (by rfl) (ij_any (ej_idxAL (i := 0) (by exact room_u hr) (by rfl) (by first | exact .inl rfl | exact .inr (.inl rfl) | exact .inr (.inr rfl)) ej_int)) (gj_name (i := 7) ND (by rfl) (by first | exact .inl rfl | exact .inr rfl)) (ssj_one (sj_setA (i := 6) (by exact room_u hr) (by rfl) (by first | exact .inl rfl | exact .inr (.inl rfl) | exact .inr (.inr rfl)) (ej_bin or_add os_add (ej_idxAL (i := 6) (by exact room_u hr) (by rfl) (by first | exact .inl rfl | exact .inr (.inl rfl) | exact .inr (.inr rfl)) (ej_idxAL (i := 7) (by exact room_u hr) (by rfl) (by first | exact .inl rfl | exact .inr (.inl rfl) | exact .inr (.inr rfl)) ej_int)) (ej_idxAL (i := 2) (by exact room_u hr) (by rfl) (by first | exact .inl rfl | exact .inr (.inl rfl) | exact .inr (.inr rfl)) (ej_idxAL (i := 7) (by exact room_u hr) (by rfl) (by first | exact .inl rfl | exact .inr (.inl rfl) | exact .inr (.inr rfl)) ej_int))) (ej_idxAL (i := 7) (by exact room_u hr) (by rfl) (by first | exact .inl rfl | exact .inr (.inl rfl) | exact .inr (.inr rfl)) ej_int))))
    (ssj_cons (sj_set (i := 2) ND (by rfl) (by first | exact .inl rfl | exact .inr rfl) (ej_v (i := 6) (by rfl) (by first | exact .inl rfl | exact .inr (.inl rfl) | exact .inr (.inr rfl))))
    (ssj_one (sj_expr (ej_append (i := 4) (by rfl) (by first | exact .inl rfl | exact .inr (.inl rfl) | exact .inr (.inr rfl)) (ej_b1 (cr_sum rfl) us_sum (by rfl) c.f_sum boot_sum (ej_lc rfl ND (own := [("spot", 3)]) (ij_any (ej_idxAL (i := 0) (by exact room_u hr) (by rfl) (by first | exact .inl rfl | exact .inr (.inl rfl) | exact .inr (.inr rfl)) ej_int)) (blkOk_by (by rfl)) (fun _ _ _ _ _ => (gj_name (i := 3) ND (by rfl) (by first | exact .inl rfl | exact .inr rfl))) (fun _ _ _ _ _ => ptsj_nil) (fun _ _ _ _ _ => (ej_idxAL (i := 2) (by exact room_u hr) (by rfl) (by first | exact .inl rfl | exact .inr (.inl rfl) | exact .inr (.inr rfl)) (ej_v (i := 3) (by rfl) (by first | exact .inl rfl | exact .inr (.inl rfl) | exact .inr (.inr rfl))))))))))))))
    (ssj_one (sj_ret (ej_v (i := 4) (by rfl) (by first | exact .inl rfl | exact .inr (.inl rfl) | exact .inr (.inr rfl))))))))
theorem sc_check_length : FnScope ["length"] ["length"] (defScope (top 16)) := ⟨rfl, rfl, rfl, by decide +kernel, rfl, by decide +kernel, by decide +kernel⟩
theorem g_check_length (c : Cd K mg) : ∃ fd, FunD K "check_length" "check_length" (defArgs (top 16)) (defBody (top 16)) (defScope (top 16)) [] [] (He.fAd K ("check_length", none)) fd ∧ FnG P w K mg base 2 (He.fAd K ("check_length", none)) fd ["length"] (spF ⟨P, w, K, []⟩ ["length"] 1 s_check_length) := by
  obtain ⟨fd_is_whole, F_is_whole, G_is_whole⟩ := g_is_whole (P := P) (w := w) (base := base) c
  have v_is_whole : Vals [] [] := .nil
  have b_is_whole : Binds K fd_is_whole ["thing"] [] := F_is_whole.bindsN fun _ _ _ _ _ _ us hl => match us, hl with | [_], _ => rfl
  obtain ⟨t_MOST_LENGTH, c_MOST_LENGTH⟩ := c.c_MOST_LENGTH
  obtain ⟨fd, F⟩ := c.d_check_length
  have ND := sc_check_length.nd
  refine ⟨fd, F, fnG F sc_check_length fun cdv A outer s H E hr gd => ?_⟩
  exact (ssj_one (sj_if (bw_pt (bw_or (bj_not (bj_truth (ej_call (ms := [.f]) (G_is_whole.mono (by decide)) hr gd (takes_of rfl rfl rfl rfl) (by rfl) c.g_is_whole F_is_whole.kp b_is_whole v_is_whole (fun _ => reps_nil) (mj_f (ej_v (i := 0) (by rfl) (by first | exact .inl rfl | exact .inr (.inl rfl) | exact .inr (.inr rfl))) mj_nil)))) (bw_or1 (bj_not (bj_chn or_le os_le or_le os_le ej_int (ej_v (i := 0) (by rfl) (by first | exact .inl rfl | exact .inr (.inl rfl) | exact .inr (.inr rfl))) (ej_gint (by rfl) c_MOST_LENGTH)))))) (ssj_one sj_bad) ssj_nil))
theorem sc_Machine_size : FnScope ["self"] ["self"] (defScope (meth 26 2)) := ⟨rfl, rfl, rfl, by decide +kernel, rfl, by decide +kernel, by decide +kernel⟩
theorem g_Machine_size (c : Cd K mg) : ∃ fd, FunD K "size" "Machine.size" (defArgs (meth 26 2)) (defBody (meth 26 2)) (defScope (meth 26 2)) [] [] (He.fAd K ("Machine", some "size")) fd ∧ FnG P w K mg base 1 (He.fAd K ("Machine", some "size")) fd ["self"] (spF ⟨P, w, K, []⟩ ["self"] 1 s_Machine_size) := by
  obtain ⟨fd, F⟩ := c.d_Machine_size
  have ND := sc_Machine_size.nd
  refine ⟨fd, F, fnG F sc_Machine_size fun cdv A outer s H E hr gd => ?_⟩
  exact (ssj_one (sj_ret (ej_fldB (i := 0) c.cl_Machine c.na_Machine_states (by rfl) (by first | exact .inl rfl | exact .inr (.inl rfl) | exact .inr (.inr rfl)))))
theorem sc_Machine_ends : FnScope ["self"] ["self"] (defScope (meth 26 4)) := ⟨rfl, rfl, rfl, by decide +kernel, rfl, by decide +kernel, by decide +kernel⟩
theorem g_Machine_ends (c : Cd K mg) : ∃ fd, FunD K "ends" "Machine.ends" (defArgs (meth 26 4)) (defBody (meth 26 4)) (defScope (meth 26 4)) [] [] (He.fAd K ("Machine", some "ends")) fd ∧ FnG P w K mg base 1 (He.fAd K ("Machine", some "ends")) fd ["self"] (spF ⟨P, w, K, []⟩ ["self"] 1 s_Machine_ends) := by
  obtain ⟨fd, F⟩ := c.d_Machine_ends
  have ND := sc_Machine_ends.nd
  refine ⟨fd, F, fnG F sc_Machine_ends fun cdv A outer s H E hr gd => ?_⟩
  exact (ssj_one (sj_ret (ej_fldB (i := 0) c.cl_Machine c.na_Machine_finals (by rfl) (by first | exact .inl rfl | exact .inr (.inl rfl) | exact .inr (.inr rfl)))))
theorem sc_Machine_arrows : FnScope ["self", "place", "later"] ["self"] (defScope (meth 26 3)) := ⟨rfl, rfl, rfl, by decide +kernel, rfl, by decide +kernel, by decide +kernel⟩
theorem g_Machine_arrows (c : Cd K mg) : ∃ fd, FunD K "arrows" "Machine.arrows" (defArgs (meth 26 3)) (defBody (meth 26 3)) (defScope (meth 26 3)) [] [] (He.fAd K ("Machine", some "arrows")) fd ∧ FnG P w K mg base 1 (He.fAd K ("Machine", some "arrows")) fd ["self"] (spF ⟨P, w, K, []⟩ ["self", "place", "later"] 1 s_Machine_arrows) := by
  obtain ⟨fd, F⟩ := c.d_Machine_arrows
  have ND := sc_Machine_arrows.nd
  refine ⟨fd, F, fnG F sc_Machine_arrows fun cdv A outer s H E hr gd => ?_⟩
  exact (ssj_one (sj_ret (ej_t1 call_tuple_of us_tupOf (by rfl) c.f_tuple boot_tuple (ej_b1 (cr_sortD (by exact room_u hr)) us_sorted (by rfl) c.f_sorted boot_sorted (ej_lc rfl ND (own := [("place", 1), ("later", 2)]) (ij_items (ej_fldB (i := 0) c.cl_Machine c.na_Machine_paths (by rfl) (by first | exact .inl rfl | exact .inr (.inl rfl) | exact .inr (.inr rfl)))) (blkOk_by (by rfl)) (fun _ _ _ _ _ => (gj_tupT (n := 2) (by rfl) (gsj_cons (gj_name (i := 1) ND (by rfl) (by first | exact .inl rfl | exact .inr rfl)) (gsj_cons (gj_name (i := 2) ND (by rfl) (by first | exact .inl rfl | exact .inr rfl)) gsj_nil)))) (fun _ _ _ _ _ => ptsj_nil) (fun _ _ _ _ _ => (ej_tup (aj_star (ej_v (i := 1) (by rfl) (by first | exact .inl rfl | exact .inr (.inl rfl) | exact .inr (.inr rfl))) (aj_cons (ej_v (i := 2) (by rfl) (by first | exact .inl rfl | exact .inr (.inl rfl) | exact .inr (.inr rfl))) aj_nil)))))))))
theorem sc_ways_to_ends : FnScope ["machine", "length", "ways", "state", "turn", "later", "sign", "goal"] ["machine", "length"] (defScope (top 17)) := ⟨rfl, rfl, rfl, by decide +kernel, rfl, by decide +kernel, by decide +kernel⟩
theorem g_ways_to_ends (c : Cd K mg) : ∃ fd, FunD K "ways_to_ends" "ways_to_ends" (defArgs (top 17)) (defBody (top 17)) (defScope (top 17)) [] [] (He.fAd K ("ways_to_ends", none)) fd ∧ FnG P w K mg base 2 (He.fAd K ("ways_to_ends", none)) fd ["machine", "length"] (spF ⟨P, w, K, []⟩ ["machine", "length", "ways", "state", "turn", "later", "sign", "goal"] 2 s_ways_to_ends) := by
  obtain ⟨fd_Machine_size, F_Machine_size, G_Machine_size⟩ := g_Machine_size (P := P) (w := w) (base := base) c
  have v_Machine_size : Vals [] [] := .nil
  have b_Machine_size : Binds K fd_Machine_size ["self"] [] := F_Machine_size.bindsN fun _ _ _ _ _ _ us hl => match us, hl with | [_], _ => rfl
  obtain ⟨fd_Machine_ends, F_Machine_ends, G_Machine_ends⟩ := g_Machine_ends (P := P) (w := w) (base := base) c
  have v_Machine_ends : Vals [] [] := .nil
  have b_Machine_ends : Binds K fd_Machine_ends ["self"] [] := F_Machine_ends.bindsN fun _ _ _ _ _ _ us hl => match us, hl with | [_], _ => rfl
  obtain ⟨fd_Machine_arrows, F_Machine_arrows, G_Machine_arrows⟩ := g_Machine_arrows (P := P) (w := w) (base := base) c
  have v_Machine_arrows : Vals [] [] := .nil
  have b_Machine_arrows : Binds K fd_Machine_arrows ["self"] [] := F_Machine_arrows.bindsN fun _ _ _ _ _ _ us hl => match us, hl with | [_], _ => rfl
  obtain ⟨fd, F⟩ := c.d_ways_to_ends
  have ND := sc_ways_to_ends.nd
  refine ⟨fd, F, fnG F sc_ways_to_ends fun cdv A outer s H E hr gd => ?_⟩
  exact (ssj_cons (sj_set (i := 2) ND (by rfl) (by first | exact .inl rfl | exact .inr rfl) (ej_lst (aj_cons (ej_lc rfl ND (own := [("state", 3)]) (ij_range1 (by rfl) c.f_range (ej_meth0 (G_Machine_size.mono (by decide)) hr gd (takes_of rfl rfl rfl rfl) c.cl_Machine c.me_Machine_size b_Machine_size v_Machine_size (fun _ => reps_nil) (ej_v (i := 0) (by rfl) (by first | exact .inl rfl | exact .inr (.inl rfl) | exact .inr (.inr rfl))))) (blkOk_by (by rfl)) (fun _ _ _ _ _ => (gj_name (i := 3) ND (by rfl) (by first | exact .inl rfl | exact .inr rfl))) (fun _ _ _ _ _ => ptsj_nil) (fun _ _ _ _ _ => (ej_t1 call_int1 us_int (by rfl) c.f_int boot_int (ej_cmpL (i := 3) (or_inAll (by exact room_u hr)) os_inAll (by rfl) (by first | exact .inl rfl | exact .inr (.inl rfl) | exact .inr (.inr rfl)) (ej_meth0 (G_Machine_ends.mono (by decide)) hr gd takesW0 c.cl_Machine c.me_Machine_ends b_Machine_ends v_Machine_ends (fun _ => reps_nil) (ej_v (i := 0) (by rfl) (by first | exact .inl rfl | exact .inr (.inl rfl) | exact .inr (.inr rfl)))))))) aj_nil)))
    (ssj_cons (sj_for (passes_of rfl) (by rfl) (ij_range1 (by rfl) c.f_range (ej_v (i := 1) (by rfl) (by first | exact .inl rfl | exact .inr (.inl rfl) | exact .inr (.inr rfl)))) (gj_name (i := 4) ND (by rfl) (by first | exact .inl rfl | exact .inr rfl)) (ssj_cons (sj_set (i := 5) ND (by rfl) (by first | exact .inl rfl | exact .inr rfl) (ej_bin or_times os_times (ej_lst (aj_cons ej_int aj_nil)) (ej_meth0 (G_Machine_size.mono (by decide)) hr gd (takes_of rfl rfl rfl rfl) c.cl_Machine c.me_Machine_size b_Machine_size v_Machine_size (fun _ => reps_nil) (ej_v (i := 0) (by rfl) (by first | exact .inl rfl | exact .inr (.inl rfl) | exact .inr (.inr rfl))))))
    (ssj_cons (sj_for (passes_of rfl) (by rfl) (ij_any (ej_meth0 (G_Machine_arrows.mono (by decide)) hr gd (takes_of rfl rfl rfl rfl) c.cl_Machine c.me_Machine_arrows b_Machine_arrows v_Machine_arrows (fun _ => reps_nil) (ej_v (i := 0) (by rfl) (by first | exact .inl rfl | exact .inr (.inl rfl) | exact .inr (.inr rfl))))) (gj_tupT (n := 3) (by rfl) (gsj_cons (gj_name (i := 3) ND (by rfl) (by first | exact .inl rfl | exact .inr rfl)) (gsj_cons (gj_name (i := 6) ND (by rfl) (by first | exact .inl rfl | exact .inr rfl)) (gsj_cons (gj_name (i := 7) ND (by rfl) (by first | exact .inl rfl | exact .inr rfl)) gsj_nil)))) (ssj_one (sj_augI (i := 5) ip_add (by rfl) (by first | exact .inl rfl | exact .inr (.inl rfl) | exact .inr (.inr rfl)) (ej_v (i := 3) (by rfl) (by first | exact .inl rfl | exact .inr (.inl rfl) | exact .inr (.inr rfl))) (ej_idxA (by exact room_u hr) (ej_idxAL (i := 2) (by exact room_u hr) (by rfl) (by first | exact .inl rfl | exact .inr (.inl rfl) | exact .inr (.inr rfl)) (ej_neg ej_int)) (ej_v (i := 7) (by rfl) (by first | exact .inl rfl | exact .inr (.inl rfl) | exact .inr (.inr rfl)))))))
    (ssj_one (sj_expr (ej_append (i := 2) (by rfl) (by first | exact .inl rfl | exact .inr (.inl rfl) | exact .inr (.inr rfl)) (ej_v (i := 5) (by rfl) (by first | exact .inl rfl | exact .inr (.inl rfl) | exact .inr (.inr rfl)))))))))
    (ssj_one (sj_ret (ej_v (i := 2) (by rfl) (by first | exact .inl rfl | exact .inr (.inl rfl) | exact .inr (.inr rfl)))))))
theorem sc_rows_count : FnScope ["machine", "length"] ["machine", "length"] (defScope (top 18)) := ⟨rfl, rfl, rfl, by decide +kernel, rfl, by decide +kernel, by decide +kernel⟩
theorem g_rows_count (c : Cd K mg) : ∃ fd, FunD K "rows_count" "rows_count" (defArgs (top 18)) (defBody (top 18)) (defScope (top 18)) [] [] (He.fAd K ("rows_count", none)) fd ∧ FnG P w K mg base 3 (He.fAd K ("rows_count", none)) fd ["machine", "length"] (spF ⟨P, w, K, []⟩ ["machine", "length"] 2 s_rows_count) := by
  obtain ⟨fd_check_length, F_check_length, G_check_length⟩ := g_check_length (P := P) (w := w) (base := base) c
  have v_check_length : Vals [] [] := .nil
  have b_check_length : Binds K fd_check_length ["length"] [] := F_check_length.bindsN fun _ _ _ _ _ _ us hl => match us, hl with | [_], _ => rfl
  obtain ⟨fd_ways_to_ends, F_ways_to_ends, G_ways_to_ends⟩ := g_ways_to_ends (P := P) (w := w) (base := base) c
  have v_ways_to_ends : Vals [] [] := .nil
  have b_ways_to_ends : Binds K fd_ways_to_ends ["machine", "length"] [] := F_ways_to_ends.bindsN fun _ _ _ _ _ _ us hl => match us, hl with | [_, _], _ => rfl
  obtain ⟨fd, F⟩ := c.d_rows_count
  have ND := sc_rows_count.nd
  refine ⟨fd, F, fnG F sc_rows_count fun cdv A outer s H E hr gd => ?_⟩
  exact (ssj_cons (sj_expr (ej_call (ms := [.f]) (G_check_length.mono (by decide)) hr gd (takes_of rfl rfl rfl rfl) (by rfl) c.g_check_length F_check_length.kp b_check_length v_check_length (fun _ => reps_nil) (mj_f (ej_v (i := 1) (by rfl) (by first | exact .inl rfl | exact .inr (.inl rfl) | exact .inr (.inr rfl))) mj_nil)))
    (ssj_one (sj_ret (ej_idxA (by exact room_u hr) (ej_idxA (by exact room_u hr) (ej_call (ms := [.f, .f]) (G_ways_to_ends.mono (by decide)) hr gd (takes_of rfl rfl rfl rfl) (by rfl) c.g_ways_to_ends F_ways_to_ends.kp b_ways_to_ends v_ways_to_ends (fun _ => reps_nil) (mj_f (ej_v (i := 0) (by rfl) (by first | exact .inl rfl | exact .inr (.inl rfl) | exact .inr (.inr rfl))) (mj_f (ej_v (i := 1) (by rfl) (by first | exact .inl rfl | exact .inr (.inl rfl) | exact .inr (.inr rfl))) mj_nil))) (ej_v (i := 1) (by rfl) (by first | exact .inl rfl | exact .inr (.inl rfl) | exact .inr (.inr rfl)))) ej_int))))
theorem sc__law_paths : FnScope ["plan", "found", "spot", "word", "goal"] ["plan"] (defScope (top 34)) := ⟨rfl, rfl, rfl, by decide +kernel, rfl, by decide +kernel, by decide +kernel⟩
theorem g__law_paths (c : Cd K mg) : ∃ fd, FunD K "_law_paths" "_law_paths" (defArgs (top 34)) (defBody (top 34)) (defScope (top 34)) [] [] (He.fAd K ("_law_paths", none)) fd ∧ FnG P w K mg base 1 (He.fAd K ("_law_paths", none)) fd ["plan"] (spF ⟨P, w, K, []⟩ ["plan", "found", "spot", "word", "goal"] 1 s__law_paths) := by
  obtain ⟨fd, F⟩ := c.d__law_paths
  have ND := sc__law_paths.nd
  refine ⟨fd, F, fnG F sc__law_paths fun cdv A outer s H E hr gd => ?_⟩
  exact (ssj_cons (sj_set (i := 1) ND (by rfl) (by first | exact .inl rfl | exact .inr rfl) ej_dict0)
    (ssj_cons (sj_for (passes_of rfl) (by rfl) (ij_any (ej_idxAL (i := 0) (by exact room_u hr) (by rfl) (by first | exact .inl rfl | exact .inr (.inl rfl) | exact .inr (.inr rfl)) ej_int)) (gj_tupT (n := 3) (by rfl) (gsj_cons (gj_name (i := 2) ND (by rfl) (by first | exact .inl rfl | exact .inr rfl)) (gsj_cons (gj_name (i := 3) ND (by rfl) (by first | exact .inl rfl | exact .inr rfl)) (gsj_cons (gj_name (i := 4) ND (by rfl) (by first | exact .inl rfl | exact .inr rfl)) gsj_nil)))) (ssj_one (sj_setA (i := 1) (by exact room_u hr) (by rfl) (by first | exact .inl rfl | exact .inr (.inl rfl) | exact .inr (.inr rfl)) (ej_v (i := 4) (by rfl) (by first | exact .inl rfl | exact .inr (.inl rfl) | exact .inr (.inr rfl))) (ej_tup (aj_cons (ej_v (i := 2) (by rfl) (by first | exact .inl rfl | exact .inr (.inl rfl) | exact .inr (.inr rfl))) (aj_cons (ej_v (i := 3) (by rfl) (by first | exact .inl rfl | exact .inr (.inl rfl) | exact .inr (.inr rfl))) aj_nil))))))
    (ssj_one (sj_ret (ej_v (i := 1) (by rfl) (by first | exact .inl rfl | exact .inr (.inl rfl) | exact .inr (.inr rfl)))))))
theorem sc__law_listed : FnScope ["plan", "words", "many", "some", "paths", "k", "more", "walk", "spot", "word", "goal"] ["plan", "words", "many"] (defScope (top 35)) := ⟨rfl, rfl, rfl, by decide +kernel, rfl, by decide +kernel, by decide +kernel⟩
theorem g__law_listed (c : Cd K mg) : ∃ fd, FunD K "_law_listed" "_law_listed" (defArgs (top 35)) (defBody (top 35)) (defScope (top 35)) [] [] (He.fAd K ("_law_listed", none)) fd ∧ FnG P w K mg base 2 (He.fAd K ("_law_listed", none)) fd ["plan", "words", "many"] (spF ⟨P, w, K, []⟩ ["plan", "words", "many", "some", "paths", "k", "more", "walk", "spot", "word", "goal"] 3 s__law_listed) := by
  obtain ⟨fd__law_paths, F__law_paths, G__law_paths⟩ := g__law_paths (P := P) (w := w) (base := base) c
  have v__law_paths : Vals [] [] := .nil
  have b__law_paths : Binds K fd__law_paths ["plan"] [] := F__law_paths.bindsN fun _ _ _ _ _ _ us hl => match us, hl with | [_], _ => rfl
  obtain ⟨fd, F⟩ := c.d__law_listed
  have ND := sc__law_listed.nd
  refine ⟨fd, F, fnG F sc__law_listed fun cdv A outer s H E hr gd => ?_⟩
  exact (ssj_cons (by first | exact sj_par2 (i := 3) (j := 4) rfl ND rfl rfl (by decide) rfl (by rfl) (uj_cons (ej_lst (aj_cons (ej_tup (aj_cons (ej_lst aj_nil) (aj_cons ej_int aj_nil))) aj_nil)) (uj_cons (ej_call (ms := [.f]) (G__law_paths.mono (by decide)) hr gd (takes_of rfl rfl rfl rfl) (by rfl) c.g__law_paths F__law_paths.kp b__law_paths v__law_paths (fun _ => reps_nil) (mj_f (ej_v (i := 0) (by rfl) (by first | exact .inl rfl | exact .inr (.inl rfl) | exact .inr (.inr rfl))) mj_nil)) uj_nil)) | exact sj_parT (is := [3, 4]) (n := 2) (by rfl) (uj_cons (ej_lst (aj_cons (ej_tup (aj_cons (ej_lst aj_nil) (aj_cons ej_int aj_nil))) aj_nil)) (uj_cons (ej_call (ms := [.f]) (G__law_paths.mono (by decide)) hr gd (takes_of rfl rfl rfl rfl) (by rfl) c.g__law_paths F__law_paths.kp b__law_paths v__law_paths (fun _ => reps_nil) (mj_f (ej_v (i := 0) (by rfl) (by first | exact .inl rfl | exact .inr (.inl rfl) | exact .inr (.inr rfl))) mj_nil)) uj_nil)) (pgs_cons (pg_name (i := 3) ND (by rfl) (by first | exact .inl rfl | exact .inr rfl)) (pgs_cons (pg_name (i := 4) ND (by rfl) (by first | exact .inl rfl | exact .inr rfl)) pgs_nil)))
    (ssj_cons (sj_for (passes_of rfl) (by rfl) (ij_range1 (by rfl) c.f_range (ej_v (i := 2) (by rfl) (by first | exact .inl rfl | exact .inr (.inl rfl) | exact .inr (.inr rfl)))) (gj_name (i := 5) ND (by rfl) (by first | exact .inl rfl | exact .inr rfl)) (ssj_cons (sj_set (i := 6) ND (by rfl) (by first | exact .inl rfl | exact .inr rfl) (ej_lst aj_nil))
    (ssj_cons (sj_for (passes_of rfl) (by rfl) (ij_any (ej_v (i := 3) (by rfl) (by first | exact .inl rfl | exact .inr (.inl rfl) | exact .inr (.inr rfl)))) (gj_tupT (n := 2) (by rfl) (gsj_cons (gj_name (i := 7) ND (by rfl) (by first | exact .inl rfl | exact .inr rfl)) (gsj_cons (gj_name (i := 8) ND (by rfl) (by first | exact .inl rfl | exact .inr rfl)) gsj_nil))) (ssj_one (sj_for (passes_of rfl) (by rfl) (ij_any (ej_v (i := 1) (by rfl) (by first | exact .inl rfl | exact .inr (.inl rfl) | exact .inr (.inr rfl)))) (gj_name (i := 9) ND (by rfl) (by first | exact .inl rfl | exact .inr rfl)) (ssj_cons (sj_set (i := 10) ND (by rfl) (by first | exact .inl rfl | exact .inr rfl) (ej_getB (i := 4) (by exact room_u hr) (by rfl) (by first | exact .inl rfl | exact .inr (.inl rfl) | exact .inr (.inr rfl)) (ej_tup (aj_cons (ej_v (i := 8) (by rfl) (by first | exact .inl rfl | exact .inr (.inl rfl) | exact .inr (.inr rfl))) (aj_cons (ej_v (i := 9) (by rfl) (by first | exact .inl rfl | exact .inr (.inl rfl) | exact .inr (.inr rfl))) aj_nil)))))
    (ssj_one (sj_if (bj_cmpL (i := 10) op_notN os_isnot (by rfl) (by first | exact .inl rfl | exact .inr (.inl rfl) | exact .inr (.inr rfl)) ej_non) (ssj_one (sj_expr (ej_append (i := 6) (by rfl) (by first | exact .inl rfl | exact .inr (.inl rfl) | exact .inr (.inr rfl)) (ej_tup (aj_cons (ej_bin or_add os_add (ej_v (i := 7) (by rfl) (by first | exact .inl rfl | exact .inr (.inl rfl) | exact .inr (.inr rfl))) (ej_lst (aj_cons (ej_v (i := 9) (by rfl) (by first | exact .inl rfl | exact .inr (.inl rfl) | exact .inr (.inr rfl))) aj_nil))) (aj_cons (ej_v (i := 10) (by rfl) (by first | exact .inl rfl | exact .inr (.inl rfl) | exact .inr (.inr rfl))) aj_nil)))))) ssj_nil))))))
    (ssj_cons (sj_set (i := 3) ND (by rfl) (by first | exact .inl rfl | exact .inr rfl) (ej_v (i := 6) (by rfl) (by first | exact .inl rfl | exact .inr (.inl rfl) | exact .inr (.inr rfl))))
    (ssj_one (sj_if (bj_cmp or_gt os_gt (ej_b1v (i := 3) cr_lenA us_len (by rfl) c.f_len boot_len (by rfl) (by first | exact .inl rfl | exact .inr (.inl rfl) | exact .inr (.inr rfl))) ej_int) (ssj_one (sj_ret ej_non)) ssj_nil))))))
    (ssj_one (sj_ret (ej_lc rfl ND (own := [("walk", 7), ("spot", 8)]) (ij_any (ej_v (i := 3) (by rfl) (by first | exact .inl rfl | exact .inr (.inl rfl) | exact .inr (.inr rfl)))) (blkOk_by (by rfl)) (fun _ _ _ _ _ => (gj_tupT (n := 2) (by rfl) (gsj_cons (gj_name (i := 7) ND (by rfl) (by first | exact .inl rfl | exact .inr rfl)) (gsj_cons (gj_name (i := 8) ND (by rfl) (by first | exact .inl rfl | exact .inr rfl)) gsj_nil)))) (fun _ _ _ _ _ => (ptsj_one (bj_cmpL (i := 8) (or_inAll (by exact room_u hr)) os_inAll (by rfl) (by first | exact .inl rfl | exact .inr (.inl rfl) | exact .inr (.inr rfl)) (ej_idxAL (i := 0) (by exact room_u hr) (by rfl) (by first | exact .inl rfl | exact .inr (.inl rfl) | exact .inr (.inr rfl)) ej_int)))) (fun _ _ _ _ _ => (ej_v (i := 7) (by rfl) (by first | exact .inl rfl | exact .inr (.inl rfl) | exact .inr (.inr rfl)))))))))
theorem sc__law_right : FnScope ["spring", "words", "plan", "work", "due", "sizes", "many", "some"] ["spring"] (defScope (top 37)) := ⟨rfl, rfl, rfl, by decide +kernel, rfl, by decide +kernel, by decide +kernel⟩
theorem g__law_right (c : Cd K mg) : ∃ fd, FunD K "_law_right" "_law_right" (defArgs (top 37)) (defBody (top 37)) (defScope (top 37)) [] [] (He.fAd K ("_law_right", none)) fd ∧ FnG P w K mg base 7 (He.fAd K ("_law_right", none)) fd ["spring"] (spF ⟨P, w, K, [0]⟩ ["spring", "words", "plan", "work", "due", "sizes", "many", "some"] 1 s__law_right) := by
  obtain ⟨fd__law_of, F__law_of, G__law_of⟩ := g__law_of (P := P) (w := w) (base := base) c
  have v__law_of : Vals [] [] := .nil
  have b__law_of : Binds K fd__law_of ["spring", "some"] [] := F__law_of.bindsN fun _ _ _ _ _ _ us hl => match us, hl with | [_, _], _ => rfl
  obtain ⟨fd__law_signs, F__law_signs, G__law_signs⟩ := g__law_signs (P := P) (w := w) (base := base) c
  have v__law_signs : Vals [] [] := .nil
  have b__law_signs : Binds K fd__law_signs ["spring", "many"] [] := F__law_signs.bindsN fun _ _ _ _ _ _ us hl => match us, hl with | [_, _], _ => rfl
  obtain ⟨fd__law_plan, F__law_plan, G__law_plan⟩ := g__law_plan (P := P) (w := w) (base := base) c
  have v__law_plan : Vals [] [] := .nil
  have b__law_plan : Binds K fd__law_plan ["spring", "words", "most"] [] := F__law_plan.bindsN fun _ _ _ _ _ _ us hl => match us, hl with | [_, _, _], _ => rfl
  obtain ⟨fd_Machine___init__, F_Machine___init__, G_Machine___init__⟩ := g_Machine___init__ (P := P) (w := w) (base := base) c
  obtain ⟨ds_Machine___init__, v_Machine___init__, b_Machine___init__⟩ := F_Machine___init__.binds1 (ps := ["self", "size", "arrows", "ends"]) 4 2 (List.cons_ne_nil _ _) rfl fun _ _ _ _ _ _ _ us its hl hi => match us, its, hl, hi with | [_, _, _, _], [_, _], _, _ => ⟨_, rfl, rfl⟩
  obtain ⟨fd__law_summed, F__law_summed, G__law_summed⟩ := g__law_summed (P := P) (w := w) (base := base) c
  have v__law_summed : Vals [] [] := .nil
  have b__law_summed : Binds K fd__law_summed ["plan", "most"] [] := F__law_summed.bindsN fun _ _ _ _ _ _ us hl => match us, hl with | [_, _], _ => rfl
  obtain ⟨fd__law_roll, F__law_roll, G__law_roll⟩ := g__law_roll (P := P) (w := w) (base := base) c
  have v__law_roll : Vals [] [] := .nil
  have b__law_roll : Binds K fd__law_roll ["spring", "many"] [] := F__law_roll.bindsN fun _ _ _ _ _ _ us hl => match us, hl with | [_, _], _ => rfl
  obtain ⟨fd_rows_count, F_rows_count, G_rows_count⟩ := g_rows_count (P := P) (w := w) (base := base) c
  have v_rows_count : Vals [] [] := .nil
  have b_rows_count : Binds K fd_rows_count ["machine", "length"] [] := F_rows_count.bindsN fun _ _ _ _ _ _ us hl => match us, hl with | [_, _], _ => rfl
  obtain ⟨fd__law_listed, F__law_listed, G__law_listed⟩ := g__law_listed (P := P) (w := w) (base := base) c
  have v__law_listed : Vals [] [] := .nil
  have b__law_listed : Binds K fd__law_listed ["plan", "words", "many"] [] := F__law_listed.bindsN fun _ _ _ _ _ _ us hl => match us, hl with | [_, _, _], _ => rfl
  obtain ⟨fd, F⟩ := c.d__law_right
  have ND := sc__law_right.nd
  refine ⟨fd, F, fnG F sc__law_right fun cdv A outer s H E hr gd => ?_⟩
  exact (ssj_cons (sj_set (i := 1) ND (by rfl) (by first | exact .inl rfl | exact .inr rfl) (ej_call (ms := [.s 0, .f]) (G__law_signs.mono (by decide)) hr gd (takes_of rfl rfl rfl rfl) (by rfl) c.g__law_signs F__law_signs.kp b__law_signs v__law_signs (fun _ => reps_nil) (mj_s (i := 0) (by rfl) (by first | exact .inl rfl | exact .inr (.inl rfl) | exact .inr (.inr rfl)) (mj_f (ej_call (ms := [.s 0, .f]) (G__law_of.mono (by decide)) hr gd (takes_of rfl rfl rfl rfl) (by rfl) c.g__law_of F__law_of.kp b__law_of v__law_of (fun _ => reps_nil) (mj_s (i := 0) (by rfl) (by first | exact .inl rfl | exact .inr (.inl rfl) | exact .inr (.inr rfl)) (mj_f (ej_lst (aj_cons ej_int (aj_cons ej_int (aj_cons ej_int (aj_cons ej_int (aj_cons ej_int aj_nil)))))) mj_nil))) mj_nil))))
    (ssj_cons (sj_set (i := 2) ND (by rfl) (by first | exact .inl rfl | exact .inr rfl) (ej_call (ms := [.s 0, .f, .f]) (G__law_plan.mono (by decide)) hr gd (takes_of rfl rfl rfl rfl) (by rfl) c.g__law_plan F__law_plan.kp b__law_plan v__law_plan (fun _ => reps_nil) (mj_s (i := 0) (by rfl) (by first | exact .inl rfl | exact .inr (.inl rfl) | exact .inr (.inr rfl)) (mj_f (ej_v (i := 1) (by rfl) (by first | exact .inl rfl | exact .inr (.inl rfl) | exact .inr (.inr rfl))) (mj_f ej_int mj_nil)))))
    (ssj_cons (by first | exact sj_par2 (i := 3) (j := 4) rfl ND rfl rfl (by decide) rfl (by rfl) (uj_cons (ej_make (ms := [.f, .f, .f]) c.mk_Machine (G_Machine___init__.mono (by decide)) hr gd (takes_of rfl rfl rfl rfl) (by rfl) c.g_Machine b_Machine___init__ v_Machine___init__ (fun _ => reps_nil) (mj_f (ej_idxAL (i := 2) (by exact room_u hr) (by rfl) (by first | exact .inl rfl | exact .inr (.inl rfl) | exact .inr (.inr rfl)) ej_int) (mj_f (ej_idxAL (i := 2) (by exact room_u hr) (by rfl) (by first | exact .inl rfl | exact .inr (.inl rfl) | exact .inr (.inr rfl)) ej_int) (mj_f (ej_idxAL (i := 2) (by exact room_u hr) (by rfl) (by first | exact .inl rfl | exact .inr (.inl rfl) | exact .inr (.inr rfl)) ej_int) mj_nil)))) (uj_cons (ej_call (ms := [.f, .f]) (G__law_summed.mono (by decide)) hr gd (takes_of rfl rfl rfl rfl) (by rfl) c.g__law_summed F__law_summed.kp b__law_summed v__law_summed (fun _ => reps_nil) (mj_f (ej_v (i := 2) (by rfl) (by first | exact .inl rfl | exact .inr (.inl rfl) | exact .inr (.inr rfl))) (mj_f ej_int mj_nil))) uj_nil)) | exact sj_parT (is := [3, 4]) (n := 2) (by rfl) (uj_cons (ej_make (ms := [.f, .f, .f]) c.mk_Machine (G_Machine___init__.mono (by decide)) hr gd (takes_of rfl rfl rfl rfl) (by rfl) c.g_Machine b_Machine___init__ v_Machine___init__ (fun _ => reps_nil) (mj_f (ej_idxAL (i := 2) (by exact room_u hr) (by rfl) (by first | exact .inl rfl | exact .inr (.inl rfl) | exact .inr (.inr rfl)) ej_int) (mj_f (ej_idxAL (i := 2) (by exact room_u hr) (by rfl) (by first | exact .inl rfl | exact .inr (.inl rfl) | exact .inr (.inr rfl)) ej_int) (mj_f (ej_idxAL (i := 2) (by exact room_u hr) (by rfl) (by first | exact .inl rfl | exact .inr (.inl rfl) | exact .inr (.inr rfl)) ej_int) mj_nil)))) (uj_cons (ej_call (ms := [.f, .f]) (G__law_summed.mono (by decide)) hr gd (takes_of rfl rfl rfl rfl) (by rfl) c.g__law_summed F__law_summed.kp b__law_summed v__law_summed (fun _ => reps_nil) (mj_f (ej_v (i := 2) (by rfl) (by first | exact .inl rfl | exact .inr (.inl rfl) | exact .inr (.inr rfl))) (mj_f ej_int mj_nil))) uj_nil)) (pgs_cons (pg_name (i := 3) ND (by rfl) (by first | exact .inl rfl | exact .inr rfl)) (pgs_cons (pg_name (i := 4) ND (by rfl) (by first | exact .inl rfl | exact .inr rfl)) pgs_nil)))
    (ssj_cons (sj_set (i := 5) ND (by rfl) (by first | exact .inl rfl | exact .inr rfl) (ej_lst (aj_cons ej_int (aj_cons ej_int (aj_cons ej_int (aj_cons (ej_call (ms := [.s 0, .f]) (G__law_roll.mono (by decide)) hr gd (takes_of rfl rfl rfl rfl) (by rfl) c.g__law_roll F__law_roll.kp b__law_roll v__law_roll (fun _ => reps_nil) (mj_s (i := 0) (by rfl) (by first | exact .inl rfl | exact .inr (.inl rfl) | exact .inr (.inr rfl)) (mj_f ej_int mj_nil))) (aj_cons ej_int (aj_cons ej_int (aj_cons ej_int (aj_cons (ej_call (ms := [.s 0, .f]) (G__law_roll.mono (by decide)) hr gd (takes_of rfl rfl rfl rfl) (by rfl) c.g__law_roll F__law_roll.kp b__law_roll v__law_roll (fun _ => reps_nil) (mj_s (i := 0) (by rfl) (by first | exact .inl rfl | exact .inr (.inl rfl) | exact .inr (.inr rfl)) (mj_f ej_int mj_nil))) (aj_cons ej_int aj_nil)))))))))))
    (ssj_cons (sj_for (passes_of rfl) (by rfl) (ij_any (ej_v (i := 5) (by rfl) (by first | exact .inl rfl | exact .inr (.inl rfl) | exact .inr (.inr rfl)))) (gj_name (i := 6) ND (by rfl) (by first | exact .inl rfl | exact .inr rfl)) (ssj_cons (sj_if (bj_cmp (op_neD (by exact hr.units)) os_ne (ej_b1 (cr_repr gd (by exact room_u hr)) us_repr (by rfl) c.f_repr boot_repr (ej_lst (aj_cons (ej_call (ms := [.f, .f]) (G_rows_count.mono (by decide)) hr gd (takes_of rfl rfl rfl rfl) (by rfl) c.g_rows_count F_rows_count.kp b_rows_count v_rows_count (fun _ => reps_nil) (mj_f (ej_v (i := 3) (by rfl) (by first | exact .inl rfl | exact .inr (.inl rfl) | exact .inr (.inr rfl))) (mj_f (ej_v (i := 6) (by rfl) (by first | exact .inl rfl | exact .inr (.inl rfl) | exact .inr (.inr rfl))) mj_nil))) (aj_cons (ej_callK (ks := ["length", "machine"]) (pm := [1, 0]) (G_rows_count.mono (by decide)) hr gd (takes_of rfl rfl rfl rfl) (by rfl) c.g_rows_count F_rows_count.kp (kwB_of F_rows_count fun _ _ _ _ _ _ ws hl => match ws, hl with | [_, _], _ => rfl) (kj_cons (ej_v (i := 6) (by rfl) (by first | exact .inl rfl | exact .inr (.inl rfl) | exact .inr (.inr rfl))) (kj_cons (ej_v (i := 3) (by rfl) (by first | exact .inl rfl | exact .inr (.inl rfl) | exact .inr (.inr rfl))) kj_nil))) aj_nil)))) (ej_b1 (cr_repr gd (by exact room_u hr)) us_repr (by rfl) c.f_repr boot_repr (ej_bin or_times os_times (ej_lst (aj_cons (ej_idxAL (i := 4) (by exact room_u hr) (by rfl) (by first | exact .inl rfl | exact .inr (.inl rfl) | exact .inr (.inr rfl)) (ej_v (i := 6) (by rfl) (by first | exact .inl rfl | exact .inr (.inl rfl) | exact .inr (.inr rfl)))) aj_nil)) ej_int))) (ssj_one (sj_ret ej_bl)) ssj_nil)
    (ssj_one (sj_if (bj_cmpL (i := 6) or_lt os_lt (by rfl) (by first | exact .inl rfl | exact .inr (.inl rfl) | exact .inr (.inr rfl)) ej_int) (ssj_cons (sj_set (i := 7) ND (by rfl) (by first | exact .inl rfl | exact .inr rfl) (ej_call (ms := [.f, .f, .f]) (G__law_listed.mono (by decide)) hr gd (takes_of rfl rfl rfl rfl) (by rfl) c.g__law_listed F__law_listed.kp b__law_listed v__law_listed (fun _ => reps_nil) (mj_f (ej_v (i := 2) (by rfl) (by first | exact .inl rfl | exact .inr (.inl rfl) | exact .inr (.inr rfl))) (mj_f (ej_v (i := 1) (by rfl) (by first | exact .inl rfl | exact .inr (.inl rfl) | exact .inr (.inr rfl))) (mj_f (ej_v (i := 6) (by rfl) (by first | exact .inl rfl | exact .inr (.inl rfl) | exact .inr (.inr rfl))) mj_nil)))))
    (ssj_one (sj_if (bw_pt (bw_and (bj_cmpL (i := 7) op_notN os_isnot (by rfl) (by first | exact .inl rfl | exact .inr (.inl rfl) | exact .inr (.inr rfl)) ej_non) (bw_and1 (bj_cmp (op_neD (by exact hr.units)) os_ne (ej_b1v (i := 7) cr_lenA us_len (by rfl) c.f_len boot_len (by rfl) (by first | exact .inl rfl | exact .inr (.inl rfl) | exact .inr (.inr rfl))) (ej_idxAL (i := 4) (by exact room_u hr) (by rfl) (by first | exact .inl rfl | exact .inr (.inl rfl) | exact .inr (.inr rfl)) (ej_v (i := 6) (by rfl) (by first | exact .inl rfl | exact .inr (.inl rfl) | exact .inr (.inr rfl)))))))) (ssj_one (sj_ret ej_bl)) ssj_nil))) ssj_nil))))
    (ssj_one (sj_ret ej_bl)))))))
theorem sc_law : FnScope ["script", "place"] ["script"] (defScope (top 38)) := ⟨rfl, rfl, rfl, by decide +kernel, rfl, by decide +kernel, by decide +kernel⟩
theorem g_law (c : Cd K mg) : ∃ fd, FunD K "law" "law" (defArgs (top 38)) (defBody (top 38)) (defScope (top 38)) [] [] (He.fAd K ("law", none)) fd ∧ FnG P w K mg base 8 (He.fAd K ("law", none)) fd ["script"] (spF ⟨P, w, K, []⟩ ["script", "place"] 1 s_law) := by
  obtain ⟨fd__law_spring, F__law_spring, G__law_spring⟩ := g__law_spring (P := P) (w := w) (base := base) c
  have v__law_spring : Vals [] [] := .nil
  have b__law_spring : Binds K fd__law_spring ["script", "place"] [] := F__law_spring.bindsN fun _ _ _ _ _ _ us hl => match us, hl with | [_, _], _ => rfl
  obtain ⟨fd__law_right, F__law_right, G__law_right⟩ := g__law_right (P := P) (w := w) (base := base) c
  have v__law_right : Vals [] [] := .nil
  have b__law_right : Binds K fd__law_right ["spring"] [] := F__law_right.bindsN fun _ _ _ _ _ _ us hl => match us, hl with | [_], _ => rfl
  obtain ⟨fd, F⟩ := c.d_law
  have ND := sc_law.nd
  refine ⟨fd, F, fnG F sc_law fun cdv A outer s H E hr gd => ?_⟩
  exact (ssj_cons (sj_for (passes_of rfl) (by rfl) (ij_range1 (by rfl) c.f_range (ej_b2 (call_max2 rfl) os_max (by rfl) c.f_max boot_max ej_int (ej_b2 (call_min2 rfl) os_min (by rfl) c.f_min boot_min ej_int (ej_b1v (i := 0) cr_lenA us_len (by rfl) c.f_len boot_len (by rfl) (by first | exact .inl rfl | exact .inr (.inl rfl) | exact .inr (.inr rfl)))))) (gj_name (i := 1) ND (by rfl) (by first | exact .inl rfl | exact .inr rfl)) (ssj_one (sj_if (bj_not (bj_truth (ej_call (ms := [.t]) (G__law_right.mono (by decide)) hr gd (takes_of rfl rfl rfl rfl) (by rfl) c.g__law_right F__law_right.kp b__law_right v__law_right (fun _ => reps_nil) (mj_t (ej_call (ms := [.f, .f]) (G__law_spring.mono (by decide)) hr gd (takes_of rfl rfl rfl rfl) (by rfl) c.g__law_spring F__law_spring.kp b__law_spring v__law_spring (fun _ => reps_nil) (mj_f (ej_v (i := 0) (by rfl) (by first | exact .inl rfl | exact .inr (.inl rfl) | exact .inr (.inr rfl))) (mj_f (ej_v (i := 1) (by rfl) (by first | exact .inl rfl | exact .inr (.inl rfl) | exact .inr (.inr rfl))) mj_nil))) mj_nil)))) (ssj_one (sj_ret ej_bl)) ssj_nil)))
    (ssj_one (sj_ret ej_bl)))
end Lk05

set_option Elab.async false
set_option linter.all false
set_option autoImplicit false
set_option maxRecDepth 100000
namespace Lk05
open PySem PySem.Spec PyProof.Rows L2 Wv
abbrev spr (c s t : Int) : PV := .lst true [.int c, .int s, .int t]
theorem add_int {i j : Int} : opAdd (.int i) (.int j) = M.ret (.int (i + j)) := rfl
theorem times_l {i j : Int} (h : i.natAbs < 18446744073709551616) : opTimes (.int i) (.int j) = M.ret (.int (i * j)) := by
  unfold opTimes mulOk
  simp [h]
theorem times_r {i j : Int} (h : j.natAbs < 18446744073709551616) : opTimes (.int i) (.int j) = M.ret (.int (i * j)) := by
  unfold opTimes mulOk
  simp [h]
theorem bits_le {i : Int} (h1 : -(2 ^ 200) < i) (h2 : i < 2 ^ 200) : Builtin.Int.intBits i ≤ 200 := PyProof.Rows.intBits_le (by omega)
theorem pow_int' {i : Int} {j : Int} (h : Builtin.Int.intBits i ≤ 200) (h0 : 0 ≤ j) (h1 : j ≤ 1000) : opPow (.int i) (.int j) = M.ret (.int (i ^ j.toNat)) := by
  have : (Builtin.Int.intBits i : Int) * j ≤ 134217728 := by
    have h2 : (Builtin.Int.intBits i : Int) ≤ 200 := by exact_mod_cast h
    calc (Builtin.Int.intBits i : Int) * j ≤ 200 * j := Int.mul_le_mul_of_nonneg_right h2 h0
      _ ≤ 200 * 1000 := by omega
      _ ≤ 134217728 := by decide
  unfold opPow
  simp [h0, this]
theorem roll_pos {c s t m : Int} (hc : 0 < c) (hm : 0 < m) (hm2 : m < 18446744073709551616) : s__law_roll [.lst true [.int c, .int s, .int t], .int m] = .ok (.int (c % m)) [some (.lst true [.int (c / m), .int s, .int t])] := by
  simp [s__law_roll, runF, w__law_roll, sSeq, sIf, sE, bV, eBin, eBinL, eUn, eK, eV, M.bind, M.ret, startS, opIdxA, opIdx, atI, ixN, ofO, opGt, PV.bool, hc, sAsg, gtN, opMod, opInt, opDiv, hm, hm2, sStA, frzM, PV.calm, PV.frz, PV.frzL, setItemA, setItemL, sRet, PV.own, outsOf, outAt, sNil]
theorem mod_int {i j : Int} (h : 0 < j) : opMod (.int i) (.int j) = M.ret (.int (i % j)) := by unfold opMod; simp [h]
theorem div_int {i j : Int} (h : 0 < j) (h2 : j < 18446744073709551616) : opDiv (.int i) (.int j) = M.ret (.int (i / j)) := by unfold opDiv; simp [h, h2]
theorem int_int {i : Int} : opInt (.int i) = M.ret (.int i) := rfl
theorem p10_37 : opPow (.int 10) (.int 37) = M.ret (.int 10000000000000000000000000000000000000) := by rfl
theorem p10_39 : opPow (.int 10) (.int 39) = M.ret (.int 1000000000000000000000000000000000000000) := by rfl
theorem p10_38 : opPow (.int 10) (.int 38) = M.ret (.int 100000000000000000000000000000000000000) := by rfl
theorem p10_12 : opPow (.int 10) (.int 12) = M.ret (.int 1000000000000) := by rfl
theorem p10_18 : opPow (.int 10) (.int 18) = M.ret (.int 1000000000000000000) := by rfl
def mix1 (s t : Int) : Int := ((s + 86028121 * t) ^ 3 + t) % 1000000000000000000000000000000000000003
def mix2 (s t : Int) : Int := ((mix1 s t + 15485867 * t) ^ 2 + mix1 s t) % 100000000000000000000000000000000000133
theorem roll_zero {c s t m : Int} (hc : ¬ 0 < c) (hm : 0 < m) (hm2 : m < 18446744073709551616) (hs : 0 ≤ s) (hs2 : s < 2 ^ 150) (ht : 0 ≤ t) (ht2 : t < 2 ^ 60) :
    s__law_roll [.lst true [.int c, .int s, .int t], .int m] = .ok (.int (mix2 s (t + 1) / 1000000000000 % m)) [some (.lst true [.int c, .int s, .int (t + 1)])] := by
  have h1 : Builtin.Int.intBits (s + 86028121 * (t + 1)) ≤ 200 := bits_le (by omega) (by omega)
  have h2 : Builtin.Int.intBits (mix1 s (t + 1) + 15485867 * (t + 1)) ≤ 200 := bits_le (by unfold mix1; omega) (by unfold mix1; omega)
  have e1 : opTimes (.int 86028121) (.int (t + 1)) = M.ret (.int (86028121 * (t + 1))) := times_l (by decide)
  have e2 : opTimes (.int 15485867) (.int (t + 1)) = M.ret (.int (15485867 * (t + 1))) := times_l (by decide)
  have e3 : opPow (.int (s + 86028121 * (t + 1))) (.int 3) = M.ret (.int ((s + 86028121 * (t + 1)) ^ 3)) := pow_int' h1 (by decide) (by decide)
  have e4 : opPow (.int (mix1 s (t + 1) + 15485867 * (t + 1))) (.int 2) = M.ret (.int ((mix1 s (t + 1) + 15485867 * (t + 1)) ^ 2)) := pow_int' h2 (by decide) (by decide)
  have e5 : opMod (.int ((s + 86028121 * (t + 1)) ^ 3 + (t + 1))) (.int 1000000000000000000000000000000000000003) = M.ret (.int (mix1 s (t + 1))) := mod_int (by decide)
  have e6 : opMod (.int ((mix1 s (t + 1) + 15485867 * (t + 1)) ^ 2 + mix1 s (t + 1))) (.int 100000000000000000000000000000000000133) = M.ret (.int (mix2 s (t + 1))) := mod_int (by decide)
  have e7 : opDiv (.int (mix2 s (t + 1))) (.int 1000000000000) = M.ret (.int (mix2 s (t + 1) / 1000000000000)) := div_int (by decide) (by decide)
  have e8 : opMod (.int (mix2 s (t + 1) / 1000000000000)) (.int m) = M.ret (.int (mix2 s (t + 1) / 1000000000000 % m)) := mod_int hm
  simp [s__law_roll, runF, w__law_roll, sSeq, sIf, sE, bV, eBin, eBinL, eUn, eK, eV, M.bind, M.ret, startS, opIdxA, opIdx, atI, ixN, ofO, opGt, PV.bool, hc, sAsg, gtN, opInt, sStA, frzM, PV.calm, PV.frz, PV.frzL, setItemA, setItemL, sRet, PV.own, outsOf, outAt, sNil, add_int, e1, e2, e3, e4, e5, e6, e7, e8, p10_37, p10_38, p10_39, p10_12]
theorem frzM_int {i : Int} : frzM (.int i) = M.ret (.int i) := rfl
theorem frzM_bl {i : Bool} : frzM (.bl i) = M.ret (.bl i) := rfl
theorem frzM_str {i : Str} : frzM (.str i) = M.ret (.str i) := rfl
theorem frzM_non : frzM .non = M.ret .non := rfl
theorem frzM_tup {xs : List PV} : frzM (.tup xs) = M.ret (.tup xs) := rfl
theorem frzM_lst {o : Bool} {xs : List PV} : frzM (.lst o xs) = M.ret (.lst false xs) := by cases o <;> rfl
theorem calm_lst {o : Bool} {xs : List PV} : (PV.lst o xs).calm = true := rfl
theorem calm_int {i : Int} : (PV.int i).calm = true := rfl
theorem calm_str {i : Str} : (PV.str i).calm = true := rfl
theorem calm_tup {xs : List PV} : (PV.tup xs).calm = true := rfl
theorem own_int {i : Int} : (PV.int i).own = false := rfl
theorem own_str {i : Str} : (PV.str i).own = false := rfl
theorem own_tup {xs : List PV} : (PV.tup xs).own = false := rfl
theorem own_lstF {xs : List PV} : (PV.lst false xs).own = false := rfl
theorem own_lstT {xs : List PV} : (PV.lst true xs).own = true := rfl
theorem frz_lst {o : Bool} {xs : List PV} : (PV.lst o xs).frz = .lst false xs := by cases o <;> rfl
theorem len_lst {o : Bool} {xs : List PV} : opLen (.lst o xs) = M.ret (.int xs.length) := rfl
theorem idx_lst {o : Bool} {xs : List PV} {i : Int} : opIdxA (.lst o xs) (.int i) = ofO (atI xs i) := by cases o <;> rfl
theorem roll_spec {c s t m : Int} (hm : 0 < m) (hm2 : m < 18446744073709551616) (hs : 0 ≤ s) (hs2 : s < 2 ^ 150) (ht : 0 ≤ t) (ht2 : t < 2 ^ 60) :
    ∃ r c' t', s__law_roll [spr c s t, .int m] = .ok (.int r) [some (spr c' s t')] ∧ 0 ≤ r ∧ r < m ∧ t ≤ t' ∧ t' ≤ t + 1 := by
  by_cases hc : 0 < c
  · exact ⟨_, _, _, roll_pos hc hm hm2, Int.emod_nonneg _ (by omega), Int.emod_lt_of_pos _ hm, by omega, by omega⟩
  · exact ⟨_, _, _, roll_zero hc hm hm2 hs hs2 ht ht2, Int.emod_nonneg _ (by omega), Int.emod_lt_of_pos _ hm, by omega, by omega⟩
theorem of_spec {c s t : Int} {o : Bool} {xs : List PV} (hx : xs ≠ []) (hl : xs.length ≤ 1000) (cm : ∀ d ∈ xs, d.calm = true) (hs : 0 ≤ s) (hs2 : s < 2 ^ 150) (ht : 0 ≤ t) (ht2 : t < 2 ^ 60) :
    ∃ d c' t', s__law_of [spr c s t, .lst o xs] = .ok d [some (spr c' s t')] ∧ d ∈ xs ∧ t ≤ t' ∧ t' ≤ t + 1 := by
  have l0 : 0 < xs.length := List.length_pos_iff.mpr hx
  obtain ⟨r, c', t', e, r0, r1, t0, t1⟩ := roll_spec (c := c) (m := (xs.length : Int)) (by omega) (by omega) hs hs2 ht ht2
  have hr : r.toNat < xs.length := by omega
  have ea : atI xs r = some xs[r.toNat] := by
    unfold atI ixN
    rw [if_pos r0, if_pos r1]
    simp [hr]
  have cd := cm _ (List.getElem_mem hr)
  refine ⟨xs[r.toNat], c', t', ?_, List.getElem_mem hr, t0, t1⟩
  simp [s__law_of, runF, w__law_of, sRet, sE, eBinL, eCall, mS, aCons, aNil, eUnB, len_lst, M.bind, M.ret, frzM_int, callR, argsAt, slotOf, putB, startS, e, idx_lst, ea, ofO, outsOf, outAt, cd, calm_lst]
end Lk05

set_option Elab.async false
set_option linter.all false
set_option autoImplicit false
set_option maxRecDepth 100000
namespace Lk05
open PySem PySem.Spec PyProof.Rows L2 Wv
theorem sItems_nx {g : Gt} {b : SM} (I : Nat → Sl → Prop) : ∀ {xs : List PV} {ρ : Sl} (n : Nat), I n ρ → (∀ i x ρ, xs[i]? = some x → I (n + i) ρ → ∃ ρ1 ρ2, g x ρ = some ρ1 ∧ (b ρ1 = .nx ρ2 ∨ b ρ1 = .ct ρ2) ∧ I (n + i + 1) ρ2) → ∃ ρ', sItems g b xs ρ = .nx ρ' ∧ I (n + xs.length) ρ'
  | [], ρ, n, h0, _ => ⟨ρ, rfl, h0⟩
  | x :: xs, ρ, n, h0, st => by
    obtain ⟨ρ1, ρ2, e1, e2, h1⟩ := st 0 x ρ rfl h0
    obtain ⟨ρ', e3, h2⟩ := sItems_nx I (xs := xs) (ρ := ρ2) (n + 1) h1 fun i y ρ hy hi => by
      have := st (i + 1) y ρ (by simpa using hy) (by rw [show n + (i + 1) = n + 1 + i by omega]; exact hi)
      rw [show n + (i + 1) + 1 = n + 1 + i + 1 by omega] at this
      exact this
    refine ⟨ρ', ?_, by rw [List.length_cons, show n + (xs.length + 1) = n + 1 + xs.length by omega]; exact h2⟩
    unfold sItems
    rw [e1]
    rcases e2 with e2 | e2
    · simp only [e2, e3]
    · simp only [e2, e3]
/-- a call that lends slot 0, with one value -/
theorem call_s0 {sem : List PV → FRes} {f : M PV} {ρ ρ1 : Sl} {v sp sp' r : PV} (hf : f ρ = .ok v ρ1) (cv : v.calm = true) (h0 : ρ[0]? = some (some sp)) (h1 : ρ1[0]? = some (some sp)) (cs : sp.calm = true) (hs : sem [sp, v.frz] = .ok r [some sp']) :
    eCall [.s 0, .f] [0] [] sem (mS 0 (aCons f aNil)) ρ = .ok r (ρ1.set 0 (some sp')) := by
  have e : frzM v ρ1 = .ok v.frz ρ1 := by unfold frzM; rw [if_pos cv]; rfl
  simp [eCall, mS, h0, aCons, aNil, M.bind, M.ret, hf, e, callR, argsAt, h1, cs, hs, putB, slotOf]
theorem call_s {sem : List PV → FRes} {ρ : Sl} {sp sp' r : PV} (h0 : ρ[0]? = some (some sp)) (cs : sp.calm = true) (hs : sem [sp] = .ok r [some sp']) :
    eCall [.s 0] [0] [] sem (mS 0 aNil) ρ = .ok r (ρ.set 0 (some sp')) := by
  simp [eCall, mS, h0, aNil, M.bind, M.ret, callR, argsAt, cs, hs, putB, slotOf]
def goodWord (w : Str) : Prop := 1 ≤ w.length ∧ w.length ≤ 8 ∧ ∀ c ∈ w.cps.toList, 97 ≤ c ∧ c ≤ 122
structure GS (s t : Int) (b : Int) : Prop where
  s0 : 0 ≤ s
  s1 : s < 2 ^ 150
  t0 : 0 ≤ t
  t1 : t + b < 2 ^ 60
def abc : Str := "abcdefghijklmnopqrstuvwxyz"
theorem abc_at {r : Int} (h0 : 0 ≤ r) (h1 : r < 26) : opIdxA (.str abc) (.int r) = M.ret (.str ⟨#[(r + 97).toNat]⟩) := by
  have : ∀ n : Fin 26, atI abc.cps.toList (n.val : Int) = some (n.val + 97) := by decide
  have e := this ⟨r.toNat, by omega⟩
  simp only at e
  rw [Int.toNat_of_nonneg h0] at e
  have e2 : opIdxA (.str abc) (.int r) = match atI abc.cps.toList r with
    | some c => M.ret (.str ⟨#[c]⟩)
    | none => bad := rfl
  rw [e2, e]
  show M.ret (PV.str ⟨#[r.toNat + 97]⟩) = _
  rw [show r.toNat + 97 = (r + 97).toNat by omega]
theorem word_loop {c s t : Int} (g : GS s t 8) {n : Nat} (hn : n ≤ 8) {j : Nat} (hj : 1 ≤ j):
  ∃ ρ', sItems (gtN 3) (sAsg (gtN 2) (eBin opAdd (eV 2) (eBinL opIdxA 1 (eCall [.s 0, .f] [0] [] s__law_roll (mS 0 (aCons (eK (.int 26)) aNil)))))) ((List.range n).map fun i => .int (0 + (i : Nat))) [some (spr c s t), some (.str abc), some (.str ""), none] = .nx ρ' ∧
    ∃ c' t' w k, ρ' = [some (spr c' s t'), some (.str abc), some (.str w), k] ∧ t ≤ t' ∧ t' ≤ t + n ∧ w.length = n ∧ ∀ c ∈ w.cps.toList, 97 ≤ c ∧ c ≤ 122 := by
  obtain ⟨ρ', e, I⟩ := sItems_nx (g := gtN 3) (b := sAsg (gtN 2) (eBin opAdd (eV 2) (eBinL opIdxA 1 (eCall [.s 0, .f] [0] [] s__law_roll (mS 0 (aCons (eK (.int 26)) aNil))))))
    (fun i ρ => ∃ c' t' w k, ρ = [some (spr c' s t'), some (.str abc), some (.str w), k] ∧ t ≤ t' ∧ t' ≤ t + i ∧ w.length = i ∧ ∀ c ∈ w.cps.toList, 97 ≤ c ∧ c ≤ 122) (xs := (List.range n).map fun i => .int (0 + (i : Nat))) (ρ := [some (spr c s t), some (.str abc), some (.str ""), none]) 0
    ⟨c, t, "", none, rfl, by omega, by omega, rfl, fun c h => by cases h⟩ fun i x ρ hx hI => by
      obtain ⟨c1, t1, w, k, rfl, h1, h2, h3, h4⟩ := hI
      have hi : i < n := by have := get_lt hx; simpa using this
      obtain ⟨r, c', t', er, r0, r1, t2, t3⟩ := roll_spec (c := c1) (s := s) (t := t1) (m := 26) (by decide) (by decide) g.s0 g.s1 (by have := g.t0; omega) (by have := g.t1; omega)
      refine ⟨[some (spr c1 s t1), some (.str abc), some (.str w), some x], [some (spr c' s t'), some (.str abc), some (.str (w ++ ⟨#[(r + 97).toNat]⟩)), some x], rfl, .inl ?_, ⟨c', t', _, _, rfl, by omega, by omega, ?_, ?_⟩⟩
      · have ec := call_s0 (sem := s__law_roll) (f := eK (.int 26)) (ρ := [some (spr c1 s t1), some (.str abc), some (.str w), some x]) (v := .int 26) rfl rfl rfl rfl rfl er
        have hw : w.length + (⟨#[(r + 97).toNat]⟩ : Str).length ≤ sizeLine := by rw [sizeLine_eq, h3]; show 0 + i + 1 ≤ _; omega
        have ea : opAdd (.str w) (.str ⟨#[(r + 97).toNat]⟩) = M.ret (.str (w ++ ⟨#[(r + 97).toNat]⟩)) := by unfold opAdd; simp only [hw, if_true]
        simp [sAsg, sE, eBin, eV, M.bind, own_str, eBinL, ec, abc_at r0 r1, M.ret, ea, gtN]
      · show (w.cps ++ #[(r + 97).toNat]).size = _
        rw [Array.size_append]
        show w.length + 1 = _
        omega
      · intro d hd
        have hd' : d ∈ (w.cps ++ #[(r + 97).toNat]).toList := hd
        rw [Array.toList_append, List.mem_append] at hd'
        rcases hd' with hd' | hd'
        · exact h4 d hd'
        · simp only [List.mem_singleton] at hd'
          omega
  refine ⟨ρ', e, ?_⟩
  simpa using I
theorem of_ints : eLst (aCons (eK (.int 1)) (aCons (eK (.int 1)) (aCons (eK (.int 1)) (aCons (eK (.int 2)) (aCons (eK (.int 3)) (aCons (eK (.int 8)) (aCons (eK (.int 5)) aNil))))))) = eK (.lst true [.int 1, .int 1, .int 1, .int 2, .int 3, .int 8, .int 5]) := rfl
theorem word_spec {c s t : Int} (g : GS s t 10) : ∃ w c' t', s__law_word [spr c s t] = .ok (.str w) [some (spr c' s t')] ∧ goodWord w ∧ t ≤ t' ∧ t' ≤ t + 9 := by
  obtain ⟨d, c1, t1, e1, hd, h1, h2⟩ := of_spec (c := c) (s := s) (t := t) (o := false) (xs := [.int 1, .int 1, .int 1, .int 2, .int 3, .int 8, .int 5]) (by simp) (by decide) (fun d hd => by simp at hd; rcases hd with rfl | rfl | rfl | rfl | rfl <;> rfl) g.s0 g.s1 g.t0 (by have := g.t1; omega)
  obtain ⟨n, rfl, n1, n8⟩ : ∃ n : Nat, d = .int (n : Int) ∧ 1 ≤ n ∧ n ≤ 8 := by
    simp at hd
    rcases hd with rfl | rfl | rfl | rfl | rfl
    · exact ⟨1, rfl, by decide, by decide⟩
    · exact ⟨2, rfl, by decide, by decide⟩
    · exact ⟨3, rfl, by decide, by decide⟩
    · exact ⟨8, rfl, by decide, by decide⟩
    · exact ⟨5, rfl, by decide, by decide⟩
  have t01 := g.t0
  have t11 := g.t1
  have g2 : GS s t1 8 := ⟨g.s0, g.s1, by omega, by omega⟩
  obtain ⟨ρ', e2, c', t', w, k, rfl, h3, h4, h5, h6⟩ := word_loop (c := c1) g2 (n := n) n8 n1
  refine ⟨w, c', t', ?_, ⟨by omega, by omega, h6⟩, by omega, by omega⟩
  have ec := call_s0 (sem := s__law_of) (f := eK (.lst true [.int 1, .int 1, .int 1, .int 2, .int 3, .int 8, .int 5])) (ρ := [some (spr c s t), some (.str abc), some (.str ""), none]) (ρ1 := [some (spr c s t), some (.str abc), some (.str ""), none]) (sp := spr c s t) (sp' := spr c1 s t1) rfl rfl rfl rfl rfl e1
  have eb : bd62 (n : Int) = true := by unfold bd62; simp; omega
  have er : rngV 0 ((n : Int)).toNat = (List.range n).map fun i => .int (0 + (i : Nat)) := by simp [rngV]
  have el : iRange1 (eCall [.s 0, .f] [0] [] s__law_of (mS 0 (aCons (eK (.lst true [.int 1, .int 1, .int 1, .int 2, .int 3, .int 8, .int 5])) aNil))) [some (spr c s t), some (.str abc), some (.str ""), none] = .ok ((List.range n).map fun i => .int (0 + (i : Nat))) [some (spr c1 s t1), some (.str abc), some (.str ""), none] := by
    unfold iRange1 M.bind
    rw [ec]
    simp only [eb, if_true, er]
    rfl
  have ep : sPar [1, 2] (uCons (eK (.str "abcdefghijklmnopqrstuvwxyz")) (uCons (eK (.str "")) aNil)) [some (spr c s t), none, none, none] = .nx [some (spr c s t), some (.str abc), some (.str ""), none] := rfl
  unfold s__law_word runF
  have est : startS 4 [spr c s t] = [some (spr c s t), none, none, none] := rfl
  rw [est]
  unfold w__law_word
  rw [of_ints]
  unfold sSeq
  rw [ep]
  unfold sFor sE
  simp only [el, e2]
  rfl
end Lk05

set_option Elab.async false
set_option linter.all false
set_option autoImplicit false
set_option maxRecDepth 100000
namespace Lk05
open PySem PySem.Spec PyProof.Rows L2 Wv
theorem datas_strs : ∀ ws : List Str, PV.datas (ws.map .str) = some (ws.map PyData.str)
  | [] => rfl
  | w :: ws => by
    simp only [List.map_cons, PV.datas, PV.data, datas_strs ws]
    rfl
theorem depth_strs : ∀ ws : List Str, PyData.depthAll (ws.map PyData.str) = 0
  | [] => rfl
  | w :: ws => by
    simp only [List.map_cons, PyData.depthAll, PyData.depth, depth_strs ws]
    rfl
theorem ne_empty {ws : List Str} {o o' : Bool} : opNe (.lst o (ws.map .str)) (.lst o' []) = M.ret (.bl (!ws.isEmpty)) := by
  unfold opNe
  have e1 : (PV.lst o (ws.map .str)).data = some (.list (ws.map PyData.str)) := by
    simp only [PV.data, datas_strs]
    rfl
  have e2 : (PV.lst o' []).data = some (.list []) := rfl
  have d1 : (PyData.list (ws.map PyData.str)).depth ≤ 60 := by simp only [PyData.depth, depth_strs]; decide
  have d2 : (PyData.list []).depth ≤ 60 := by decide
  rw [e1, e2]
  simp only [d1, d2, and_self, if_true]
  cases ws with
  | nil => rfl
  | cons w ws => rfl
theorem any_strs {w : Str} : ∀ {ws : List Str}, ((ws.map PyData.str).any fun z => PyData.eqv z (.str w)) = decide (w ∈ ws)
  | [] => rfl
  | v :: ws => by
    have ih := any_strs (w := w) (ws := ws)
    rw [List.map_cons, List.any_cons, ih]
    have e : PyData.eqv (.str v) (.str w) = (v == w) := rfl
    rw [e]
    by_cases h : w = v
    · subst h
      simp
    · have h2 : (v == w) = false := beq_eq_false_iff_ne.mpr (Ne.symm h)
      rw [h2]
      simp [h]
theorem notIn_strs {w : Str} {ws : List Str} {o : Bool} : opNotInA (.str w) (.lst o (ws.map .str)) = M.ret (.bl (!decide (w ∈ ws))) := by
  have e : opNotInA (.str w) (.lst o (ws.map .str)) = M.bind (ofO (inData (.str w) (ws.map .str))) fun b => M.ret (.bl (!b)) := by cases o <;> rfl
  rw [e]
  have e2 : inData (.str w) (ws.map .str) = some (decide (w ∈ ws)) := by
    unfold inData
    rw [datas_strs]
    show (if PyData.depth (.str w) ≤ 60 then some _ else none) = _
    rw [if_pos (show PyData.depth (.str w) ≤ 60 from Nat.zero_le 60), any_strs]
  rw [e2]
  rfl
def ltrs (w : Str) : Prop := ∀ c ∈ w.cps.toList, 97 ≤ c ∧ c ≤ 122
structure Mid (w : Str) : Prop where
  pos : 1 ≤ w.length
  le : w.length ≤ 16
  ok : ltrs w
theorem good_mid {w : Str} (g : goodWord w) : Mid w := ⟨g.1, by have := g.2.1; omega, g.2.2⟩
theorem len_app {v w : Str} : (v ++ w).length = v.length + w.length := by
  show (v.cps ++ w.cps).size = _
  rw [Array.size_append]
  rfl
theorem mem_app {v w : Str} {c : Nat} (h : c ∈ (v ++ w).cps.toList) : c ∈ v.cps.toList ∨ c ∈ w.cps.toList := by
  have h' : c ∈ (v.cps ++ w.cps).toList := h
  rwa [Array.toList_append, List.mem_append] at h'
theorem mid_app {v w : Str} (h1 : ltrs v) (h2 : ltrs w) (p : 1 ≤ v.length + w.length) (l : v.length + w.length ≤ 16) : Mid (v ++ w) :=
  ⟨by rw [len_app]; exact p, by rw [len_app]; exact l, fun c hc => (mem_app hc).elim (h1 c) (h2 c)⟩
theorem mid_rev {v : Str} (g : goodWord v) : Mid (revS v) := by
  have e : (revS v).length = v.length := by
    show (v.cps.toList.reverse.toArray).size = v.cps.size
    simp
  refine ⟨by rw [e]; exact g.1, by rw [e]; have := g.2.1; omega, fun c hc => g.2.2 c ?_⟩
  have hc' : c ∈ v.cps.toList.reverse := by simpa [revS] using hc
  exact List.mem_reverse.mp hc'
theorem cutS_mem {w : Str} {lo hi : Option Int} {c : Nat} (h : c ∈ (cutS w lo hi).cps.toList) : c ∈ w.cps.toList := by
  have h' : c ∈ (w.cps.toList.drop (HT.sIx w.length 0 lo)).take (HT.sIx w.length w.length hi - HT.sIx w.length 0 lo) := by simpa [cutS] using h
  exact List.mem_of_mem_drop (List.mem_of_mem_take h')
theorem cutS_len {w : Str} {hi : Option Int} (h : HT.sIx w.length w.length hi ≤ w.length) : (cutS w none hi).length = HT.sIx w.length w.length hi := by
  show (((w.cps.toList.drop 0).take (HT.sIx w.length w.length hi - 0)).toArray).size = _
  rw [List.size_toArray, List.length_take, List.drop_zero, Array.length_toList]
  show min _ w.length = _
  omega
theorem cut8 {w : Str} (m : Mid w) : goodWord (cutS w none (some 8)) := by
  have e : HT.sIx w.length w.length (some 8) = min 8 w.length := HT.sIx_nat _ _ 8
  have l := cutS_len (w := w) (hi := some 8) (by rw [e]; omega)
  rw [e] at l
  have := m.pos
  exact ⟨by omega, by omega, fun c hc => m.ok c (cutS_mem hc)⟩
theorem cut1 {w : Str} (g : goodWord w) : (cutS w none (some (-1))).length = w.length - 1 ∧ ltrs (cutS w none (some (-1))) := by
  have e : HT.sIx w.length w.length (some (-1)) = w.length - 1 := by
    show (if (-1 : Int) < 0 then ((-1 : Int) + (w.length : Int)).toNat else min (-1 : Int).toNat w.length) = _
    rw [if_pos (by decide)]
    omega
  have l := cutS_len (w := w) (hi := some (-1)) (by rw [e]; omega)
  rw [e] at l
  exact ⟨l, fun c hc => g.2.2 c (cutS_mem hc)⟩
theorem ltrs_z : ltrs "z" := by intro c hc; simp [show ("z" : Str).cps.toList = [122] from rfl] at hc; omega
theorem ltrs_a : ltrs "a" := by intro c hc; simp [show ("a" : Str).cps.toList = [97] from rfl] at hc; omega
end Lk05

set_option Elab.async false
set_option linter.all false
set_option autoImplicit false
set_option maxRecDepth 100000
namespace Lk05
open PySem PySem.Spec PyProof.Rows L2 Wv
def sgEnd : SM := sIf (bV (eBinB opNotInA 4 2)) (sDrop (mLst muAppend 2 (aCons (eV 4) aNil))) sNil
def sgPick : SM := sAsg (gtN 4) (eSlH (eCall [.s 0, .f] [0] [] s__law_of (mS 0 (aCons (eLst (aCons (eBin opAdd (eBinL opIdxA 2 (eUn opNeg (eK (.int 1)))) (eV 4)) (aCons (eUn opRev (eBinL opIdxA 2 (eK (.int 0)))) (aCons (eBin opAdd (eSlH (eBinL opIdxA 2 (eUn opNeg (eK (.int 1)))) (eUn opNeg (eK (.int 1)))) (eK (.str "z"))) (aCons (eBin opAdd (eK (.str "a")) (eBinL opIdxA 2 (eK (.int 0)))) aNil))))) aNil))) (eK (.int 8)))
def sgTest : M Bool := bAnd (bV (eBinL opNe 2 (eLst aNil))) (bV (eBin opEq (eCall [.s 0, .f] [0] [] s__law_roll (mS 0 (aCons (eK (.int 4)) aNil))) (eK (.int 0))))
def sgBody : SM := sSeq (sAsg (gtN 4) (eCall [.s 0] [0] [] s__law_word (mS 0 aNil))) (sSeq (sIf sgTest sgPick sNil) sgEnd)
theorem eK_at {v : PV} {ρ : Sl} : eK v ρ = .ok v ρ := rfl
theorem nil_at {ρ : Sl} : eLst aNil ρ = .ok (.lst true []) ρ := rfl
theorem ret_at {α : Type} {v : α} {ρ : Sl} : M.ret v ρ = .ok v ρ := rfl
theorem sg_end {sp m k : PV} {ws : List Str} {w : Str} (l : ws.length ≤ 1000) : sgEnd [some sp, some m, some (.lst true (ws.map .str)), some k, some (.str w)] = .nx [some sp, some m, some (.lst true ((if w ∈ ws then ws else ws ++ [w]).map .str)), some k, some (.str w)] := by
  by_cases h : w ∈ ws
  · simp [sgEnd, sIf, sE, bV, eBinB, M.bind, notIn_strs, M.ret, h, PV.bool, ofO, sNil]
  · have l2 : lenOk (ws.length + 1) = true := by unfold lenOk; simp; omega
    simp [sgEnd, sIf, sE, bV, eBinB, M.bind, notIn_strs, M.ret, h, PV.bool, ofO, sDrop, mLst, aCons, aNil, eV, own_str, frzM_str, muAppend, l2]
theorem sg_test {c s t : Int} {m k : PV} {ws : List Str} {x : Option PV} (hs : 0 ≤ s) (hs2 : s < 2 ^ 150) (ht : 0 ≤ t) (ht2 : t < 2 ^ 60) :
    ∃ b c' t', sgTest [some (spr c s t), some m, some (.lst true (ws.map .str)), some k, x] = .ok b [some (spr c' s t'), some m, some (.lst true (ws.map .str)), some k, x] ∧ t ≤ t' ∧ t' ≤ t + 1 ∧ (ws = [] → b = false) := by
  cases ws with
  | nil =>
    refine ⟨false, c, t, ?_, by omega, by omega, fun _ => rfl⟩
    have e := ne_empty (ws := []) (o := true) (o' := true)
    simp only [List.map_nil] at e
    simp [sgTest, bAnd, bV, eBinL, eLst, aNil, M.bind, M.ret, lenOk, e, ofO, PV.bool]
  | cons v ws =>
    obtain ⟨r, c', t', er, r0, r1, t2, t3⟩ := roll_spec (c := c) (s := s) (t := t) (m := 4) (by decide) (by decide) hs hs2 ht ht2
    have e := ne_empty (ws := v :: ws) (o := true) (o' := true)
    have ec := call_s0 (sem := s__law_roll) (f := eK (.int 4)) (ρ := [some (spr c s t), some m, some (.lst true ((v :: ws).map .str)), some k, x]) (v := .int 4) rfl rfl rfl rfl rfl er
    have eq : opEq (.int r) (.int 0) = M.ret (.bl (r == 0)) := rfl
    refine ⟨r == 0, c', t', ?_, t2, t3, fun h => by cases h⟩
    unfold sgTest bAnd bV eBinL eBin
    simp only [M.bind, nil_at, List.getElem?_cons_succ, List.getElem?_cons_zero, e, List.isEmpty_cons, Bool.not_false, PV.bool, ofO, ret_at, ec, List.set_cons_zero, eq, eK_at]
theorem at_last {ws : List Str} (h : ws ≠ []) : ∃ v ∈ ws, atI (ws.map PV.str) (-1) = some (.str v) := by
  have l : 0 < ws.length := List.length_pos_iff.mpr h
  refine ⟨ws[ws.length - 1], List.getElem_mem _, ?_⟩
  unfold atI ixN
  rw [List.length_map, if_neg (by decide), if_pos (by omega)]
  show (ws.map PV.str)[(-1 + (ws.length : Int)).toNat]? = _
  rw [show (-1 + (ws.length : Int)).toNat = ws.length - 1 by omega, List.getElem?_map, List.getElem?_eq_getElem (by omega)]
  rfl
theorem at_first {ws : List Str} (h : ws ≠ []) : ∃ v ∈ ws, atI (ws.map PV.str) 0 = some (.str v) := by
  cases ws with
  | nil => exact absurd rfl h
  | cons v ws =>
    refine ⟨v, List.mem_cons_self .., ?_⟩
    unfold atI ixN
    rw [if_pos (by decide), if_pos (by simp)]
    rfl
theorem add_str {v w : Str} (l : v.length + w.length ≤ 1000) : opAdd (.str v) (.str w) = M.ret (.str (v ++ w)) := by
  unfold opAdd
  have : v.length + w.length ≤ sizeLine := by rw [sizeLine_eq]; omega
  simp only [this, if_true]
theorem slc_str {w : Str} {lo hi : Option Int} : opSlc (.str w) lo hi = M.ret (.str (cutS w lo hi)) := rfl
theorem slH_at {f : M PV} {z : Str} {i : Int} {ρ ρ1 : Sl} (h : f ρ = .ok (.str z) ρ1) : eSlH f (eK (.int i)) ρ = .ok (.str (cutS z none (some i))) ρ1 := by
  unfold eSlH M.bind
  rw [h]
  rfl
theorem asg_at {u : M PV} {i : Nat} {v : PV} {ρ ρ1 : Sl} (h : u ρ = .ok v ρ1) (l : i < ρ1.length) : sAsg (gtN i) u ρ = .nx (ρ1.set i (some v)) := by
  unfold sAsg sE gtN
  rw [h]
  simp only [l, if_true]
theorem sg_pick {c s t : Int} {m k : PV} {ws : List Str} {w : Str} (hs : 0 ≤ s) (hs2 : s < 2 ^ 150) (ht : 0 ≤ t) (ht2 : t < 2 ^ 60) (ne : ws ≠ []) (gs : ∀ v ∈ ws, goodWord v) (gw : goodWord w) :
    ∃ w' c' t', sgPick [some (spr c s t), some m, some (.lst true (ws.map .str)), some k, some (.str w)] = .nx [some (spr c' s t'), some m, some (.lst true (ws.map .str)), some k, some (.str w')] ∧ goodWord w' ∧ t ≤ t' ∧ t' ≤ t + 1 := by
  obtain ⟨vl, ml, el⟩ := at_last ne
  obtain ⟨v0, m0, e0⟩ := at_first ne
  have gl := gs vl ml
  have g0 := gs v0 m0
  obtain ⟨cl, co⟩ := cut1 gl
  have l1 := gl.2.1
  have l2 := g0.2.1
  have l3 := gw.2.1
  have lz : ("z" : Str).length = 1 := rfl
  have la : ("a" : Str).length = 1 := rfl
  have A := mid_app gl.2.2 gw.2.2 (by have := gl.1; omega) (by omega)
  have B := mid_rev g0
  have C := mid_app co ltrs_z (by omega) (by omega)
  have D := mid_app ltrs_a g0.2.2 (by omega) (by omega)
  obtain ⟨d, c', t', e1, hd, h1, h2⟩ := of_spec (c := c) (s := s) (t := t) (o := false) (xs := [.str (vl ++ w), .str (revS v0), .str (cutS vl none (some (-1)) ++ "z"), .str ("a" ++ v0)]) (by simp) (by simp) (fun d hd => by simp at hd; rcases hd with rfl | rfl | rfl | rfl <;> rfl) hs hs2 ht ht2
  obtain ⟨u, rfl, mu⟩ : ∃ u, d = .str u ∧ Mid u := by
    simp at hd
    rcases hd with rfl | rfl | rfl | rfl
    · exact ⟨_, rfl, A⟩
    · exact ⟨_, rfl, B⟩
    · exact ⟨_, rfl, C⟩
    · exact ⟨_, rfl, D⟩
  have eL : eLst (aCons (eBin opAdd (eBinL opIdxA 2 (eUn opNeg (eK (.int 1)))) (eV 4)) (aCons (eUn opRev (eBinL opIdxA 2 (eK (.int 0)))) (aCons (eBin opAdd (eSlH (eBinL opIdxA 2 (eUn opNeg (eK (.int 1)))) (eUn opNeg (eK (.int 1)))) (eK (.str "z"))) (aCons (eBin opAdd (eK (.str "a")) (eBinL opIdxA 2 (eK (.int 0)))) aNil))))
      [some (spr c s t), some m, some (.lst true (ws.map .str)), some k, some (.str w)] = .ok (.lst true [.str (vl ++ w), .str (revS v0), .str (cutS vl none (some (-1)) ++ "z"), .str ("a" ++ v0)]) [some (spr c s t), some m, some (.lst true (ws.map .str)), some k, some (.str w)] := by
    have a1 := add_str (v := vl) (w := w) (by omega)
    have a2 := add_str (v := cutS vl none (some (-1))) (w := "z") (by omega)
    have a3 := add_str (v := "a") (w := v0) (by omega)
    have n1 : opNeg (.int 1) = M.ret (.int (-1)) := rfl
    have r1 : opRev (.str v0) = M.ret (.str (revS v0)) := rfl
    simp [eLst, aCons, aNil, eBin, eBinL, eUn, eSlH, M.bind, eK_at, ret_at, n1, idx_lst, el, e0, ofO, eV, own_str, a1, a2, a3, r1, frzM_str, PV.toI, slc_str, lenOk]
  have ec := call_s0 (sem := s__law_of) (sp := spr c s t) (sp' := spr c' s t') eL rfl rfl rfl rfl e1
  refine ⟨cutS u none (some 8), c', t', ?_, cut8 mu, h1, h2⟩
  exact asg_at (i := 4) (slH_at (i := 8) ec) (by simp)
end Lk05

set_option Elab.async false
set_option linter.all false
set_option autoImplicit false
set_option maxRecDepth 100000
namespace Lk05
open PySem PySem.Spec PyProof.Rows L2 Wv
theorem seq_nx {f g : SM} {ρ ρ1 : Sl} (h : f ρ = .nx ρ1) : sSeq f g ρ = g ρ1 := by unfold sSeq; rw [h]
theorem if_true' {p : M Bool} {f g : SM} {ρ ρ1 : Sl} (h : p ρ = .ok true ρ1) : sIf p f g ρ = f ρ1 := by unfold sIf sE; rw [h]
theorem if_false' {p : M Bool} {f g : SM} {ρ ρ1 : Sl} (h : p ρ = .ok false ρ1) : sIf p f g ρ = g ρ1 := by unfold sIf sE; rw [h]
/-- one turn of the words -/
theorem sg_body {c s t : Int} {m k : PV} {x : Option PV} {ws : List Str} (g : GS s t 11) (gs : ∀ v ∈ ws, goodWord v) (nd : ws.Nodup) (l : ws.length ≤ 1000) :
    ∃ c' t' ws' w, sgBody [some (spr c s t), some m, some (.lst true (ws.map .str)), some k, x] = .nx [some (spr c' s t'), some m, some (.lst true (ws'.map .str)), some k, some (.str w)] ∧ (∀ v ∈ ws', goodWord v) ∧ ws'.Nodup ∧ ws' ≠ [] ∧ ws'.length ≤ ws.length + 1 ∧ t ≤ t' ∧ t' ≤ t + 11 := by
  have q1 := g.s0
  have q2 := g.s1
  have q3 := g.t0
  have q4 := g.t1
  obtain ⟨w, c1, t1, e1, gw, h1, h2⟩ := word_spec (c := c) (s := s) (t := t) ⟨q1, q2, q3, by omega⟩
  have ec := call_s (sem := s__law_word) (ρ := [some (spr c s t), some m, some (.lst true (ws.map .str)), some k, x]) rfl rfl e1
  have a1 := asg_at (i := 4) ec (by simp)
  simp only [List.set_cons_zero, List.set_cons_succ] at a1
  obtain ⟨b, c2, t2, e2, h3, h4, hb⟩ := sg_test (c := c1) (s := s) (t := t1) (m := m) (k := k) (ws := ws) (x := some (.str w)) q1 q2 (by omega) (by omega)
  have fin : ∀ {c' t' : Int} {w' : Str}, goodWord w' → ∃ ws', sgEnd [some (spr c' s t'), some m, some (.lst true (ws.map .str)), some k, some (.str w')] = .nx [some (spr c' s t'), some m, some (.lst true (ws'.map .str)), some k, some (.str w')] ∧ (∀ v ∈ ws', goodWord v) ∧ ws'.Nodup ∧ ws' ≠ [] ∧ ws'.length ≤ ws.length + 1 := fun {c' t' w'} gw' => by
    refine ⟨_, sg_end l, ?_, ?_, ?_, ?_⟩
    · split
      · exact gs
      · intro v hv
        rcases List.mem_append.mp hv with hv | hv
        · exact gs v hv
        · rw [List.mem_singleton.mp hv]; exact gw'
    · split
      · exact nd
      · rename_i hn
        exact List.nodup_append.mpr ⟨nd, by simp, fun a ha b hb e => hn (by rw [List.mem_singleton.mp hb] at e; rw [← e]; exact ha)⟩
    · split
      · rename_i hm
        exact List.ne_nil_of_mem hm
      · simp
    · split <;> simp
  cases b with
  | false =>
    obtain ⟨ws', e3, r1, r2, r3, r4⟩ := fin (c' := c2) (t' := t2) gw
    refine ⟨c2, t2, ws', w, ?_, r1, r2, r3, r4, by omega, by omega⟩
    unfold sgBody
    have q : sIf sgTest sgPick sNil [some (spr c1 s t1), some m, some (PV.lst true (List.map PV.str ws)), some k, some (PV.str w)] = .nx [some (spr c2 s t2), some m, some (PV.lst true (List.map PV.str ws)), some k, some (PV.str w)] := by rw [if_false' e2]; rfl
    rw [seq_nx a1, seq_nx q]
    exact e3
  | true =>
    have ne : ws ≠ [] := fun z => by have := hb z; cases this
    obtain ⟨w', c3, t3, e4, gw', h5, h6⟩ := sg_pick (c := c2) (s := s) (t := t2) (m := m) (k := k) (ws := ws) (w := w) q1 q2 (by omega) (by omega) ne gs gw
    obtain ⟨ws', e3, r1, r2, r3, r4⟩ := fin (c' := c3) (t' := t3) gw'
    refine ⟨c3, t3, ws', w', ?_, r1, r2, r3, r4, by omega, by omega⟩
    unfold sgBody
    rw [seq_nx a1, seq_nx ((if_true' e2).trans e4)]
    exact e3
theorem signs_eq : w__law_signs = sSeq (sAsg (gtN 2) (eLst aNil)) (sSeq (sFor (iRange1 (eV 1)) (gtN 3) sgBody) (sRet (eV 2))) := rfl
theorem runF_rt {n : Nat} {io : List Nat} {b : SM} {ds : List PV} {v : PV} {ρ0 ρ : Sl} (h0 : startS n ds = ρ0) (h : b ρ0 = .rt v ρ) (c : v.calm = true) : runF n io b ds = .ok v (outsOf io ρ) := by
  unfold runF
  rw [h0, h]
  simp only [c, if_true]
theorem seq_rt {f g : SM} {ρ ρ1 : Sl} {o : Out} (h : f ρ = .nx ρ1) (h2 : g ρ1 = o) : sSeq f g ρ = o := by unfold sSeq; rw [h]; exact h2
theorem ret_rt {u : M PV} {v : PV} {ρ ρ1 : Sl} (h : u ρ = .ok v ρ1) : sRet u ρ = .rt v ρ1 := by unfold sRet sE; rw [h]
theorem for_nx {u : M (List PV)} {g : Gt} {b : SM} {ρ ρ1 ρ2 : Sl} {xs : List PV} (h : u ρ = .ok xs ρ1) (h2 : sItems g b xs ρ1 = .nx ρ2) : sFor u g b ρ = .nx ρ2 := by unfold sFor sE; rw [h]; exact h2
theorem ev_lst {i : Nat} {xs : List PV} {ρ : Sl} (h : ρ[i]? = some (some (.lst true xs))) : eV i ρ = .ok (.lst false xs) (ρ.set i (some (.lst false xs))) := by
  unfold eV
  rw [h]
  rfl
theorem sg_eb {n : Nat} (h : n ≤ 100) : bd62 (n : Int) = true := by
  unfold bd62
  rw [Bool.and_eq_true]
  exact ⟨decide_eq_true (by omega), decide_eq_true (by omega)⟩
theorem range_at {f : M PV} {i : Int} {ρ ρ1 : Sl} (h : f ρ = .ok (.int i) ρ1) (b : bd62 i = true) : iRange1 f ρ = .ok (rngV 0 i.toNat) ρ1 := by
  unfold iRange1 M.bind
  rw [h]
  show (if bd62 i = true then M.ret (rngV 0 i.toNat) else bad) ρ1 = _
  rw [if_pos b]
  rfl
theorem ev_int {i : Nat} {v : Int} {ρ : Sl} (h : ρ[i]? = some (some (.int v))) : eV i ρ = .ok (.int v) ρ := by
  unfold eV
  rw [h]
  rfl
theorem sg_er {a c : PV} {n : Nat} {x y : Option PV} (h : n ≤ 100) : iRange1 (eV 1) [some a, some (.int n), some c, x, y] = .ok (rngV 0 n) [some a, some (.int n), some c, x, y] := by
  have e := range_at (ev_int (i := 1) (v := (n : Int)) (ρ := [some a, some (.int n), some c, x, y]) rfl) (sg_eb h)
  rw [Int.toNat_natCast] at e
  exact e
theorem signs_loop {c s t : Int} {n : Nat} (hn : 1 ≤ n) (hn2 : n ≤ 100) (g : GS s t 1200) : ∃ (c' t' : Int) (ws : List Str) (k x : Option PV), sItems (gtN 3) sgBody (rngV 0 n) [some (spr c s t), some (.int n), some (.lst true []), none, none] = .nx [some (spr c' s t'), some (.int n), some (.lst true (ws.map .str)), k, x] ∧ ws ≠ [] ∧ ws.Nodup ∧ (∀ v ∈ ws, goodWord v) ∧ ws.length ≤ n ∧ t ≤ t' ∧ t' ≤ t + 11 * n := by
  have q1 := g.s0
  have q2 := g.s1
  have q3 := g.t0
  have q4 := g.t1
  obtain ⟨ρ', e, I⟩ := sItems_nx (g := gtN 3) (b := sgBody)
    (fun (i : Nat) (ρ : Sl) => ∃ (c' t' : Int) (ws : List Str) (k x : Option PV), ρ = [some (spr c' s t'), some (.int n), some (.lst true (ws.map .str)), k, x] ∧ (∀ v ∈ ws, goodWord v) ∧ ws.Nodup ∧ (1 ≤ i → ws ≠ []) ∧ ws.length ≤ i ∧ t ≤ t' ∧ t' ≤ t + 11 * i) (xs := rngV 0 n) (ρ := [some (spr c s t), some (.int n), some (.lst true []), none, none]) 0
    ⟨c, t, [], none, none, rfl, (fun v h => by cases h), List.nodup_nil, (fun h => absurd h (by decide)), Nat.zero_le _, by omega, by omega⟩ fun i x ρ hx hI => by
      obtain ⟨c1, t1, ws, k, y, rfl, i1, i2, i3, i4, i5, i6⟩ := hI
      have hi : i < n := by have := get_lt hx; simpa [rngV] using this
      obtain ⟨c', t', ws', w, e1, r1, r2, r3, r4, r5, r6⟩ := sg_body (c := c1) (s := s) (t := t1) (m := .int n) (k := x) (x := y) (ws := ws) ⟨q1, q2, by omega, by omega⟩ i1 i2 (by omega)
      exact ⟨_, _, rfl, .inl e1, c', t', ws', _, _, rfl, r1, r2, fun _ => r3, by omega, by omega, by omega⟩
  obtain ⟨c', t', ws, k, x, rfl, i1, i2, i3, i4, i5, i6⟩ := I
  have hl : (rngV 0 n).length = n := by simp [rngV]
  rw [hl] at i3 i4 i6
  exact ⟨c', t', ws, k, x, e, i3 (by omega), i2, i1, by omega, i5, by omega⟩
theorem signs_spec {c s t : Int} {n : Nat} (hn : 1 ≤ n) (hn2 : n ≤ 100) (g : GS s t 1200) : ∃ ws c' t', s__law_signs [spr c s t, .int n] = .ok (.lst false (ws.map .str)) [some (spr c' s t')] ∧ ws ≠ [] ∧ ws.Nodup ∧ (∀ v ∈ ws, goodWord v) ∧ ws.length ≤ n ∧ t ≤ t' ∧ t' ≤ t + 11 * n := by
  obtain ⟨c', t', ws, k, x, e, j1, j2, j3, j4, j5, j6⟩ := signs_loop (c := c) hn hn2 g
  refine ⟨ws, c', t', ?_, j1, j2, j3, j4, j5, j6⟩
  have er := sg_er (a := spr c s t) (c := .lst true []) (x := none) (y := none) hn2
  have a1 := asg_at (i := 2) (nil_at (ρ := [some (spr c s t), some (.int n), none, none, none])) (by simp)
  simp only [List.set_cons_zero, List.set_cons_succ] at a1
  have a2 := ret_rt (ev_lst (i := 2) (xs := ws.map .str) (ρ := [some (spr c' s t'), some (.int n), some (.lst true (ws.map .str)), k, x]) rfl)
  have all : w__law_signs [some (spr c s t), some (.int n), none, none, none] = .rt (.lst false (ws.map .str)) [some (spr c' s t'), some (.int n), some (.lst false (ws.map .str)), k, x] := by
    rw [signs_eq]
    exact seq_rt a1 (seq_rt (for_nx er e) a2)
  exact runF_rt (by simp [startS]) all rfl
end Lk05

set_option Elab.async false
set_option linter.all false
set_option autoImplicit false
set_option maxRecDepth 100000
namespace Lk05
open PySem PySem.Spec PyProof.Rows L2 Wv
local macro_rules | `(tactic| push_cast) => `(tactic| simp -dsimp only [↓wm_bind, ↓wm_ret, ↓wm_ofO, ↓wm_eK, ↓wm_eV, ↓wm_eBin, ↓wm_eBinL, ↓wm_eBinR, ↓wm_eBinB, ↓wm_eUn, ↓wm_eUnB, ↓wm_eAnd, ↓wm_eOr, ↓wm_bT, ↓wm_bV, ↓wm_bAnd, ↓wm_bOr, ↓wm_bNot, ↓wm_bYes, ↓wm_eIf, ↓wm_eChn, ↓wm_aNil, ↓wm_aCons, ↓wm_uCons, ↓wm_aStar, ↓wm_mT, ↓wm_mS, ↓wm_eTup, ↓wm_eLst, ↓wm_eDict0, ↓wm_eSl0, ↓wm_eSlL, ↓wm_eSlH, ↓wm_eSlB, ↓wm_eGet, ↓wm_eGetB, ↓wm_callR, ↓wm_eCall, ↓wm_eCallK, ↓wm_eMeth, ↓wm_eMake, ↓wm_iAny, ↓wm_iItems, ↓wm_iVals, ↓wm_iEnum, ↓wm_iRange1, ↓wm_iRange2, ↓wm_mLst, ↓wm_eLc, ↓mkq, ↓wf_ok, ↓sq_nx, ↓sq_rt, ↓sq_bk, ↓sq_ct, ↓sq_exc, ↓lq_nx, ↓lq_rt, ↓lq_bk, ↓lq_ct, ↓lq_exc, ↓rq_nx, ↓rq_rt, ↓rq_exc, ↓xq, ↓ws_sE, ↓ws_sNil, ↓ws_nx, ↓ws_bk, ↓ws_ct, ↓ws_rtv, ↓ws_sBad, ↓ws_sSeq, ↓ws_sDrop, ↓ws_sRet, ↓ws_sRetN, ↓ws_sIf, ↓ws_sAsg, ↓ov_gtN, ↓ov_gtT, ↓ov_gtCons, ↓ov_gtNil, ↓ws_sPar, ↓ov_setAll, ↓ov_setNil, ↓ws_sFor, ↓ws_sStA, ↓ws_sAugN, ↓ws_sAugI, ↓ws_sFldS, ↓wf_runF, ↓wo_add, ↓wo_addS, ↓wo_addL, ↓wo_addT, ↓wo_sub, ↓wo_neg, ↓wo_times, ↓wo_timesL, ↓wo_timesT, ↓wo_mod, ↓wo_div, ↓wo_eqI, ↓wo_neI, ↓wo_ltI, ↓wo_leI, ↓wo_gtI, ↓wo_geI, ↓wo_is, ↓wo_isNot, ↓wo_max, ↓wo_min, ↓wo_abs, ↓wo_intI, ↓wo_intB, ↓wo_lenL, ↓wo_lenT, ↓wo_lenS, ↓wo_not, ↓wo_idxL, ↓wo_idxT, ↓wo_idxD, ↓wo_slcL, ↓wo_slcT, ↓wo_slcS, ↓wo_revL, ↓wo_revS, ↓wo_tupL, ↓wo_tupT, ↓wo_lstL, ↓wo_lstT, ↓wo_sum, ↓wo_all, ↓wo_any, ↓wo_sortL, ↓wo_sortT, ↓wo_get, ↓wo_inD, ↓wo_notInD, ↓wo_inS, ↓wo_inLI, ↓wo_inTI, ↓wo_inLS, ↓wo_inTS, ↓wo_notInLS, ↓wo_fld, ↓wo_isB, ↓wo_isO, ↓wz_int, ↓wz_bl, ↓wz_str, ↓wz_non, ↓wz_tup, ↓wz_lst, ↓wz_dct, ↓wz_objF, ↓ov_rng, ↓ov_app, ↓ov_ins, ↓ov_ext, ↓ov_setL, ↓ov_setD, ↓ov_setF, ↓oa_nil, ↓oa_f, ↓oa_t, ↓oa_s, nrm, gv_some, gl_lst, ov_some, cnd_t, cnd_f, ev_int', ev_bl, ev_str, ev_non, ev_tup, ev_lstF, ev_dctF, ev_objF, ev_lstT, ev_dctT, isB_non, isB_bl, isB_int, isB_str, isB_tup, isB_lst, isB_dct, cm_int, cm_bl, cm_str, cm_non, cm_tup, cm_lst, cm_dct, cm_objF, tr_bl, tr_non, tr_int, bo_bl, it_lst, it_tup, it_dct, it_str, dp_dct, dv_dct, en_lst, en_tup, sq_tup, sq_lst, toI_int, isdct, nn_non, nn_int, nn_lst, nn_tup, nn_str, nn_bl, at_0, at_1, at_2, isobj, fldof, List.getElem?_cons_zero, List.getElem?_cons_succ, List.set_cons_zero, List.set_cons_succ, List.length_cons, List.length_nil, List.cons_append, List.nil_append, Nat.reduceAdd, Nat.zero_add, Nat.reduceLT, Nat.reduceLeDiff, Nat.reduceEqDiff, decide_true, decide_false, Bool.not_true, Bool.not_false, putB, slotOf, outsOf, outAt, List.map_cons, List.map_nil, List.length_map, startS, List.replicate, Nat.reduceSub, Nat.sub_self, List.append_nil, ↓reduceIte, wipS, lenOk, ix_0, ix_1, ix_2, ix_3, Int.reduceLT, Int.reduceLE, Int.reduceAdd, Int.reduceNeg, Int.reduceMul, Int.reduceSub, Bool.or_true, Bool.true_or, Bool.or_false, Bool.false_or, Bool.and_true, Bool.true_and, Bool.and_false, Bool.false_and, reduceCtorEq, eq_self, and_self, and_true, true_and, Int.cast_ofNat_Int, Int.reduceEq, Int.reduceNe])
local macro_rules | `(tactic| push_cast [$a,*]) => `(tactic| simp -dsimp only [↓wm_bind, ↓wm_ret, ↓wm_ofO, ↓wm_eK, ↓wm_eV, ↓wm_eBin, ↓wm_eBinL, ↓wm_eBinR, ↓wm_eBinB, ↓wm_eUn, ↓wm_eUnB, ↓wm_eAnd, ↓wm_eOr, ↓wm_bT, ↓wm_bV, ↓wm_bAnd, ↓wm_bOr, ↓wm_bNot, ↓wm_bYes, ↓wm_eIf, ↓wm_eChn, ↓wm_aNil, ↓wm_aCons, ↓wm_uCons, ↓wm_aStar, ↓wm_mT, ↓wm_mS, ↓wm_eTup, ↓wm_eLst, ↓wm_eDict0, ↓wm_eSl0, ↓wm_eSlL, ↓wm_eSlH, ↓wm_eSlB, ↓wm_eGet, ↓wm_eGetB, ↓wm_callR, ↓wm_eCall, ↓wm_eCallK, ↓wm_eMeth, ↓wm_eMake, ↓wm_iAny, ↓wm_iItems, ↓wm_iVals, ↓wm_iEnum, ↓wm_iRange1, ↓wm_iRange2, ↓wm_mLst, ↓wm_eLc, ↓mkq, ↓wf_ok, ↓sq_nx, ↓sq_rt, ↓sq_bk, ↓sq_ct, ↓sq_exc, ↓lq_nx, ↓lq_rt, ↓lq_bk, ↓lq_ct, ↓lq_exc, ↓rq_nx, ↓rq_rt, ↓rq_exc, ↓xq, ↓ws_sE, ↓ws_sNil, ↓ws_nx, ↓ws_bk, ↓ws_ct, ↓ws_rtv, ↓ws_sBad, ↓ws_sSeq, ↓ws_sDrop, ↓ws_sRet, ↓ws_sRetN, ↓ws_sIf, ↓ws_sAsg, ↓ov_gtN, ↓ov_gtT, ↓ov_gtCons, ↓ov_gtNil, ↓ws_sPar, ↓ov_setAll, ↓ov_setNil, ↓ws_sFor, ↓ws_sStA, ↓ws_sAugN, ↓ws_sAugI, ↓ws_sFldS, ↓wf_runF, ↓wo_add, ↓wo_addS, ↓wo_addL, ↓wo_addT, ↓wo_sub, ↓wo_neg, ↓wo_times, ↓wo_timesL, ↓wo_timesT, ↓wo_mod, ↓wo_div, ↓wo_eqI, ↓wo_neI, ↓wo_ltI, ↓wo_leI, ↓wo_gtI, ↓wo_geI, ↓wo_is, ↓wo_isNot, ↓wo_max, ↓wo_min, ↓wo_abs, ↓wo_intI, ↓wo_intB, ↓wo_lenL, ↓wo_lenT, ↓wo_lenS, ↓wo_not, ↓wo_idxL, ↓wo_idxT, ↓wo_idxD, ↓wo_slcL, ↓wo_slcT, ↓wo_slcS, ↓wo_revL, ↓wo_revS, ↓wo_tupL, ↓wo_tupT, ↓wo_lstL, ↓wo_lstT, ↓wo_sum, ↓wo_all, ↓wo_any, ↓wo_sortL, ↓wo_sortT, ↓wo_get, ↓wo_inD, ↓wo_notInD, ↓wo_inS, ↓wo_inLI, ↓wo_inTI, ↓wo_inLS, ↓wo_inTS, ↓wo_notInLS, ↓wo_fld, ↓wo_isB, ↓wo_isO, ↓wz_int, ↓wz_bl, ↓wz_str, ↓wz_non, ↓wz_tup, ↓wz_lst, ↓wz_dct, ↓wz_objF, ↓ov_rng, ↓ov_app, ↓ov_ins, ↓ov_ext, ↓ov_setL, ↓ov_setD, ↓ov_setF, ↓oa_nil, ↓oa_f, ↓oa_t, ↓oa_s, nrm, gv_some, gl_lst, ov_some, cnd_t, cnd_f, ev_int', ev_bl, ev_str, ev_non, ev_tup, ev_lstF, ev_dctF, ev_objF, ev_lstT, ev_dctT, isB_non, isB_bl, isB_int, isB_str, isB_tup, isB_lst, isB_dct, cm_int, cm_bl, cm_str, cm_non, cm_tup, cm_lst, cm_dct, cm_objF, tr_bl, tr_non, tr_int, bo_bl, it_lst, it_tup, it_dct, it_str, dp_dct, dv_dct, en_lst, en_tup, sq_tup, sq_lst, toI_int, isdct, nn_non, nn_int, nn_lst, nn_tup, nn_str, nn_bl, at_0, at_1, at_2, isobj, fldof, List.getElem?_cons_zero, List.getElem?_cons_succ, List.set_cons_zero, List.set_cons_succ, List.length_cons, List.length_nil, List.cons_append, List.nil_append, Nat.reduceAdd, Nat.zero_add, Nat.reduceLT, Nat.reduceLeDiff, Nat.reduceEqDiff, decide_true, decide_false, Bool.not_true, Bool.not_false, putB, slotOf, outsOf, outAt, List.map_cons, List.map_nil, List.length_map, startS, List.replicate, Nat.reduceSub, Nat.sub_self, List.append_nil, ↓reduceIte, wipS, lenOk, ix_0, ix_1, ix_2, ix_3, Int.reduceLT, Int.reduceLE, Int.reduceAdd, Int.reduceNeg, Int.reduceMul, Int.reduceSub, Bool.or_true, Bool.true_or, Bool.or_false, Bool.false_or, Bool.and_true, Bool.true_and, Bool.and_false, Bool.false_and, reduceCtorEq, eq_self, and_self, and_true, true_and, Int.cast_ofNat_Int, Int.reduceEq, Int.reduceNe, $a,*])
/-- the rest of the drawing: n draws at most were counted -/
structure Spr (n : Nat) (sp : PV) : Prop where
  ex : ∃ c s t : Int, sp = .lst true [.int c, .int s, .int t] ∧ 0 ≤ s ∧ s < 2 ^ 150 ∧ 0 ≤ t ∧ t ≤ n
theorem Spr.cm {n : Nat} {sp : PV} (h : Spr n sp) : sp.calm = true := by
  obtain ⟨c, s, t, rfl, _⟩ := h.ex
  rfl
theorem Spr.up {n m : Nat} {sp : PV} (h : Spr n sp) (k : n ≤ m) : Spr m sp := by
  obtain ⟨c, s, t, e, h1, h2, h3, h4⟩ := h.ex
  exact ⟨c, s, t, e, h1, h2, h3, by omega⟩
theorem roll_wf {n : Nat} {sp : PV} {m : Int} (h : Spr n sp) (hn : n < 2 ^ 59) (hm : 0 < m) (hm2 : m < 18446744073709551616) : WF (s__law_roll [sp, .int m]) (fun v os => ∃ (r : Nat) (sp' : PV), v = .int r ∧ os = [some sp'] ∧ Spr (n + 1) sp' ∧ (r : Int) < m) noE := by
  obtain ⟨c, s, t, rfl, h1, h2, h3, h4⟩ := h.ex
  obtain ⟨r, c', t', e, r0, r1, t0, t1⟩ := roll_spec (c := c) hm hm2 h1 h2 h3 (by omega)
  rw [e, wf_ok]
  exact ⟨r.toNat, _, by rw [Int.toNat_of_nonneg r0], rfl, ⟨_, _, _, rfl, h1, h2, by omega, by omega⟩, by omega⟩
theorem of_wf {n : Nat} {sp : PV} {o : Bool} {xs : List PV} (h : Spr n sp) (hn : n < 2 ^ 59) (hx : xs ≠ []) (hl : xs.length ≤ 1000) (cm : ∀ d ∈ xs, d.calm = true) : WF (s__law_of [sp, .lst o xs]) (fun v os => ∃ sp' : PV, v ∈ xs ∧ os = [some sp'] ∧ Spr (n + 1) sp') noE := by
  obtain ⟨c, s, t, rfl, h1, h2, h3, h4⟩ := h.ex
  obtain ⟨d, c', t', e, hd, t0, t1⟩ := of_spec (c := c) hx hl cm h1 h2 h3 (by omega) (o := o)
  rw [e, wf_ok]
  exact ⟨_, hd, rfl, ⟨_, _, _, rfl, h1, h2, by omega, by omega⟩⟩
theorem signs_wf {n m : Nat} {sp : PV} (h : Spr n sp) (hn : n < 2 ^ 59) (hm : 1 ≤ m) (hm2 : m ≤ 100) : WF (s__law_signs [sp, .int m]) (fun v os => ∃ (ws : List Str) (sp' : PV), v = .lst false (ws.map .str) ∧ os = [some sp'] ∧ Spr (n + 11 * m) sp' ∧ ws ≠ [] ∧ ws.Nodup ∧ (∀ w ∈ ws, goodWord w) ∧ ws.length ≤ m) noE := by
  obtain ⟨c, s, t, rfl, h1, h2, h3, h4⟩ := h.ex
  obtain ⟨ws, c', t', e, a1, a2, a3, a4, t0, t1⟩ := signs_spec (c := c) hm hm2 ⟨h1, h2, h3, by omega⟩
  rw [e, wf_ok]
  exact ⟨_, _, rfl, rfl, ⟨_, _, _, rfl, h1, h2, by omega, by omega⟩, a1, a2, a3, a4⟩
/-! ### plans -/
abbrev Row := Nat × Str × Nat
def Row.pv (r : Row) : PV := .tup [.int r.1, .str r.2.1, .int r.2.2]
def Row.key (r : Row) : Nat × Str := (r.1, r.2.1)
structure Plan where
  many : Nat
  rows : List Row
  stops : List Nat
def Plan.pv (p : Plan) : PV := .tup [.int p.many, .tup (p.rows.map Row.pv), .tup (p.stops.map fun (i : Nat) => .int (i : Int))]
structure Plan.ok (ws : List Str) (p : Plan) : Prop where
  m1 : 1 ≤ p.many
  m5 : p.many ≤ 5
  len : p.rows.length ≤ 40
  nd : (p.rows.map Row.key).Nodup
  row : ∀ r ∈ p.rows, r.1 < p.many ∧ r.2.1 ∈ ws ∧ r.2.2 < p.many
  snd : p.stops.Nodup
  stp : ∀ i ∈ p.stops, i < p.many
theorem perm_ins {α : Type} (xs : List α) (n : Nat) (x : α) : List.Perm (xs.take n ++ [x] ++ xs.drop n) (x :: xs) := by
  have := (List.perm_middle (a := x) (l₁ := xs.take n) (l₂ := xs.drop n))
  rw [List.take_append_drop] at this
  simpa using this
/-- rows ahead of a place of the two loops -/
structure RowsAt (many : Nat) (ws : List Str) (i j : Nat) (rows : List Row) : Prop where
  len : rows.length ≤ 40
  nd : (rows.map Row.key).Nodup
  row : ∀ r ∈ rows, r.2.1 ∈ ws ∧ r.2.2 < many ∧ (r.1 < i ∨ (r.1 = i ∧ r.2.1 ∈ ws.take j))
theorem RowsAt.start {many : Nat} {ws : List Str} : RowsAt many ws 0 0 [] := ⟨by simp, by simp, fun r h => by cases h⟩
theorem RowsAt.next {many i j : Nat} {ws : List Str} {rows : List Row} (h : RowsAt many ws i j rows) : RowsAt many ws i (j + 1) rows :=
  ⟨h.len, h.nd, fun r hr => by
    obtain ⟨a, b, c⟩ := h.row r hr
    exact ⟨a, b, c.imp_right fun c => ⟨c.1, List.take_subset_take_left ws (Nat.le_succ j) c.2⟩⟩⟩
theorem RowsAt.turn {many i j : Nat} {ws : List Str} {rows : List Row} (h : RowsAt many ws i j rows) : RowsAt many ws (i + 1) 0 rows :=
  ⟨h.len, h.nd, fun r hr => by
    obtain ⟨a, b, c⟩ := h.row r hr
    exact ⟨a, b, .inl (by omega)⟩⟩
theorem RowsAt.ins {many i j n g : Nat} {ws : List Str} {rows : List Row} {w : Str} (h : RowsAt many ws i j rows) (nd : ws.Nodup) (hw : ws[j]? = some w) (hg : g < many) (l : rows.length < 40) : RowsAt many ws i (j + 1) (rows.take n ++ [(i, w, g)] ++ rows.drop n) := by
  have p := perm_ins rows n ((i, w, g) : Row)
  have hj : j < ws.length := get_lt hw
  have ew : ws[j] = w := by rw [List.getElem?_eq_getElem hj] at hw; exact Option.some.inj hw
  have hm : w ∈ ws := List.mem_of_getElem? hw
  have ht : w ∉ ws.take j := by
    intro hq
    obtain ⟨k, hk, e⟩ := List.mem_iff_getElem.mp hq
    rw [List.getElem_take] at e
    have hk' : k < j := by simp at hk; omega
    have := (List.getElem_inj nd (i := k) (j := j) (h₀ := by omega) (h₁ := hj)).mp (by rw [e, ew])
    omega
  refine ⟨by rw [p.length_eq, List.length_cons]; omega, ?_, ?_⟩
  · refine ((p.map Row.key).nodup_iff).mpr ?_
    rw [List.map_cons, List.nodup_cons]
    refine ⟨?_, h.nd⟩
    intro hk
    obtain ⟨r, hr, e⟩ := List.mem_map.mp hk
    obtain ⟨_, _, c⟩ := h.row r hr
    have e1 : r.1 = i := congrArg Prod.fst e
    have e2 : r.2.1 = w := congrArg Prod.snd e
    rcases c with c | c
    · omega
    · exact ht (e2 ▸ c.2)
  · intro r hr
    rcases List.mem_cons.mp (p.mem_iff.mp hr) with e | hr
    · subst e
      exact ⟨hm, hg, .inr ⟨rfl, by rw [List.take_succ, hw]; simp⟩⟩
    · exact (h.next.row r hr)
theorem bd_nat {i : Int} (h : 0 ≤ i) (h2 : i < 1000000) : bd62 i = true := by
  unfold bd62
  rw [Bool.and_eq_true]
  exact ⟨decide_eq_true (by omega), decide_eq_true (by omega)⟩
theorem plan_wf {n : Nat} {sp : PV} {ws : List Str} (h : Spr n sp) (hn : n < 2 ^ 58) (nd : ws.Nodup) (lw : ws.length ≤ 8) : WF (s__law_plan [sp, .lst false (ws.map .str), .int 5]) (fun v os => ∃ (p : Plan) (sp' : PV), v = p.pv ∧ os = [some sp'] ∧ Spr (n + 1000) sp' ∧ p.ok ws) noE := by
  unfold s__law_plan w__law_plan
  push_cast [h.cm]
  refine wf_mono (roll_wf h (by omega) (by decide) (by decide)) ?_
  rintro _ _ ⟨r, sp1, rfl, rfl, h1, r1⟩
  push_cast [h1.cm]
  refine wf_mono (roll_wf h1 (by omega) (by decide) (by decide)) ?_
  rintro _ _ ⟨thin, sp2, rfl, rfl, h2, r2⟩
  have b1 : bd62 (1 + (r : Int)) = true := bd_nat (by omega) (by omega)
  push_cast [b1]
  have e1 : (1 + (r : Int)).toNat = r + 1 := by omega
  rw [e1]
  refine ws_range (I := fun i ρ => ∃ (sp : PV) (rows : List Row) (x y : Option PV), ρ = [some sp, some (.lst false (ws.map .str)), some (.int 5), some (.int (1 + (r : Int))), some (.lst true (rows.map Row.pv)), some (.int thin), x, y, none] ∧ Spr (n + 2 + 24 * i) sp ∧ RowsAt (r + 1) ws i 0 rows)
    ⟨sp2, [], none, none, rfl, h2.up (by omega), .start⟩ ?_ ?_
  · intro i ρ hi hI
    obtain ⟨sp, rows, x, y, rfl, hs, hr⟩ := hI
    push_cast
    refine ws_for (ys := ws) (enc := .str) (I := fun j ρ => ∃ (sp : PV) (rows : List Row) (y : Option PV), ρ = [some sp, some (.lst false (ws.map .str)), some (.int 5), some (.int (1 + (r : Int))), some (.lst true (rows.map Row.pv)), some (.int thin), some (.int i), y, none] ∧ Spr (n + 2 + 24 * i + 3 * j) sp ∧ RowsAt (r + 1) ws i j rows)
      ⟨sp, rows, y, rfl, hs, hr⟩ ?_ ?_
    · intro j w ρ hj hI
      obtain ⟨sp, rows, y, rfl, hs, hr⟩ := hI
      have jl := get_lt hj
      push_cast
      refine cnd_of (fun hl => ?_) (fun _ => ?_)
      · have hl := of_decide_eq_true hl
        push_cast [hs.cm]
        refine wf_mono (roll_wf hs (by omega) (by omega) (by omega)) ?_
        rintro _ _ ⟨a, sp, rfl, rfl, h1, _⟩
        push_cast
        refine cnd_of (fun _ => ?_) (fun _ => ?_)
        · push_cast [h1.cm]
          refine wf_mono (roll_wf h1 (by omega) (by omega) (by omega)) ?_
          rintro _ _ ⟨b, sp, rfl, rfl, h2, hb⟩
          push_cast [h2.cm]
          refine wf_mono (roll_wf h2 (by omega) (by omega) (by omega)) ?_
          rintro _ _ ⟨g, sp, rfl, rfl, h3, hg⟩
          push_cast
          refine cnd_go (by simp only [Bool.and_eq_true, decide_eq_true_eq]; omega) ?_
          push_cast
          refine ⟨sp, rows.take b ++ [(i, w, g)] ++ rows.drop b, some (.str w), ?_, h3.up (by omega), hr.ins nd hj (by omega) (by omega)⟩
          simp only [Int.toNat_natCast, List.map_append, List.map_take, List.map_drop, List.map_cons, List.map_nil, Row.pv]
        · push_cast
          exact ⟨sp, rows, _, rfl, h1.up (by omega), hr.next⟩
      · push_cast
        exact ⟨sp, rows, _, rfl, hs.up (by omega), hr.next⟩
    · intro ρ hI
      obtain ⟨sp, rows, y, rfl, hs, hr⟩ := hI
      push_cast
      exact ⟨sp, rows, _, _, rfl, hs.up (by omega), hr.turn⟩
  · intro ρ hI
    obtain ⟨sp, rows, x, y, rfl, hs, hr⟩ := hI
    push_cast [b1]
    rw [e1]
    refine ws_range (I := fun i ρ => ∃ (sp : PV) (st : List Nat) (x y : Option PV), ρ = [some sp, some (.lst false (ws.map .str)), some (.int 5), some (.int (1 + (r : Int))), some (.lst true (rows.map Row.pv)), some (.int thin), x, y, some (.lst true (st.map fun (k : Nat) => .int (k : Int)))] ∧ Spr (n + 200 + 2 * i) sp ∧ st.Nodup ∧ st.length ≤ i ∧ ∀ k ∈ st, k < i)
      ⟨sp, [], _, _, rfl, hs.up (by omega), by simp, by simp, by simp⟩ ?_ ?_
    · intro i ρ hi hI
      obtain ⟨sp, st, x, y, rfl, hs, nd, ln, lt⟩ := hI
      push_cast [hs.cm]
      refine wf_mono (roll_wf hs (by omega) (by omega) (by omega)) ?_
      rintro _ _ ⟨a, sp, rfl, rfl, h1, _⟩
      push_cast
      refine cnd_of (fun _ => ?_) (fun _ => ?_)
      · push_cast [h1.cm]
        refine wf_mono (roll_wf h1 (by omega) (by omega) (by omega)) ?_
        rintro _ _ ⟨b, sp, rfl, rfl, h2, hb⟩
        push_cast
        refine cnd_go (by simp only [Bool.and_eq_true, decide_eq_true_eq]; omega) ?_
        push_cast
        have p := perm_ins st b i
        refine ⟨sp, st.take b ++ [i] ++ st.drop b, some (.int i), y, ?_, h2.up (by omega), ?_, ?_, ?_⟩
        · simp only [Int.toNat_natCast, List.map_append, List.map_take, List.map_drop, List.map_cons, List.map_nil]
        · rw [p.nodup_iff, List.nodup_cons]
          exact ⟨fun h => by have := lt i h; omega, nd⟩
        · rw [p.length_eq, List.length_cons]; omega
        · intro k hk
          rcases List.mem_cons.mp (p.mem_iff.mp hk) with rfl | hk
          · omega
          · have := lt k hk; omega
      · push_cast
        exact ⟨sp, st, _, _, rfl, h1.up (by omega), nd, by omega, fun k hk => by have := lt k hk; omega⟩
    · intro ρ hI
      obtain ⟨sp, st, x, y, rfl, hs, nd, ln, lt⟩ := hI
      push_cast [hs.cm]
      refine ⟨⟨r + 1, rows, st⟩, sp, ?_, rfl, hs.up (by omega), ⟨by show 1 ≤ r + 1; omega, by show r + 1 ≤ 5; omega, hr.len, hr.nd, fun q hq => ?_, nd, lt⟩⟩
      · show _ = PV.tup [.int ((r + 1 : Nat) : Int), _, _]
        rw [show ((r + 1 : Nat) : Int) = 1 + (r : Int) by omega]
      · obtain ⟨a, b, c⟩ := hr.row q hq
        refine ⟨?_, a, b⟩
        rcases c with c | c
        · exact c
        · have := c.2
          simp at this
end Lk05

set_option Elab.async false
set_option linter.all false
set_option autoImplicit false
set_option maxRecDepth 100000
namespace Lk05
open PySem PySem.Spec PyProof.Rows L2 Wv
local macro_rules | `(tactic| push_cast) => `(tactic| simp -dsimp only [↓wm_bind, ↓wm_ret, ↓wm_ofO, ↓wm_eK, ↓wm_eV, ↓wm_eBin, ↓wm_eBinL, ↓wm_eBinR, ↓wm_eBinB, ↓wm_eUn, ↓wm_eUnB, ↓wm_eAnd, ↓wm_eOr, ↓wm_bT, ↓wm_bV, ↓wm_bAnd, ↓wm_bOr, ↓wm_bNot, ↓wm_bYes, ↓wm_eIf, ↓wm_eChn, ↓wm_aNil, ↓wm_aCons, ↓wm_uCons, ↓wm_aStar, ↓wm_mT, ↓wm_mS, ↓wm_eTup, ↓wm_eLst, ↓wm_eDict0, ↓wm_eSl0, ↓wm_eSlL, ↓wm_eSlH, ↓wm_eSlB, ↓wm_eGet, ↓wm_eGetB, ↓wm_callR, ↓wm_eCall, ↓wm_eCallK, ↓wm_eMeth, ↓wm_eMake, ↓wm_iAny, ↓wm_iItems, ↓wm_iVals, ↓wm_iEnum, ↓wm_iRange1, ↓wm_iRange2, ↓wm_mLst, ↓wm_eLc, ↓mkq, ↓wf_ok, ↓sq_nx, ↓sq_rt, ↓sq_bk, ↓sq_ct, ↓sq_exc, ↓lq_nx, ↓lq_rt, ↓lq_bk, ↓lq_ct, ↓lq_exc, ↓rq_nx, ↓rq_rt, ↓rq_exc, ↓xq, ↓ws_sE, ↓ws_sNil, ↓ws_nx, ↓ws_bk, ↓ws_ct, ↓ws_rtv, ↓ws_sBad, ↓ws_sSeq, ↓ws_sDrop, ↓ws_sRet, ↓ws_sRetN, ↓ws_sIf, ↓ws_sAsg, ↓ov_gtN, ↓ov_gtT, ↓ov_gtCons, ↓ov_gtNil, ↓ws_sPar, ↓ov_setAll, ↓ov_setNil, ↓ws_sFor, ↓ws_sStA, ↓ws_sAugN, ↓ws_sAugI, ↓ws_sFldS, ↓wf_runF, ↓wo_add, ↓wo_addS, ↓wo_addL, ↓wo_addT, ↓wo_sub, ↓wo_neg, ↓wo_times, ↓wo_timesL, ↓wo_timesT, ↓wo_mod, ↓wo_div, ↓wo_eqI, ↓wo_neI, ↓wo_ltI, ↓wo_leI, ↓wo_gtI, ↓wo_geI, ↓wo_is, ↓wo_isNot, ↓wo_max, ↓wo_min, ↓wo_abs, ↓wo_intI, ↓wo_intB, ↓wo_lenL, ↓wo_lenT, ↓wo_lenS, ↓wo_not, ↓wo_idxL, ↓wo_idxT, ↓wo_idxD, ↓wo_slcL, ↓wo_slcT, ↓wo_slcS, ↓wo_revL, ↓wo_revS, ↓wo_tupL, ↓wo_tupT, ↓wo_lstL, ↓wo_lstT, ↓wo_sum, ↓wo_all, ↓wo_any, ↓wo_sortL, ↓wo_sortT, ↓wo_get, ↓wo_inD, ↓wo_notInD, ↓wo_inS, ↓wo_inLI, ↓wo_inTI, ↓wo_inLS, ↓wo_inTS, ↓wo_notInLS, ↓wo_fld, ↓wo_isB, ↓wo_isO, ↓wz_int, ↓wz_bl, ↓wz_str, ↓wz_non, ↓wz_tup, ↓wz_lst, ↓wz_dct, ↓wz_objF, ↓ov_rng, ↓ov_app, ↓ov_ins, ↓ov_ext, ↓ov_setL, ↓ov_setD, ↓ov_setF, ↓oa_nil, ↓oa_f, ↓oa_t, ↓oa_s, nrm, gv_some, gl_lst, ov_some, cnd_t, cnd_f, ev_int', ev_bl, ev_str, ev_non, ev_tup, ev_lstF, ev_dctF, ev_objF, ev_lstT, ev_dctT, isB_non, isB_bl, isB_int, isB_str, isB_tup, isB_lst, isB_dct, cm_int, cm_bl, cm_str, cm_non, cm_tup, cm_lst, cm_dct, cm_objF, tr_bl, tr_non, tr_int, bo_bl, it_lst, it_tup, it_dct, it_str, dp_dct, dv_dct, en_lst, en_tup, sq_tup, sq_lst, toI_int, isdct, nn_non, nn_int, nn_lst, nn_tup, nn_str, nn_bl, at_0, at_1, at_2, isobj, fldof, List.getElem?_cons_zero, List.getElem?_cons_succ, List.set_cons_zero, List.set_cons_succ, List.length_cons, List.length_nil, List.cons_append, List.nil_append, Nat.reduceAdd, Nat.zero_add, Nat.reduceLT, Nat.reduceLeDiff, Nat.reduceEqDiff, decide_true, decide_false, Bool.not_true, Bool.not_false, putB, slotOf, outsOf, outAt, List.map_cons, List.map_nil, List.length_map, startS, List.replicate, Nat.reduceSub, Nat.sub_self, List.append_nil, ↓reduceIte, wipS, lenOk, ix_0, ix_1, ix_2, ix_3, Int.reduceLT, Int.reduceLE, Int.reduceAdd, Int.reduceNeg, Int.reduceMul, Int.reduceSub, Bool.or_true, Bool.true_or, Bool.or_false, Bool.false_or, Bool.and_true, Bool.true_and, Bool.and_false, Bool.false_and, reduceCtorEq, eq_self, and_self, and_true, true_and, Int.cast_ofNat_Int, Int.reduceEq, Int.reduceNe])
local macro_rules | `(tactic| push_cast [$a,*]) => `(tactic| simp -dsimp only [↓wm_bind, ↓wm_ret, ↓wm_ofO, ↓wm_eK, ↓wm_eV, ↓wm_eBin, ↓wm_eBinL, ↓wm_eBinR, ↓wm_eBinB, ↓wm_eUn, ↓wm_eUnB, ↓wm_eAnd, ↓wm_eOr, ↓wm_bT, ↓wm_bV, ↓wm_bAnd, ↓wm_bOr, ↓wm_bNot, ↓wm_bYes, ↓wm_eIf, ↓wm_eChn, ↓wm_aNil, ↓wm_aCons, ↓wm_uCons, ↓wm_aStar, ↓wm_mT, ↓wm_mS, ↓wm_eTup, ↓wm_eLst, ↓wm_eDict0, ↓wm_eSl0, ↓wm_eSlL, ↓wm_eSlH, ↓wm_eSlB, ↓wm_eGet, ↓wm_eGetB, ↓wm_callR, ↓wm_eCall, ↓wm_eCallK, ↓wm_eMeth, ↓wm_eMake, ↓wm_iAny, ↓wm_iItems, ↓wm_iVals, ↓wm_iEnum, ↓wm_iRange1, ↓wm_iRange2, ↓wm_mLst, ↓wm_eLc, ↓mkq, ↓wf_ok, ↓sq_nx, ↓sq_rt, ↓sq_bk, ↓sq_ct, ↓sq_exc, ↓lq_nx, ↓lq_rt, ↓lq_bk, ↓lq_ct, ↓lq_exc, ↓rq_nx, ↓rq_rt, ↓rq_exc, ↓xq, ↓ws_sE, ↓ws_sNil, ↓ws_nx, ↓ws_bk, ↓ws_ct, ↓ws_rtv, ↓ws_sBad, ↓ws_sSeq, ↓ws_sDrop, ↓ws_sRet, ↓ws_sRetN, ↓ws_sIf, ↓ws_sAsg, ↓ov_gtN, ↓ov_gtT, ↓ov_gtCons, ↓ov_gtNil, ↓ws_sPar, ↓ov_setAll, ↓ov_setNil, ↓ws_sFor, ↓ws_sStA, ↓ws_sAugN, ↓ws_sAugI, ↓ws_sFldS, ↓wf_runF, ↓wo_add, ↓wo_addS, ↓wo_addL, ↓wo_addT, ↓wo_sub, ↓wo_neg, ↓wo_times, ↓wo_timesL, ↓wo_timesT, ↓wo_mod, ↓wo_div, ↓wo_eqI, ↓wo_neI, ↓wo_ltI, ↓wo_leI, ↓wo_gtI, ↓wo_geI, ↓wo_is, ↓wo_isNot, ↓wo_max, ↓wo_min, ↓wo_abs, ↓wo_intI, ↓wo_intB, ↓wo_lenL, ↓wo_lenT, ↓wo_lenS, ↓wo_not, ↓wo_idxL, ↓wo_idxT, ↓wo_idxD, ↓wo_slcL, ↓wo_slcT, ↓wo_slcS, ↓wo_revL, ↓wo_revS, ↓wo_tupL, ↓wo_tupT, ↓wo_lstL, ↓wo_lstT, ↓wo_sum, ↓wo_all, ↓wo_any, ↓wo_sortL, ↓wo_sortT, ↓wo_get, ↓wo_inD, ↓wo_notInD, ↓wo_inS, ↓wo_inLI, ↓wo_inTI, ↓wo_inLS, ↓wo_inTS, ↓wo_notInLS, ↓wo_fld, ↓wo_isB, ↓wo_isO, ↓wz_int, ↓wz_bl, ↓wz_str, ↓wz_non, ↓wz_tup, ↓wz_lst, ↓wz_dct, ↓wz_objF, ↓ov_rng, ↓ov_app, ↓ov_ins, ↓ov_ext, ↓ov_setL, ↓ov_setD, ↓ov_setF, ↓oa_nil, ↓oa_f, ↓oa_t, ↓oa_s, nrm, gv_some, gl_lst, ov_some, cnd_t, cnd_f, ev_int', ev_bl, ev_str, ev_non, ev_tup, ev_lstF, ev_dctF, ev_objF, ev_lstT, ev_dctT, isB_non, isB_bl, isB_int, isB_str, isB_tup, isB_lst, isB_dct, cm_int, cm_bl, cm_str, cm_non, cm_tup, cm_lst, cm_dct, cm_objF, tr_bl, tr_non, tr_int, bo_bl, it_lst, it_tup, it_dct, it_str, dp_dct, dv_dct, en_lst, en_tup, sq_tup, sq_lst, toI_int, isdct, nn_non, nn_int, nn_lst, nn_tup, nn_str, nn_bl, at_0, at_1, at_2, isobj, fldof, List.getElem?_cons_zero, List.getElem?_cons_succ, List.set_cons_zero, List.set_cons_succ, List.length_cons, List.length_nil, List.cons_append, List.nil_append, Nat.reduceAdd, Nat.zero_add, Nat.reduceLT, Nat.reduceLeDiff, Nat.reduceEqDiff, decide_true, decide_false, Bool.not_true, Bool.not_false, putB, slotOf, outsOf, outAt, List.map_cons, List.map_nil, List.length_map, startS, List.replicate, Nat.reduceSub, Nat.sub_self, List.append_nil, ↓reduceIte, wipS, lenOk, ix_0, ix_1, ix_2, ix_3, Int.reduceLT, Int.reduceLE, Int.reduceAdd, Int.reduceNeg, Int.reduceMul, Int.reduceSub, Bool.or_true, Bool.true_or, Bool.or_false, Bool.false_or, Bool.and_true, Bool.true_and, Bool.and_false, Bool.false_and, reduceCtorEq, eq_self, and_self, and_true, true_and, Int.cast_ofNat_Int, Int.reduceEq, Int.reduceNe, $a,*])
theorem whole_eq {i : Int} : s_is_whole [.int i] = .ok (.bl true) [] := by
  apply wf_eq
  unfold s_is_whole w_is_whole
  push_cast
theorem state_eq {i n : Int} (h : 0 ≤ i) (h2 : i < n) : s_is_state [.int i, .int n] = .ok (.bl true) [] := by
  apply wf_eq
  unfold s_is_state w_is_state
  push_cast [whole_eq, h, h2]
theorem in_abc {c : Nat} (h : 97 ≤ c) (h2 : c ≤ 122) : strIn ⟨#[c]⟩ abc = true := by
  show decide (c ∈ abc.cps.toList) = true
  have : ∀ n : Fin 26, (n.val + 97) ∈ abc.cps.toList := by decide
  have := this ⟨c - 97, by omega⟩
  rw [show (c - 97) + 97 = c by omega] at this
  exact decide_eq_true this
theorem word_eq {w : Str} (g : goodWord w) : s_is_word [.str w] = .ok (.bl true) [] := by
  obtain ⟨g1, g2, g3⟩ := g
  apply wf_eq
  unfold s_is_word w_is_word
  have c1 : decide ((1 : Int) ≤ (w.length : Int)) = true := decide_eq_true (by omega)
  have c2 : decide ((w.length : Int) ≤ (8 : Int)) = true := decide_eq_true (by omega)
  push_cast [c1, c2]
  refine wm_lcY (fun c => .bl (strIn ⟨#[c]⟩ abc)) ?_ ?_ ?_
  · show w.length ≤ _; omega
  · intro c hc
    push_cast
    rfl
  · push_cast [blsL_map]
    congr 1
    rw [List.all_eq_true]
    intro x hx
    obtain ⟨c, hc, rfl⟩ := List.mem_map.mp hx
    exact in_abc (g3 c hc).1 (g3 c hc).2
theorem arrow_eq {r : Row} {n : Int} (h : (r.1 : Int) < n) (h2 : (r.2.2 : Int) < n) (g : goodWord r.2.1) : s_is_arrow [.tup [.int r.1, .str r.2.1, .int r.2.2], .int n] = .ok (.bl true) [] := by
  apply wf_eq
  unfold s_is_arrow w_is_arrow
  push_cast [state_eq (Int.natCast_nonneg r.1) h, state_eq (Int.natCast_nonneg r.2.2) h2, word_eq g]
def Row.kk (r : Row) : PV := .tup [.int r.1, .str r.2.1]
def Row.kv (r : Row) : PV × PV := (r.kk, .int r.2.2)
theorem kk_key {r : Row} : r.kk.key = some (.tup [.num r.1, .text r.2.1]) := by
  simp [Row.kk, PV.key, PV.keys]
theorem kk_inj {r q : Row} (h : r.kk.key = q.kk.key) : r.key = q.key := by
  rw [kk_key, kk_key] at h
  simp only [Option.some.injEq, NestedKey.tup.injEq, List.cons.injEq, NestedKey.num.injEq, NestedKey.text.injEq, and_true] at h
  obtain ⟨h1, h2⟩ := h
  unfold Row.key
  rw [h2, Int.ofNat.inj h1]
theorem kk_tup {i : Int} {w : Str} : (PV.tup [.int i, .str w]).isTupK = true := by
  have e : (PV.tup [.int i, .str w]).key = some (.tup [.num i, .text w]) := by simp [PV.key, PV.keys]
  unfold PV.isTupK
  simp only [e]
  exact decide_eq_true (by simp [NestedKey.depth, NestedKey.depthAll])
theorem dk_rows {rows : List Row} {i : Int} {w : Str} : dkOk (rows.map Row.kv) (.tup [.int i, .str w]) = true := by
  unfold dkOk
  rw [kk_tup, Bool.and_true, Bool.or_eq_true]
  left
  unfold dkT
  rw [List.all_map, List.all_eq_true]
  intro r _
  exact kk_tup (i := r.1) (w := r.2.1)
theorem has_rows {rows : List Row} {r : Row} (h : r.key ∉ rows.map Row.key) : khas (rows.map Row.kv) (.tup [.int r.1, .str r.2.1]) = false := by
  show khas (rows.map fun q => (q.kk, PV.int q.2.2)) r.kk = false
  rw [khas_map, List.any_eq_false]
  intro q hq e
  exact h (kk_inj (of_decide_eq_true e) ▸ List.mem_map_of_mem hq)
theorem cut2 {a b c : PV} : cutL [a, b, c] none (some 2) = [a, b] := rfl
theorem paths_eq {p : Plan} {ws : List Str} (h : p.ok ws) (g : ∀ w ∈ ws, goodWord w) : s_paths_of [.tup (p.rows.map Row.pv), .int p.many] = .ok (.dct false (p.rows.map Row.kv)) [] := by
  apply wf_eq
  unfold s_paths_of w_paths_of
  push_cast
  have e : enumV (p.rows.map Row.pv) = p.rows.zipIdx.map fun q => .tup [.int (q.2 : Nat), q.1.pv] := by
    unfold enumV
    rw [List.zipIdx_map, List.map_map]
    rfl
  rw [e]
  refine ws_for (ys := p.rows.zipIdx) (I := fun i ρ => ∃ x y : Option PV, ρ = [some (.tup (p.rows.map Row.pv)), some (.int p.many), some (.dct true ((p.rows.take i).map Row.kv)), x, y]) ⟨none, none, rfl⟩ ?_ ?_
  · intro i y ρ hy hI
    obtain ⟨x, y2, rfl⟩ := hI
    rw [List.getElem?_zipIdx, Option.map_eq_some_iff] at hy
    obtain ⟨r, hr, rfl⟩ := hy
    have hi := get_lt hr
    have h40 := h.len
    have hm := h.row r (List.mem_of_getElem? hr)
    have c1 : decide ((40 : Int) ≤ (i : Int)) = false := decide_eq_false (by omega)
    have hk : r.key ∉ (p.rows.take i).map Row.key := by
      have e : p.rows[i] = r := by rw [List.getElem?_eq_getElem hi] at hr; exact Option.some.inj hr
      have nd := h.nd
      rw [← List.take_append_drop i p.rows, List.map_append, List.nodup_append] at nd
      intro hq
      exact nd.2.2 _ hq _ (List.mem_map_of_mem (by rw [List.drop_eq_getElem_cons hi, e]; exact List.mem_cons_self)) rfl
    have e2 : (p.rows.take i).map Row.kv ++ [r.kv] = (p.rows.take (i + 1)).map Row.kv := by rw [List.take_succ, hr]; simp
    push_cast [Row.pv, c1, arrow_eq (n := p.many) (r := r) (by omega) (by omega) (g _ hm.2.1), cut2, dk_rows, has_rows hk]
    have ht : (p.rows.take i).length ≤ 40 := by rw [List.length_take]; omega
    refine cnd_go (by simp only [Bool.and_eq_true, decide_eq_true_eq]; omega) ?_
    push_cast [cut2, kstore_new (has_rows hk)]
    exact ⟨_, _, by rw [← e2]; rfl⟩
  · intro ρ hI
    obtain ⟨x, y, rfl⟩ := hI
    rw [List.length_zipIdx, List.take_length]
    push_cast
theorem nat_map (l : List Nat) : (l.map fun (k : Nat) => PV.int (k : Int)) = (l.map fun (k : Nat) => (k : Int)).map .int := by rw [List.map_map]; rfl
theorem ends_eq {p : Plan} {ws : List Str} (h : p.ok ws) : s_check_ends [.tup (p.stops.map fun (k : Nat) => .int (k : Int)), .int p.many] = .ok .non [] := by
  have hl : p.stops.length ≤ 5 := by
    have hs := h.m5
    have := List.Nodup.length_le_of_subset (l₁ := p.stops) (l₂ := List.range p.many) h.snd fun k hk => List.mem_range.mpr (h.stp k hk)
    rw [List.length_range] at this
    omega
  apply wf_eq
  unfold s_check_ends w_check_ends
  push_cast
  refine wm_lcY (fun _ => .bl true) (by omega) ?_ ?_
  · intro k hk
    have hk := h.stp k hk
    push_cast [state_eq (i := (k : Int)) (n := p.many) (by omega) (by omega)]
    rfl
  · have nd : (p.stops.map fun (k : Nat) => (k : Int)).Nodup := List.pairwise_map.mpr (h.snd.imp fun ne e => ne (Int.ofNat.inj e))
    push_cast [blsL_map fun _ => true]
    have e1 : ((p.stops.map fun _ => true).all id) = true := by simp
    push_cast [e1, nat_map, wo_lenSet nd (by simp; omega)]
def Plan.fin (p : Plan) : List Nat := sortBy (fun (k : Nat) => .int (k : Int)) p.stops
def Plan.objT (p : Plan) : PV := .obj true "Machine" [("paths", .dct false (p.rows.map Row.kv)), ("finals", .tup (p.fin.map fun (k : Nat) => .int (k : Int))), ("states", .int p.many)]
def Plan.obj (p : Plan) : PV := .obj false "Machine" [("paths", .dct false (p.rows.map Row.kv)), ("finals", .tup (p.fin.map fun (k : Nat) => .int (k : Int))), ("states", .int p.many)]
theorem init_eq {p : Plan} {ws : List Str} (h : p.ok ws) (g : ∀ w ∈ ws, goodWord w) : s_Machine___init__ [.obj true "Machine" [], .int p.many, .tup (p.rows.map Row.pv), .tup (p.stops.map fun (k : Nat) => .int (k : Int))] = .ok .non [some p.objT] := by
  have h1 := h.m1
  have h5 := h.m5
  have c1 : decide ((1 : Int) ≤ (p.many : Int)) = true := decide_eq_true (by omega)
  have c2 : decide ((p.many : Int) ≤ 5) = true := decide_eq_true (by omega)
  apply wf_eq
  unfold s_Machine___init__ w_Machine___init__
  have n1 : (("paths" : Str) = "finals") = False := eq_false (by decide)
  have n2 : (("paths" : Str) = "states") = False := eq_false (by decide)
  have n3 : (("finals" : Str) = "states") = False := eq_false (by decide)
  push_cast [whole_eq, c1, c2, paths_eq h g, ends_eq h, sortOk_ints, sort_map, putP, n1, n2, n3, if_false]
  rfl
end Lk05

set_option Elab.async false
set_option linter.all false
set_option autoImplicit false
set_option maxRecDepth 100000
namespace Lk05
open PySem PySem.Spec PyProof.Rows L2 Wv
local macro_rules | `(tactic| push_cast) => `(tactic| simp -dsimp only [↓wm_bind, ↓wm_ret, ↓wm_ofO, ↓wm_eK, ↓wm_eV, ↓wm_eBin, ↓wm_eBinL, ↓wm_eBinR, ↓wm_eBinB, ↓wm_eUn, ↓wm_eUnB, ↓wm_eAnd, ↓wm_eOr, ↓wm_bT, ↓wm_bV, ↓wm_bAnd, ↓wm_bOr, ↓wm_bNot, ↓wm_bYes, ↓wm_eIf, ↓wm_eChn, ↓wm_aNil, ↓wm_aCons, ↓wm_uCons, ↓wm_aStar, ↓wm_mT, ↓wm_mS, ↓wm_eTup, ↓wm_eLst, ↓wm_eDict0, ↓wm_eSl0, ↓wm_eSlL, ↓wm_eSlH, ↓wm_eSlB, ↓wm_eGet, ↓wm_eGetB, ↓wm_callR, ↓wm_eCall, ↓wm_eCallK, ↓wm_eMeth, ↓wm_eMake, ↓wm_iAny, ↓wm_iItems, ↓wm_iVals, ↓wm_iEnum, ↓wm_iRange1, ↓wm_iRange2, ↓wm_mLst, ↓wm_eLc, ↓mkq, ↓wf_ok, ↓sq_nx, ↓sq_rt, ↓sq_bk, ↓sq_ct, ↓sq_exc, ↓lq_nx, ↓lq_rt, ↓lq_bk, ↓lq_ct, ↓lq_exc, ↓rq_nx, ↓rq_rt, ↓rq_exc, ↓xq, ↓ws_sE, ↓ws_sNil, ↓ws_nx, ↓ws_bk, ↓ws_ct, ↓ws_rtv, ↓ws_sBad, ↓ws_sSeq, ↓ws_sDrop, ↓ws_sRet, ↓ws_sRetN, ↓ws_sIf, ↓ws_sAsg, ↓ov_gtN, ↓ov_gtT, ↓ov_gtCons, ↓ov_gtNil, ↓ws_sPar, ↓ov_setAll, ↓ov_setNil, ↓ws_sFor, ↓ws_sStA, ↓ws_sAugN, ↓ws_sAugI, ↓ws_sFldS, ↓wf_runF, ↓wo_add, ↓wo_addS, ↓wo_addL, ↓wo_addT, ↓wo_sub, ↓wo_neg, ↓wo_times, ↓wo_timesL, ↓wo_timesT, ↓wo_mod, ↓wo_div, ↓wo_eqI, ↓wo_neI, ↓wo_ltI, ↓wo_leI, ↓wo_gtI, ↓wo_geI, ↓wo_is, ↓wo_isNot, ↓wo_max, ↓wo_min, ↓wo_abs, ↓wo_intI, ↓wo_intB, ↓wo_lenL, ↓wo_lenT, ↓wo_lenS, ↓wo_not, ↓wo_idxL, ↓wo_idxT, ↓wo_idxD, ↓wo_slcL, ↓wo_slcT, ↓wo_slcS, ↓wo_revL, ↓wo_revS, ↓wo_tupL, ↓wo_tupT, ↓wo_lstL, ↓wo_lstT, ↓wo_sum, ↓wo_all, ↓wo_any, ↓wo_sortL, ↓wo_sortT, ↓wo_get, ↓wo_inD, ↓wo_notInD, ↓wo_inS, ↓wo_inLI, ↓wo_inTI, ↓wo_inLS, ↓wo_inTS, ↓wo_notInLS, ↓wo_fld, ↓wo_isB, ↓wo_isO, ↓wz_int, ↓wz_bl, ↓wz_str, ↓wz_non, ↓wz_tup, ↓wz_lst, ↓wz_dct, ↓wz_objF, ↓ov_rng, ↓ov_app, ↓ov_ins, ↓ov_ext, ↓ov_setL, ↓ov_setD, ↓ov_setF, ↓oa_nil, ↓oa_f, ↓oa_t, ↓oa_s, nrm, gv_some, gl_lst, ov_some, cnd_t, cnd_f, ev_int', ev_bl, ev_str, ev_non, ev_tup, ev_lstF, ev_dctF, ev_objF, ev_lstT, ev_dctT, isB_non, isB_bl, isB_int, isB_str, isB_tup, isB_lst, isB_dct, cm_int, cm_bl, cm_str, cm_non, cm_tup, cm_lst, cm_dct, cm_objF, tr_bl, tr_non, tr_int, bo_bl, it_lst, it_tup, it_dct, it_str, dp_dct, dv_dct, en_lst, en_tup, sq_tup, sq_lst, toI_int, isdct, nn_non, nn_int, nn_lst, nn_tup, nn_str, nn_bl, at_0, at_1, at_2, isobj, fldof, List.getElem?_cons_zero, List.getElem?_cons_succ, List.set_cons_zero, List.set_cons_succ, List.length_cons, List.length_nil, List.cons_append, List.nil_append, Nat.reduceAdd, Nat.zero_add, Nat.reduceLT, Nat.reduceLeDiff, Nat.reduceEqDiff, decide_true, decide_false, Bool.not_true, Bool.not_false, putB, slotOf, outsOf, outAt, List.map_cons, List.map_nil, List.length_map, startS, List.replicate, Nat.reduceSub, Nat.sub_self, List.append_nil, ↓reduceIte, wipS, lenOk, ix_0, ix_1, ix_2, ix_3, Int.reduceLT, Int.reduceLE, Int.reduceAdd, Int.reduceNeg, Int.reduceMul, Int.reduceSub, Bool.or_true, Bool.true_or, Bool.or_false, Bool.false_or, Bool.and_true, Bool.true_and, Bool.and_false, Bool.false_and, reduceCtorEq, eq_self, and_self, and_true, true_and, Int.cast_ofNat_Int, Int.reduceEq, Int.reduceNe])
local macro_rules | `(tactic| push_cast [$a,*]) => `(tactic| simp -dsimp only [↓wm_bind, ↓wm_ret, ↓wm_ofO, ↓wm_eK, ↓wm_eV, ↓wm_eBin, ↓wm_eBinL, ↓wm_eBinR, ↓wm_eBinB, ↓wm_eUn, ↓wm_eUnB, ↓wm_eAnd, ↓wm_eOr, ↓wm_bT, ↓wm_bV, ↓wm_bAnd, ↓wm_bOr, ↓wm_bNot, ↓wm_bYes, ↓wm_eIf, ↓wm_eChn, ↓wm_aNil, ↓wm_aCons, ↓wm_uCons, ↓wm_aStar, ↓wm_mT, ↓wm_mS, ↓wm_eTup, ↓wm_eLst, ↓wm_eDict0, ↓wm_eSl0, ↓wm_eSlL, ↓wm_eSlH, ↓wm_eSlB, ↓wm_eGet, ↓wm_eGetB, ↓wm_callR, ↓wm_eCall, ↓wm_eCallK, ↓wm_eMeth, ↓wm_eMake, ↓wm_iAny, ↓wm_iItems, ↓wm_iVals, ↓wm_iEnum, ↓wm_iRange1, ↓wm_iRange2, ↓wm_mLst, ↓wm_eLc, ↓mkq, ↓wf_ok, ↓sq_nx, ↓sq_rt, ↓sq_bk, ↓sq_ct, ↓sq_exc, ↓lq_nx, ↓lq_rt, ↓lq_bk, ↓lq_ct, ↓lq_exc, ↓rq_nx, ↓rq_rt, ↓rq_exc, ↓xq, ↓ws_sE, ↓ws_sNil, ↓ws_nx, ↓ws_bk, ↓ws_ct, ↓ws_rtv, ↓ws_sBad, ↓ws_sSeq, ↓ws_sDrop, ↓ws_sRet, ↓ws_sRetN, ↓ws_sIf, ↓ws_sAsg, ↓ov_gtN, ↓ov_gtT, ↓ov_gtCons, ↓ov_gtNil, ↓ws_sPar, ↓ov_setAll, ↓ov_setNil, ↓ws_sFor, ↓ws_sStA, ↓ws_sAugN, ↓ws_sAugI, ↓ws_sFldS, ↓wf_runF, ↓wo_add, ↓wo_addS, ↓wo_addL, ↓wo_addT, ↓wo_sub, ↓wo_neg, ↓wo_times, ↓wo_timesL, ↓wo_timesT, ↓wo_mod, ↓wo_div, ↓wo_eqI, ↓wo_neI, ↓wo_ltI, ↓wo_leI, ↓wo_gtI, ↓wo_geI, ↓wo_is, ↓wo_isNot, ↓wo_max, ↓wo_min, ↓wo_abs, ↓wo_intI, ↓wo_intB, ↓wo_lenL, ↓wo_lenT, ↓wo_lenS, ↓wo_not, ↓wo_idxL, ↓wo_idxT, ↓wo_idxD, ↓wo_slcL, ↓wo_slcT, ↓wo_slcS, ↓wo_revL, ↓wo_revS, ↓wo_tupL, ↓wo_tupT, ↓wo_lstL, ↓wo_lstT, ↓wo_sum, ↓wo_all, ↓wo_any, ↓wo_sortL, ↓wo_sortT, ↓wo_get, ↓wo_inD, ↓wo_notInD, ↓wo_inS, ↓wo_inLI, ↓wo_inTI, ↓wo_inLS, ↓wo_inTS, ↓wo_notInLS, ↓wo_fld, ↓wo_isB, ↓wo_isO, ↓wz_int, ↓wz_bl, ↓wz_str, ↓wz_non, ↓wz_tup, ↓wz_lst, ↓wz_dct, ↓wz_objF, ↓ov_rng, ↓ov_app, ↓ov_ins, ↓ov_ext, ↓ov_setL, ↓ov_setD, ↓ov_setF, ↓oa_nil, ↓oa_f, ↓oa_t, ↓oa_s, nrm, gv_some, gl_lst, ov_some, cnd_t, cnd_f, ev_int', ev_bl, ev_str, ev_non, ev_tup, ev_lstF, ev_dctF, ev_objF, ev_lstT, ev_dctT, isB_non, isB_bl, isB_int, isB_str, isB_tup, isB_lst, isB_dct, cm_int, cm_bl, cm_str, cm_non, cm_tup, cm_lst, cm_dct, cm_objF, tr_bl, tr_non, tr_int, bo_bl, it_lst, it_tup, it_dct, it_str, dp_dct, dv_dct, en_lst, en_tup, sq_tup, sq_lst, toI_int, isdct, nn_non, nn_int, nn_lst, nn_tup, nn_str, nn_bl, at_0, at_1, at_2, isobj, fldof, List.getElem?_cons_zero, List.getElem?_cons_succ, List.set_cons_zero, List.set_cons_succ, List.length_cons, List.length_nil, List.cons_append, List.nil_append, Nat.reduceAdd, Nat.zero_add, Nat.reduceLT, Nat.reduceLeDiff, Nat.reduceEqDiff, decide_true, decide_false, Bool.not_true, Bool.not_false, putB, slotOf, outsOf, outAt, List.map_cons, List.map_nil, List.length_map, startS, List.replicate, Nat.reduceSub, Nat.sub_self, List.append_nil, ↓reduceIte, wipS, lenOk, ix_0, ix_1, ix_2, ix_3, Int.reduceLT, Int.reduceLE, Int.reduceAdd, Int.reduceNeg, Int.reduceMul, Int.reduceSub, Bool.or_true, Bool.true_or, Bool.or_false, Bool.false_or, Bool.and_true, Bool.true_and, Bool.and_false, Bool.false_and, reduceCtorEq, eq_self, and_self, and_true, true_and, Int.cast_ofNat_Int, Int.reduceEq, Int.reduceNe, $a,*])
/-! ### lists over 0 .. m - 1 -/
abbrev rowOf (m : Nat) (f : Nat → Int) : List PV := (List.range m).map fun s => .int (f s)
theorem set_range {m a : Nat} {f : Nat → Int} {v : Int} : (rowOf m f).set a (.int v) = rowOf m fun s => if s = a then v else f s := by
  apply List.ext_getElem?
  intro i
  rw [List.getElem?_set]
  by_cases h : a = i
  · subst h
    by_cases l : a < m
    · simp [l]
    · simp [l]
  · by_cases l : i < m
    · simp [h, l, Ne.symm h]
    · simp [h, l]
theorem at_range {m a : Nat} {f : Nat → Int} (h : a < m) : atI (rowOf m f) (a : Int) = some (.int (f a)) := by
  rw [at_nat]
  simp [h]
theorem lstInt_range {m a : Nat} {f : Nat → Int} (h : a < m) (hm : m ≤ 1000) : lstInt (.lst true (rowOf m f)) (a : Int) = some (f a) := by
  unfold lstInt
  have c : (decide (0 ≤ (a : Int)) && decide ((a : Int) < 9223372036854775808)) = true := by
    rw [Bool.and_eq_true]
    exact ⟨decide_eq_true (by omega), decide_eq_true (by omega)⟩
  simp only [c, if_true, Int.toNat_natCast]
  simp [h]
theorem lstPut_range {m a : Nat} {f : Nat → Int} {v : Int} (h : a < m) : lstPut (.lst true (rowOf m f)) (a : Int) v = some (.lst true (rowOf m fun s => if s = a then v else f s)) := by
  unfold lstPut
  have c : decide (a < (rowOf m f).length) = true := decide_eq_true (by simp [h])
  simp only [Int.toNat_natCast, c, if_true, set_range]
theorem zeros {m : Nat} : (List.replicate m [PV.int 0]).flatten = rowOf m fun _ => 0 := by
  induction m with
  | zero => rfl
  | succ n ih =>
    rw [List.replicate_succ', List.flatten_append, ih]
    unfold rowOf
    rw [List.range_succ, List.map_append]
    rfl
theorem add_at {f : Nat → Int} {a : Nat} {x : Int} : (fun s => if s = a then f a + x else f s) = fun s => f s + if a = s then x else 0 := by
  funext s
  by_cases h : s = a
  · subst h; simp
  · simp [h, Ne.symm h]
theorem sum_perm {α : Type} {xs ys : List α} (f : α → Int) (p : List.Perm xs ys) : (xs.map f).sum = (ys.map f).sum := by
  induction p with
  | nil => rfl
  | cons x _ ih => simp only [List.map_cons, List.sum_cons, ih]
  | swap x y l => simp only [List.map_cons, List.sum_cons]; omega
  | trans _ _ a b => exact a.trans b
theorem rng0 {n : Nat} : rngV 0 n = (List.range n).map fun (i : Nat) => .int (i : Int) := by
  unfold rngV
  simp only [Int.zero_add]
/-! ### the machine's own answers -/
def Plan.asc (p : Plan) : List Row := sortBy Row.pv p.rows
theorem asc_perm {p : Plan} : List.Perm p.asc p.rows := sort_perm ..
theorem size_eq {p : Plan} : s_Machine_size [p.obj] = .ok (.int p.many) [] := by
  have e : fldOf "Machine" "states" p.obj = some (.int p.many) := rfl
  apply wf_eq
  unfold s_Machine_size w_Machine_size
  push_cast [e]
theorem fin_eq {p : Plan} : s_Machine_ends [p.obj] = .ok (.tup (p.fin.map fun (k : Nat) => .int (k : Int))) [] := by
  have e : fldOf "Machine" "finals" p.obj = some (.tup (p.fin.map fun (k : Nat) => .int (k : Int))) := rfl
  apply wf_eq
  unfold s_Machine_ends w_Machine_ends
  push_cast [e]
theorem row_data {r : Row} : r.pv.data = some (.tuple [.int r.1, .str r.2.1, .int r.2.2]) := by simp [Row.pv, PV.data, PV.datas]
theorem sortOk_rows {rows : List Row} : sortOk (rows.map Row.pv) = true :=
  sortOk_of (g := fun r => .tuple [.int r.1, .str r.2.1, .int r.2.2]) (fun r _ => row_data) (fun r _ => by simp [PyData.depth, PyData.depthAll]) (fun r _ q _ => by simp [PySem.W.alike, PySem.W.alikeAll]) (.inl fun r _ => rfl)
theorem arrows_eq {p : Plan} {ws : List Str} (h : p.ok ws) : s_Machine_arrows [p.obj] = .ok (.tup (p.asc.map Row.pv)) [] := by
  have e : fldOf "Machine" "paths" p.obj = some (.dct false (p.rows.map Row.kv)) := rfl
  have hl := h.len
  have e2 : Wv.pairsOf (p.rows.map Row.kv) = p.rows.map fun r => .tup [r.kk, .int r.2.2] := by
    unfold Wv.pairsOf
    rw [List.map_map]
    rfl
  apply wf_eq
  unfold s_Machine_arrows w_Machine_arrows
  push_cast [e, e2]
  refine wm_lcY Row.pv (by omega) ?_ ?_
  · intro r _
    push_cast [Row.kk]
    rfl
  · push_cast [sortOk_rows, sort_map]
    rfl
/-! ### counted from the ends -/
def Plan.W (p : Plan) : Nat → Nat → Int
  | 0, s => if s ∈ p.stops then 1 else 0
  | k + 1, s => (p.rows.map fun r => if r.1 = s then p.W k r.2.2 else 0).sum
def Plan.wl (p : Plan) (k : Nat) : PV := .lst false (rowOf p.many (p.W k))
theorem last_range {n : Nat} {f : Nat → PV} : atI ((List.range (n + 1)).map f) (-1) = some (f n) := by
  rw [List.range_succ, List.map_append]
  exact at_last'
theorem ways_eq {p : Plan} {ws : List Str} (h : p.ok ws) {n : Nat} (hn : n ≤ 200) : s_ways_to_ends [p.obj, .int n] = .ok (.lst false ((List.range (n + 1)).map p.wl)) [] := by
  have h1 := h.m1
  have h5 := h.m5
  have hl := h.len
  have o1 : isObjOf "Machine" "size" p.obj = true := rfl
  have o2 : isObjOf "Machine" "ends" p.obj = true := rfl
  have o3 : isObjOf "Machine" "arrows" p.obj = true := rfl
  have fo : p.obj.fine = true := rfl
  have b1 : bd62 (p.many : Int) = true := bd_nat (by omega) (by omega)
  have b2 : bd62 (n : Int) = true := bd_nat (by omega) (by omega)
  apply wf_eq
  unfold s_ways_to_ends w_ways_to_ends
  push_cast [ev_fine fo, wz_fine fo, o1, o2, o3, size_eq, b1]
  rw [Int.toNat_natCast, rng0]
  refine wm_lcY (fun i => .int (p.W 0 i)) (by rw [List.length_range]; omega) ?_ ?_
  · intro i _
    push_cast [ev_fine fo, wz_fine fo, o2, fin_eq, inData_nat]
    show (PV.int (if decide (i ∈ p.fin) = true then 1 else 0)).frz = _
    unfold Plan.W
    have := (sort_perm (fun (k : Nat) => PV.int (k : Int)) p.stops).mem_iff (a := i)
    simp only [Plan.fin, this, decide_eq_true_eq]
    rfl
  · push_cast [ev_fine fo, b2]
    rw [Int.toNat_natCast]
    refine ws_range (I := fun i ρ => ∃ a b c d e : Option PV, ρ = [some p.obj, some (.int n), some (.lst true ((List.range (i + 1)).map p.wl)), a, b, c, d, e]) ⟨_, _, _, _, _, rfl⟩ ?_ ?_
    · intro i ρ hi hI
      obtain ⟨a, b, c, d, e, rfl⟩ := hI
      push_cast [ev_fine fo, wz_fine fo, o1, o3, size_eq, arrows_eq h]
      refine cnd_go (by simp only [Bool.and_eq_true, decide_eq_true_eq]; omega) ?_
      push_cast [ev_fine fo, wz_fine fo, o3, arrows_eq h, Int.toNat_natCast, zeros]
      refine ws_for (ys := p.asc) (enc := Row.pv) (I := fun j ρ => ∃ a d e : Option PV, ρ = [some p.obj, some (.int n), some (.lst true ((List.range (i + 1)).map p.wl)), a, some (.int i), some (.lst true (rowOf p.many fun s => ((p.asc.take j).map fun r => if r.1 = s then p.W i r.2.2 else 0).sum)), d, e]) ⟨_, _, _, rfl⟩ ?_ ?_
      · intro j r ρ hr hI
        obtain ⟨a, d, e, rfl⟩ := hI
        have hm := h.row r (asc_perm.mem_iff.mp (List.mem_of_getElem? hr))
        push_cast [Row.pv, lstInt_range hm.1 (by omega : p.many ≤ 1000), last_range, Plan.wl, at_range hm.2.2, lstPut_range hm.1]
        have e : (fun s => ((p.asc.take (j + 1)).map fun q => if q.1 = s then p.W i q.2.2 else 0).sum) = fun s => if s = r.1 then ((p.asc.take j).map fun q => if q.1 = r.1 then p.W i q.2.2 else 0).sum + p.W i r.2.2 else ((p.asc.take j).map fun q => if q.1 = s then p.W i q.2.2 else 0).sum := by
          funext s
          rw [List.take_succ, hr, List.map_append, List.sum_append]
          by_cases hs : s = r.1
          · subst hs; simp
          · simp [hs, Ne.symm hs]
        rw [e]
        exact ⟨_, _, _, rfl⟩
      · intro ρ hI
        obtain ⟨a, d, e, rfl⟩ := hI
        push_cast
        rw [List.length_range]
        refine cnd_go (by simp only [Bool.and_eq_true, decide_eq_true_eq]; omega) ?_
        push_cast
        have e1 : (fun s => ((p.asc.take p.asc.length).map fun q => if q.1 = s then p.W i q.2.2 else 0).sum) = p.W (i + 1) := by
          funext s
          rw [List.take_length]
          exact sum_perm _ asc_perm
        rw [e1]
        rw [show (List.range (i + 1 + 1)).map p.wl = (List.range (i + 1)).map p.wl ++ [p.wl (i + 1)] by rw [List.range_succ (n := i + 1), List.map_append]; rfl]
        exact ⟨_, _, _, _, _, rfl⟩
    · intro ρ hI
      obtain ⟨a, b, c, d, e, rfl⟩ := hI
      push_cast
theorem count_eq {p : Plan} {ws : List Str} (h : p.ok ws) {n : Nat} (hn : n ≤ 200) : s_rows_count [p.obj, .int n] = .ok (.int (p.W n 0)) [] := by
  have h1 := h.m1
  have fo : p.obj.fine = true := rfl
  have e1 : s_check_length [.int n] = .ok .non [] := by
    have c1 : decide ((0 : Int) ≤ (n : Int)) = true := decide_eq_true (by omega)
    have c2 : decide ((n : Int) ≤ 200) = true := decide_eq_true (by omega)
    apply wf_eq
    unfold s_check_length w_check_length
    push_cast [whole_eq, c1, c2]
  have e2 : atI ((List.range (n + 1)).map p.wl) (n : Int) = some (p.wl n) := by
    rw [at_nat]
    simp
  have e3 : atI (rowOf p.many (p.W n)) 0 = some (.int (p.W n 0)) := at_range (a := 0) (by omega)
  apply wf_eq
  unfold s_rows_count w_rows_count
  push_cast [ev_fine fo, wz_fine fo, e1, ways_eq h hn, e2, Plan.wl, e3]
/-! ### counted from the beginning -/
def Plan.V (p : Plan) : Nat → Nat → Int
  | 0, s => if s = 0 then 1 else 0
  | k + 1, s => (p.rows.map fun r => if r.2.2 = s then p.V k r.1 else 0).sum
def Plan.due (p : Plan) (k : Nat) : Int := (p.stops.map fun s => p.V k s).sum
theorem summed_eq {p : Plan} {ws : List Str} (h : p.ok ws) : s__law_summed [p.pv, .int 200] = .ok (.lst false ((List.range 201).map fun k => .int (p.due k))) [] := by
  have h1 := h.m1
  have h5 := h.m5
  have hl := h.len
  have ls : p.stops.length ≤ 5 := by
    have := List.Nodup.length_le_of_subset (l₁ := p.stops) (l₂ := List.range p.many) h.snd fun k hk => List.mem_range.mpr (h.stp k hk)
    rw [List.length_range] at this
    omega
  have b1 : bd62 (p.many : Int) = true := bd_nat (by omega) (by omega)
  have b2 : bd62 (200 : Int) = true := by decide
  apply wf_eq
  unfold s__law_summed w__law_summed Plan.pv
  push_cast [b1]
  rw [Int.toNat_natCast, rng0]
  refine wm_lcY (fun s => .int (p.V 0 s)) (by rw [List.length_range]; omega) ?_ ?_
  · intro s _
    push_cast
    unfold Plan.V
    rcases s with _ | s
    · rfl
    · rfl
  · push_cast
    refine wm_lcY (fun s => .int (p.V 0 s)) (by omega) ?_ ?_
    · intro s hs
      push_cast [at_range (h.stp s hs)]
      rfl
    · push_cast [intsL_map, b2]
      rw [show (200 : Int).toNat = 200 from rfl]
      refine ws_range (I := fun i ρ => ∃ (o : Bool) (a b c d : Option PV), ρ = [some p.pv, some (.int 200), some (.lst o (rowOf p.many (p.V i))), a, some (.lst true ((List.range (i + 1)).map fun k => .int (p.due k))), b, c, d]) ⟨_, _, _, _, _, rfl⟩ ?_ ?_
      · intro i ρ hi hI
        obtain ⟨o, a, b, c, d, rfl⟩ := hI
        unfold Plan.pv
        push_cast
        refine cnd_go (by simp only [Bool.and_eq_true, decide_eq_true_eq]; omega) ?_
        push_cast [Int.toNat_natCast, zeros]
        refine ws_for (ys := p.rows) (enc := Row.pv) (I := fun j ρ => ∃ (d : Option PV), ρ = [some p.pv, some (.int 200), some (.lst o (rowOf p.many (p.V i))), a, some (.lst true ((List.range (i + 1)).map fun k => .int (p.due k))), some (.int i), some (.lst true (rowOf p.many fun s => ((p.rows.take j).map fun r => if r.2.2 = s then p.V i r.1 else 0).sum)), d]) ⟨_, rfl⟩ ?_ ?_
        · intro j r ρ hr hI
          obtain ⟨d, rfl⟩ := hI
          have hm := h.row r (List.mem_of_getElem? hr)
          push_cast [Row.pv, at_range hm.2.2, at_range hm.1, List.length_range, ix_nat hm.2.2, set_range]
          have e : (fun s => ((p.rows.take (j + 1)).map fun q => if q.2.2 = s then p.V i q.1 else 0).sum) = fun s => if s = r.2.2 then ((p.rows.take j).map fun q => if q.2.2 = r.2.2 then p.V i q.1 else 0).sum + p.V i r.1 else ((p.rows.take j).map fun q => if q.2.2 = s then p.V i q.1 else 0).sum := by
            funext s
            rw [List.take_succ, hr, List.map_append, List.sum_append]
            by_cases hs : s = r.2.2
            · rw [hs]; simp
            · simp [hs, Ne.symm hs]
          rw [e]
          exact ⟨_, rfl⟩
        · intro ρ hI
          obtain ⟨d, rfl⟩ := hI
          have e1 : (fun s => ((p.rows.take p.rows.length).map fun q => if q.2.2 = s then p.V i q.1 else 0).sum) = p.V (i + 1) := by
            funext s
            rw [List.take_length]
            rfl
          rw [e1]
          unfold Plan.pv
          push_cast
          refine wm_lcY (fun s => .int (p.V (i + 1) s)) (by omega) ?_ ?_
          · intro s hs
            push_cast [at_range (h.stp s hs)]
            rfl
          · push_cast [intsL_map]
            rw [List.length_range]
            refine cnd_go (by simp only [Bool.and_eq_true, decide_eq_true_eq]; omega) ?_
            push_cast
            rw [show (List.range (i + 1 + 1)).map (fun k => PV.int (p.due k)) = (List.range (i + 1)).map (fun k => PV.int (p.due k)) ++ [.int (p.due (i + 1))] by rw [List.range_succ (n := i + 1), List.map_append]; rfl]
            exact ⟨_, _, _, _, _, rfl⟩
      · intro ρ hI
        obtain ⟨o, a, b, c, d, rfl⟩ := hI
        push_cast
/-! ### both ways to count -/
theorem sum_ext {α : Type} {f g : α → Int} : ∀ {l : List α}, (∀ x ∈ l, f x = g x) → (l.map f).sum = (l.map g).sum
  | [], _ => rfl
  | x :: l, h => by
    simp only [List.map_cons, List.sum_cons]
    rw [h x List.mem_cons_self, sum_ext fun y hy => h y (List.mem_cons_of_mem _ hy)]
theorem sum_add {α : Type} {f g : α → Int} : ∀ {l : List α}, (l.map fun x => f x + g x).sum = (l.map f).sum + (l.map g).sum
  | [] => rfl
  | x :: l => by
    simp only [List.map_cons, List.sum_cons]
    rw [sum_add]
    omega
theorem sum_zero {α : Type} : ∀ {l : List α}, (l.map fun _ => (0 : Int)).sum = 0
  | [] => rfl
  | x :: l => by simp only [List.map_cons, List.sum_cons, sum_zero]; rfl
theorem sum_mul {α : Type} {f : α → Int} {c : Int} : ∀ {l : List α}, (l.map f).sum * c = (l.map fun x => f x * c).sum
  | [] => by simp
  | x :: l => by
    simp only [List.map_cons, List.sum_cons]
    rw [Int.add_mul, sum_mul]
theorem mul_sum {α : Type} {f : α → Int} {c : Int} {l : List α} : c * (l.map f).sum = (l.map fun x => c * f x).sum := by
  rw [Int.mul_comm, sum_mul]
  exact sum_ext fun x _ => Int.mul_comm ..
theorem sum_swap {α β : Type} {f : α → β → Int} : ∀ {l : List α} {m : List β}, (l.map fun x => (m.map fun y => f x y).sum).sum = (m.map fun y => (l.map fun x => f x y).sum).sum
  | [], m => by
    simp only [List.map_nil, List.sum_nil]
    exact sum_zero.symm
  | x :: l, m => by
    simp only [List.map_cons, List.sum_cons]
    rw [sum_swap, ← sum_add]
/-- just one term -/
theorem sum_one {α : Type} [DecidableEq α] {f : α → Int} {a : α} : ∀ {l : List α}, l.Nodup → (l.map fun x => if x = a then f x else 0).sum = if a ∈ l then f a else 0
  | [], _ => by simp
  | x :: l, h => by
    obtain ⟨h1, h2⟩ := List.nodup_cons.mp h
    simp only [List.map_cons, List.sum_cons]
    rw [sum_one h2]
    by_cases e : x = a
    · subst e; simp [h1]
    · simp [e, Ne.symm e]
def Plan.B (p : Plan) (i j : Nat) : Int := ((List.range p.many).map fun s => p.V i s * p.W j s).sum
theorem B_step {p : Plan} {ws : List Str} (h : p.ok ws) (i j : Nat) : p.B (i + 1) j = p.B i (j + 1) := by
  have l1 : p.B (i + 1) j = (p.rows.map fun r => p.V i r.1 * p.W j r.2.2).sum := by
    unfold Plan.B
    have : ∀ s, p.V (i + 1) s * p.W j s = (p.rows.map fun r => (if r.2.2 = s then p.V i r.1 else 0) * p.W j s).sum := fun s => sum_mul
    rw [sum_ext fun s _ => this s, sum_swap]
    refine sum_ext fun r hr => ?_
    have e : (fun s => (if r.2.2 = s then p.V i r.1 else 0) * p.W j s) = fun s => if s = r.2.2 then p.V i r.1 * p.W j s else 0 := by
      funext s
      by_cases e : s = r.2.2
      · simp [e]
      · simp [e, Ne.symm e]
    rw [e, sum_one List.nodup_range, if_pos (List.mem_range.mpr (h.row r hr).2.2)]
  have l2 : p.B i (j + 1) = (p.rows.map fun r => p.V i r.1 * p.W j r.2.2).sum := by
    unfold Plan.B
    have : ∀ s, p.V i s * p.W (j + 1) s = (p.rows.map fun r => p.V i s * (if r.1 = s then p.W j r.2.2 else 0)).sum := fun s => mul_sum
    rw [sum_ext fun s _ => this s, sum_swap]
    refine sum_ext fun r hr => ?_
    have e : (fun s => p.V i s * (if r.1 = s then p.W j r.2.2 else 0)) = fun s => if s = r.1 then p.V i s * p.W j r.2.2 else 0 := by
      funext s
      by_cases e : s = r.1
      · simp [e]
      · simp [e, Ne.symm e]
    rw [e, sum_one List.nodup_range, if_pos (List.mem_range.mpr (h.row r hr).1)]
  rw [l1, l2]
theorem B_all {p : Plan} {ws : List Str} (h : p.ok ws) : ∀ (i j : Nat), p.B i j = p.B 0 (i + j)
  | 0, j => by rw [Nat.zero_add]
  | i + 1, j => by rw [B_step h, B_all h i (j + 1), show i + (j + 1) = i + 1 + j by omega]
theorem due_eq {p : Plan} {ws : List Str} (h : p.ok ws) (k : Nat) : p.due k = p.W k 0 := by
  have l1 : p.B 0 k = p.W k 0 := by
    unfold Plan.B
    have e : (fun s => p.V 0 s * p.W k s) = fun s => if s = 0 then p.W k s else 0 := by
      funext s
      unfold Plan.V
      by_cases e : s = 0
      · simp [e]
      · simp [e]
    rw [e, sum_one List.nodup_range, if_pos (List.mem_range.mpr h.m1)]
  have l2 : p.B k 0 = p.due k := by
    unfold Plan.B Plan.due
    have e : (fun s => p.V k s * p.W 0 s) = fun s => (p.stops.map fun t => if t = s then p.V k t else 0).sum := by
      funext s
      rw [sum_one h.snd]
      unfold Plan.W
      by_cases e : s ∈ p.stops
      · simp [e]
      · simp [e]
    rw [e, sum_swap]
    refine sum_ext fun t ht => ?_
    have e : (fun s => if t = s then p.V k t else 0) = fun s => if s = t then p.V k t else 0 := by
      funext s
      by_cases e : s = t
      · simp [e]
      · simp [e, Ne.symm e]
    rw [e, sum_one (f := fun _ => p.V k t) List.nodup_range, if_pos (List.mem_range.mpr (h.stp t ht))]
  rw [← l2, B_all h k 0, Nat.add_zero, l1]
end Lk05

set_option Elab.async false
set_option linter.all false
set_option autoImplicit false
set_option maxRecDepth 100000
namespace Lk05
open PySem PySem.Spec PyProof.Rows L2 Wv
local macro_rules | `(tactic| push_cast) => `(tactic| simp -dsimp only [↓wm_bind, ↓wm_ret, ↓wm_ofO, ↓wm_eK, ↓wm_eV, ↓wm_eBin, ↓wm_eBinL, ↓wm_eBinR, ↓wm_eBinB, ↓wm_eUn, ↓wm_eUnB, ↓wm_eAnd, ↓wm_eOr, ↓wm_bT, ↓wm_bV, ↓wm_bAnd, ↓wm_bOr, ↓wm_bNot, ↓wm_bYes, ↓wm_eIf, ↓wm_eChn, ↓wm_aNil, ↓wm_aCons, ↓wm_uCons, ↓wm_aStar, ↓wm_mT, ↓wm_mS, ↓wm_eTup, ↓wm_eLst, ↓wm_eDict0, ↓wm_eSl0, ↓wm_eSlL, ↓wm_eSlH, ↓wm_eSlB, ↓wm_eGet, ↓wm_eGetB, ↓wm_callR, ↓wm_eCall, ↓wm_eCallK, ↓wm_eMeth, ↓wm_eMake, ↓wm_iAny, ↓wm_iItems, ↓wm_iVals, ↓wm_iEnum, ↓wm_iRange1, ↓wm_iRange2, ↓wm_mLst, ↓wm_eLc, ↓mkq, ↓wf_ok, ↓sq_nx, ↓sq_rt, ↓sq_bk, ↓sq_ct, ↓sq_exc, ↓lq_nx, ↓lq_rt, ↓lq_bk, ↓lq_ct, ↓lq_exc, ↓rq_nx, ↓rq_rt, ↓rq_exc, ↓xq, ↓ws_sE, ↓ws_sNil, ↓ws_nx, ↓ws_bk, ↓ws_ct, ↓ws_rtv, ↓ws_sBad, ↓ws_sSeq, ↓ws_sDrop, ↓ws_sRet, ↓ws_sRetN, ↓ws_sIf, ↓ws_sAsg, ↓ov_gtN, ↓ov_gtT, ↓ov_gtCons, ↓ov_gtNil, ↓ws_sPar, ↓ov_setAll, ↓ov_setNil, ↓ws_sFor, ↓ws_sStA, ↓ws_sAugN, ↓ws_sAugI, ↓ws_sFldS, ↓wf_runF, ↓wo_add, ↓wo_addS, ↓wo_addL, ↓wo_addT, ↓wo_sub, ↓wo_neg, ↓wo_times, ↓wo_timesL, ↓wo_timesT, ↓wo_mod, ↓wo_div, ↓wo_eqI, ↓wo_neI, ↓wo_ltI, ↓wo_leI, ↓wo_gtI, ↓wo_geI, ↓wo_is, ↓wo_isNot, ↓wo_max, ↓wo_min, ↓wo_abs, ↓wo_intI, ↓wo_intB, ↓wo_lenL, ↓wo_lenT, ↓wo_lenS, ↓wo_not, ↓wo_idxL, ↓wo_idxT, ↓wo_idxD, ↓wo_slcL, ↓wo_slcT, ↓wo_slcS, ↓wo_revL, ↓wo_revS, ↓wo_tupL, ↓wo_tupT, ↓wo_lstL, ↓wo_lstT, ↓wo_sum, ↓wo_all, ↓wo_any, ↓wo_sortL, ↓wo_sortT, ↓wo_get, ↓wo_inD, ↓wo_notInD, ↓wo_inS, ↓wo_inLI, ↓wo_inTI, ↓wo_inLS, ↓wo_inTS, ↓wo_notInLS, ↓wo_fld, ↓wo_isB, ↓wo_isO, ↓wz_int, ↓wz_bl, ↓wz_str, ↓wz_non, ↓wz_tup, ↓wz_lst, ↓wz_dct, ↓wz_objF, ↓ov_rng, ↓ov_app, ↓ov_ins, ↓ov_ext, ↓ov_setL, ↓ov_setD, ↓ov_setF, ↓oa_nil, ↓oa_f, ↓oa_t, ↓oa_s, nrm, gv_some, gl_lst, ov_some, cnd_t, cnd_f, ev_int', ev_bl, ev_str, ev_non, ev_tup, ev_lstF, ev_dctF, ev_objF, ev_lstT, ev_dctT, isB_non, isB_bl, isB_int, isB_str, isB_tup, isB_lst, isB_dct, cm_int, cm_bl, cm_str, cm_non, cm_tup, cm_lst, cm_dct, cm_objF, tr_bl, tr_non, tr_int, bo_bl, it_lst, it_tup, it_dct, it_str, dp_dct, dv_dct, en_lst, en_tup, sq_tup, sq_lst, toI_int, isdct, nn_non, nn_int, nn_lst, nn_tup, nn_str, nn_bl, at_0, at_1, at_2, isobj, fldof, List.getElem?_cons_zero, List.getElem?_cons_succ, List.set_cons_zero, List.set_cons_succ, List.length_cons, List.length_nil, List.cons_append, List.nil_append, Nat.reduceAdd, Nat.zero_add, Nat.reduceLT, Nat.reduceLeDiff, Nat.reduceEqDiff, decide_true, decide_false, Bool.not_true, Bool.not_false, putB, slotOf, outsOf, outAt, List.map_cons, List.map_nil, List.length_map, startS, List.replicate, Nat.reduceSub, Nat.sub_self, List.append_nil, ↓reduceIte, wipS, lenOk, ix_0, ix_1, ix_2, ix_3, Int.reduceLT, Int.reduceLE, Int.reduceAdd, Int.reduceNeg, Int.reduceMul, Int.reduceSub, Bool.or_true, Bool.true_or, Bool.or_false, Bool.false_or, Bool.and_true, Bool.true_and, Bool.and_false, Bool.false_and, reduceCtorEq, eq_self, and_self, and_true, true_and, Int.cast_ofNat_Int, Int.reduceEq, Int.reduceNe])
local macro_rules | `(tactic| push_cast [$a,*]) => `(tactic| simp -dsimp only [↓wm_bind, ↓wm_ret, ↓wm_ofO, ↓wm_eK, ↓wm_eV, ↓wm_eBin, ↓wm_eBinL, ↓wm_eBinR, ↓wm_eBinB, ↓wm_eUn, ↓wm_eUnB, ↓wm_eAnd, ↓wm_eOr, ↓wm_bT, ↓wm_bV, ↓wm_bAnd, ↓wm_bOr, ↓wm_bNot, ↓wm_bYes, ↓wm_eIf, ↓wm_eChn, ↓wm_aNil, ↓wm_aCons, ↓wm_uCons, ↓wm_aStar, ↓wm_mT, ↓wm_mS, ↓wm_eTup, ↓wm_eLst, ↓wm_eDict0, ↓wm_eSl0, ↓wm_eSlL, ↓wm_eSlH, ↓wm_eSlB, ↓wm_eGet, ↓wm_eGetB, ↓wm_callR, ↓wm_eCall, ↓wm_eCallK, ↓wm_eMeth, ↓wm_eMake, ↓wm_iAny, ↓wm_iItems, ↓wm_iVals, ↓wm_iEnum, ↓wm_iRange1, ↓wm_iRange2, ↓wm_mLst, ↓wm_eLc, ↓mkq, ↓wf_ok, ↓sq_nx, ↓sq_rt, ↓sq_bk, ↓sq_ct, ↓sq_exc, ↓lq_nx, ↓lq_rt, ↓lq_bk, ↓lq_ct, ↓lq_exc, ↓rq_nx, ↓rq_rt, ↓rq_exc, ↓xq, ↓ws_sE, ↓ws_sNil, ↓ws_nx, ↓ws_bk, ↓ws_ct, ↓ws_rtv, ↓ws_sBad, ↓ws_sSeq, ↓ws_sDrop, ↓ws_sRet, ↓ws_sRetN, ↓ws_sIf, ↓ws_sAsg, ↓ov_gtN, ↓ov_gtT, ↓ov_gtCons, ↓ov_gtNil, ↓ws_sPar, ↓ov_setAll, ↓ov_setNil, ↓ws_sFor, ↓ws_sStA, ↓ws_sAugN, ↓ws_sAugI, ↓ws_sFldS, ↓wf_runF, ↓wo_add, ↓wo_addS, ↓wo_addL, ↓wo_addT, ↓wo_sub, ↓wo_neg, ↓wo_times, ↓wo_timesL, ↓wo_timesT, ↓wo_mod, ↓wo_div, ↓wo_eqI, ↓wo_neI, ↓wo_ltI, ↓wo_leI, ↓wo_gtI, ↓wo_geI, ↓wo_is, ↓wo_isNot, ↓wo_max, ↓wo_min, ↓wo_abs, ↓wo_intI, ↓wo_intB, ↓wo_lenL, ↓wo_lenT, ↓wo_lenS, ↓wo_not, ↓wo_idxL, ↓wo_idxT, ↓wo_idxD, ↓wo_slcL, ↓wo_slcT, ↓wo_slcS, ↓wo_revL, ↓wo_revS, ↓wo_tupL, ↓wo_tupT, ↓wo_lstL, ↓wo_lstT, ↓wo_sum, ↓wo_all, ↓wo_any, ↓wo_sortL, ↓wo_sortT, ↓wo_get, ↓wo_inD, ↓wo_notInD, ↓wo_inS, ↓wo_inLI, ↓wo_inTI, ↓wo_inLS, ↓wo_inTS, ↓wo_notInLS, ↓wo_fld, ↓wo_isB, ↓wo_isO, ↓wz_int, ↓wz_bl, ↓wz_str, ↓wz_non, ↓wz_tup, ↓wz_lst, ↓wz_dct, ↓wz_objF, ↓ov_rng, ↓ov_app, ↓ov_ins, ↓ov_ext, ↓ov_setL, ↓ov_setD, ↓ov_setF, ↓oa_nil, ↓oa_f, ↓oa_t, ↓oa_s, nrm, gv_some, gl_lst, ov_some, cnd_t, cnd_f, ev_int', ev_bl, ev_str, ev_non, ev_tup, ev_lstF, ev_dctF, ev_objF, ev_lstT, ev_dctT, isB_non, isB_bl, isB_int, isB_str, isB_tup, isB_lst, isB_dct, cm_int, cm_bl, cm_str, cm_non, cm_tup, cm_lst, cm_dct, cm_objF, tr_bl, tr_non, tr_int, bo_bl, it_lst, it_tup, it_dct, it_str, dp_dct, dv_dct, en_lst, en_tup, sq_tup, sq_lst, toI_int, isdct, nn_non, nn_int, nn_lst, nn_tup, nn_str, nn_bl, at_0, at_1, at_2, isobj, fldof, List.getElem?_cons_zero, List.getElem?_cons_succ, List.set_cons_zero, List.set_cons_succ, List.length_cons, List.length_nil, List.cons_append, List.nil_append, Nat.reduceAdd, Nat.zero_add, Nat.reduceLT, Nat.reduceLeDiff, Nat.reduceEqDiff, decide_true, decide_false, Bool.not_true, Bool.not_false, putB, slotOf, outsOf, outAt, List.map_cons, List.map_nil, List.length_map, startS, List.replicate, Nat.reduceSub, Nat.sub_self, List.append_nil, ↓reduceIte, wipS, lenOk, ix_0, ix_1, ix_2, ix_3, Int.reduceLT, Int.reduceLE, Int.reduceAdd, Int.reduceNeg, Int.reduceMul, Int.reduceSub, Bool.or_true, Bool.true_or, Bool.or_false, Bool.false_or, Bool.and_true, Bool.true_and, Bool.and_false, Bool.false_and, reduceCtorEq, eq_self, and_self, and_true, true_and, Int.cast_ofNat_Int, Int.reduceEq, Int.reduceNe, $a,*])
theorem key_kk {s : Nat} {w : Str} {r : Row} : decide (r.kk.key = (PV.tup [.int s, .str w]).key) = decide (r.key = (s, w)) := by
  rw [Bool.eq_iff_iff, decide_eq_true_eq, decide_eq_true_eq]
  constructor
  · intro h
    exact kk_inj (q := (s, w, 0)) h
  · intro h
    have h1 : r.1 = s := congrArg Prod.fst h
    have h2 : r.2.1 = w := congrArg Prod.snd h
    unfold Row.kk
    rw [h1, h2]
theorem has_rows' {rows : List Row} {s : Nat} {w : Str} : khas (rows.map Row.kv) (.tup [.int s, .str w]) = rows.any fun r => decide (r.key = (s, w)) := by
  show khas (rows.map fun q => (q.kk, PV.int q.2.2)) _ = _
  rw [khas_map]
  congr 1
  funext r
  exact key_kk
/-- the arrow of a state and a sign -/
def arr (rows : List Row) (s : Nat) (w : Str) : Option Row := rows.find? fun r => decide (r.key = (s, w))
theorem find_rows {rows : List Row} {s : Nat} {w : Str} : kfind (rows.map Row.kv) (.tup [.int s, .str w]) = (arr rows s w).map fun r => .int r.2.2 := by
  show kfind (rows.map fun q => (q.kk, PV.int q.2.2)) _ = _
  rw [kfind_map]
  unfold arr
  congr 2
  funext r
  exact key_kk
theorem paths_eq' {p : Plan} {ws : List Str} (h : p.ok ws) : s__law_paths [p.pv] = .ok (.dct false (p.rows.map Row.kv)) [] := by
  apply wf_eq
  unfold s__law_paths w__law_paths Plan.pv
  push_cast
  refine ws_for (ys := p.rows) (enc := Row.pv) (I := fun i ρ => ∃ a b c : Option PV, ρ = [some p.pv, some (.dct true ((p.rows.take i).map Row.kv)), a, b, c]) ⟨_, _, _, rfl⟩ ?_ ?_
  · intro i r ρ hr hI
    obtain ⟨a, b, c, rfl⟩ := hI
    have hi := get_lt hr
    have h40 := h.len
    have hk : r.key ∉ (p.rows.take i).map Row.key := by
      have e : p.rows[i] = r := by rw [List.getElem?_eq_getElem hi] at hr; exact Option.some.inj hr
      have nd := h.nd
      rw [← List.take_append_drop i p.rows, List.map_append, List.nodup_append] at nd
      intro hq
      exact nd.2.2 _ hq _ (List.mem_map_of_mem (by rw [List.drop_eq_getElem_cons hi, e]; exact List.mem_cons_self)) rfl
    have e2 : (p.rows.take i).map Row.kv ++ [r.kv] = (p.rows.take (i + 1)).map Row.kv := by rw [List.take_succ, hr]; simp
    have ht : (p.rows.take i).length ≤ 40 := by rw [List.length_take]; omega
    push_cast [Row.pv, dk_rows]
    refine cnd_go (by simp only [Bool.and_eq_true, decide_eq_true_eq]; omega) ?_
    push_cast [kstore_new (has_rows hk)]
    exact ⟨_, _, _, by rw [← e2]; rfl⟩
  · intro ρ hI
    obtain ⟨a, b, c, rfl⟩ := hI
    rw [List.take_length]
    push_cast
/-! ### rows of words, listed -/
theorem arr_sum {φ : Nat → Int} {s : Nat} {ws : List Str} (nd : ws.Nodup) : ∀ {rows : List Row}, (rows.map Row.key).Nodup → (∀ r ∈ rows, r.2.1 ∈ ws) → (ws.map fun w => match arr rows s w with | some r => φ r.2.2 | none => 0).sum = (rows.map fun r => if r.1 = s then φ r.2.2 else 0).sum
  | [], _, _ => sum_zero
  | r :: rows, hn, hm => by
    rw [List.map_cons, List.nodup_cons] at hn
    have ih := arr_sum (φ := φ) (s := s) nd hn.2 fun q hq => hm q (List.mem_cons_of_mem _ hq)
    have e : (fun w => match arr (r :: rows) s w with | some r => φ r.2.2 | none => 0) = fun w => (match arr rows s w with | some r => φ r.2.2 | none => 0) + if w = r.2.1 then (if r.1 = s then φ r.2.2 else 0) else 0 := by
      funext w
      unfold arr
      rw [List.find?_cons]
      by_cases hk : r.key = (s, w)
      · have h1 : r.1 = s := congrArg Prod.fst hk
        have h2 : r.2.1 = w := congrArg Prod.snd hk
        have nf : rows.find? (fun r => decide (r.key = (s, w))) = none := by
          rw [List.find?_eq_none]
          intro q hq e
          exact hn.1 (hk ▸ of_decide_eq_true e ▸ List.mem_map_of_mem hq)
        simp [hk, nf, h1, h2]
      · have : ¬ (w = r.2.1 ∧ r.1 = s) := fun ⟨a, b⟩ => hk (by unfold Row.key; rw [a, b])
        by_cases h2 : w = r.2.1
        · have h3 : r.1 ≠ s := fun z => this ⟨h2, z⟩
          have h4 : decide (r.key = (s, w)) = false := decide_eq_false hk
          rw [h4]
          simp [h3]
        · simp [hk, h2]
    rw [e, sum_add, ih, sum_one nd, if_pos (hm r List.mem_cons_self), List.map_cons, List.sum_cons]
    omega
abbrev Wk := List PV × Nat
def Wk.pv (e : Wk) : PV := .tup [.lst false e.1, .int e.2]
structure Wks (p : Plan) (k : Nat) (es : List Wk) : Prop where
  len : es.length ≤ 600
  wl : ∀ e ∈ es, e.1.length = k
  sum : ∀ j, (es.map fun e => p.W j e.2).sum = p.W (j + k) 0
theorem listed_wf {p : Plan} {ws : List Str} (h : p.ok ws) (nd : ws.Nodup) (lw : ws.length ≤ 8) {n : Nat} (hn : n ≤ 4) : WF (s__law_listed [p.pv, .lst false (ws.map .str), .int n]) (fun v os => os = [] ∧ (v = .non ∨ ∃ xs, v = .lst true xs ∧ (xs.length : Int) = p.W n 0)) noE := by
  have hsl := sizeLine_eq
  unfold s__law_listed w__law_listed
  have fp : p.pv.fine = true := rfl
  push_cast [ev_fine fp, wz_fine fp, paths_eq' h, bd_nat (i := (n : Int)) (by omega) (by omega), Int.toNat_natCast]
  refine ws_range (I := fun i ρ => ∃ (o : Bool) (es : List Wk) (a b c d e f : Option PV), ρ = [some p.pv, some (.lst false (ws.map .str)), some (.int n), some (.lst o (es.map Wk.pv)), some (.dct false (p.rows.map Row.kv)), a, b, c, d, e, f] ∧ Wks p i es) ⟨true, [([], 0)], _, _, _, _, _, _, rfl, by simp, by simp, fun j => by simp⟩ ?_ ?_
  · intro i ρ hi hI
    obtain ⟨o, es, a, b, c, d, e, f, rfl, hw⟩ := hI
    have hes := hw.len
    cases o
    all_goals
      push_cast
      refine ws_for (ys := es) (enc := Wk.pv) (I := fun t ρ => ∃ (ms : List Wk) (b c d e : Option PV), ρ = [some p.pv, some (.lst false (ws.map .str)), some (.int n), some (.lst false (es.map Wk.pv)), some (.dct false (p.rows.map Row.kv)), some (.int i), some (.lst true (ms.map Wk.pv)), b, c, d, e] ∧ ms.length ≤ 8 * t ∧ (∀ m ∈ ms, m.1.length = i + 1) ∧ ∀ j, (ms.map fun e => p.W j e.2).sum = ((es.take t).map fun e => p.W (j + 1) e.2).sum) ⟨[], _, _, _, _, rfl, by simp, by simp, by simp⟩ ?_ ?_
      · intro t y ρ hy hI
        obtain ⟨ms, b, c, d, e, rfl, l1, l2, l3⟩ := hI
        have hyl := hw.wl y (List.mem_of_getElem? hy)
        have ht := get_lt hy
        push_cast [Wk.pv]
        refine ws_for (ys := ws) (enc := .str) (I := fun u ρ => ∃ (ms : List Wk) (d e : Option PV), ρ = [some p.pv, some (.lst false (ws.map .str)), some (.int n), some (.lst false (es.map Wk.pv)), some (.dct false (p.rows.map Row.kv)), some (.int i), some (.lst true (ms.map Wk.pv)), some (.lst false y.1), some (.int y.2), d, e] ∧ ms.length ≤ 8 * t + u ∧ (∀ m ∈ ms, m.1.length = i + 1) ∧ ∀ j, (ms.map fun e => p.W j e.2).sum = ((es.take t).map fun e => p.W (j + 1) e.2).sum + ((ws.take u).map fun w => match arr p.rows y.2 w with | some r => p.W j r.2.2 | none => 0).sum) ⟨ms, _, _, rfl, l1, l2, by simp [l3]⟩ ?_ ?_
        · intro u w ρ hu hI
          obtain ⟨ms, d, e, rfl, l1, l2, l3⟩ := hI
          have hul := get_lt hu
          cases ha : arr p.rows y.2 w with
          | none =>
            push_cast [dk_rows, find_rows, ha, Option.map_none, Option.getD_none]
            refine ⟨ms, _, _, rfl, by omega, l2, fun j => ?_⟩
            rw [l3, List.take_succ, hu]
            simp [ha]
          | some r =>
            push_cast [dk_rows, find_rows, ha, Option.map_some, Option.getD_some]
            refine cnd_go (by simp only [Bool.and_eq_true, decide_eq_true_eq]; omega) ?_
            push_cast
            refine cnd_go (by simp only [Bool.and_eq_true, decide_eq_true_eq]; omega) ?_
            push_cast
            refine ⟨ms ++ [(y.1 ++ [.str w], r.2.2)], some (.str w), some (.int r.2.2), by rw [List.map_append]; rfl, by rw [List.length_append, List.length_singleton]; omega, ?_, fun j => ?_⟩
            · intro m hm
              rcases List.mem_append.mp hm with hm | hm
              · exact l2 m hm
              · rw [List.mem_singleton.mp hm, List.length_append, List.length_singleton, hyl]
            · rw [List.map_append, List.sum_append, l3, List.take_succ, hu]
              simp [ha]
              omega
        · intro ρ hI
          obtain ⟨ms, d, e, rfl, l1, l2, l3⟩ := hI
          push_cast
          refine ⟨ms, _, _, _, _, rfl, by omega, l2, fun j => ?_⟩
          rw [l3, List.take_length, arr_sum nd h.nd (fun r hr => (h.row r hr).2.1), List.take_succ, hy]
          simp [Plan.W]
      · intro ρ hI
        obtain ⟨ms, b, c, d, e, rfl, l1, l2, l3⟩ := hI
        push_cast
        refine cnd_of (fun _ => ?_) (fun hc => ?_)
        · push_cast
          exact .inl trivial
        · have hc := of_decide_eq_false hc
          push_cast
          refine ⟨false, ms, _, _, _, _, _, _, rfl, by omega, l2, fun j => ?_⟩
          rw [l3, List.take_length, hw.sum]
          congr 1
          omega
  · intro ρ hI
    obtain ⟨o, es, a, b, c, d, e, f, rfl, hw⟩ := hI
    have hes := hw.len
    have hz : ∀ es : List Wk, (((es.filter fun e => decide (e.2 ∈ p.stops)).length : Nat) : Int) = (es.map fun e => p.W 0 e.2).sum := fun es => by
      induction es with
      | nil => rfl
      | cons e es ih =>
        rw [List.map_cons, List.sum_cons, ← ih]
        unfold Plan.W
        by_cases hs : e.2 ∈ p.stops
        · rw [List.filter_cons_of_pos (by simpa using hs), if_pos hs, List.length_cons]; omega
        · rw [List.filter_cons_of_neg (by simp [hs]), if_neg hs]; omega
    cases o
    all_goals
      push_cast
      refine wm_lc (ys := es) (enc := Wk.pv) (fun e => decide (e.2 ∈ p.stops)) (fun e => .lst false e.1) (by omega) ?_ ?_
      · intro e he
        unfold Plan.pv Wk.pv
        push_cast [inData_nat]
        refine cnd_of (fun _ => ?_) (fun _ => ?_)
        · push_cast
          rfl
        · push_cast
      · push_cast
        refine .inr ⟨_, rfl, ?_⟩
        rw [List.length_map, hz, hw.sum, Nat.zero_add]
end Lk05

set_option Elab.async false
set_option linter.all false
set_option autoImplicit false
set_option maxRecDepth 100000
namespace Lk05
open PySem PySem.Spec PyProof.Rows L2 Wv
local macro_rules | `(tactic| push_cast) => `(tactic| simp -dsimp only [↓wm_bind, ↓wm_ret, ↓wm_ofO, ↓wm_eK, ↓wm_eV, ↓wm_eBin, ↓wm_eBinL, ↓wm_eBinR, ↓wm_eBinB, ↓wm_eUn, ↓wm_eUnB, ↓wm_eAnd, ↓wm_eOr, ↓wm_bT, ↓wm_bV, ↓wm_bAnd, ↓wm_bOr, ↓wm_bNot, ↓wm_bYes, ↓wm_eIf, ↓wm_eChn, ↓wm_aNil, ↓wm_aCons, ↓wm_uCons, ↓wm_aStar, ↓wm_mT, ↓wm_mS, ↓wm_eTup, ↓wm_eLst, ↓wm_eDict0, ↓wm_eSl0, ↓wm_eSlL, ↓wm_eSlH, ↓wm_eSlB, ↓wm_eGet, ↓wm_eGetB, ↓wm_callR, ↓wm_eCall, ↓wm_eCallK, ↓wm_eMeth, ↓wm_eMake, ↓wm_iAny, ↓wm_iItems, ↓wm_iVals, ↓wm_iEnum, ↓wm_iRange1, ↓wm_iRange2, ↓wm_mLst, ↓wm_eLc, ↓mkq, ↓wf_ok, ↓sq_nx, ↓sq_rt, ↓sq_bk, ↓sq_ct, ↓sq_exc, ↓lq_nx, ↓lq_rt, ↓lq_bk, ↓lq_ct, ↓lq_exc, ↓rq_nx, ↓rq_rt, ↓rq_exc, ↓xq, ↓ws_sE, ↓ws_sNil, ↓ws_nx, ↓ws_bk, ↓ws_ct, ↓ws_rtv, ↓ws_sBad, ↓ws_sSeq, ↓ws_sDrop, ↓ws_sRet, ↓ws_sRetN, ↓ws_sIf, ↓ws_sAsg, ↓ov_gtN, ↓ov_gtT, ↓ov_gtCons, ↓ov_gtNil, ↓ws_sPar, ↓ov_setAll, ↓ov_setNil, ↓ws_sFor, ↓ws_sStA, ↓ws_sAugN, ↓ws_sAugI, ↓ws_sFldS, ↓wf_runF, ↓wo_add, ↓wo_addS, ↓wo_addL, ↓wo_addT, ↓wo_sub, ↓wo_neg, ↓wo_times, ↓wo_timesL, ↓wo_timesT, ↓wo_mod, ↓wo_div, ↓wo_eqI, ↓wo_neI, ↓wo_ltI, ↓wo_leI, ↓wo_gtI, ↓wo_geI, ↓wo_is, ↓wo_isNot, ↓wo_max, ↓wo_min, ↓wo_abs, ↓wo_intI, ↓wo_intB, ↓wo_lenL, ↓wo_lenT, ↓wo_lenS, ↓wo_not, ↓wo_idxL, ↓wo_idxT, ↓wo_idxD, ↓wo_slcL, ↓wo_slcT, ↓wo_slcS, ↓wo_revL, ↓wo_revS, ↓wo_tupL, ↓wo_tupT, ↓wo_lstL, ↓wo_lstT, ↓wo_sum, ↓wo_all, ↓wo_any, ↓wo_sortL, ↓wo_sortT, ↓wo_get, ↓wo_inD, ↓wo_notInD, ↓wo_inS, ↓wo_inLI, ↓wo_inTI, ↓wo_inLS, ↓wo_inTS, ↓wo_notInLS, ↓wo_fld, ↓wo_isB, ↓wo_isO, ↓wz_int, ↓wz_bl, ↓wz_str, ↓wz_non, ↓wz_tup, ↓wz_lst, ↓wz_dct, ↓wz_objF, ↓ov_rng, ↓ov_app, ↓ov_ins, ↓ov_ext, ↓ov_setL, ↓ov_setD, ↓ov_setF, ↓oa_nil, ↓oa_f, ↓oa_t, ↓oa_s, nrm, gv_some, gl_lst, ov_some, cnd_t, cnd_f, ev_int', ev_bl, ev_str, ev_non, ev_tup, ev_lstF, ev_dctF, ev_objF, ev_lstT, ev_dctT, isB_non, isB_bl, isB_int, isB_str, isB_tup, isB_lst, isB_dct, cm_int, cm_bl, cm_str, cm_non, cm_tup, cm_lst, cm_dct, cm_objF, tr_bl, tr_non, tr_int, bo_bl, it_lst, it_tup, it_dct, it_str, dp_dct, dv_dct, en_lst, en_tup, sq_tup, sq_lst, toI_int, isdct, nn_non, nn_int, nn_lst, nn_tup, nn_str, nn_bl, at_0, at_1, at_2, isobj, fldof, List.getElem?_cons_zero, List.getElem?_cons_succ, List.set_cons_zero, List.set_cons_succ, List.length_cons, List.length_nil, List.cons_append, List.nil_append, Nat.reduceAdd, Nat.zero_add, Nat.reduceLT, Nat.reduceLeDiff, Nat.reduceEqDiff, decide_true, decide_false, Bool.not_true, Bool.not_false, putB, slotOf, outsOf, outAt, List.map_cons, List.map_nil, List.length_map, startS, List.replicate, Nat.reduceSub, Nat.sub_self, List.append_nil, ↓reduceIte, wipS, lenOk, ix_0, ix_1, ix_2, ix_3, Int.reduceLT, Int.reduceLE, Int.reduceAdd, Int.reduceNeg, Int.reduceMul, Int.reduceSub, Bool.or_true, Bool.true_or, Bool.or_false, Bool.false_or, Bool.and_true, Bool.true_and, Bool.and_false, Bool.false_and, reduceCtorEq, eq_self, and_self, and_true, true_and, Int.cast_ofNat_Int, Int.reduceEq, Int.reduceNe])
local macro_rules | `(tactic| push_cast [$a,*]) => `(tactic| simp -dsimp only [↓wm_bind, ↓wm_ret, ↓wm_ofO, ↓wm_eK, ↓wm_eV, ↓wm_eBin, ↓wm_eBinL, ↓wm_eBinR, ↓wm_eBinB, ↓wm_eUn, ↓wm_eUnB, ↓wm_eAnd, ↓wm_eOr, ↓wm_bT, ↓wm_bV, ↓wm_bAnd, ↓wm_bOr, ↓wm_bNot, ↓wm_bYes, ↓wm_eIf, ↓wm_eChn, ↓wm_aNil, ↓wm_aCons, ↓wm_uCons, ↓wm_aStar, ↓wm_mT, ↓wm_mS, ↓wm_eTup, ↓wm_eLst, ↓wm_eDict0, ↓wm_eSl0, ↓wm_eSlL, ↓wm_eSlH, ↓wm_eSlB, ↓wm_eGet, ↓wm_eGetB, ↓wm_callR, ↓wm_eCall, ↓wm_eCallK, ↓wm_eMeth, ↓wm_eMake, ↓wm_iAny, ↓wm_iItems, ↓wm_iVals, ↓wm_iEnum, ↓wm_iRange1, ↓wm_iRange2, ↓wm_mLst, ↓wm_eLc, ↓mkq, ↓wf_ok, ↓sq_nx, ↓sq_rt, ↓sq_bk, ↓sq_ct, ↓sq_exc, ↓lq_nx, ↓lq_rt, ↓lq_bk, ↓lq_ct, ↓lq_exc, ↓rq_nx, ↓rq_rt, ↓rq_exc, ↓xq, ↓ws_sE, ↓ws_sNil, ↓ws_nx, ↓ws_bk, ↓ws_ct, ↓ws_rtv, ↓ws_sBad, ↓ws_sSeq, ↓ws_sDrop, ↓ws_sRet, ↓ws_sRetN, ↓ws_sIf, ↓ws_sAsg, ↓ov_gtN, ↓ov_gtT, ↓ov_gtCons, ↓ov_gtNil, ↓ws_sPar, ↓ov_setAll, ↓ov_setNil, ↓ws_sFor, ↓ws_sStA, ↓ws_sAugN, ↓ws_sAugI, ↓ws_sFldS, ↓wf_runF, ↓wo_add, ↓wo_addS, ↓wo_addL, ↓wo_addT, ↓wo_sub, ↓wo_neg, ↓wo_times, ↓wo_timesL, ↓wo_timesT, ↓wo_mod, ↓wo_div, ↓wo_eqI, ↓wo_neI, ↓wo_ltI, ↓wo_leI, ↓wo_gtI, ↓wo_geI, ↓wo_is, ↓wo_isNot, ↓wo_max, ↓wo_min, ↓wo_abs, ↓wo_intI, ↓wo_intB, ↓wo_lenL, ↓wo_lenT, ↓wo_lenS, ↓wo_not, ↓wo_idxL, ↓wo_idxT, ↓wo_idxD, ↓wo_slcL, ↓wo_slcT, ↓wo_slcS, ↓wo_revL, ↓wo_revS, ↓wo_tupL, ↓wo_tupT, ↓wo_lstL, ↓wo_lstT, ↓wo_sum, ↓wo_all, ↓wo_any, ↓wo_sortL, ↓wo_sortT, ↓wo_get, ↓wo_inD, ↓wo_notInD, ↓wo_inS, ↓wo_inLI, ↓wo_inTI, ↓wo_inLS, ↓wo_inTS, ↓wo_notInLS, ↓wo_fld, ↓wo_isB, ↓wo_isO, ↓wz_int, ↓wz_bl, ↓wz_str, ↓wz_non, ↓wz_tup, ↓wz_lst, ↓wz_dct, ↓wz_objF, ↓ov_rng, ↓ov_app, ↓ov_ins, ↓ov_ext, ↓ov_setL, ↓ov_setD, ↓ov_setF, ↓oa_nil, ↓oa_f, ↓oa_t, ↓oa_s, nrm, gv_some, gl_lst, ov_some, cnd_t, cnd_f, ev_int', ev_bl, ev_str, ev_non, ev_tup, ev_lstF, ev_dctF, ev_objF, ev_lstT, ev_dctT, isB_non, isB_bl, isB_int, isB_str, isB_tup, isB_lst, isB_dct, cm_int, cm_bl, cm_str, cm_non, cm_tup, cm_lst, cm_dct, cm_objF, tr_bl, tr_non, tr_int, bo_bl, it_lst, it_tup, it_dct, it_str, dp_dct, dv_dct, en_lst, en_tup, sq_tup, sq_lst, toI_int, isdct, nn_non, nn_int, nn_lst, nn_tup, nn_str, nn_bl, at_0, at_1, at_2, isobj, fldof, List.getElem?_cons_zero, List.getElem?_cons_succ, List.set_cons_zero, List.set_cons_succ, List.length_cons, List.length_nil, List.cons_append, List.nil_append, Nat.reduceAdd, Nat.zero_add, Nat.reduceLT, Nat.reduceLeDiff, Nat.reduceEqDiff, decide_true, decide_false, Bool.not_true, Bool.not_false, putB, slotOf, outsOf, outAt, List.map_cons, List.map_nil, List.length_map, startS, List.replicate, Nat.reduceSub, Nat.sub_self, List.append_nil, ↓reduceIte, wipS, lenOk, ix_0, ix_1, ix_2, ix_3, Int.reduceLT, Int.reduceLE, Int.reduceAdd, Int.reduceNeg, Int.reduceMul, Int.reduceSub, Bool.or_true, Bool.true_or, Bool.or_false, Bool.false_or, Bool.and_true, Bool.true_and, Bool.and_false, Bool.false_and, reduceCtorEq, eq_self, and_self, and_true, true_and, Int.cast_ofNat_Int, Int.reduceEq, Int.reduceNe, $a,*])
theorem sum_bd {α : Type} {f : α → Int} {b : Int} : ∀ {l : List α}, (∀ x ∈ l, 0 ≤ f x ∧ f x ≤ b) → 0 ≤ (l.map f).sum ∧ (l.map f).sum ≤ l.length * b
  | [], _ => by simp
  | x :: l, h => by
    obtain ⟨a, c⟩ := sum_bd fun y hy => h y (List.mem_cons_of_mem _ hy)
    obtain ⟨d, e⟩ := h x List.mem_cons_self
    simp only [List.map_cons, List.sum_cons, List.length_cons]
    have : ((l.length + 1 : Nat) : Int) * b = l.length * b + b := by rw [Int.natCast_add, Int.add_mul]; simp
    rw [this]
    omega
theorem W_bd {p : Plan} {ws : List Str} (h : p.ok ws) : ∀ k s, 0 ≤ p.W k s ∧ p.W k s ≤ 40 ^ k
  | 0, s => by unfold Plan.W; split <;> simp
  | k + 1, s => by
    have hl := h.len
    unfold Plan.W
    obtain ⟨a, b⟩ := sum_bd (l := p.rows) (f := fun r => if r.1 = s then p.W k r.2.2 else 0) (b := 40 ^ k) fun r _ => by
      obtain ⟨c, d⟩ := W_bd h k r.2.2
      by_cases e : r.1 = s
      · simp only [e, if_true]; exact ⟨c, d⟩
      · simp only [e, if_false]; omega
    refine ⟨a, Int.le_trans b ?_⟩
    rw [Int.pow_succ, Int.mul_comm]
    exact Int.mul_le_mul_of_nonneg_left (by omega) (Int.pow_nonneg (by decide))
theorem W_log {p : Plan} {ws : List Str} (h : p.ok ws) {k s : Nat} (hk : k ≤ 200) : (p.W k s).natAbs.log2 < 1920 := by
  obtain ⟨a, b⟩ := W_bd h k s
  have c : p.W k s ≤ 40 ^ 200 := Int.le_trans b (by
    have := Nat.pow_le_pow_right (n := 40) (by decide) hk
    exact_mod_cast this)
  have d : (p.W k s).natAbs < 2 ^ 1920 := by
    have : (40 : Int) ^ 200 < 2 ^ 1920 := by decide +kernel
    omega
  by_cases z : (p.W k s).natAbs = 0
  · rw [z]; decide
  · exact (Nat.log2_lt z).mpr d
theorem right_wf {sp : PV} (h0 : Spr 0 sp) : WF (s__law_right [sp]) (fun v os => v = .bl true ∧ ∃ o, os = [o]) noE := by
  unfold s__law_right w__law_right
  push_cast [h0.cm]
  refine wf_mono (of_wf h0 (by omega) (by simp) (by simp) (fun d hd => by simp at hd; rcases hd with rfl | rfl | rfl | rfl | rfl <;> rfl)) ?_
  rintro d _ ⟨sp, hd, rfl, h1⟩
  obtain ⟨m, rfl, m1, m8⟩ : ∃ m : Nat, d = .int (m : Int) ∧ 1 ≤ m ∧ m ≤ 8 := by
    simp at hd
    rcases hd with rfl | rfl | rfl | rfl | rfl
    · exact ⟨1, rfl, by decide, by decide⟩
    · exact ⟨2, rfl, by decide, by decide⟩
    · exact ⟨3, rfl, by decide, by decide⟩
    · exact ⟨5, rfl, by decide, by decide⟩
    · exact ⟨8, rfl, by decide, by decide⟩
  push_cast [h1.cm]
  refine wf_mono (signs_wf h1 (by omega) m1 (by omega)) ?_
  rintro _ _ ⟨ws, sp, rfl, rfl, h2, _, nd, gw, lw⟩
  push_cast [h2.cm]
  refine wf_mono (plan_wf h2 (by omega) nd (by omega)) ?_
  rintro _ _ ⟨p, sp, rfl, rfl, h3, hp⟩
  have hm1 := hp.m1
  have fp : p.pv.fine = true := rfl
  have ep : p.pv = .tup [.int p.many, .tup (p.rows.map Row.pv), .tup (p.stops.map fun (i : Nat) => .int (i : Int))] := rfl
  have iq := init_eq hp gw
  have sq := summed_eq hp
  rw [ep] at sq
  rw [ep]
  push_cast [iq, sq]
  push_cast [h3.cm]
  refine wf_mono (roll_wf (h3.up (m := 2000) (by omega)) (by omega) (by decide) (by decide)) ?_
  rintro _ _ ⟨r, sp, rfl, rfl, h4, hr⟩
  push_cast [h4.cm]
  refine wf_mono (roll_wf h4 (by omega) (by decide) (by decide)) ?_
  rintro _ _ ⟨r', sp, rfl, rfl, h5, hr'⟩
  push_cast
  have fo : p.obj.fine = true := rfl
  have eo : ∀ {ρ : Sl} {Q : PV → Sl → Prop}, EV (some (some p.objT)) 3 ρ Q = NRM (ρ.set 3 (some p.obj)) (fun ρ' => Q p.obj ρ') := ev_own rfl rfl
  have ed : p.due = fun k => p.W k 0 := funext fun k => due_eq hp k
  have pk : ∀ x y : PV, pick [1, 0] [x, y] = [y, x] := fun _ _ => rfl
  have rp : ∀ x : Int, (List.replicate (2 : Int).toNat [PV.int x]).flatten = [.int x, .int x] := fun _ => rfl
  rw [show [PV.int 200, PV.int 0, PV.int 3, PV.int r, PV.int 1, PV.int 4, PV.int 2, PV.int r', PV.int 199] = ([200, 0, 3, r, 1, 4, 2, r', 199] : List Nat).map (fun (k : Nat) => PV.int (k : Int)) from rfl]
  refine ws_for (enc := fun (k : Nat) => PV.int (k : Int)) (I := fun i ρ => ∃ (o : PV) (a b c : Option PV), ρ = [some sp, some (.lst false (ws.map .str)), some p.pv, some o, some (.lst false ((List.range 201).map fun k => .int (p.due k))), a, b, c] ∧ (o = p.objT ∨ o = p.obj)) ⟨_, _, _, _, rfl, .inl rfl⟩ ?_ ?_
  · intro i k ρ hk hI
    obtain ⟨o, a, b, c, rfl, ho⟩ := hI
    have hk2 : k ≤ 200 := by
      have := List.mem_of_getElem? hk
      simp at this
      omega
    have at1 : atI ((List.range 201).map fun k => PV.int (p.due k)) (k : Int) = some (.int (p.W k 0)) := by
      rw [ed]
      exact at_range (f := fun k => p.W k 0) (by omega)
    have rq : ∀ {o : Bool}, opRepr (.lst o [.int (p.W k 0), .int (p.W k 0)]) = M.ret (.str (PyData.shown (.list [.int (p.W k 0), .int (p.W k 0)]))) := repr_ints (f := fun x => x) (xs := [p.W k 0, p.W k 0]) (fun x hx => by simp at hx; rw [hx]; exact W_log hp hk2) (by simp)
    have cq := count_eq hp hk2
    rcases ho with rfl | rfl
    all_goals
      push_cast [eo, ev_fine fo, wz_fine fo, cq, pk, at1, rq]
      refine cnd_go (by decide) ?_
      push_cast [rp, rq, Wv.ne_str, beq_self_eq_true]
      refine cnd_of (fun hk5 => ?_) (fun _ => ?_)
      · have hk5 := of_decide_eq_true hk5
        push_cast [ev_fine fp, wz_fine fp]
        refine wf_mono (listed_wf hp nd (by omega) (n := k) (by omega)) ?_
        rintro v _ ⟨rfl, rfl | ⟨xs, rfl, hx⟩⟩
        · push_cast
          exact ⟨_, _, _, _, rfl, .inr rfl⟩
        · push_cast [at1, hx]
          exact ⟨_, _, _, _, rfl, .inr rfl⟩
      · push_cast
        exact ⟨_, _, _, _, rfl, .inr rfl⟩
  · intro ρ hI
    obtain ⟨o, a, b, c, rfl, ho⟩ := hI
    push_cast [h5.cm]
    exact ⟨_, rfl⟩
theorem spring_eq {ns : List Int} {i : Nat} (hi : i < 64) : WF (s__law_spring [.lst false (ns.map .int), .int i]) (fun v os => os = [] ∧ Spr 0 v) noE := by
  have p37 : opPow (.int 10) (.int 37) = M.ret (.int 10000000000000000000000000000000000000) := rfl
  have p18 : opPow (.int 10) (.int 18) = M.ret (.int 1000000000000000000) := rfl
  have tl : ∀ {x y : Int}, y.natAbs < 18446744073709551616 → mulOk x y = true := fun h => by unfold mulOk; simp [h]
  unfold s__law_spring w__law_spring
  push_cast
  refine cnd_of (fun hl => ?_) (fun _ => ?_)
  · have hl := of_decide_eq_true hl
    have e : atI (ns.map PV.int) (i : Int) = some (.int (ns[i]'(by omega))) := by
      rw [at_nat, List.getElem?_map, List.getElem?_eq_getElem (by omega)]
      rfl
    push_cast [e, tl (x := ns[i]'(by omega)) (y := 7368787) (by decide), tl (x := (i : Int)) (y := 32452867) (by decide), p37, p18]
    exact ⟨_, _, _, rfl, Int.emod_nonneg _ (by decide), Int.lt_of_lt_of_le (Int.emod_lt_of_pos _ (by decide)) (by decide +kernel), by decide, by decide⟩
  · push_cast [tl (x := 0) (y := 7368787) (by decide), tl (x := (i : Int)) (y := 32452867) (by decide), p37, p18]
    exact ⟨_, _, _, rfl, Int.emod_nonneg _ (by decide), Int.lt_of_lt_of_le (Int.emod_lt_of_pos _ (by decide)) (by decide +kernel), by decide, by decide⟩
theorem plain (ns : List Int) (hn : ns.length ≤ 63) : s_law [.lst false (ns.map .int)] = .ok (.bl true) [] := by
  apply wf_eq
  unfold s_law w_law
  push_cast
  rw [List.length_map]
  generalize ht : (if (if (ns.length : Int) < 10 then (ns.length : Int) else 10) > 1 then (if (ns.length : Int) < 10 then (ns.length : Int) else 10) else 1) = t
  have h1 : 1 ≤ t ∧ t ≤ 10 := by rw [← ht]; split <;> (try split) <;> omega
  refine cnd_go (bd_nat (by omega) (by omega)) ?_
  refine ws_range (I := fun i ρ => ∃ a : Option PV, ρ = [some (.lst false (ns.map .int)), a]) ⟨_, rfl⟩ ?_ ?_
  · intro i ρ hi hI
    obtain ⟨a, rfl⟩ := hI
    push_cast
    refine wf_mono (spring_eq (i := i) (by omega)) ?_
    rintro v _ ⟨rfl, hs⟩
    push_cast [hs.cm]
    refine wf_mono (right_wf hs) ?_
    rintro _ _ ⟨rfl, o, rfl⟩
    push_cast
    exact ⟨_, rfl⟩
  · intro ρ hI
    obtain ⟨a, rfl⟩ := hI
    push_cast
end Lk05

set_option Elab.async false
set_option linter.all false
set_option autoImplicit false
set_option maxRecDepth 100000
/-! WwD: what the head is asked of classes. -/
namespace Wv
open PySem PySem.Spec PyProof.Rows L2
def allBt : List Bt := [.int, .bool, .str, .tuple, .list, .dict]
theorem mem_allBt (T : Bt) : T ∈ allBt := by cases T <;> simp [allBt]
def own1B (K : PySem.W.Frag) (C : Str) : Bool := (He.Fa.cls C).ok K && (He.eqO (PySem.W.findIn K (.ref (He.ga K C)) "__class__") (some (some (.builtin "object.__class__"))) && (He.eqO (PySem.W.specialIn K (.builtin "object.__class__") "__get__") (some (some (.builtin "getset_descriptor.__get__")))
  && (decide (PySem.W.takesIn K (.builtin "object.__class__") = some true) && (decide (PySem.W.mroIn K (He.ga K C) (.type "object") = some true) && allBt.all fun T => decide (PySem.W.kitOne K (.ref (He.ga K C)) (.type T.nm) = some false)))))
theorem own1B_ok {K : PySem.W.Frag} {C : Str} (h : own1B K C = true) : Own1 K C := by
  unfold own1B at h
  simp only [Bool.and_eq_true] at h
  obtain ⟨h1, h2, h3, h4, h5, h6⟩ := h
  exact ⟨He.cls_ok h1, He.eqO_ok h2, He.eqO_ok h3, of_decide_eq_true h4, of_decide_eq_true h5, fun T => of_decide_eq_true (List.all_eq_true.mp h6 T (mem_allBt T))⟩
def ask1B (K : PySem.W.Frag) (cs : List Str) (C : Str) : Bool := decide (PySem.W.kitOne K (.type "NoneType") (.ref (He.ga K C)) = some false) && ((allBt.all fun T => decide (PySem.W.kitOne K (.type T.nm) (.ref (He.ga K C)) = some false)) && cs.all fun D => decide (PySem.W.kitOne K (.ref (He.ga K D)) (.ref (He.ga K C)) = some (decide (D = C))))
theorem ask1B_ok {K : PySem.W.Frag} {cs : List Str} {C : Str} (h : ask1B K cs C = true) : Ask1 K cs C := by
  unfold ask1B at h
  simp only [Bool.and_eq_true] at h
  obtain ⟨h1, h2, h3⟩ := h
  exact ⟨of_decide_eq_true h1, fun T => of_decide_eq_true (List.all_eq_true.mp h2 T (mem_allBt T)), fun D hD => of_decide_eq_true (List.all_eq_true.mp h3 D hD)⟩
def exB (cs : List Str) (K : PySem.W.Frag) : Bool := cs.all (own1B K) && cs.all (ask1B K cs)
theorem exB_own {cs : List Str} {K : PySem.W.Frag} (h : exB cs K = true) : ∀ C ∈ cs, Own1 K C := fun C hC => own1B_ok (List.all_eq_true.mp (Bool.and_eq_true_iff.mp h).1 C hC)
theorem exB_ask {cs : List Str} {K : PySem.W.Frag} (h : exB cs K = true) : ∀ C ∈ cs, Ask1 K cs C := fun C hC => ask1B_ok (List.all_eq_true.mp (Bool.and_eq_true_iff.mp h).2 C hC)
theorem funD_same {K : PySem.W.Frag} {x qual : Str} {params : Arguments} {body : List Stmt} {scope : Scope} {dvs : List V} {kws : List (Str × V)} {f : Addr} {fd fd2 : FuncData} (F : FunD K x qual params body scope dvs kws f fd) (F2 : FunD K x qual params body scope dvs kws f fd2) : fd = fd2 := by
  obtain ⟨oc, od, dV, kV, doc, pm, an, cdv, ct, osl, e, lk, _⟩ := F.ex
  obtain ⟨oc', od', dV', kV', doc', pm', an', cdv', ct', osl', e', lk', _⟩ := F2.ex
  have h := lk.symm.trans lk'
  injection h with h
  injection h with h1 h2 h3 h4
  injection h3
end Wv

set_option Elab.async false
set_option linter.all false
set_option autoImplicit false
set_option maxRecDepth 100000
set_option maxHeartbeats 0
namespace Lk05
open PySem PySem.Spec PyProof.Rows L2 Wv
def h__law_spring : He.DefD := ⟨("_law_spring", none), "_law_spring", "_law_spring", defArgs (top 28), defBody (top 28), defScope (top 28), [], []⟩
def h__law_roll : He.DefD := ⟨("_law_roll", none), "_law_roll", "_law_roll", defArgs (top 29), defBody (top 29), defScope (top 29), [], []⟩
def h__law_of : He.DefD := ⟨("_law_of", none), "_law_of", "_law_of", defArgs (top 30), defBody (top 30), defScope (top 30), [], []⟩
def h__law_word : He.DefD := ⟨("_law_word", none), "_law_word", "_law_word", defArgs (top 31), defBody (top 31), defScope (top 31), [], []⟩
def h__law_signs : He.DefD := ⟨("_law_signs", none), "_law_signs", "_law_signs", defArgs (top 32), defBody (top 32), defScope (top 32), [], []⟩
def h__law_plan : He.DefD := ⟨("_law_plan", none), "_law_plan", "_law_plan", defArgs (top 33), defBody (top 33), defScope (top 33), [], []⟩
def h_is_whole : He.DefD := ⟨("is_whole", none), "is_whole", "is_whole", defArgs (top 11), defBody (top 11), defScope (top 11), [], []⟩
def h_is_state : He.DefD := ⟨("is_state", none), "is_state", "is_state", defArgs (top 22), defBody (top 22), defScope (top 22), [], []⟩
def h_is_word : He.DefD := ⟨("is_word", none), "is_word", "is_word", defArgs (top 12), defBody (top 12), defScope (top 12), [], []⟩
def h_is_arrow : He.DefD := ⟨("is_arrow", none), "is_arrow", "is_arrow", defArgs (top 23), defBody (top 23), defScope (top 23), [], []⟩
def h_paths_of : He.DefD := ⟨("paths_of", none), "paths_of", "paths_of", defArgs (top 24), defBody (top 24), defScope (top 24), [], []⟩
def h_check_ends : He.DefD := ⟨("check_ends", none), "check_ends", "check_ends", defArgs (top 25), defBody (top 25), defScope (top 25), [], []⟩
def h_Machine___init__ : He.DefD := ⟨("Machine", some "__init__"), "__init__", "Machine.__init__", defArgs (meth 26 0), defBody (meth 26 0), defScope (meth 26 0), [.adr (He.dflAt ("Machine", some "__init__") 0), .adr (He.dflAt ("Machine", some "__init__") 1)], []⟩
def h__law_summed : He.DefD := ⟨("_law_summed", none), "_law_summed", "_law_summed", defArgs (top 36), defBody (top 36), defScope (top 36), [], []⟩
def h_check_length : He.DefD := ⟨("check_length", none), "check_length", "check_length", defArgs (top 16), defBody (top 16), defScope (top 16), [], []⟩
def h_Machine_size : He.DefD := ⟨("Machine", some "size"), "size", "Machine.size", defArgs (meth 26 2), defBody (meth 26 2), defScope (meth 26 2), [], []⟩
def h_Machine_ends : He.DefD := ⟨("Machine", some "ends"), "ends", "Machine.ends", defArgs (meth 26 4), defBody (meth 26 4), defScope (meth 26 4), [], []⟩
def h_Machine_arrows : He.DefD := ⟨("Machine", some "arrows"), "arrows", "Machine.arrows", defArgs (meth 26 3), defBody (meth 26 3), defScope (meth 26 3), [], []⟩
def h_ways_to_ends : He.DefD := ⟨("ways_to_ends", none), "ways_to_ends", "ways_to_ends", defArgs (top 17), defBody (top 17), defScope (top 17), [], []⟩
def h_rows_count : He.DefD := ⟨("rows_count", none), "rows_count", "rows_count", defArgs (top 18), defBody (top 18), defScope (top 18), [], []⟩
def h__law_paths : He.DefD := ⟨("_law_paths", none), "_law_paths", "_law_paths", defArgs (top 34), defBody (top 34), defScope (top 34), [], []⟩
def h__law_listed : He.DefD := ⟨("_law_listed", none), "_law_listed", "_law_listed", defArgs (top 35), defBody (top 35), defScope (top 35), [], []⟩
def h__law_right : He.DefD := ⟨("_law_right", none), "_law_right", "_law_right", defArgs (top 37), defBody (top 37), defScope (top 37), [], []⟩
def h_law : He.DefD := ⟨("law", none), "law", "law", defArgs (top 38), defBody (top 38), defScope (top 38), [], []⟩
def fn : List He.DefD := [h__law_spring, h__law_roll, h__law_of, h__law_word, h__law_signs, h__law_plan, h_is_whole, h_is_state, h_is_word, h_is_arrow, h_paths_of, h_check_ends, h_Machine___init__, h__law_summed, h_check_length, h_Machine_size, h_Machine_ends, h_Machine_arrows, h_ways_to_ends, h_rows_count, h__law_paths, h__law_listed, h__law_right, h_law]
def fa : List He.Fa := [.free "abs", .free "all", .free "bool", .free "enumerate", .free "int", .free "isinstance", .free "len", .free "max", .free "min", .free "range", .free "repr", .free "set", .free "sorted", .free "str", .free "sum", .free "tuple", .str "LETTERS" "abcdefghijklmnopqrstuvwxyz", .int "MOST_LETTERS" 8, .int "MOST_LENGTH" 200, .int "MOST_STATES" 5, .int "MOST_ARROWS" 40, .glo "Machine", .cls "Machine", .mkr "Machine", .noat "Machine" "finals", .noat "Machine" "paths", .noat "Machine" "states", .meth "Machine" "arrows", .meth "Machine" "ends", .meth "Machine" "size", .glo "_law_spring", .glo "_law_roll", .glo "_law_of", .glo "_law_word", .glo "_law_signs", .glo "_law_plan", .glo "is_whole", .glo "is_state", .glo "is_word", .glo "is_arrow", .glo "paths_of", .glo "check_ends", .glo "_law_summed", .glo "check_length", .glo "ways_to_ends", .glo "rows_count", .glo "_law_paths", .glo "_law_listed", .glo "_law_right", .glo "law"]
abbrev R : PySem.W.OpenRow := PySem.W.OpenLaw.row PySem.Challenge.rw_whoselines_k05_rows_counted
abbrev hk : PySem.W.Hook := He.hookX 6 fa fn [] [] (exB clss)
def ob (s : PySem.W.SharedT) : He.AlX := He.obsX 6 fa fn [] [] (exB clss) (HandSHeadRun.getT s)
theorem ob_eq (s : PySem.W.SharedT) : ob s = hk.obs s.abs := He.obsX_eq (HandSHeadRun.getT_eq s)
def loose : List Str := (["_wall", "LineError", "NoSize", "NoEnds", "NoLength", "NoArrow", "NoRow", "LETTERS", "MOST_LETTERS", "is_whole", "is_word", "check_row", "MOST_LENGTH", "check_length", "ways_to_ends"] : List Str) ++ (["rows_count", "MOST_STATES", "MOST_ARROWS", "is_state", "is_arrow", "paths_of", "check_ends", "Machine", "_law_spring", "_law_roll", "_law_of", "_law_word", "_law_signs", "_law_plan", "_law_paths"] : List Str) ++ (["_law_listed", "_law_summed", "_law_right"] : List Str)
theorem run (w : World) : HandSHeadRun.RunEq R (PySem.W.view R.prog [38]) hk ob 20000 loose w := by
  intro os
  kernel_rfl
theorem cd_of {K : PySem.W.Frag} {h : Heap} {mg : Str → Option Value} {w : World} (X : K.In h) (G : h.Ns mainGlobals mg) (S : He.SaysX fa fn [] [] (exB clss) w h K) : Cd K mg where
  f_abs := He.free_ok X G (S.t.d.fact 0 (f := .free "abs") rfl)
  f_all := He.free_ok X G (S.t.d.fact 1 (f := .free "all") rfl)
  f_bool := He.free_ok X G (S.t.d.fact 2 (f := .free "bool") rfl)
  f_enumerate := He.free_ok X G (S.t.d.fact 3 (f := .free "enumerate") rfl)
  f_int := He.free_ok X G (S.t.d.fact 4 (f := .free "int") rfl)
  f_isinstance := He.free_ok X G (S.t.d.fact 5 (f := .free "isinstance") rfl)
  f_len := He.free_ok X G (S.t.d.fact 6 (f := .free "len") rfl)
  f_max := He.free_ok X G (S.t.d.fact 7 (f := .free "max") rfl)
  f_min := He.free_ok X G (S.t.d.fact 8 (f := .free "min") rfl)
  f_range := He.free_ok X G (S.t.d.fact 9 (f := .free "range") rfl)
  f_repr := He.free_ok X G (S.t.d.fact 10 (f := .free "repr") rfl)
  f_set := He.free_ok X G (S.t.d.fact 11 (f := .free "set") rfl)
  f_sorted := He.free_ok X G (S.t.d.fact 12 (f := .free "sorted") rfl)
  f_str := He.free_ok X G (S.t.d.fact 13 (f := .free "str") rfl)
  f_sum := He.free_ok X G (S.t.d.fact 14 (f := .free "sum") rfl)
  f_tuple := He.free_ok X G (S.t.d.fact 15 (f := .free "tuple") rfl)
  c_LETTERS := He.str_ok X G (S.t.d.fact 16 (f := .str "LETTERS" "abcdefghijklmnopqrstuvwxyz") rfl)
  c_MOST_LETTERS := He.int_ok X G (S.t.d.fact 17 (f := .int "MOST_LETTERS" 8) rfl)
  c_MOST_LENGTH := He.int_ok X G (S.t.d.fact 18 (f := .int "MOST_LENGTH" 200) rfl)
  c_MOST_STATES := He.int_ok X G (S.t.d.fact 19 (f := .int "MOST_STATES" 5) rfl)
  c_MOST_ARROWS := He.int_ok X G (S.t.d.fact 20 (f := .int "MOST_ARROWS" 40) rfl)
  g_Machine := He.glo_ok X G (S.t.d.fact 21 (f := .glo "Machine") rfl)
  cl_Machine := He.cls_ok (S.t.d.fact 22 (f := .cls "Machine") rfl)
  mk_Machine := He.mkr_ok (S.t.d.fact 23 (f := .mkr "Machine") rfl)
  ask_Machine := exB_ask S.more "Machine" (by simp [clss])
  own := exB_own S.more
  na_Machine_finals := He.noat_ok (S.t.d.fact 24 (f := .noat "Machine" "finals") rfl)
  na_Machine_paths := He.noat_ok (S.t.d.fact 25 (f := .noat "Machine" "paths") rfl)
  na_Machine_states := He.noat_ok (S.t.d.fact 26 (f := .noat "Machine" "states") rfl)
  me_Machine_arrows := He.meth_ok (S.t.d.fact 27 (f := .meth "Machine" "arrows") rfl)
  me_Machine_ends := He.meth_ok (S.t.d.fact 28 (f := .meth "Machine" "ends") rfl)
  me_Machine_size := He.meth_ok (S.t.d.fact 29 (f := .meth "Machine" "size") rfl)
  g__law_spring := He.glo_ok X G (S.t.d.fact 30 (f := .glo "_law_spring") rfl)
  d__law_spring := S.t.d.defs (d := h__law_spring) (by simp [fn])
  g__law_roll := He.glo_ok X G (S.t.d.fact 31 (f := .glo "_law_roll") rfl)
  d__law_roll := S.t.d.defs (d := h__law_roll) (by simp [fn])
  g__law_of := He.glo_ok X G (S.t.d.fact 32 (f := .glo "_law_of") rfl)
  d__law_of := S.t.d.defs (d := h__law_of) (by simp [fn])
  g__law_word := He.glo_ok X G (S.t.d.fact 33 (f := .glo "_law_word") rfl)
  d__law_word := S.t.d.defs (d := h__law_word) (by simp [fn])
  g__law_signs := He.glo_ok X G (S.t.d.fact 34 (f := .glo "_law_signs") rfl)
  d__law_signs := S.t.d.defs (d := h__law_signs) (by simp [fn])
  g__law_plan := He.glo_ok X G (S.t.d.fact 35 (f := .glo "_law_plan") rfl)
  d__law_plan := S.t.d.defs (d := h__law_plan) (by simp [fn])
  g_is_whole := He.glo_ok X G (S.t.d.fact 36 (f := .glo "is_whole") rfl)
  d_is_whole := S.t.d.defs (d := h_is_whole) (by simp [fn])
  g_is_state := He.glo_ok X G (S.t.d.fact 37 (f := .glo "is_state") rfl)
  d_is_state := S.t.d.defs (d := h_is_state) (by simp [fn])
  g_is_word := He.glo_ok X G (S.t.d.fact 38 (f := .glo "is_word") rfl)
  d_is_word := S.t.d.defs (d := h_is_word) (by simp [fn])
  g_is_arrow := He.glo_ok X G (S.t.d.fact 39 (f := .glo "is_arrow") rfl)
  d_is_arrow := S.t.d.defs (d := h_is_arrow) (by simp [fn])
  g_paths_of := He.glo_ok X G (S.t.d.fact 40 (f := .glo "paths_of") rfl)
  d_paths_of := S.t.d.defs (d := h_paths_of) (by simp [fn])
  g_check_ends := He.glo_ok X G (S.t.d.fact 41 (f := .glo "check_ends") rfl)
  d_check_ends := S.t.d.defs (d := h_check_ends) (by simp [fn])
  d_Machine___init__ := S.t.d.defs (d := h_Machine___init__) (by simp [fn])
  g__law_summed := He.glo_ok X G (S.t.d.fact 42 (f := .glo "_law_summed") rfl)
  d__law_summed := S.t.d.defs (d := h__law_summed) (by simp [fn])
  g_check_length := He.glo_ok X G (S.t.d.fact 43 (f := .glo "check_length") rfl)
  d_check_length := S.t.d.defs (d := h_check_length) (by simp [fn])
  d_Machine_size := S.t.d.defs (d := h_Machine_size) (by simp [fn])
  d_Machine_ends := S.t.d.defs (d := h_Machine_ends) (by simp [fn])
  d_Machine_arrows := S.t.d.defs (d := h_Machine_arrows) (by simp [fn])
  g_ways_to_ends := He.glo_ok X G (S.t.d.fact 44 (f := .glo "ways_to_ends") rfl)
  d_ways_to_ends := S.t.d.defs (d := h_ways_to_ends) (by simp [fn])
  g_rows_count := He.glo_ok X G (S.t.d.fact 45 (f := .glo "rows_count") rfl)
  d_rows_count := S.t.d.defs (d := h_rows_count) (by simp [fn])
  g__law_paths := He.glo_ok X G (S.t.d.fact 46 (f := .glo "_law_paths") rfl)
  d__law_paths := S.t.d.defs (d := h__law_paths) (by simp [fn])
  g__law_listed := He.glo_ok X G (S.t.d.fact 47 (f := .glo "_law_listed") rfl)
  d__law_listed := S.t.d.defs (d := h__law_listed) (by simp [fn])
  g__law_right := He.glo_ok X G (S.t.d.fact 48 (f := .glo "_law_right") rfl)
  d__law_right := S.t.d.defs (d := h__law_right) (by simp [fn])
  g_law := He.glo_ok X G (S.t.d.fact 49 (f := .glo "law") rfl)
  d_law := S.t.d.defs (d := h_law) (by simp [fn])
end Lk05
open PySem PySem.W PySem.Calls PyProof.Rows L2 Wv
theorem cw_whoselines_k05_rows_counted_holds_of (plain : ∀ ns : List Int, ns.length ≤ 63 → Lk05.s_law [.lst false (ns.map .int)] = .ok (.bl true) []) : PySem.Challenge.rw_whoselines_k05_rows_counted.Holds := by
  w_on; o_law
  refine HandSHeadRun.head_any (r := OpenLaw.row PySem.Challenge.rw_whoselines_k05_rows_counted) (q := view (OpenLaw.row PySem.Challenge.rw_whoselines_k05_rows_counted).prog [38]) (H := Lk05.hk) (ob := Lk05.ob) (M := 20000) (loose := Lk05.loose) (d := HandSHeadRun.topDef (OpenLaw.row PySem.Challenge.rw_whoselines_k05_rows_counted).prog 38) (kwd := []) Lk05.ob_eq
    (by kernel_rfl) (fun s => by kernel_rfl) Lk05.run (by kernel_rfl) (by kernel_rfl) (by kernel_rfl) (by rfl) (by first | assumption | decide +kernel) (by decide +kernel) ⟨rfl, rfl, rfl, rfl, rfl, by decide +kernel⟩ ?hw ?hc
  case hw => w_witness2
  case hc =>
    refine walk_ofG (l := PySem.Challenge.rw_whoselines_k05_rows_counted) (n := 63) (k := 8) (x := "script") rfl (by decide) (by kernel_rfl) ⟨rfl, by decide, by decide⟩ ?F
    intro w mg fa h Y G hmg0
    obtain ⟨K, KX, S⟩ := Y
    have hmg : mg ("law" : PySem.Str) = some (.ref fa) := by
      have e : (HandSHeadRun.topDef (OpenLaw.row PySem.Challenge.rw_whoselines_k05_rows_counted).prog 38).name = ("law" : PySem.Str) := by kernel_rfl
      rw [← e]
      exact hmg0
    have c := Lk05.cd_of KX G S
    obtain ⟨fd, F⟩ := c.d_law
    have e := hmg.symm.trans c.g_law
    cases e
    refine ⟨K, fd, spF ⟨(PySem.Challenge.rw_whoselines_k05_rows_counted).prog, w, K, []⟩ ["script", "place"] 1 Lk05.s_law, KX, fun s u => FunD.bindsA (ps := ["script"]) F (fun _ _ _ _ _ _ us hl => match us, hl with | [_], _ => rfl) s [u] rfl, fun H a ns hl hS => want_of (by decide) hS (plain ns hl), fun base _ _ => ?_⟩
    obtain ⟨fd2, F2, X2⟩ := Lk05.g_law (P := (PySem.Challenge.rw_whoselines_k05_rows_counted).prog) (w := w) (base := base) c
    obtain rfl := funD_same F F2
    exact X2

open PySem PySem.W PySem.Calls PyProof.Rows
theorem PySem.Challenge.cw_whoselines_k05_rows_counted_holds : PySem.Challenge.rw_whoselines_k05_rows_counted.Holds := by
  exact cw_whoselines_k05_rows_counted_holds_of Lk05.plain
