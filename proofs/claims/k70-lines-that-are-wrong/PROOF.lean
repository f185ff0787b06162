import PyProof.Rows.All
import Wide.All
import OpenK.AllK
import Wide.FinOn
import HandS.ForMost
import HandS.Flow
import HandS.IsInst
import HandS.Exc
import HandS.RaiseMore
import HandS.Lambda
import KE.KNest
import HandS.TupAny
import HandS.TupMul
import HandS.Deep
import HandS.Style
import HandS.StrMore
import HandS.FStr
import HandS.CallSlots
import HandS.WordsExc
import HandS.ExcOwn
import HandS.Sort
import HandS.EndBits
import HandS.Star
import HandS.Property
import HandS.ClsMeth
import OpenK.KOps
import OpenK.KMeth
import KE.KCallOwn
import HandS.SlotsOwn
import HandS.Iter
import KE.KExcInit
import HandS.ExcInit
import HandS.TryMany
import KE.KTryMore
import KE.KExcIs
import KE.GoesEnum
import PyProof.SumAny
import HandS.Head0
import HandS.Head1
import HandS.Head2
import HandS.HeadHook1
import HandS.DictComp
import PyProof.ListStr
import HandS.Conv
import HandS.TryOnly
import PyProof.DictUpdate
import KE.KEqDict
import PyProof.EqKinds
import PyProof.NeKinds
import PyProof.FactsAll.dict_1
import HandS.EndTab
import KE.KUnpackStar
import HandS.ExcValue
import PyProof.FitsInt
import PyProof.Rows.ReprOcc
import PySem.Challenge.RW_settlepass_k70_lines_that_are_wrong
set_option Elab.async false
set_option linter.all false
set_option maxRecDepth 100000
set_option maxHeartbeats 4000000
/-! The data layer: Python's values as trees, own mutable objects by number, a mirror of every def as a Lean function; readings of HandS follow from it. -/
namespace DL
open PySem PySem.Spec PyProof.Rows L2

/-- a value as data; ref n: the n-th object of the store (it may change) -/
inductive D where
  | non | bl (b : Bool) | int (i : Int) | str (x : Str)
  | rd (xs : List D) | list (xs : List D) | tup (xs : List D) | dict (kvs : List (Key × D))
  | ins (C : Str) (fs : List (Str × D))
  | exc (C : Str) (fs : List (Str × D))
  | ref (n : Nat) | cls (C : Str) | ty (n : String)
  deriving Inhabited

/-- an object of the store -/
inductive SO where
  | lst (xs : List D) | dict (kvs : List (Key × D)) | ins (C : Str) (fs : List (Str × D)) | gone
  | tab (x : Str)
abbrev Store := List SO

/-- an exception that was caught: its class, its dict -/
def exq (a c : Addr) (d : Option Addr) : HO := .ext fun h => ∃ oe vs, h.get? a = some oe ∧ oe.cls = .ref c ∧ oe.dict = d ∧ oe.data = .fields vs

section
variable (K : PySem.W.Frag) (mg : Str → Option Value)
mutual
inductive Dat (F : Hp) (A : List Addr) : V → D → Prop
  | non : Dat F A .non .non
  | bl {b} : Dat F A (.bl b) (.bl b)
  | int {i} : Dat F A (.int i) (.int i)
  | str {x} : Dat F A (.str x) (.str x)
  | rd {a vs xs} : SqL K F a vs → Dats F A vs xs → Dat F A (.ref a) (.rd xs)
  | list {a vs xs} : F a = some (.lst vs) → Dats F A vs xs → Dat F A (.ref a) (.list xs)
  | tup {a vs xs} : SqT K F a vs → Dats F A vs xs → Dat F A (.ref a) (.tup xs)
  | dict {a o vs xs} : F a = some (.frz o (.dK vs)) → DatsK F A vs xs → Dat F A (.ref a) (.dict xs)
  | ins {a C c dx vs xs} : mg C = some (.ref c) → F a = some (.ins c dx vs) → DatsF F A vs xs → Dat F A (.ref a) (.ins C xs)
  | exc {a C c dd vs xs} : mg C = some (.ref c) → F a = some (exq a c (some dd)) → F dd = some (.xd vs) → DatsF F A vs xs → Dat F A (.ref a) (.exc C xs)
  | exc0 {a C c} : mg C = some (.ref c) → F a = some (exq a c none) → Dat F A (.ref a) (.exc C [])
  | ref {a n} : A[n]? = some a → Dat F A (.ref a) (.ref n)
  | cls {a C} : mg C = some (.ref a) → Dat F A (.ref a) (.cls C)
  | ty {n} : Dat F A (.ty n) (.ty n)
inductive Dats (F : Hp) (A : List Addr) : List V → List D → Prop
  | nil : Dats F A [] []
  | cons {v d vs ds} : Dat F A v d → Dats F A vs ds → Dats F A (v :: vs) (d :: ds)
inductive DatsK (F : Hp) (A : List Addr) : List (Key × V) → List (Key × D) → Prop
  | nil : DatsK F A [] []
  | cons {k v d vs ds} : Dat F A v d → DatsK F A vs ds → DatsK F A ((k, v) :: vs) ((k, d) :: ds)
inductive DatsF (F : Hp) (A : List Addr) : List (Str × V) → List (Str × D) → Prop
  | nil : DatsF F A [] []
  | cons {k v d vs ds} : Dat F A v d → DatsF F A vs ds → DatsF F A ((k, v) :: vs) ((k, d) :: ds)
end
end

/-- the frozen part and the store's addresses grow -/
structure Ext (F : Hp) (A : List Addr) (F' : Hp) (A' : List Addr) : Prop where
  f : Same F F'
  a : ∃ l, A' = A ++ l
theorem Ext.refl (F : Hp) (A : List Addr) : Ext F A F A := ⟨Same.refl F, [], by simp⟩
theorem Ext.trans {F F1 F2 : Hp} {A A1 A2 : List Addr} (x : Ext F A F1 A1) (y : Ext F1 A1 F2 A2) : Ext F A F2 A2 := by
  obtain ⟨f, l, rfl⟩ := x
  obtain ⟨g, m, rfl⟩ := y
  exact ⟨f.trans g, l ++ m, by simp⟩
theorem Ext.at {F F' : Hp} {A A' : List Addr} (x : Ext F A F' A') {n : Nat} {a : Addr} (h : A[n]? = some a) : A'[n]? = some a := by
  obtain ⟨_, l, rfl⟩ := x
  rw [List.getElem?_append_left (List.getElem?_eq_some_iff.mp h).1]
  exact h
theorem sqt_mono {K : PySem.W.Frag} {H H' : Hp} {a : Addr} {xs : List V} (e : Same H H') (h : SqT K H a xs) : SqT K H' a xs := by
  rcases h with (h | ⟨o, h⟩) | h
  · exact .inl (.inl (e _ _ h))
  · exact .inl (.inr ⟨o, e _ _ h⟩)
  · exact .inr h

section
variable {K : PySem.W.Frag} {mg : Str → Option Value} {F F' : Hp} {A A' : List Addr}
mutual
theorem Dat.mono (x : Ext F A F' A') : ∀ {v d}, Dat K mg F A v d → Dat K mg F' A' v d
  | _, _, .non => .non
  | _, _, .bl => .bl
  | _, _, .int => .int
  | _, _, .str => .str
  | _, _, .rd h r => .rd (x.f.seq h) (Dats.mono x r)
  | _, _, .list h r => .list (x.f _ _ h) (Dats.mono x r)
  | _, _, .tup h r => .tup (sqt_mono x.f h) (Dats.mono x r)
  | _, _, .dict h r => .dict (x.f _ _ h) (DatsK.mono x r)
  | _, _, .ins c h r => .ins c (x.f _ _ h) (DatsF.mono x r)
  | _, _, .exc c h h2 r => .exc c (x.f _ _ h) (x.f _ _ h2) (DatsF.mono x r)
  | _, _, .exc0 c h => .exc0 c (x.f _ _ h)
  | _, _, .ref h => .ref (x.at h)
  | _, _, .cls h => .cls h
  | _, _, .ty => .ty
theorem Dats.mono (x : Ext F A F' A') : ∀ {v d}, Dats K mg F A v d → Dats K mg F' A' v d
  | _, _, .nil => .nil
  | _, _, .cons h r => .cons (Dat.mono x h) (Dats.mono x r)
theorem DatsK.mono (x : Ext F A F' A') : ∀ {v d}, DatsK K mg F A v d → DatsK K mg F' A' v d
  | _, _, .nil => .nil
  | _, _, .cons h r => .cons (Dat.mono x h) (DatsK.mono x r)
theorem DatsF.mono (x : Ext F A F' A') : ∀ {v d}, DatsF K mg F A v d → DatsF K mg F' A' v d
  | _, _, .nil => .nil
  | _, _, .cons h r => .cons (Dat.mono x h) (DatsF.mono x r)
end
theorem Dats.length : ∀ {vs ds}, Dats K mg F A vs ds → vs.length = ds.length
  | _, _, .nil => rfl
  | _, _, .cons _ r => by rw [List.length_cons, List.length_cons, Dats.length r]
theorem Dats.get : ∀ {vs ds} {i : Nat} {d : D}, Dats K mg F A vs ds → ds[i]? = some d → ∃ v, vs[i]? = some v ∧ Dat K mg F A v d
  | _, _, _, _, .nil, e => by simp at e
  | _, _, 0, _, .cons h _, e => by simp at e; subst e; exact ⟨_, rfl, h⟩
  | _, _, i + 1, _, .cons _ r, e => by
    obtain ⟨v, h1, h2⟩ := Dats.get (i := i) r (by simpa using e)
    exact ⟨v, by simpa using h1, h2⟩
theorem Dats.getV : ∀ {vs ds} {i : Nat} {v : V}, Dats K mg F A vs ds → vs[i]? = some v → ∃ d, ds[i]? = some d ∧ Dat K mg F A v d
  | _, _, _, _, .nil, e => by simp at e
  | _, _, 0, _, .cons h _, e => by simp at e; subst e; exact ⟨_, rfl, h⟩
  | _, _, i + 1, _, .cons _ r, e => by
    obtain ⟨v, h1, h2⟩ := Dats.getV (i := i) r (by simpa using e)
    exact ⟨v, by simpa using h1, h2⟩
theorem Dats.append : ∀ {vs ds ws es}, Dats K mg F A vs ds → Dats K mg F A ws es → Dats K mg F A (vs ++ ws) (ds ++ es)
  | _, _, _, _, .nil, s => s
  | _, _, _, _, .cons h r, s => .cons h (Dats.append r s)
theorem Dats.take : ∀ {vs ds} (n : Nat), Dats K mg F A vs ds → Dats K mg F A (vs.take n) (ds.take n)
  | _, _, 0, _ => .nil
  | _, _, _ + 1, .nil => .nil
  | _, _, n + 1, .cons h r => .cons h (Dats.take n r)
theorem Dats.drop : ∀ {vs ds} (n : Nat), Dats K mg F A vs ds → Dats K mg F A (vs.drop n) (ds.drop n)
  | _, _, 0, r => r
  | _, _, _ + 1, .nil => .nil
  | _, _, n + 1, .cons _ r => Dats.drop n r
theorem Dats.reverse {vs ds} (r : Dats K mg F A vs ds) : Dats K mg F A vs.reverse ds.reverse := by
  induction vs generalizing ds with
  | nil => cases r; exact .nil
  | cons v vs ih =>
    cases r with
    | cons h r => rw [List.reverse_cons, List.reverse_cons]; exact (ih r).append (.cons h .nil)
theorem Dats.set {v : V} {d : D} (h : Dat K mg F A v d) : ∀ {vs ds} (n : Nat), Dats K mg F A vs ds → Dats K mg F A (vs.set n v) (ds.set n d)
  | _, _, _, .nil => .nil
  | _, _, 0, .cons _ r => .cons h r
  | _, _, n + 1, .cons q r => .cons q (Dats.set h n r)
theorem Dats.ints : ∀ (ns : List Int), Dats K mg F A (ns.map V.int) (ns.map D.int)
  | [] => .nil
  | _ :: r => .cons .int (Dats.ints r)
theorem Dats.to_ints : ∀ {ns : List Int} {vs}, Dats K mg F A vs (ns.map D.int) → vs = ns.map V.int
  | [], _, .nil => rfl
  | _ :: _, _, .cons h r => by cases h; rw [Dats.to_ints r]; rfl
theorem Dats.to_strs : ∀ {ns : List Str} {vs}, Dats K mg F A vs (ns.map D.str) → vs = ns.map V.str
  | [], _, .nil => rfl
  | _ :: _, _, .cons h r => by cases h; rw [Dats.to_strs r]; rfl
theorem Dats.to_bls : ∀ {ns : List Bool} {vs}, Dats K mg F A vs (ns.map D.bl) → vs = ns.map V.bl
  | [], _, .nil => rfl
  | _ :: _, _, .cons h r => by cases h; rw [Dats.to_bls r]; rfl
end

/-- what an object of the store says of the heap -/
def SoOk (K : PySem.W.Frag) (mg : Str → Option Value) (F : Hp) (A : List Addr) (H : Hp) (n : Nat) : SO → Prop
  | .lst xs => ∃ a vs, A[n]? = some a ∧ F a = none ∧ H a = some (.lst vs) ∧ Dats K mg F A vs xs
  | .dict xs => ∃ a vs, A[n]? = some a ∧ F a = none ∧ H a = some (.dK vs) ∧ DatsK K mg F A vs xs
  | .ins C xs => ∃ a c dx vs, A[n]? = some a ∧ F a = none ∧ mg C = some (.ref c) ∧ H a = some (.ins c dx vs) ∧ DatsF K mg F A vs xs
  | .gone => True
  | .tab x => ∃ a c ps, A[n]? = some a ∧ F a = none ∧ PySem.W.tabIn K x = some (c, a) ∧ H a = some (.tbl ps) ∧ TriplesOk ps.toList ∧ ∀ (pos : Pos) (cv : Value), codeAmong pos ps.toList = some cv → ∃ d, cv = .ref d ∧ F d = some (LamX.CodeO d ((x ++ ".<locals>.") ++ "<lambda>"))
/-- F: what never changes any more; A: where the store's objects stand; P: another's private part, left as it is -/
structure Rep (K : PySem.W.Frag) (mg : Str → Option Value) (F : Hp) (A : List Addr) (S : Store) (P H : Hp) : Prop where
  le : Same F H
  pr : Same P H
  fp : ∀ b o, P b = some o → F b = none
  ap : ∀ a ∈ A, P a = none
  len : A.length = S.length
  nd : A.Nodup
  th : ∀ a ∈ A, ∃ o, H a = some o
  so : ∀ n so, S[n]? = some so → SoOk K mg F A H n so

/-- the outcome of an expression -/
inductive Out (α : Type) where
  | ok (a : α) (S : Store)
  | exc (C : Str) (fs : List (Str × D)) (S : Store)
  | stuck
def Out.post {α : Type} (o : Out α) (ok : α → Store → Prop) (ex : Str → List (Str × D) → Store → Prop) : Prop := match o with
  | .ok a S => ok a S
  | .exc C fs S => ex C fs S
  | .stuck => False
def Out.bind {α β : Type} (o : Out α) (k : α → Store → Out β) : Out β := match o with
  | .ok a S => k a S
  | .exc C fs S => .exc C fs S
  | .stuck => .stuck
theorem Out.post_bind {α β : Type} {o : Out α} {k : α → Store → Out β} {P : β → Store → Prop} {E} (h : (o.bind k).post P E) : o.post (fun a S => (k a S).post P E) E := by
  cases o <;> exact h
theorem Out.post_mono {α : Type} {o : Out α} {P P' : α → Store → Prop} {E E'} (h : o.post P E) (hp : ∀ a S, P a S → P' a S) (he : ∀ C fs S, E C fs S → E' C fs S) : o.post P' E' := by
  cases o with
  | ok a S => exact hp _ _ h
  | exc C fs S => exact he _ _ _ h
  | stuck => exact h
abbrev noEx : Str → List (Str × D) → Store → Prop := fun _ _ _ => False

abbrev Env' := List (Option D)
abbrev Ev (α : Type) := Env' → Store → Out α

section
variable (K : PySem.W.Frag) (mg : Str → Option Value)
def Slots (F : Hp) (A : List Addr) (σ : L2.St) (ρ : Env') : Prop := σ.length = ρ.length ∧ ∀ (i : Nat) (d : D), ρ[i]? = some (some d) → ∃ v, σ[i]? = some (some v) ∧ Dat K mg F A v d
/-- wish behind a value -/
def okE (F : Hp) (A : List Addr) (P : Hp) (Q : V → Hp → Prop) (d : D) (S' : Store) : Prop := ∀ v H' F' A', Ext F A F' A' → Rep K mg F' A' S' P H' → Dat K mg F' A' v d → Q v H'
def okA (F : Hp) (A : List Addr) (P : Hp) (Q : List V → Hp → Prop) (ds : List D) (S' : Store) : Prop := ∀ vs H' F' A', Ext F A F' A' → Rep K mg F' A' S' P H' → Dats K mg F' A' vs ds → Q vs H'
def okT (F : Hp) (A : List Addr) (P : Hp) (Q : Bool → Hp → Prop) (b : Bool) (S' : Store) : Prop := ∀ H' F' A', Ext F A F' A' → Rep K mg F' A' S' P H' → Q b H'
/-- where an exception's fields stand -/
def ExAt (F : Hp) (A : List Addr) (d : Option Addr) (fs : List (Str × D)) : Prop := (∃ a vs, d = some a ∧ F a = some (.xd vs) ∧ DatsF K mg F A vs fs) ∨ (d = none ∧ fs = [])
def exE (F : Hp) (A : List Addr) (P : Hp) (W : XK) (C : Str) (fs : List (Str × D)) (S' : Store) : Prop := ∀ c d H' F' A', Ext F A F' A' → Rep K mg F' A' S' P H' → mg C = some (.ref c) → ExAt K mg F' A' d fs → W (.ref c) d H'
def tD (W : WX) (f : Ev D) : TE := fun σ H Q => ∃ F A P ρ S, Rep K mg F A S P H ∧ Slots K mg F A σ ρ ∧ (f ρ S).post (okE K mg F A P Q) (exE K mg F A P fun c d H' => W c d σ H')
def tDA (W : WX) (f : Ev (List D)) : TA := fun σ H Q => ∃ F A P ρ S, Rep K mg F A S P H ∧ Slots K mg F A σ ρ ∧ (f ρ S).post (okA K mg F A P Q) (exE K mg F A P fun c d H' => W c d σ H')
def tDT (W : WX) (f : Ev Bool) : TT := fun σ H Q => ∃ F A P ρ S, Rep K mg F A S P H ∧ Slots K mg F A σ ρ ∧ (f ρ S).post (okT K mg F A P Q) (exE K mg F A P fun c d H' => W c d σ H')
end
abbrev DE (X : Cx) (W : WX) (e : Expr) (f : Ev D) : Prop := PE X e (tD X.K X.mg W f)
abbrev DA (X : Cx) (W : WX) (es : List Expr) (f : Ev (List D)) : Prop := PA X es (tDA X.K X.mg W f)
abbrev DT (X : Cx) (W : WX) (e : Expr) (f : Ev Bool) : Prop := PT X e (tDT X.K X.mg W f)

section
variable {K : PySem.W.Frag} {mg : Str → Option Value} {F F' : Hp} {A A' : List Addr} {P H : Hp} {S : Store} {W : WX} {σ : L2.St} {ρ : Env'}
theorem Slots.mono (x : Ext F A F' A') (s : Slots K mg F A σ ρ) : Slots K mg F' A' σ ρ := ⟨s.1, fun i d e => let ⟨v, h1, h2⟩ := s.2 i d e; ⟨v, h1, h2.mono x⟩⟩
theorem Slots.set (s : Slots K mg F A σ ρ) {v : V} {d : D} (h : Dat K mg F A v d) (i : Nat) : Slots K mg F A (σ.set i (some v)) (ρ.set i (some d)) := by
  refine ⟨by rw [List.length_set, List.length_set]; exact s.1, fun j e he => ?_⟩
  by_cases hij : i = j
  · subst hij
    by_cases hl : i < ρ.length
    · rw [List.getElem?_set_self hl] at he
      cases he
      exact ⟨v, by rw [List.getElem?_set_self (by rw [s.1]; exact hl)], h⟩
    · rw [List.getElem?_eq_none (by simpa using hl)] at he; cases he
  · rw [List.getElem?_set_ne hij] at he
    obtain ⟨w, h1, h2⟩ := s.2 j e he
    exact ⟨w, by rw [List.getElem?_set_ne hij]; exact h1, h2⟩
theorem okE.ext {Q : V → Hp → Prop} {d : D} (x : Ext F A F' A') (h : okE K mg F A P Q d S) : okE K mg F' A' P Q d S := fun v H' F2 A2 e r q => h v H' F2 A2 (x.trans e) r q
theorem okA.ext {Q : List V → Hp → Prop} {d : List D} (x : Ext F A F' A') (h : okA K mg F A P Q d S) : okA K mg F' A' P Q d S := fun v H' F2 A2 e r q => h v H' F2 A2 (x.trans e) r q
theorem okT.ext {Q : Bool → Hp → Prop} {d : Bool} (x : Ext F A F' A') (h : okT K mg F A P Q d S) : okT K mg F' A' P Q d S := fun H' F2 A2 e r => h H' F2 A2 (x.trans e) r
theorem exE.ext {Q : XK} {C : Str} {fs : List (Str × D)} (x : Ext F A F' A') (h : exE K mg F A P Q C fs S) : exE K mg F' A' P Q C fs S := fun c d H' F2 A2 e r m q => h c d H' F2 A2 (x.trans e) r m q
theorem okE.now {Q : V → Hp → Prop} {d : D} {v : V} (h : okE K mg F A P Q d S) (r : Rep K mg F A S P H) (q : Dat K mg F A v d) : Q v H := h v H F A (Ext.refl F A) r q
theorem okA.now {Q : List V → Hp → Prop} {d : List D} {v : List V} (h : okA K mg F A P Q d S) (r : Rep K mg F A S P H) (q : Dats K mg F A v d) : Q v H := h v H F A (Ext.refl F A) r q
theorem okT.now {Q : Bool → Hp → Prop} {d : Bool} (h : okT K mg F A P Q d S) (r : Rep K mg F A S P H) : Q d H := h H F A (Ext.refl F A) r

theorem free_of {F H : Hp} {p : Addr} (x : Same F H) (h : H p = none) : F p = none := x.free h
/-- a new object, frozen at once -/
theorem Rep.frz {p : Addr} {o : HO} (r : Rep K mg F A S P H) (hp : H p = none) : Ext F A (upd F p o) A ∧ Rep K mg (upd F p o) A S P (upd H p o) := by
  have fF : F p = none := r.le.free hp
  have fP : P p = none := r.pr.free hp
  have nA : ∀ a ∈ A, a ≠ p := fun a ha e => by
    obtain ⟨o, h⟩ := r.th a ha
    rw [e, hp] at h; cases h
  have x : Ext F A (upd F p o) A := ⟨fun b u h => by rw [upd_ne (ne_of_none h fF)]; exact h, [], by simp⟩
  refine ⟨x, ⟨fun b u h => ?_, fun b u h => by rw [upd_ne (ne_of_none h fP)]; exact r.pr b u h, fun b u h => by rw [upd_ne (ne_of_none h fP)]; exact r.fp b u h, r.ap, r.len, r.nd, fun a ha => ?_, fun n so h => ?_⟩⟩
  · by_cases hb : b = p
    · subst hb; rw [upd_same] at h ⊢; exact h
    · rw [upd_ne hb] at h ⊢; exact r.le b u h
  · obtain ⟨o, h⟩ := r.th a ha
    exact ⟨o, by rw [upd_ne (nA a ha)]; exact h⟩
  · have q := r.so n so h
    cases so with
    | gone => trivial
    | tab y =>
      obtain ⟨a, c, ps, h1, h2, ht, h3, h4, h5⟩ := q
      have ne := nA a (List.mem_of_getElem? h1)
      exact ⟨a, c, ps, h1, by rw [upd_ne ne]; exact h2, ht, by rw [upd_ne ne]; exact h3, h4, fun pos cv e => let ⟨d, e1, e2⟩ := h5 pos cv e; ⟨d, e1, x.f _ _ e2⟩⟩
    | lst xs =>
      obtain ⟨a, vs, h1, h2, h3, h4⟩ := q
      have ne := nA a (List.mem_of_getElem? h1)
      exact ⟨a, vs, h1, by rw [upd_ne ne]; exact h2, by rw [upd_ne ne]; exact h3, h4.mono x⟩
    | dict xs =>
      obtain ⟨a, vs, h1, h2, h3, h4⟩ := q
      have ne := nA a (List.mem_of_getElem? h1)
      exact ⟨a, vs, h1, by rw [upd_ne ne]; exact h2, by rw [upd_ne ne]; exact h3, h4.mono x⟩
    | ins C xs =>
      obtain ⟨a, c, dx, vs, h1, h2, hc, h3, h4⟩ := q
      have ne := nA a (List.mem_of_getElem? h1)
      exact ⟨a, c, dx, vs, h1, by rw [upd_ne ne]; exact h2, hc, by rw [upd_ne ne]; exact h3, h4.mono x⟩
end

/-! ### lifting of readings -/
section
variable {X : Cx} {W : WX} {e a b : Expr} {pos : Pos}
theorem PE.imp {t t' : TE} (h : PE X e t) (i : ∀ σ H Q, t' σ H Q → t σ H Q) : PE X e t' := ⟨fun pins s σ H Q I w => h.run pins s σ H Q I (i σ H Q w)⟩
theorem PT.imp {t t' : TT} (h : PT X e t) (i : ∀ σ H Q, t' σ H Q → t σ H Q) : PT X e t' := ⟨fun pins s σ H Q I w => h.run pins s σ H Q I (i σ H Q w)⟩
theorem PA.imp {es : List Expr} {t t' : TA} (h : PA X es t) (i : ∀ σ H Q, t' σ H Q → t σ H Q) : PA X es t' := ⟨fun pos pins s σ H Q I w => h.run pos pins s σ H Q I (i σ H Q w)⟩
theorem PS.imp {st : Stmt} {t t' : TS} (h : PS X st t) (i : ∀ D σ H, t' D σ H → t D σ H) : PS X st t' := ⟨fun pins s σ H D I w => h.run pins s σ H D I (i D σ H w)⟩
theorem PSs.imp {st : List Stmt} {t t' : TS} (h : PSs X st t) (i : ∀ D σ H, t' D σ H → t D σ H) : PSs X st t' := ⟨fun pins s σ H D I w => h.run pins s σ H D I (i D σ H w)⟩
end
section
variable {K : PySem.W.Frag} {mg : Str → Option Value} {W : WX} {σ : L2.St} {H : Hp}
/-- f, then what k makes of its value -/
theorem tD.seq {α : Type} {f : Ev D} {k : D → Store → Out α} {F A P ρ S} {ok : α → Store → Prop} {R : V → Hp → Prop} (r : Rep K mg F A S P H) (s : Slots K mg F A σ ρ)
    (h : ((f ρ S).bind k).post ok (exE K mg F A P fun c d H' => W c d σ H'))
    (hk : ∀ d S' v H' F' A', Ext F A F' A' → Rep K mg F' A' S' P H' → Slots K mg F' A' σ ρ → Dat K mg F' A' v d → (k d S').post ok (exE K mg F A P fun c d H' => W c d σ H') → R v H') : tD K mg W f σ H R := by
  refine ⟨F, A, P, ρ, S, r, s, Out.post_mono (Out.post_bind h) (fun d S' q v H' F' A' x r' dv => ?_) fun _ _ _ z => z⟩
  exact hk d S' v H' F' A' x r' (s.mono x) dv q
theorem tDA.seq {α : Type} {f : Ev (List D)} {k : List D → Store → Out α} {F A P ρ S} {ok : α → Store → Prop} {R : List V → Hp → Prop} (r : Rep K mg F A S P H) (s : Slots K mg F A σ ρ)
    (h : ((f ρ S).bind k).post ok (exE K mg F A P fun c d H' => W c d σ H'))
    (hk : ∀ d S' v H' F' A', Ext F A F' A' → Rep K mg F' A' S' P H' → Slots K mg F' A' σ ρ → Dats K mg F' A' v d → (k d S').post ok (exE K mg F A P fun c d H' => W c d σ H') → R v H') : tDA K mg W f σ H R := by
  refine ⟨F, A, P, ρ, S, r, s, Out.post_mono (Out.post_bind h) (fun d S' q v H' F' A' x r' dv => ?_) fun _ _ _ z => z⟩
  exact hk d S' v H' F' A' x r' (s.mono x) dv q
theorem tDT.seq {α : Type} {f : Ev Bool} {k : Bool → Store → Out α} {F A P ρ S} {ok : α → Store → Prop} {R : Bool → Hp → Prop} (r : Rep K mg F A S P H) (s : Slots K mg F A σ ρ)
    (h : ((f ρ S).bind k).post ok (exE K mg F A P fun c d H' => W c d σ H'))
    (hk : ∀ d S' H' F' A', Ext F A F' A' → Rep K mg F' A' S' P H' → Slots K mg F' A' σ ρ → (k d S').post ok (exE K mg F A P fun c d H' => W c d σ H') → R d H') : tDT K mg W f σ H R := by
  refine ⟨F, A, P, ρ, S, r, s, Out.post_mono (Out.post_bind h) (fun d S' q H' F' A' x r' => ?_) fun _ _ _ z => z⟩
  exact hk d S' H' F' A' x r' (s.mono x) q
end
theorem post_okE {K mg F A F' A' P Q} {W : XK} {o : Out D} (x : Ext F A F' A') (h : o.post (okE K mg F A P Q) (exE K mg F A P W)) : o.post (okE K mg F' A' P Q) (exE K mg F' A' P W) :=
  Out.post_mono h (fun _ _ z => okE.ext x z) fun _ _ _ z => exE.ext x z
theorem post_okA {K mg F A F' A' P Q} {W : XK} {o : Out (List D)} (x : Ext F A F' A') (h : o.post (okA K mg F A P Q) (exE K mg F A P W)) : o.post (okA K mg F' A' P Q) (exE K mg F' A' P W) :=
  Out.post_mono h (fun _ _ z => okA.ext x z) fun _ _ _ z => exE.ext x z
theorem post_okT {K mg F A F' A' P Q} {W : XK} {o : Out Bool} (x : Ext F A F' A') (h : o.post (okT K mg F A P Q) (exE K mg F A P W)) : o.post (okT K mg F' A' P Q) (exE K mg F' A' P W) :=
  Out.post_mono h (fun _ _ z => okT.ext x z) fun _ _ _ z => exE.ext x z

/-! ### names, constants, displays -/
def eVar (i : Nat) : Ev D := fun ρ S => match ρ[i]? with
  | some (some d) => .ok d S
  | _ => .stuck
def eC (d : D) : Ev D := fun _ S => .ok d S
def aNil : Ev (List D) := fun _ S => .ok [] S
def aCons (f : Ev D) (g : Ev (List D)) : Ev (List D) := fun ρ S => (f ρ S).bind fun d S => (g ρ S).bind fun ds S => .ok (d :: ds) S
def eLst (g : Ev (List D)) : Ev D := fun ρ S => (g ρ S).bind fun ds S => if ds.length ≤ 16777216 then .ok (.list ds) S else .stuck
def eTup (g : Ev (List D)) : Ev D := fun ρ S => (g ρ S).bind fun ds S => if ds.length ≤ 16777216 then .ok (.tup ds) S else .stuck
/-- a list that will change: an object of the store -/
def eLstR (g : Ev (List D)) : Ev D := fun ρ S => (g ρ S).bind fun ds S => if ds.length ≤ 16777216 then .ok (.ref S.length) (S ++ [.lst ds]) else .stuck
section
variable {X : Cx} {W : WX} {e a b : Expr} {es : List Expr} {f g : Ev D} {fs : Ev (List D)} {pos : Pos}
theorem de_var (i : Nat) {x : Str} (hN : X.N[i]? = some x := by rfl) (hv : Vis X.env.scope x := by first | exact Or.inl rfl | exact Or.inr (Or.inl rfl) | exact Or.inr (Or.inr rfl)) (hd : (x == ("__debug__" : Str)) = false := by decide)
    (hcd : (x == ("__classdict__" : Str)) = false := by decide) : DE X W (.Name x pos) (eVar i) := by
  refine PE.imp (pe_var hN hv hd hcd) fun σ H Q ⟨F, A, P, ρ, S, r, s, h⟩ => ?_
  unfold eVar at h
  cases e : ρ[i]? with
  | none => rw [e] at h; exact h.elim
  | some o =>
    cases o with
    | none => rw [e] at h; exact h.elim
    | some d =>
      rw [e] at h
      obtain ⟨v, h1, h2⟩ := s.2 i d e
      exact ⟨v, h1, okE.now h r h2⟩
theorem de_const {t : V} {d : D} (h : PE X e (tC t)) (q : ∀ F A, Dat X.K X.mg F A t d) : DE X W e (eC d) :=
  PE.imp h fun σ H Q ⟨F, A, P, ρ, S, r, s, h⟩ => okE.now h r (q F A)
theorem de_int {i j} : DE X W (.Constant (.int i) j pos) (eC (.int i)) := de_const pe_int fun _ _ => .int
theorem de_bl {i j} : DE X W (.Constant (.bool i) j pos) (eC (.bl i)) := de_const pe_bl fun _ _ => .bl
theorem de_non {j} : DE X W (.Constant .none j pos) (eC .non) := de_const pe_non fun _ _ => .non
theorem de_str {i j} : DE X W (.Constant (.str i) j pos) (eC (.str i)) := de_const pe_str fun _ _ => .str
theorem de_globI {x : Str} {i : Int} (hg : Gl X x) (hm : ∃ t, X.mg x = some (.int i t)) (hd : (x == ("__debug__" : Str)) = false := by decide) : DE X W (.Name x pos) (eC (.int i)) :=
  let ⟨_, hm⟩ := hm; de_const (pe_glob hg hm (v := .int i) ⟨_, rfl⟩ hd) fun _ _ => .int
theorem de_globS {x : Str} {i : Str} (hg : Gl X x) (hm : ∃ t, X.mg x = some (.str i t)) (hd : (x == ("__debug__" : Str)) = false := by decide) : DE X W (.Name x pos) (eC (.str i)) :=
  let ⟨_, hm⟩ := hm; de_const (pe_glob hg hm (v := .str i) ⟨_, rfl⟩ hd) fun _ _ => .str
theorem da_nil : DA X W [] aNil := PA.imp pa_nil fun σ H Q ⟨F, A, P, ρ, S, r, s, h⟩ => okA.now h r .nil
theorem da_cons (he : DE X W e f) (hr : DA X W es fs) (hs : starEach (e :: es) X.env = (false, eval e X.env) :: starEach es X.env := by rfl) : DA X W (e :: es) (aCons f fs) :=
  PA.imp (pa_cons he hr hs) fun σ H Q ⟨F, A, P, ρ, S, r, s, h⟩ => by
    refine tD.seq r s h fun d S1 v H1 F1 A1 x1 r1 s1 d1 h1 => ?_
    have h1 := post_okA x1 h1
    refine tDA.seq r1 s1 h1 fun ds S2 vs H2 F2 A2 x2 r2 s2 d2 h2 => ?_
    exact h2 _ _ _ _ x2 r2 (.cons (d1.mono x2) d2)
theorem len_le {n : Nat} (h : n ≤ 16777216) : n ≤ sizeLine := by rw [sizeLine_eq]; exact h
theorem de_lst (h : DA X W es fs) : DE X W (.List es pos) (eLst fs) :=
  PE.imp (pe_lst h) fun σ H Q ⟨F, A, P, ρ, S, r, s, h⟩ => by
    refine tDA.seq r s h fun ds S1 vs H1 F1 A1 x1 r1 s1 d1 h1 => ?_
    split at h1
    · rename_i hl
      refine ⟨by rw [d1.length]; exact len_le hl, fun p hp => ?_⟩
      obtain ⟨x2, r2⟩ := r1.frz (o := .lst vs) hp
      exact h1 _ _ _ _ (x1.trans x2) r2 (.list upd_same (d1.mono x2))
    · exact h1.elim
theorem de_tup {x1} (h : DA X W es fs) : DE X W (.Tuple es x1 pos) (eTup fs) :=
  PE.imp (pe_tup h) fun σ H Q ⟨F, A, P, ρ, S, r, s, h⟩ => by
    refine tDA.seq r s h fun ds S1 vs H1 F1 A1 x1 r1 s1 d1 h1 => ?_
    split at h1
    · rename_i hl
      refine ⟨by rw [d1.length]; exact len_le hl, fun p hp => ?_⟩
      obtain ⟨x2, r2⟩ := r1.frz (o := .tup vs) hp
      exact h1 _ _ _ _ (x1.trans x2) r2 (.tup (SqT.of upd_same) (d1.mono x2))
    · exact h1.elim
end
/-! ### a new dict, a list, .. is locked for good -/
theorem upd_upd {H : Hp} {p : Addr} {a b : HO} : upd (upd H p a) p b = upd H p b := by
  funext c
  by_cases h : c = p
  · subst h; rw [upd_same, upd_same]
  · rw [upd_ne h, upd_ne h, upd_ne h]
def tFrzE (t : TE) : TE := fun σ H Q => t σ H fun v H1 => ∃ p u, v = .ref p ∧ H1 p = some u ∧ Mut (some u) ∧ ∀ od, Q v (upd H1 p (.frz od u))
theorem pe_frzE {X : Cx} {e : Expr} {t : TE} (h : PE X e t) : PE X e (tFrzE t) := by
  refine ⟨fun pins s σ H Q I hw => thn (h.run pins s σ H _ I hw) fun u s1 ⟨x, H1, I1, rx, p, ho, ex, e, mu, q⟩ => ?_⟩
  obtain ⟨od, I2⟩ := I1.lock e mu
  exact ⟨x, _, I2, rx, q od⟩
def tFrzS (t : TS) : TS := fun D σ H => ∃ d u, H d = some u ∧ Mut (some u) ∧ ∀ od, t D σ (upd H d (.frz od u))
theorem pss_frzS {X : Cx} {ss : List Stmt} {t : TS} (h : PSs X ss t) : PSs X ss (tFrzS t) := by
  refine ⟨fun pins s σ H D I hw => ?_⟩
  obtain ⟨d, u, hd, mu, hw⟩ := hw
  obtain ⟨od, I1⟩ := I.lock hd mu
  exact h.run pins s σ _ _ I1 (hw od)
end DL
namespace DL
open PySem PySem.Spec PyProof.Rows L2

/-! ### what stands behind data -/
def itemsL (S : Store) : D → Option (List D)
  | .list xs => some xs
  | .ref n => match S[n]? with
    | some (.lst xs) => some xs
    | _ => none
  | _ => none
def itemsR (S : Store) : D → Option (List D)
  | .rd xs => some xs
  | d => itemsL S d
def itemsT : D → Option (List D)
  | .tup xs => some xs
  | _ => none
section
variable {K : PySem.W.Frag} {mg : Str → Option Value} {F : Hp} {A : List Addr} {P H : Hp} {S : Store}
theorem sql_mono {H H' : Hp} {a : Addr} {xs : List V} (e : Same H H') (h : SqL K H a xs) : SqL K H' a xs := e.seq h
theorem itemsL_at (r : Rep K mg F A S P H) {v : V} {d : D} {xs : List D} (h : Dat K mg F A v d) (e : itemsL S d = some xs) : ∃ a vs, v = .ref a ∧ H a = some (.lst vs) ∧ Dats K mg F A vs xs := by
  cases h with
  | list h1 h2 => cases e; exact ⟨_, _, rfl, r.le _ _ h1, h2⟩
  | @ref a n h1 =>
    simp only [itemsL] at e
    split at e
    · rename_i ys hs
      cases e
      obtain ⟨b, vs, e1, e2, e3, e4⟩ := r.so _ _ hs
      rw [h1] at e1; cases e1
      exact ⟨_, _, rfl, e3, e4⟩
    · cases e
  | _ => simp [itemsL] at e
theorem itemsR_at (r : Rep K mg F A S P H) {v : V} {d : D} {xs : List D} (h : Dat K mg F A v d) (e : itemsR S d = some xs) : ∃ a vs, v = .ref a ∧ SqL K H a vs ∧ Dats K mg F A vs xs := by
  cases h with
  | rd h1 h2 => cases e; exact ⟨_, _, rfl, sql_mono r.le h1, h2⟩
  | list h1 h2 => cases e; exact ⟨_, _, rfl, SqL.of (r.le _ _ h1), h2⟩
  | ref h1 =>
    have e' : itemsL S (.ref _) = some xs := e
    obtain ⟨a, vs, e1, e2, e3⟩ := itemsL_at r (.ref h1) e'
    exact ⟨a, vs, e1, SqL.of e2, e3⟩
  | _ => simp [itemsR, itemsL] at e
theorem tup_at (r : Rep K mg F A S P H) {v : V} {xs : List D} (h : Dat K mg F A v (.tup xs)) : ∃ a vs, v = .ref a ∧ SqT K H a vs ∧ Dats K mg F A vs xs := by
  cases h with
  | tup h1 h2 => exact ⟨_, _, rfl, sqt_mono r.le h1, h2⟩
end

/-! ### operators -/
def ofO {α : Type} : Option α → Store → Out α
  | some d, S => .ok d S
  | none, _ => .stuck
def eBin (g : D → D → Store → Option D) (f h : Ev D) : Ev D := fun ρ S => (f ρ S).bind fun x S => (h ρ S).bind fun y S => ofO (g x y S) S
def eUn (g : D → Store → Option D) (f : Ev D) : Ev D := fun ρ S => (f ρ S).bind fun x S => ofO (g x S) S
def OpE (K : PySem.W.Frag) (mg : Str → Option Value) (r : R2) (g : D → D → Store → Option D) : Prop :=
  ∀ F A P S H x y dx dy d Q, Rep K mg F A S P H → Dat K mg F A x dx → Dat K mg F A y dy → g dx dy S = some d → okE K mg F A P Q d S → r x y H Q
def UnE (K : PySem.W.Frag) (mg : Str → Option Value) (r : V → Hp → VK → Prop) (g : D → Store → Option D) : Prop :=
  ∀ F A P S H x dx d Q, Rep K mg F A S P H → Dat K mg F A x dx → g dx S = some d → okE K mg F A P Q d S → r x H Q
section
variable {K : PySem.W.Frag} {mg : Str → Option Value} {W : WX} {σ : L2.St} {H : Hp} {F F' : Hp} {A A' : List Addr} {P : Hp} {S : Store} {Q : VK}
theorem ofO_post {α : Type} {o : Option α} {S : Store} {ok : α → Store → Prop} {E} (h : (ofO o S).post ok E) : ∃ d, o = some d ∧ ok d S := by
  cases o with
  | none => exact h.elim
  | some d => exact ⟨d, rfl, h⟩
theorem op_ent {r : R2} {g : D → D → Store → Option D} {f h : Ev D} (he : OpE K mg r g) : ∀ σ H Q, tD K mg W (eBin g f h) σ H Q → tOp r (tD K mg W f) (tD K mg W h) σ H Q :=
  fun σ H Q ⟨F, A, P, ρ, S, rp, s, q⟩ => by
    refine tD.seq rp s q fun d S1 v H1 F1 A1 x1 r1 s1 d1 h1 => ?_
    have h1 := post_okE x1 h1
    refine tD.seq r1 s1 h1 fun d2 S2 v2 H2 F2 A2 x2 r2 s2 d2 h2 => ?_
    obtain ⟨z, e, h3⟩ := ofO_post h2
    exact he _ _ _ _ _ _ _ _ _ _ _ r2 (d1.mono x2) d2 e (okE.ext x2 h3)
theorem un_ent {r : V → Hp → VK → Prop} {g : D → Store → Option D} {f : Ev D} (he : UnE K mg r g) : ∀ σ H Q, tD K mg W (eUn g f) σ H Q → tUn r (tD K mg W f) σ H Q :=
  fun σ H Q ⟨F, A, P, ρ, S, rp, s, q⟩ => by
    refine tD.seq rp s q fun d S1 v H1 F1 A1 x1 r1 s1 d1 h1 => ?_
    obtain ⟨z, e, h3⟩ := ofO_post h1
    exact he _ _ _ _ _ _ _ _ _ r1 d1 e (okE.ext x1 h3)
end
section
variable {X : Cx} {W : WX} {a b : Expr} {f h : Ev D} {pos : Pos}
theorem de_op {op : Operator} {r : R2} {g : D → D → Store → Option D} (ho : OpR X (binaryOp op) r) (he : OpE X.K X.mg r g) (ha : DE X W a f) (hb : DE X W b h) : DE X W (.BinOp a op b pos) (eBin g f h) := PE.imp (pe_op ho ha hb) (op_ent he)
theorem de_un {op : UnaryOp} {r : V → Hp → VK → Prop} {g : D → Store → Option D} (ho : UnR X (unaryOp op) r) (he : UnE X.K X.mg r g) (ha : DE X W a f) : DE X W (.UnaryOp op a pos) (eUn g f) := PE.imp (pe_un ho ha) (un_ent he)
theorem de_ix {r : R2} {g : D → D → Store → Option D} (ho : IxR X r) (he : OpE X.K X.mg r g) (ha : DE X W a f) (hb : DE X W b h) (hs : PlainIx b) : DE X W (.Subscript a b pos) (eBin g f h) := PE.imp (pe_ix ho ha hb hs) (op_ent he)
theorem OpR.or {f : Value → Value → Sem Value} {r r' : R2} (h : OpR X f r) (h' : OpR X f r') : OpR X f (fun x y H Q => r x y H Q ∨ r' x y H Q) := by
  intro pins s σ H x y v u Q I rx ry q
  rcases q with q | q
  · exact h pins s σ H x y v u Q I rx ry q
  · exact h' pins s σ H x y v u Q I rx ry q
theorem CallR.or {f : Value} {r r' : List V → Hp → VK → Prop} (h : CallR X f r) (h' : CallR X f r') : CallR X f (fun x H Q => r x H Q ∨ r' x H Q) := by
  intro pins s σ H x v Q I rx q
  rcases q with q | q
  · exact h pins s σ H x v Q I rx q
  · exact h' pins s σ H x v Q I rx q
end
section
variable {K : PySem.W.Frag} {mg : Str → Option Value} {r r' : R2} {g g' : D → D → Store → Option D}
theorem OpE.or (h : OpE K mg r g) (h' : OpE K mg r' g') : OpE K mg (fun x y H Q => r x y H Q ∨ r' x y H Q) (fun x y S => match g x y S with | some d => some d | none => g' x y S) := by
  intro F A P S H x y dx dy d Q rp hx hy e k
  dsimp only at e
  split at e
  · rename_i d' e'
    cases e
    exact .inl (h _ _ _ _ _ _ _ _ _ _ _ rp hx hy e' k)
  · exact .inr (h' _ _ _ _ _ _ _ _ _ _ _ rp hx hy e k)
end
/-- ints in, a value out -/
def gI (c : Int → Int → Bool) (g : Int → Int → D) : D → D → Store → Option D
  | .int i, .int j, _ => if c i j then some (g i j) else none
  | _, _, _ => none
theorem gI_ent {K mg} {C : Int → Int → Prop} {c : Int → Int → Bool} {g : Int → Int → V} {h : Int → Int → D} (hc : ∀ i j, c i j = true → C i j) (hd : ∀ F A i j, Dat K mg F A (g i j) (h i j)) : OpE K mg (rI C g) (gI c h) := by
  intro F A P S H x y dx dy d Q rp hx hy e k
  cases hx <;> try cases e
  cases hy <;> try cases e
  rename_i i j
  unfold gI at e
  dsimp only at e
  split at e
  · rename_i hh
    cases e
    exact ⟨i, j, rfl, rfl, hc i j hh, okE.now k rp (hd F A i j)⟩
  · cases e
theorem gI0_ent {K mg} {g : Int → Int → V} {h : Int → Int → D} (hd : ∀ F A i j, Dat K mg F A (g i j) (h i j)) : OpE K mg (rI0 g) (gI (fun _ _ => true) h) := by
  intro F A P S H x y dx dy d Q rp hx hy e k
  cases hx <;> try cases e
  cases hy <;> try cases e
  rename_i i j
  exact ⟨i, j, rfl, rfl, okE.now k rp (hd F A i j)⟩

/-- + -/
def gAdd : D → D → Store → Option D
  | .int i, .int j, _ => some (.int (i + j))
  | .int i, .bl k, _ => some (.int (i + b2i k))
  | .str x, .str y, _ => if x.length + y.length ≤ 16777216 then some (.str (x ++ y)) else none
  | .tup xs, .tup ys, _ => if xs.length + ys.length ≤ 16777216 then some (.tup (xs ++ ys)) else none
  | x, y, S => match itemsL S x, itemsL S y with
    | some xs, some ys => if xs.length + ys.length ≤ 16777216 then some (.list (xs ++ ys)) else none
    | _, _ => none
def rAddG (K : PySem.W.Frag) : R2 := fun x y H Q => (∃ i j, x = .int i ∧ y = .int j ∧ Q (.int (i + j)) H) ∨ (∃ i k, x = .int i ∧ y = .bl k ∧ Q (.int (i + b2i k)) H) ∨
  (∃ i j, x = .str i ∧ y = .str j ∧ i.length + j.length ≤ sizeLine ∧ Q (.str (i ++ j)) H) ∨ rCatA K x y H Q ∨ rCat x y H Q
theorem op_addG {X : Cx} : OpR X (binaryOp .Add) (rAddG X.K) := OpR.or op_add (OpR.or op_add_ib (OpR.or op_add_str (OpR.or op_catA op_cat)))
theorem addG_ent {K mg} : OpE K mg (rAddG K) gAdd := by
  intro F A P S H x y dx dy d Q rp hx hy e k
  unfold gAdd at e
  split at e
  · cases e; cases hx; cases hy
    exact .inl ⟨_, _, rfl, rfl, okE.now k rp .int⟩
  · cases e; cases hx; cases hy
    exact .inr (.inl ⟨_, _, rfl, rfl, okE.now k rp .int⟩)
  · cases hx; cases hy
    split at e
    · rename_i hl
      cases e
      exact .inr (.inr (.inl ⟨_, _, rfl, rfl, len_le hl, okE.now k rp .str⟩))
    · cases e
  · split at e
    · rename_i hl
      cases e
      obtain ⟨a, vs, rfl, h1, h2⟩ := tup_at rp hx
      obtain ⟨b, ws, rfl, h3, h4⟩ := tup_at rp hy
      refine .inr (.inr (.inr (.inl ⟨a, b, vs, ws, rfl, rfl, h1, h3, by rw [h2.length, h4.length]; exact len_le hl, fun e => ?_, fun _ e => ?_, fun _ _ p hp => ?_⟩)))
      · subst e
        cases h2
        exact okE.now k rp hy
      · subst e
        cases h4
        rw [List.append_nil] at k
        exact okE.now k rp hx
      · obtain ⟨x2, r2⟩ := rp.frz (o := .tup (vs ++ ws)) hp
        exact k _ _ _ _ x2 r2 (.tup (SqT.of upd_same) ((h2.append h4).mono x2))
    · cases e
  · split at e
    · rename_i xs ys e1 e2
      split at e
      · rename_i hl
        cases e
        obtain ⟨a, vs, rfl, h1, h2⟩ := itemsL_at rp hx e1
        obtain ⟨b, ws, rfl, h3, h4⟩ := itemsL_at rp hy e2
        refine .inr (.inr (.inr (.inr ⟨a, b, vs, ws, rfl, rfl, h1, h3, by rw [h2.length, h4.length]; exact len_le hl, fun p hp => ?_⟩)))
        obtain ⟨x2, r2⟩ := rp.frz (o := .lst (vs ++ ws)) hp
        exact k _ _ _ _ x2 r2 (.list upd_same ((h2.append h4).mono x2))
      · cases e
    · cases e
def gSub := gI (fun _ _ => true) fun i j => .int (i - j)
def gMod := gI (fun _ j => decide (0 < j)) fun i j => .int (i % j)
def gDiv := gI (fun _ j => decide (0 < j) && decide (j < 1073741824)) fun i j => .int (i / j)
def gPow := gI (fun i j => decide (0 ≤ j) && decide (j ≤ 1000000) && decide (i.natAbs < 2 ^ 64)) fun i j => .int (i ^ j.toNat)
/-- the signs of z, n times -/
def strTimes (z : Str) (n : Int) : Str := if n < 1 then Str.empty else ⟨(List.replicate n.toNat z.cps).foldl (· ++ ·) #[]⟩
/-- * -/
def gMul : D → D → Store → Option D
  | .int i, .int j, _ => if (-(2 ^ 64) < i ∧ i < 2 ^ 64) ∨ (-(2 ^ 64) < j ∧ j < 2 ^ 64) then some (.int (i * j)) else none
  | .str z, .int n, _ => if 0 ≤ n ∧ n < 1000000 ∧ z.length ≤ 10000 ∧ z.length * n.toNat ≤ 16777216 then some (.str (strTimes z n)) else none
  | .tup xs, .int n, _ => if xs ≠ [] ∧ 2 ≤ n ∧ n ≤ 1000 ∧ xs.length ≤ 1000 then some (.tup (List.replicate n.toNat xs).flatten) else none
  | x, .int n, S => match itemsL S x with
    | some xs => if 0 ≤ n ∧ n < 1000000000 ∧ xs.length * n.toNat ≤ 16777216 then some (.list (List.replicate n.toNat xs).flatten) else none
    | none => none
  | _, _, _ => none

theorem strTimes_one (z : Str) : strTimes z 1 = z := by
  unfold strTimes
  rw [if_neg (by decide)]
  obtain ⟨c⟩ := z
  show (⟨(List.replicate 1 c).foldl (· ++ ·) #[]⟩ : Str) = ⟨c⟩
  simp
theorem strTimes_nil {z : Str} (h : z.length = 0) (n : Int) : strTimes z n = z := by
  obtain ⟨c⟩ := z
  have hc : c = #[] := Array.eq_empty_of_size_eq_zero h
  subst hc
  unfold strTimes
  split
  · rfl
  · have : ∀ k : Nat, (List.replicate k (#[] : Array Nat)).foldl (· ++ ·) #[] = #[] := by
      intro k
      induction k with
      | zero => rfl
      | succ k ih => rw [List.replicate_succ, List.foldl_cons]; simpa using ih
    show (⟨_⟩ : Str) = ⟨#[]⟩
    rw [this]
def rMulS : R2 := fun x y H Q => ∃ z n, x = .str z ∧ y = .int n ∧ 0 ≤ n ∧ n < 1000000 ∧ z.length ≤ 10000 ∧ z.length * n.toNat ≤ 16777216 ∧ Q (.str (strTimes z n)) H
theorem op_mulS {X : Cx} : OpR X (binaryOp .Mult) rMulS := by
  intro pins s σ H x y v u Q I rx ry h
  obtain ⟨z, n, rfl, rfl, h0, h1, hz, h4, q⟩ := h
  obtain ⟨t, rfl⟩ := rx
  obtain ⟨t', rfl⟩ := ry
  have h2 : ¬ n ≥ (2 : Int) ^ 63 := by omega
  have h3 : ¬ n < -(2 ^ 63 : Int) := by omega
  refine PySem.P.mul_str (by rw [decide_eq_false h3, decide_eq_false h2]; rfl) (fun hn _ => ?_) (fun hn _ => ?_) ?_
  · have : (z.length : Int) ≤ 10000 := by omega
    have hd : (10000 : Int) ≤ (2 ^ 63 - 1) / n := by
      have hn0 : 0 < n := by omega
      exact (Int.le_ediv_iff_mul_le hn0).mpr (by omega)
    omega
  · have h5 : z.length * n.toNat ≤ sizeLine := len_le h4
    exact decide_eq_false (Nat.not_lt.mpr h5)
  · by_cases hn : n < 1
    · rw [if_pos hn]
      have e : strTimes z n = Str.empty := if_pos hn
      rw [e] at q
      exact ⟨by decide, .str _, H, I.tok _, ⟨_, rfl⟩, q⟩
    · rw [if_neg hn]
      by_cases hc : (n == 1 || z.length == 0) = true
      · rw [if_pos hc]
        have e : strTimes z n = z := by
          rcases Bool.or_eq_true_iff.mp hc with c | c
          · rw [beq_iff_eq] at c; subst c; exact strTimes_one z
          · rw [beq_iff_eq] at c; exact strTimes_nil c n
        rw [e] at q
        exact ⟨.str z, H, I, ⟨t, rfl⟩, q⟩
      · rw [if_neg hc]
        have e : strTimes z n = ⟨(List.replicate n.toNat z.cps).foldl (· ++ ·) #[]⟩ := if_neg hn
        rw [e] at q
        refine ⟨len_le ?_, .str _, H, I.tok _, ⟨_, rfl⟩, q⟩
        show (List.foldl (· ++ ·) #[] (List.replicate n.toNat z.cps)).size ≤ 16777216
        rw [size_reps]
        have h6 : z.cps.size * n.toNat ≤ 16777216 := h4
        rw [Nat.mul_comm] at h6
        have : (#[] : Array Nat).size = 0 := rfl
        omega
def rMulG (K : PySem.W.Frag) : R2 := fun x y H Q => rI CMul (fun i j => .int (i * j)) x y H Q ∨ rMulS x y H Q ∨ rRepT K x y H Q ∨ rRep x y H Q
theorem op_mulG {X : Cx} : OpR X (binaryOp .Mult) (rMulG X.K) := OpR.or op_mul (OpR.or op_mulS (OpR.or op_repT op_rep))
theorem Dats.rep {K mg F A} {vs ds} (h : Dats K mg F A vs ds) : ∀ n : Nat, Dats K mg F A (List.replicate n vs).flatten (List.replicate n ds).flatten
  | 0 => .nil
  | n + 1 => by rw [List.replicate_succ, List.replicate_succ, List.flatten_cons, List.flatten_cons]; exact h.append (Dats.rep h n)
theorem mulG_ent {K mg} : OpE K mg (rMulG K) gMul := by
  intro F A P S H x y dx dy d Q rp hx hy e k
  unfold gMul at e
  split at e
  · split at e
    · rename_i hh
      cases e; cases hx; cases hy
      exact .inl ⟨_, _, rfl, rfl, hh, okE.now k rp .int⟩
    · cases e
  · split at e
    · rename_i hh
      cases e; cases hx; cases hy
      exact .inr (.inl ⟨_, _, rfl, rfl, hh.1, hh.2.1, hh.2.2.1, hh.2.2.2, okE.now k rp .str⟩)
    · cases e
  · split at e
    · rename_i hh
      cases e; cases hy
      obtain ⟨a, vs, rfl, h1, h2⟩ := tup_at rp hx
      refine .inr (.inr (.inl ⟨a, _, vs, rfl, rfl, h1, fun z => ?_, hh.2.1, hh.2.2.1, by rw [h2.length]; exact hh.2.2.2, fun p hp => ?_⟩))
      · subst z; cases h2; exact hh.1 rfl
      · obtain ⟨x2, r2⟩ := rp.frz (o := .tup (List.replicate _ vs).flatten) hp
        exact k _ _ _ _ x2 r2 (.tup (SqT.of upd_same) ((h2.rep _).mono x2))
    · cases e
  · split at e
    · rename_i xs e1
      split at e
      · rename_i hh
        cases e; cases hy
        obtain ⟨a, vs, rfl, h1, h2⟩ := itemsL_at rp hx e1
        refine .inr (.inr (.inr ⟨a, _, vs, rfl, rfl, h1, by omega, by omega, by rw [h2.length]; exact len_le hh.2.2, fun p hp => ?_⟩))
        obtain ⟨x2, r2⟩ := rp.frz (o := .lst (List.replicate _ vs).flatten) hp
        exact k _ _ _ _ x2 r2 (.list upd_same ((h2.rep _).mono x2))
      · cases e
    · cases e
  · cases e
end DL
namespace DL
open PySem PySem.Spec PyProof.Rows L2

/-! ### data as PyData, for == -/
mutual
def toPy : D → Option PyData
  | .non => some .none
  | .bl b => some (.bool b)
  | .int i => some (.int i)
  | .str x => some (.str x)
  | .rd xs => (toPys xs).map .list
  | .list xs => (toPys xs).map .list
  | .tup xs => (toPys xs).map .tuple
  | _ => none
def toPys : List D → Option (List PyData)
  | [] => some []
  | d :: ds => match toPy d, toPys ds with
    | some a, some b => some (a :: b)
    | _, _ => none
end
def toPyS (S : Store) (d : D) : Option PyData := match itemsR S d with
  | some xs => (toPys xs).map .list
  | none => toPy d
section
variable {K : PySem.W.Frag} {mg : Str → Option Value} {F : Hp} {A : List Addr} {P H : Hp} {S : Store}
mutual
theorem dp_of (le : Same F H) : ∀ {v : V} {d : D} {p : PyData}, Dat K mg F A v d → toPy d = some p → Dp K H v p
  | _, _, _, .non, e => by simp only [toPy, Option.some.injEq] at e; subst e; exact .non
  | _, _, _, .bl, e => by simp only [toPy, Option.some.injEq] at e; subst e; exact .bl _
  | _, _, _, .int, e => by simp only [toPy, Option.some.injEq] at e; subst e; exact .int _
  | _, _, _, .str, e => by simp only [toPy, Option.some.injEq] at e; subst e; exact .str _
  | _, _, _, .rd h r, e => by
    simp only [toPy, Option.map_eq_some_iff] at e
    obtain ⟨ps, e1, rfl⟩ := e
    exact .lst (le.seq h) (dps_of le r e1)
  | _, _, _, .list h r, e => by
    simp only [toPy, Option.map_eq_some_iff] at e
    obtain ⟨ps, e1, rfl⟩ := e
    exact .lst (SqL.of (le _ _ h)) (dps_of le r e1)
  | _, _, _, .tup h r, e => by
    simp only [toPy, Option.map_eq_some_iff] at e
    obtain ⟨ps, e1, rfl⟩ := e
    exact .tup (sqt_mono le h) (dps_of le r e1)
  | _, _, _, .dict _ _, e => by simp [toPy] at e
  | _, _, _, .ins _ _ _, e => by simp [toPy] at e
  | _, _, _, .ref _, e => by simp [toPy] at e
  | _, _, _, .cls _, e => by simp [toPy] at e
  | _, _, _, .ty, e => by simp [toPy] at e
theorem dps_of (le : Same F H) : ∀ {v : List V} {d : List D} {p : List PyData}, Dats K mg F A v d → toPys d = some p → DpAll K H v p
  | _, _, _, .nil, e => by simp only [toPys, Option.some.injEq] at e; subst e; exact .nil
  | _, _, _, .cons h r, e => by
    simp only [toPys] at e
    split at e
    · rename_i a b e1 e2
      simp only [Option.some.injEq] at e
      subst e
      exact .cons (dp_of le h e1) (dps_of le r e2)
    · cases e
end
theorem dp_ofS (r : Rep K mg F A S P H) {v : V} {d : D} {p : PyData} (h : Dat K mg F A v d) (e : toPyS S d = some p) : Dp K H v p := by
  unfold toPyS at e
  split at e
  · rename_i xs e1
    obtain ⟨a, vs, rfl, h1, h2⟩ := itemsR_at r h e1
    simp only [Option.map_eq_some_iff] at e
    obtain ⟨ps, e2, rfl⟩ := e
    exact .lst h1 (dps_of r.le h2 e2)
  · exact dp_of r.le h e
end
def shaped2 (p q : PyData) : Bool := SeqAt.shaped p && SeqAt.shaped q
def eqB (x y : D) (S : Store) : Option Bool := match x, y with
  | .str a, .str b => some (decide (a = b))
  | .int a, .int b => some (decide (a = b))
  | .bl a, .bl b => some (decide (a = b))
  | .non, .non => some true
  | .non, .str _ => some false
  | .non, .int _ => some false
  | .non, .bl _ => some false
  | .str _, .non => some false
  | .int _, .non => some false
  | .bl _, .non => some false
  | .int _, .str _ => some false
  | .str _, .int _ => some false
  | .bl _, .str _ => some false
  | .str _, .bl _ => some false
  | x, y => match toPyS S x, toPyS S y with
    | some p, some q => if shaped2 p q then some (PyData.eqv p q) else none
    | _, _ => none
def gEq (x y : D) (S : Store) : Option D := (eqB x y S).map .bl
def gNe (x y : D) (S : Store) : Option D := (eqB x y S).map fun b => .bl (!b)
def rEqG (K : PySem.W.Frag) : R2 := fun x y H Q => rEq x y H Q ∨ rEqD K x y H Q
def rNeG (K : PySem.W.Frag) : R2 := fun x y H Q => rNe x y H Q ∨ rNeD K x y H Q
theorem op_eqG {X : Cx} (hu : X.A.units + 64 < cLine) : OpR X (compareOp .Eq) (rEqG X.K) := OpR.or op_eq (op_eqD hu)
theorem op_neG {X : Cx} (hu : X.A.units + 64 < cLine) : OpR X (compareOp .NotEq) (rNeG X.K) := OpR.or op_ne (op_neD hu)
theorem eqB_at {K mg F A P H S x y dx dy b} (rp : Rep K mg F A S P H) (hx : Dat K mg F A x dx) (hy : Dat K mg F A y dy) (e : eqB dx dy S = some b) :
    (scal x y = true ∧ decide (x = y) = b) ∨ ∃ p q, Dp K H x p ∧ Dp K H y q ∧ SeqAt.shaped p = true ∧ SeqAt.shaped q = true ∧ PyData.eqv p q = b := by
  unfold eqB at e
  split at e <;> try (cases e; cases hx; cases hy; exact .inl ⟨rfl, by simp⟩)
  split at e
  · rename_i p q e1 e2
    split at e
    · rename_i hs
      cases e
      unfold shaped2 at hs
      rw [Bool.and_eq_true] at hs
      exact .inr ⟨p, q, dp_ofS rp hx e1, dp_ofS rp hy e2, hs.1, hs.2, rfl⟩
    · cases e
  · cases e
theorem eqG_ent {K mg} : OpE K mg (rEqG K) gEq := by
  intro F A P S H x y dx dy d Q rp hx hy e k
  unfold gEq at e
  rw [Option.map_eq_some_iff] at e
  obtain ⟨b, e, rfl⟩ := e
  rcases eqB_at rp hx hy e with ⟨h1, h2⟩ | ⟨p, q, h1, h2, h3, h4, h5⟩
  · exact .inl ⟨h1, by rw [h2]; exact okE.now k rp .bl⟩
  · exact .inr ⟨p, q, h1, h2, h3, h4, by rw [h5]; exact okE.now k rp .bl⟩
theorem neG_ent {K mg} : OpE K mg (rNeG K) gNe := by
  intro F A P S H x y dx dy d Q rp hx hy e k
  unfold gNe at e
  rw [Option.map_eq_some_iff] at e
  obtain ⟨b, e, rfl⟩ := e
  rcases eqB_at rp hx hy e with ⟨h1, h2⟩ | ⟨p, q, h1, h2, h3, h4, h5⟩
  · exact .inl ⟨h1, by rw [h2]; exact okE.now k rp .bl⟩
  · exact .inr ⟨p, q, h1, h2, h3, h4, by rw [h5]; exact okE.now k rp .bl⟩

/-! ### order -/
def ltS (a b : Str) : Bool := decide (a.cps.toList < b.cps.toList)
def gLt : D → D → Store → Option D
  | .int i, .int j, _ => some (.bl (decide (i < j)))
  | .str i, .str j, _ => some (.bl (ltS i j))
  | _, _, _ => none
def gLe : D → D → Store → Option D
  | .int i, .int j, _ => some (.bl (decide (i ≤ j)))
  | .str i, .str j, _ => some (.bl (!ltS j i))
  | _, _, _ => none
def gGt : D → D → Store → Option D
  | .int i, .int j, _ => some (.bl (decide (j < i)))
  | .str i, .str j, _ => some (.bl (ltS j i))
  | _, _, _ => none
def gGe : D → D → Store → Option D
  | .int i, .int j, _ => some (.bl (decide (j ≤ i)))
  | .str i, .str j, _ => some (.bl (!ltS i j))
  | _, _, _ => none
def rOrd (f : Int → Int → Bool) (g : Str → Str → Bool) : R2 := fun x y H Q => rI0 (fun i j => .bl (f i j)) x y H Q ∨ ∃ i j, x = .str i ∧ y = .str j ∧ Q (.bl (g i j)) H
theorem ord_ent {K mg} {f : Int → Int → Bool} {g : Str → Str → Bool} : OpE K mg (rOrd f g) (fun x y S => match x, y with
    | .int i, .int j => some (.bl (f i j))
    | .str i, .str j => some (.bl (g i j))
    | _, _ => none) := by
  intro F A P S H x y dx dy d Q rp hx hy e k
  dsimp only at e
  split at e
  · cases e; cases hx; cases hy
    exact .inl ⟨_, _, rfl, rfl, okE.now k rp .bl⟩
  · cases e; cases hx; cases hy
    exact .inr ⟨_, _, rfl, rfl, okE.now k rp .bl⟩
  · cases e
theorem OpE.eq {K mg} {r : R2} {g g' : D → D → Store → Option D} (h : OpE K mg r g) (e : ∀ x y S, g' x y S = g x y S) : OpE K mg r g' := by
  intro F A P S H x y dx dy d Q rp hx hy e' k
  exact h _ _ _ _ _ _ _ _ _ _ _ rp hx hy (by rw [← e]; exact e') k
section
variable {X : Cx}
theorem op_ltG : OpR X (compareOp .Lt) (rOrd (fun i j => decide (i < j)) ltS) := OpR.or op_lt op_lt_str
theorem op_leG : OpR X (compareOp .LtE) (rOrd (fun i j => decide (i ≤ j)) fun i j => !ltS j i) := OpR.or op_le op_le_str
theorem op_gtG : OpR X (compareOp .Gt) (rOrd (fun i j => decide (j < i)) fun i j => ltS j i) := OpR.or op_gt op_gt_str
theorem op_geG : OpR X (compareOp .GtE) (rOrd (fun i j => decide (j ≤ i)) fun i j => !ltS i j) := OpR.or op_ge op_ge_str
end
theorem ltG_ent {K mg} : OpE K mg (rOrd (fun i j => decide (i < j)) ltS) gLt := ord_ent.eq fun x y S => by cases x <;> cases y <;> rfl
theorem leG_ent {K mg} : OpE K mg (rOrd (fun i j => decide (i ≤ j)) fun i j => !ltS j i) gLe := ord_ent.eq fun x y S => by cases x <;> cases y <;> rfl
theorem gtG_ent {K mg} : OpE K mg (rOrd (fun i j => decide (j < i)) fun i j => ltS j i) gGt := ord_ent.eq fun x y S => by cases x <;> cases y <;> rfl
theorem geG_ent {K mg} : OpE K mg (rOrd (fun i j => decide (j ≤ i)) fun i j => !ltS i j) gGe := ord_ent.eq fun x y S => by cases x <;> cases y <;> rfl

/-! ### is -/
def isB : D → D → Store → Option Bool
  | .bl a, .bl b, _ => some (decide (a = b))
  | x, .non, _ => match x with
    | .non => some true
    | _ => some false
  | .bl _, _, _ => none
  | .non, .bl _, _ => some false
  | _, _, _ => none
end DL
namespace DL
open PySem PySem.Spec PyProof.Rows L2

/-! ### is -/
def gIs : D → D → Store → Option D
  | .bl a, .bl b, _ => some (.bl (decide (a = b)))
  | .non, .non, _ => some (.bl true)
  | .bl _, .non, _ => some (.bl false)
  | .int _, .non, _ => some (.bl false)
  | .str _, .non, _ => some (.bl false)
  | .rd _, .non, _ => some (.bl false)
  | .list _, .non, _ => some (.bl false)
  | .tup _, .non, _ => some (.bl false)
  | .dict _, .non, _ => some (.bl false)
  | .ins _ _, .non, _ => some (.bl false)
  | .ref _, .non, _ => some (.bl false)
  | _, _, _ => none
def gIsNot (x y : D) (S : Store) : Option D := match gIs x y S with
  | some (.bl b) => some (.bl (!b))
  | _ => none
def rIsG : R2 := fun x y H Q => (y = .non ∧ Q (.bl (decide (x = .non))) H) ∨ rIsB x y H Q
def rIsNotG : R2 := fun x y H Q => (y = .non ∧ Q (.bl (!decide (x = .non))) H) ∨ rNotB x y H Q
theorem op_isG {X : Cx} : OpR X (compareOp .Is) rIsG := OpR.or op_isN op_isBl
theorem op_isNotG {X : Cx} : OpR X (compareOp .IsNot) rIsNotG := OpR.or op_notN op_notBl
theorem is_at {K mg F A S x y dx dy d} (hx : Dat K mg F A x dx) (hy : Dat K mg F A y dy) (e : gIs dx dy S = some d) :
    (∃ a b, x = .bl a ∧ y = .bl b ∧ d = .bl (decide (a = b))) ∨ (y = .non ∧ d = .bl (decide (x = .non))) := by
  unfold gIs at e
  split at e <;> cases e <;> cases hx <;> cases hy <;> first
    | exact .inl ⟨_, _, rfl, rfl, rfl⟩
    | exact .inr ⟨rfl, by simp⟩
theorem isG_ent {K mg} : OpE K mg rIsG gIs := by
  intro F A P S H x y dx dy d Q rp hx hy e k
  rcases is_at hx hy e with ⟨a, b, rfl, rfl, rfl⟩ | ⟨rfl, rfl⟩
  · exact .inr ⟨a, b, rfl, rfl, okE.now k rp .bl⟩
  · exact .inl ⟨rfl, okE.now k rp .bl⟩
theorem isNotG_ent {K mg} : OpE K mg rIsNotG gIsNot := by
  intro F A P S H x y dx dy d Q rp hx hy e k
  unfold gIsNot at e
  split at e
  · rename_i c e1
    cases e
    rcases is_at hx hy e1 with ⟨a, b, rfl, rfl, e2⟩ | ⟨rfl, e2⟩
    · cases e2; exact .inr ⟨a, b, rfl, rfl, okE.now k rp .bl⟩
    · cases e2; exact .inl ⟨rfl, okE.now k rp .bl⟩
  · cases e

/-! ### in -/
/-- flat data as values -/
def scV : D → Option V
  | .non => some .non
  | .bl b => some (.bl b)
  | .int i => some (.int i)
  | .str x => some (.str x)
  | _ => none
def scVs : List D → Option (List V)
  | [] => some []
  | d :: ds => match scV d, scVs ds with
    | some a, some b => some (a :: b)
    | _, _ => none
def keyOf : D → Option Key
  | .int i => some (.inl i)
  | .str x => some (.inr x)
  | _ => none
def itemsK (S : Store) : D → Option (List (Key × D))
  | .dict kvs => some kvs
  | .ref n => match S[n]? with
    | some (.dict kvs) => some kvs
    | _ => none
  | _ => none
def valD (kvs : List (Key × D)) (k : Key) : Option D := (kvs.find? fun kv => decide (kv.1 = k)).map (·.2)
def itemsS (S : Store) : D → Option (List D)
  | .tup xs => some xs
  | d => itemsR S d
def inStr (a b : Str) : Bool := match a.cps.toList with
  | [c] => decide (c ∈ b.cps.toList)
  | _ => !(Builtin.Str.occurrences b a 0 b.length 1).isEmpty
def inB (x y : D) (S : Store) : Option Bool := match x, y with
  | .str a, .str b => some (inStr a b)
  | x, y => match itemsK S y with
    | some kvs => match keyOf x with
      | some k => some (valD kvs k).isSome
      | none => none
    | none => match itemsS S y with
      | some xs => match scV x, scVs xs with
        | some v, some vs => some (inV v vs)
        | _, _ => match itemsR S y, toPyS S x, toPys xs with
          | some _, some p, some ps => if shaped2 p (.list ps) then some (ps.any fun z => PyData.eqv z p) else none
          | _, _, _ => none
      | none => none
def gIn (x y : D) (S : Store) : Option D := (inB x y S).map .bl
def gNotIn (x y : D) (S : Store) : Option D := (inB x y S).map fun b => .bl (!b)
def rInS1 (n : Bool) : R2 := fun x y H Q => ∃ (c : Nat) (z : Str), x = .str ⟨#[c]⟩ ∧ y = .str z ∧ Q (.bl (if n then !decide (c ∈ z.cps.toList) else decide (c ∈ z.cps.toList))) H
def rInS (n : Bool) : R2 := fun x y H Q => ∃ i j, x = .str i ∧ y = .str j ∧ Q (.bl (if n then !(!(Builtin.Str.occurrences j i 0 j.length 1).isEmpty) else !(Builtin.Str.occurrences j i 0 j.length 1).isEmpty)) H
def rInK (n : Bool) : R2 := fun x y H Q => ∃ a kvs k, x = kV k ∧ y = .ref a ∧ Rd H a (.dK kvs) ∧ Q (.bl (if n then !(valV kvs k).isSome else (valV kvs k).isSome)) H
def rInDn (K : PySem.W.Frag) (n : Bool) : R2 := if n then rNotInD K else rInD K
def rInG (K : PySem.W.Frag) (n : Bool) : R2 := fun x y H Q => rInS1 n x y H Q ∨ rInS n x y H Q ∨ rInK n x y H Q ∨ rIn K n x y H Q ∨ rInDn K n x y H Q
section
variable {X : Cx}
theorem op_inK (hu : X.A.units + 1 < cLine) : OpR X (compareOp .In) (rInK false) := by
  intro pins s σ H x y v u Q I rx ry h
  obtain ⟨a, kvs, k, rfl, rfl, h1, q⟩ := h
  cases (show u = Value.ref a from ry)
  exact d_in hu I (.inl ⟨kvs, k, h1, rfl, rfl⟩) rx fun s' I' => ⟨.bl _, H, I', rfl, q⟩
theorem op_notInK (hu : X.A.units + 1 < cLine) : OpR X (compareOp .NotIn) (rInK true) := by
  intro pins s σ H x y v u Q I rx ry h
  obtain ⟨a, kvs, k, rfl, rfl, h1, q⟩ := h
  cases (show u = Value.ref a from ry)
  exact d_notIn hu I (.inl ⟨kvs, k, h1, rfl, rfl⟩) rx fun s' I' => ⟨.bl _, H, I', rfl, q⟩
theorem op_inG (hu : X.A.units + 65 < cLine) : OpR X (compareOp .In) (rInG X.K false) := OpR.or op_in_sign (OpR.or op_in_str (OpR.or (op_inK (by omega)) (OpR.or op_in_seq (op_inD hu))))
theorem op_notInG (hu : X.A.units + 65 < cLine) : OpR X (compareOp .NotIn) (rInG X.K true) := OpR.or op_notIn_sign (OpR.or op_notin_str (OpR.or (op_notInK (by omega)) (OpR.or op_notIn_seq (op_notInD hu))))
end
section
variable {K : PySem.W.Frag} {mg : Str → Option Value} {F : Hp} {A : List Addr} {P H : Hp} {S : Store}
theorem scV_at {v : V} {d : D} {w : V} (h : Dat K mg F A v d) (e : scV d = some w) : v = w ∧ flatV v = true := by
  cases h <;> simp [scV] at e <;> subst e <;> exact ⟨rfl, rfl⟩
theorem scVs_at : ∀ {v : List V} {d : List D} {w : List V}, Dats K mg F A v d → scVs d = some w → v = w ∧ v.all flatV = true
  | _, _, _, .nil, e => by simp [scVs] at e; subst e; exact ⟨rfl, rfl⟩
  | _, _, _, .cons h r, e => by
    simp only [scVs] at e
    split at e
    · rename_i a b e1 e2
      simp only [Option.some.injEq] at e
      subst e
      obtain ⟨h1, h2⟩ := scV_at h e1
      obtain ⟨h3, h4⟩ := scVs_at r e2
      subst h1 h3
      exact ⟨rfl, by rw [List.all_cons, h2, h4]; rfl⟩
    · cases e
theorem keyOf_at {v : V} {d : D} {k : Key} (h : Dat K mg F A v d) (e : keyOf d = some k) : v = kV k := by
  cases h <;> simp [keyOf] at e <;> subst e <;> rfl
theorem DatsK.val : ∀ {vs : List (Key × V)} {ds : List (Key × D)} {k : Key}, DatsK K mg F A vs ds → (valV vs k = none ∧ valD ds k = none) ∨ ∃ v d, valV vs k = some v ∧ valD ds k = some d ∧ Dat K mg F A v d
  | _, _, _, .nil => .inl ⟨rfl, rfl⟩
  | _, _, k, .cons (k := j) h r => by
    by_cases e : j = k
    · refine .inr ⟨_, _, valV_pos e, ?_, h⟩
      simp [valD, List.find?_cons, e]
    · have e2 : ∀ (d : D) (ds : List (Key × D)), valD ((j, d) :: ds) k = valD ds k := fun d ds => by simp [valD, List.find?_cons, e]
      rw [e2, valV_neg (p := (j, _)) e]
      exact DatsK.val r
theorem itemsK_at (r : Rep K mg F A S P H) {v : V} {d : D} {xs : List (Key × D)} (h : Dat K mg F A v d) (e : itemsK S d = some xs) : ∃ a vs, v = .ref a ∧ Rd H a (.dK vs) ∧ DatsK K mg F A vs xs := by
  cases h with
  | dict h1 h2 => cases e; exact ⟨_, _, rfl, .inr ⟨_, r.le _ _ h1⟩, h2⟩
  | @ref a n h1 =>
    simp only [itemsK] at e
    split at e
    · rename_i ys hs
      cases e
      obtain ⟨b, vs, e1, e2, e3, e4⟩ := r.so _ _ hs
      rw [h1] at e1; cases e1
      exact ⟨_, _, rfl, .inl e3, e4⟩
    · cases e
  | _ => simp [itemsK] at e
theorem itemsK_atR (r : Rep K mg F A S P H) {a : Addr} {n : Nat} {xs : List (Key × D)} (h : A[n]? = some a) (e : itemsK S (.ref n) = some xs) : ∃ vs, H a = some (.dK vs) ∧ DatsK K mg F A vs xs := by
  simp only [itemsK] at e
  split at e
  · rename_i ys hs
    cases e
    obtain ⟨b, vs, e1, e2, e3, e4⟩ := r.so _ _ hs
    rw [h] at e1; cases e1
    exact ⟨_, e3, e4⟩
  · cases e
theorem itemsS_at (r : Rep K mg F A S P H) {v : V} {d : D} {xs : List D} (h : Dat K mg F A v d) (e : itemsS S d = some xs) : ∃ a vs, v = .ref a ∧ (SqL K H a vs ∨ SqT K H a vs) ∧ Dats K mg F A vs xs := by
  cases d with
  | tup ys =>
    cases e
    obtain ⟨a, vs, h1, h2, h3⟩ := tup_at r h
    exact ⟨a, vs, h1, .inr h2, h3⟩
  | _ =>
    first
      | (obtain ⟨a, vs, h1, h2, h3⟩ := itemsR_at r h e; exact ⟨a, vs, h1, .inl h2, h3⟩)
      | (simp [itemsS, itemsR, itemsL] at e)
theorem inG_at (rp : Rep K mg F A S P H) {x y : V} {dx dy : D} {b : Bool} {n : Bool} {Q : VK} (hx : Dat K mg F A x dx) (hy : Dat K mg F A y dy) (e : inB dx dy S = some b)
    (q : Q (.bl (if n then !b else b)) H) : rInG K n x y H Q := by
  unfold inB at e
  split at e
  · cases hx; cases hy
    rename_i a b'
    cases e
    cases hc : a.cps.toList with
    | nil =>
      have e : inStr a b' = !(Builtin.Str.occurrences b' a 0 b'.length 1).isEmpty := by unfold inStr; rw [hc]
      rw [e] at q
      exact .inr (.inl ⟨a, b', rfl, rfl, q⟩)
    | cons c r =>
      cases r with
      | nil =>
        have e : inStr a b' = decide (c ∈ b'.cps.toList) := by unfold inStr; rw [hc]
        rw [e] at q
        have ea : a = ⟨#[c]⟩ := by
          obtain ⟨p⟩ := a
          have : p = #[c] := by rw [← Array.toList_inj]; exact hc
          rw [this]
        subst ea
        exact .inl ⟨c, b', rfl, rfl, q⟩
      | cons c2 r =>
        have e : inStr a b' = !(Builtin.Str.occurrences b' a 0 b'.length 1).isEmpty := by unfold inStr; rw [hc]
        rw [e] at q
        exact .inr (.inl ⟨a, b', rfl, rfl, q⟩)
  · split at e
    · rename_i kvs e1
      split at e
      · rename_i k e2
        cases e
        obtain ⟨a, vs, rfl, h1, h2⟩ := itemsK_at rp hy e1
        refine .inr (.inr (.inl ⟨a, vs, k, keyOf_at hx e2, rfl, h1, ?_⟩))
        rcases h2.val (k := k) with ⟨z1, z2⟩ | ⟨v, d, z1, z2, _⟩ <;> rw [z1] <;> rw [z2] at q <;> exact q
      · cases e
    · split at e
      · rename_i xs e1
        obtain ⟨a, vs, rfl, h1, h2⟩ := itemsS_at rp hy e1
        split at e
        · rename_i v ws e2 e3
          cases e
          obtain ⟨z1, z2⟩ := scV_at hx e2
          obtain ⟨z3, z4⟩ := scVs_at h2 e3
          subst z1 z3
          exact .inr (.inr (.inr (.inl ⟨a, vs, rfl, h1, z2, z4, q⟩)))
        · split at e
          · rename_i ys p ps e4 e5 e6
            split at e
            · rename_i hs
              cases e
              unfold shaped2 at hs
              rw [Bool.and_eq_true] at hs
              have h5 := dp_ofS rp hx e5
              obtain ⟨a2, vs2, ea, h6, h7⟩ := itemsR_at rp hy e4
              cases ea
              have exy : xs = ys := by
                have z : itemsS S dy = some ys := by
                  cases hy <;> first | exact e4 | (simp [itemsR, itemsL] at e4)
                rw [e1] at z
                exact Option.some.inj z
              subst exy
              refine .inr (.inr (.inr (.inr ?_)))
              have hl : Dp K H (.ref a) (.list ps) := .lst h6 (dps_of rp.le h7 e6)
              cases n
              · exact ⟨p, ps, h5, hl, hs.1, hs.2, q⟩
              · exact ⟨p, ps, h5, hl, hs.1, hs.2, q⟩
            · cases e
          · cases e
      · cases e
theorem inG_ent : OpE K mg (rInG K false) gIn := by
  intro F A P S H x y dx dy d Q rp hx hy e k
  unfold gIn at e
  rw [Option.map_eq_some_iff] at e
  obtain ⟨b, e, rfl⟩ := e
  exact inG_at rp hx hy e (okE.now k rp .bl)
theorem notInG_ent : OpE K mg (rInG K true) gNotIn := by
  intro F A P S H x y dx dy d Q rp hx hy e k
  unfold gNotIn at e
  rw [Option.map_eq_some_iff] at e
  obtain ⟨b, e, rfl⟩ := e
  exact inG_at rp hx hy e (okE.now k rp .bl)
end

/-! ### comparisons as expressions and tests; truth -/
def truB (S : Store) : D → Option Bool
  | .non => some false
  | .bl b => some b
  | .int i => some (i != 0)
  | .str x => if x.length ≤ 16777216 then some ((x.length : Int) != 0) else none
  | .tup xs => some (!xs.isEmpty)
  | .dict _ => none
  | d => match itemsR S d with
    | some xs => some (!xs.isEmpty)
    | none => match itemsK S d with
      | some xs => some (!xs.isEmpty)
      | none => none
theorem Dats.isEmpty {K mg F A} {vs ds} (h : Dats K mg F A vs ds) : vs.isEmpty = ds.isEmpty := by cases h <;> rfl
theorem DatsK.isEmpty {K mg F A} {vs ds} (h : DatsK K mg F A vs ds) : vs.isEmpty = ds.isEmpty := by cases h <;> rfl
theorem tru_at {K mg F A P H S} (rp : Rep K mg F A S P H) {x : V} {d : D} {b : Bool} (h : Dat K mg F A x d) (e : truB S d = some b) : TruV K x H b := by
  cases h with
  | non => simp [truB] at e; subst e; rfl
  | bl => simp [truB] at e; subst e; rfl
  | int => simp only [truB, Option.some.injEq] at e; subst e; rfl
  | str =>
    simp only [truB] at e
    split at e
    · rename_i hl
      cases e
      exact ⟨len_le hl, rfl⟩
    · cases e
  | rd h1 h2 =>
    simp only [truB, itemsR, Option.some.injEq] at e
    exact .inl ⟨_, h1 |> sql_mono rp.le, by rw [h2.isEmpty, e]⟩
  | list h1 h2 =>
    simp only [truB, itemsR, itemsL, Option.some.injEq] at e
    exact .inl ⟨_, SqL.of (rp.le _ _ h1), by rw [h2.isEmpty, e]⟩
  | tup h1 h2 =>
    simp only [truB, Option.some.injEq] at e
    exact .inr (.inl ⟨_, sqt_mono rp.le h1, by rw [h2.isEmpty, e]⟩)
  | @ref a n h1 =>
    simp only [truB] at e
    split at e
    · rename_i xs e1
      obtain ⟨a, vs, ea, h2, h3⟩ := itemsR_at rp (.ref h1) e1
      cases ea; cases e
      exact .inl ⟨_, h2, by rw [h3.isEmpty]⟩
    · split at e
      · rename_i xs e1
        obtain ⟨vs, h2, h3⟩ := itemsK_atR rp h1 e1
        cases e
        exact .inr (.inr ⟨_, h2, by rw [h3.isEmpty]⟩)
      · cases e
  | _ => simp [truB, itemsR, itemsL, itemsK] at e
/-- a value's truth -/
def bTru (f : Ev D) : Ev Bool := fun ρ S => (f ρ S).bind fun d S => ofO (truB S d) S
def bNot (f : Ev Bool) : Ev Bool := fun ρ S => (f ρ S).bind fun b S => .ok (!b) S
def bAnd (f g : Ev Bool) : Ev Bool := fun ρ S => (f ρ S).bind fun b S => if b then g ρ S else .ok false S
def bOr (f g : Ev Bool) : Ev Bool := fun ρ S => (f ρ S).bind fun b S => if b then .ok true S else g ρ S
def eNot (f : Ev D) : Ev D := fun ρ S => (f ρ S).bind fun d S => (ofO (truB S d) S).bind fun b S => .ok (.bl (!b)) S
def eAnd (f g : Ev D) : Ev D := fun ρ S => (f ρ S).bind fun d S => (ofO (truB S d) S).bind fun b S => if b then g ρ S else .ok d S
def eOr (f g : Ev D) : Ev D := fun ρ S => (f ρ S).bind fun d S => (ofO (truB S d) S).bind fun b S => if b then .ok d S else g ρ S
def eIf (c : Ev Bool) (f g : Ev D) : Ev D := fun ρ S => (c ρ S).bind fun b S => if b then f ρ S else g ρ S
def eChain (g g' : D → D → Store → Option D) (f h k : Ev D) : Ev D := fun ρ S => (f ρ S).bind fun x S => (h ρ S).bind fun y S => match g x y S with
  | some (.bl true) => (k ρ S).bind fun z S => match g' y z S with
    | some (.bl b) => .ok (.bl b) S
    | _ => .stuck
  | some (.bl false) => .ok (.bl false) S
  | _ => .stuck
section
variable {X : Cx} {W : WX} {a b c : Expr} {f g h : Ev D} {p q : Ev Bool} {rest : List Expr} {pos : Pos}
theorem de_cmp {op : CmpOp} {r : R2} {k : D → D → Store → Option D} (ho : OpR X (compareOp op) r) (he : OpE X.K X.mg r k) (ha : DE X W a f) (hb : DE X W b g) (hm : behindInMarks op b = false := by first | exact nobehind _ (by decide) (by decide) | rfl) :
    DE X W (.Compare a [op] [b] pos) (eBin k f g) := PE.imp (pe_cmpR ho ha hb hm) (op_ent he)
theorem de_chain {op op' : CmpOp} {r r' : R2} {k k' : D → D → Store → Option D} (ho : OpR X (compareOp op) r) (he : OpE X.K X.mg r k) (ho' : OpR X (compareOp op') r') (he' : OpE X.K X.mg r' k') (ha : DE X W a f) (hb : DE X W b g) (hc : DE X W c h)
    (hm : lastMarks [op, op'] [b, c] = false := by with_unfolding_all rfl) : DE X W (.Compare a [op, op'] [b, c] pos) (eChain k k' f g h) := by
  refine PE.imp (pe_chain ho ho' ha hb hc hm) fun σ H Q ⟨F, A, P, ρ, S, rp, s, q⟩ => ?_
  refine tD.seq rp s q fun d S1 v H1 F1 A1 x1 r1 s1 d1 h1 => ?_
  have h1 := post_okE x1 h1
  refine tD.seq r1 s1 h1 fun d2 S2 v2 H2 F2 A2 x2 r2 s2 d2' h2 => ?_
  have h2 := post_okE x2 h2
  split at h2
  · rename_i e
    refine he _ _ _ _ _ _ _ _ _ _ _ r2 (d1.mono x2) d2' e fun v3 H3 F3 A3 x3 r3 d3 => ?_
    cases d3
    refine ⟨true, rfl, ?_⟩
    have h2 := post_okE x3 h2
    refine tD.seq r3 (s2.mono x3) h2 fun d4 S4 v4 H4 F4 A4 x4 r4 s4 d4' h4 => ?_
    split at h4
    · rename_i b e2
      refine he' _ _ _ _ _ _ _ _ _ _ _ r4 (d2'.mono (x3.trans x4)) d4' e2 fun v5 H5 F5 A5 x5 r5 d5 => ?_
      cases d5
      exact h4 _ _ _ _ (x4.trans x5) r5 .bl
    · exact h4.elim
  · rename_i e
    refine he _ _ _ _ _ _ _ _ _ _ _ r2 (d1.mono x2) d2' e fun v3 H3 F3 A3 x3 r3 d3 => ?_
    cases d3
    exact ⟨false, rfl, h2 _ _ _ _ x3 r3 .bl⟩
  · exact h2.elim
theorem dt_val (h : DE X W a f) (he : ∀ whole, isTrue a X.env whole = (do let v ← whole; standAt a.pos; holding [v] (truthy v)) := by intro _; rfl) : DT X W a (bTru f) :=
  PT.imp (pt_truth h he) fun σ H Q ⟨F, A, P, ρ, S, rp, s, q⟩ => by
    refine tD.seq rp s q fun d S1 v H1 F1 A1 x1 r1 s1 d1 h1 => ?_
    obtain ⟨b, e, h2⟩ := ofO_post h1
    exact ⟨b, tru_at r1 d1 e, okT.now (okT.ext x1 h2) r1⟩
theorem isTrueCmp : True := trivial
end
end DL
namespace DL
open PySem PySem.Spec PyProof.Rows L2
section
variable {X : Cx} {W : WX} {a b c : Expr} {f g h : Ev D} {p q : Ev Bool} {rest : List Expr} {pos : Pos}
/-- a comparison as a test -/
def bOfE (f : Ev D) : Ev Bool := fun ρ S => (f ρ S).bind fun d S => match d with
  | .bl b => .ok b S
  | _ => .stuck
theorem ofE_ent {f : Ev D} : ∀ σ H Q, tDT X.K X.mg W (bOfE f) σ H Q → tTest (tD X.K X.mg W f) σ H Q := fun σ H Q ⟨F, A, P, ρ, S, rp, s, q⟩ => by
  refine tD.seq rp s q fun d S1 v H1 F1 A1 x1 r1 s1 d1 h1 => ?_
  split at h1
  · cases d1
    exact ⟨_, rfl, okT.now (okT.ext x1 h1) r1⟩
  · exact h1.elim
theorem op_ent2 {K mg} {r : R2} {k : D → D → Store → Option D} {f h : Ev D} (he : OpE K mg r k) : ∀ σ H Q, tTest (tD K mg W (eBin k f h)) σ H Q → tTest (tOp r (tD K mg W f) (tD K mg W h)) σ H Q :=
  fun σ H Q z => op_ent he σ H _ z
theorem dt_cmp {op : CmpOp} {r : R2} {k : D → D → Store → Option D} (ho : OpR X (compareOp op) r) (he : OpE X.K X.mg r k) (ha : DE X W a f) (hb : DE X W b g) (hm : behindInMarks op b = false := by first | exact nobehind _ (by decide) (by decide) | rfl) :
    DT X W (.Compare a [op] [b] pos) (bOfE (eBin k f g)) := PT.imp (pt_cmpR ho ha hb hm) fun σ H Q z => op_ent2 he σ H Q (ofE_ent σ H Q z)
theorem chain_ent {r r' : R2} {k k' : D → D → Store → Option D} (he : OpE X.K X.mg r k) (he' : OpE X.K X.mg r' k') : ∀ σ H Q, tD X.K X.mg W (eChain k k' f g h) σ H Q → tChain r r' (tD X.K X.mg W f) (tD X.K X.mg W g) (tD X.K X.mg W h) σ H Q :=
  fun σ H Q ⟨F, A, P, ρ, S, rp, s, q⟩ => by
  refine tD.seq rp s q fun d S1 v H1 F1 A1 x1 r1 s1 d1 h1 => ?_
  have h1 := post_okE x1 h1
  refine tD.seq r1 s1 h1 fun d2 S2 v2 H2 F2 A2 x2 r2 s2 d2' h2 => ?_
  have h2 := post_okE x2 h2
  split at h2
  · rename_i e
    refine he _ _ _ _ _ _ _ _ _ _ _ r2 (d1.mono x2) d2' e fun v3 H3 F3 A3 x3 r3 d3 => ?_
    cases d3
    refine ⟨true, rfl, ?_⟩
    have h2 := post_okE x3 h2
    refine tD.seq r3 (s2.mono x3) h2 fun d4 S4 v4 H4 F4 A4 x4 r4 s4 d4' h4 => ?_
    split at h4
    · rename_i b e2
      refine he' _ _ _ _ _ _ _ _ _ _ _ r4 (d2'.mono (x3.trans x4)) d4' e2 fun v5 H5 F5 A5 x5 r5 d5 => ?_
      cases d5
      exact h4 _ _ _ _ (x4.trans x5) r5 .bl
    · exact h4.elim
  · rename_i e
    refine he _ _ _ _ _ _ _ _ _ _ _ r2 (d1.mono x2) d2' e fun v3 H3 F3 A3 x3 r3 d3 => ?_
    cases d3
    exact ⟨false, rfl, h2 _ _ _ _ x3 r3 .bl⟩
  · exact h2.elim
theorem dt_chain {op op' : CmpOp} {r r' : R2} {k k' : D → D → Store → Option D} (ho : OpR X (compareOp op) r) (he : OpE X.K X.mg r k) (ho' : OpR X (compareOp op') r') (he' : OpE X.K X.mg r' k') (ha : DE X W a f) (hb : DE X W b g) (hc : DE X W c h)
    (hm : lastMarks [op, op'] [b, c] = false := by with_unfolding_all rfl) : DT X W (.Compare a [op, op'] [b, c] pos) (bOfE (eChain k k' f g h)) :=
  PT.imp (pt_chain ho ho' ha hb hc hm) fun σ H Q z => chain_ent he he' σ H _ (ofE_ent σ H Q z)
theorem dt_not (ha : DT X W a p) : DT X W (.UnaryOp .Not a pos) (bNot p) := PT.imp (pt_not ha) fun σ H Q ⟨F, A, P, ρ, S, rp, s, q⟩ =>
  tDT.seq rp s q fun d S1 H1 F1 A1 x1 r1 s1 h1 => okT.now (okT.ext x1 h1) r1
abbrev DW (X : Cx) (W : WX) (e : Expr) (f : Ev Bool) : Prop := PW X e (tDT X.K X.mg W f)
theorem PW.imp {t t' : TT} {e : Expr} (h : PW X e t) (i : ∀ σ H Q, t' σ H Q → t σ H Q) : PW X e t' := ⟨fun w pins s σ H Q I z => h.run w pins s σ H Q I (i σ H Q z)⟩
theorem dw_and1 (ha : DT X W a p) : DW X W (.BoolOp .And [a] pos) p := pw_and1 ha
theorem dw_or1 (ha : DT X W a p) : DW X W (.BoolOp .Or [a] pos) p := pw_or1 ha
theorem dw_and (ha : DT X W a p) (hb : DW X W (.BoolOp .And (b :: rest) pos) q) : DW X W (.BoolOp .And (a :: b :: rest) pos) (bAnd p q) :=
  PW.imp (pw_and ha hb) fun σ H Q ⟨F, A, P, ρ, S, rp, s, z⟩ => tDT.seq rp s z fun d S1 H1 F1 A1 x1 r1 s1 h1 => by
    cases d with
    | true => rw [if_pos rfl]; exact ⟨F1, A1, P, ρ, S1, r1, s1, post_okT x1 h1⟩
    | false => rw [if_neg (by decide)]; exact okT.now (okT.ext x1 h1) r1
theorem dw_or (ha : DT X W a p) (hb : DW X W (.BoolOp .Or (b :: rest) pos) q) : DW X W (.BoolOp .Or (a :: b :: rest) pos) (bOr p q) :=
  PW.imp (pw_or ha hb) fun σ H Q ⟨F, A, P, ρ, S, rp, s, z⟩ => tDT.seq rp s z fun d S1 H1 F1 A1 x1 r1 s1 h1 => by
    cases d with
    | true => rw [if_pos rfl]; exact okT.now (okT.ext x1 h1) r1
    | false => rw [if_neg (by decide)]; exact ⟨F1, A1, P, ρ, S1, r1, s1, post_okT x1 h1⟩
theorem dt_w (h : DW X W a p) : DT X W a p := PW.pt h
/-! ### as values -/
theorem de_not (ha : DE X W a f) : DE X W (.UnaryOp .Not a pos) (eNot f) := PE.imp (pe_notT ha) fun σ H Q ⟨F, A, P, ρ, S, rp, s, q⟩ => by
  refine tD.seq rp s q fun d S1 v H1 F1 A1 x1 r1 s1 d1 h1 => ?_
  have h2 := Out.post_bind h1
  obtain ⟨b, e, h3⟩ := ofO_post h2
  exact ⟨b, tru_at r1 d1 e, okE.now (okE.ext x1 h3) r1 .bl⟩
theorem de_one {op} (ha : DE X W a f) : DE X W (.BoolOp op [a] pos) f := pe_one ha
theorem de_and (ha : DE X W a f) (hb : DE X W (.BoolOp .And (b :: rest) pos) g) : DE X W (.BoolOp .And (a :: b :: rest) pos) (eAnd f g) := PE.imp (pe_andT ha hb) fun σ H Q ⟨F, A, P, ρ, S, rp, s, q⟩ => by
  refine tD.seq rp s q fun d S1 v H1 F1 A1 x1 r1 s1 d1 h1 => ?_
  have h2 := Out.post_bind h1
  obtain ⟨b, e, h3⟩ := ofO_post h2
  refine ⟨b, tru_at r1 d1 e, ?_⟩
  cases b with
  | true => rw [if_pos rfl]; exact ⟨F1, A1, P, ρ, S1, r1, s1, post_okE x1 h3⟩
  | false => rw [if_neg (by decide)]; exact okE.now (okE.ext x1 h3) r1 d1
theorem de_or (ha : DE X W a f) (hb : DE X W (.BoolOp .Or (b :: rest) pos) g) : DE X W (.BoolOp .Or (a :: b :: rest) pos) (eOr f g) := PE.imp (pe_orT ha hb) fun σ H Q ⟨F, A, P, ρ, S, rp, s, q⟩ => by
  refine tD.seq rp s q fun d S1 v H1 F1 A1 x1 r1 s1 d1 h1 => ?_
  have h2 := Out.post_bind h1
  obtain ⟨b, e, h3⟩ := ofO_post h2
  refine ⟨b, tru_at r1 d1 e, ?_⟩
  cases b with
  | true => rw [if_pos rfl]; exact okE.now (okE.ext x1 h3) r1 d1
  | false => rw [if_neg (by decide)]; exact ⟨F1, A1, P, ρ, S1, r1, s1, post_okE x1 h3⟩
theorem de_if (hc : DT X W c p) (ha : DE X W a f) (hb : DE X W b g) : DE X W (.IfExp c a b pos) (eIf p f g) := PE.imp (pe_ifExp hc ha hb) fun σ H Q ⟨F, A, P, ρ, S, rp, s, q⟩ =>
  tDT.seq rp s q fun d S1 H1 F1 A1 x1 r1 s1 h1 => by
    cases d with
    | true => rw [if_pos rfl]; exact ⟨F1, A1, P, ρ, S1, r1, s1, post_okE x1 h1⟩
    | false => rw [if_neg (by decide)]; exact ⟨F1, A1, P, ρ, S1, r1, s1, post_okE x1 h1⟩
end

/-! ### a[i], a[lo:hi] -/
def gIx (x y : D) (S : Store) : Option D := match x, y with
  | .str z, .int i => if z.length ≤ 16777216 then (atI z.cps.toList i).map fun c => .str ⟨#[c]⟩ else none
  | x, .int i => match itemsS S x with
    | some xs => atI xs i
    | none => none
  | _, _ => none
theorem atI_dats {K mg F A} {vs : List V} {ds : List D} {i : Int} {d : D} (h : Dats K mg F A vs ds) (e : atI ds i = some d) : ∃ v, atI vs i = some v ∧ Dat K mg F A v d := by
  unfold atI at e ⊢
  rw [h.length]
  cases q : ixN ds.length i with
  | none => rw [q] at e; cases e
  | some j =>
    rw [q] at e
    exact h.get e
theorem ixG_ent {K mg} : OpE K mg (rIx K) gIx := by
  intro F A P S H x y dx dy d Q rp hx hy e k
  unfold gIx at e
  split at e
  · split at e
    · rename_i hl
      rw [Option.map_eq_some_iff] at e
      obtain ⟨c, e1, rfl⟩ := e
      cases hx; cases hy
      exact .inr (.inr ⟨_, _, c, rfl, rfl, len_le hl, e1, okE.now k rp .str⟩)
    · cases e
  · split at e
    · rename_i xs e1
      cases hy
      obtain ⟨a, vs, rfl, h1, h2⟩ := itemsS_at rp hx e1
      obtain ⟨v, h3, h4⟩ := atI_dats h2 e
      rcases h1 with h1 | h1
      · exact .inl ⟨a, vs, _, v, rfl, rfl, h1, h3, okE.now k rp h4⟩
      · exact .inr (.inl ⟨a, vs, _, v, rfl, rfl, h1, h3, okE.now k rp h4⟩)
    · cases e
  · cases e
abbrev DO (X : Cx) (W : WX) (e : Option Expr) (f : Ev (Option Int)) : Prop := PO X e (fun σ H Q => ∃ F A P ρ S, Rep X.K X.mg F A S P H ∧ Slots X.K X.mg F A σ ρ ∧
  (f ρ S).post (fun i S' => ∀ H' F' A', Ext F A F' A' → Rep X.K X.mg F' A' S' P H' → Q i H') (exE X.K X.mg F A P fun c d H' => W c d σ H'))
def oNone : Ev (Option Int) := fun _ S => .ok none S
def oSome (f : Ev D) : Ev (Option Int) := fun ρ S => (f ρ S).bind fun d S => match d with
  | .int i => .ok (some i) S
  | _ => .stuck
def cutD (xs : List D) (lo hi : Option Int) : List D := (xs.drop (HT.sIx xs.length 0 lo)).take (HT.sIx xs.length xs.length hi - HT.sIx xs.length 0 lo)
theorem cut_dats {K mg F A} {vs : List V} {ds : List D} {lo hi : Option Int} (h : Dats K mg F A vs ds) : Dats K mg F A (cutV vs lo hi) (cutD ds lo hi) := by
  unfold cutV cutD
  rw [h.length]
  exact (h.drop _).take _
def gSl (S : Store) (x : D) (lo hi : Option Int) : Option D := match x with
  | .str z => if z.length ≤ 16777216 then some (.str (cutS z lo hi)) else none
  | .tup xs => some (.tup (cutD xs lo hi))
  | x => match itemsR S x with
    | some xs => some (.list (cutD xs lo hi))
    | none => none
def eSl (f : Ev D) (lo hi : Ev (Option Int)) : Ev D := fun ρ S => (f ρ S).bind fun x S => (lo ρ S).bind fun l S => (hi ρ S).bind fun h S => ofO (gSl S x l h) S
theorem cut_whole {xs : List D} {lo hi : Option Int} (h : HT.sIx xs.length 0 lo = 0 ∧ HT.sIx xs.length xs.length hi = xs.length) : cutD xs lo hi = xs := by
  unfold cutD
  rw [h.1, h.2]
  simp
section
variable {X : Cx} {W : WX} {a b c : Expr} {f g h : Ev D} {lo hi : Option Expr} {fl fh : Ev (Option Int)} {pos p2 : Pos}
theorem do_none : DO X W none oNone := ⟨fun pins s σ H Q I ⟨F, A, P, ρ, S, rp, sl, q⟩ => po_none.run pins s σ H Q I (q H F A (Ext.refl F A) rp)⟩
theorem do_some (h : DE X W a f) : DO X W (some a) (oSome f) := ⟨fun pins s σ H Q I ⟨F, A, P, ρ, S, rp, sl, q⟩ => (po_some h).run pins s σ H Q I (by
  refine tD.seq rp sl q fun d S1 v H1 F1 A1 x1 r1 s1 d1 h1 => ?_
  split at h1
  · cases d1
    exact ⟨_, rfl, h1 H1 F1 A1 x1 r1⟩
  · exact h1.elim)⟩
def rSlG (K : PySem.W.Frag) : V → Option Int → Option Int → Hp → VK → Prop := fun x lo hi H Q => rSlS x lo hi H Q ∨ rSlA K x lo hi H Q ∨ rSlL K x lo hi H Q
theorem sl_G : SlR X (rSlG X.K) := SlR.or sl_str (SlR.or sl_tupA sl_list)
theorem slG_at {K mg F A P H S} (rp : Rep K mg F A S P H) {x : V} {dx d : D} {l u : Option Int} {Q : VK} (hx : Dat K mg F A x dx) (e : gSl S dx l u = some d) (k : okE K mg F A P Q d S) : rSlG K x l u H Q := by
  unfold gSl at e
  split at e
  · split at e
    · rename_i hl
      cases e; cases hx
      exact .inl ⟨_, rfl, len_le hl, okE.now k rp .str⟩
    · cases e
  · cases e
    rename_i xs
    obtain ⟨a, vs, rfl, h1, h2⟩ := tup_at rp hx
    refine .inr (.inl ⟨a, vs, rfl, h1, fun hw => ?_, fun hw p hp => ?_⟩)
    · rw [h2.length] at hw
      rw [cut_whole hw] at k
      exact okE.now k rp hx
    · obtain ⟨x2, r2⟩ := rp.frz (o := .tup (cutV vs l u)) hp
      exact k _ _ _ _ x2 r2 (.tup (SqT.of upd_same) ((cut_dats h2).mono x2))
  · split at e
    · rename_i xs e1
      cases e
      obtain ⟨a, vs, rfl, h1, h2⟩ := itemsR_at rp hx e1
      refine .inr (.inr ⟨a, vs, rfl, h1, fun p hp => ?_⟩)
      obtain ⟨x2, r2⟩ := rp.frz (o := .lst (cutV vs l u)) hp
      exact k _ _ _ _ x2 r2 (.list upd_same ((cut_dats h2).mono x2))
    · cases e
theorem de_sl (he : DE X W a f) (hl : DO X W lo fl) (hu : DO X W hi fh) : DE X W (.Subscript a (.Slice lo hi none p2) pos) (eSl f fl fh) :=
  PE.imp (pe_slice sl_G he hl hu) fun σ H Q ⟨F, A, P, ρ, S, rp, s, q⟩ => by
    refine tD.seq rp s q fun d S1 v H1 F1 A1 x1 r1 s1 d1 h1 => ?_
    refine ⟨F1, A1, P, ρ, S1, r1, s1, Out.post_mono (Out.post_bind (post_okE x1 h1)) (fun l S2 h2 H2 F2 A2 x2 r2 => ?_) fun _ _ _ z => z⟩
    refine ⟨F2, A2, P, ρ, S2, r2, s1.mono x2, Out.post_mono (Out.post_bind (post_okE x2 h2)) (fun u S3 h3 H3 F3 A3 x3 r3 => ?_) fun _ _ _ z => z⟩
    obtain ⟨d2, e, h4⟩ := ofO_post h3
    exact slG_at r3 (d1.mono (x2.trans x3)) e (okE.ext x3 h4)
theorem de_rev {k : Nat} {p1 p2 p3 : Pos} (he : DE X W a f) : DE X W (.Subscript a (.Slice none none (some (.UnaryOp .USub (.Constant (.int 1) k p1) p2)) p3) pos) (eUn (fun x S => (itemsR S x).map fun xs => .list xs.reverse) f) :=
  PE.imp (pe_revL he) fun σ H Q ⟨F, A, P, ρ, S, rp, s, q⟩ => by
    refine tD.seq rp s q fun d S1 v H1 F1 A1 x1 r1 s1 d1 h1 => ?_
    obtain ⟨z, e, h3⟩ := ofO_post h1
    rw [Option.map_eq_some_iff] at e
    obtain ⟨xs, e, rfl⟩ := e
    obtain ⟨a, vs, rfl, h4, h5⟩ := itemsR_at r1 d1 e
    refine ⟨a, vs, rfl, h4, fun p hp => ?_⟩
    obtain ⟨x2, r2⟩ := r1.frz (o := .lst vs.reverse) hp
    exact h3 _ _ _ _ (x1.trans x2) r2 (.list upd_same ((h5.reverse).mono x2))
end

/-! ### built-ins called by name -/
def CallE (K : PySem.W.Frag) (mg : Str → Option Value) (r : List V → Hp → VK → Prop) (g : List D → Store → Option D) : Prop :=
  ∀ F A P S H xs dx d Q, Rep K mg F A S P H → Dats K mg F A xs dx → g dx S = some d → okE K mg F A P Q d S → r xs H Q
def eCall (g : List D → Store → Option D) (f : Ev (List D)) : Ev D := fun ρ S => (f ρ S).bind fun x S => ofO (g x S) S
theorem call_ent {K mg} {W : WX} {r : List V → Hp → VK → Prop} {g : List D → Store → Option D} {f : Ev (List D)} (he : CallE K mg r g) : ∀ σ H Q, tD K mg W (eCall g f) σ H Q → tCB r (tDA K mg W f) σ H Q :=
  fun σ H Q ⟨F, A, P, ρ, S, rp, s, q⟩ => by
    refine tDA.seq rp s q fun d S1 v H1 F1 A1 x1 r1 s1 d1 h1 => ?_
    obtain ⟨z, e, h3⟩ := ofO_post h1
    exact he _ _ _ _ _ _ _ _ _ r1 d1 e (okE.ext x1 h3)
section
variable {X : Cx} {W : WX} {e : Expr} {es : List Expr} {x : Str} {id : String} {T : String} {r : List V → Hp → VK → Prop} {g : List D → Store → Option D} {f : Ev (List D)} {p pos : Pos}
theorem de_callB (hc : CallR X (.builtin id) r) (he' : CallE X.K X.mg r g) (hg : Gl X x) (hm : X.mg x = none) (hv : bootBuiltins x = some (.builtin id)) (ha : DA X W (e :: es) f) (hn : x ≠ "__name__" := by decide) (hdb : (x == ("__debug__" : Str)) = false := by decide)
    (he : starEach (e :: es) X.env = (false, eval e X.env) :: starEach es X.env := by rfl) (hpl : (backTo pos (starEach es X.env)).any (·.1) = false := by rfl) : DE X W (.Call (.Name x p) (e :: es) [] pos) (eCall g f) := PE.imp (pe_callB hc hg hm hv ha hn hdb he hpl) (call_ent he')
theorem de_callTy (hc : CallR X (.type T) r) (he' : CallE X.K X.mg r g) (hg : Gl X x) (hm : X.mg x = none) (hv : bootBuiltins x = some (.type T)) (ha : DA X W (e :: es) f) (hn : x ≠ "__name__" := by decide) (hdb : (x == ("__debug__" : Str)) = false := by decide)
    (he : starEach (e :: es) X.env = (false, eval e X.env) :: starEach es X.env := by rfl) (hpl : (backTo pos (starEach es X.env)).any (·.1) = false := by rfl) : DE X W (.Call (.Name x p) (e :: es) [] pos) (eCall g f) := PE.imp (pe_callTy hc hg hm hv ha hn hdb he hpl) (call_ent he')
theorem de_type {x : Str} {n : String} (hg : Gl X x) (hm : X.mg x = none) (hv : bootBuiltins x = some (.type n)) (hn : x ≠ "__name__" := by decide) (hd : (x == ("__debug__" : Str)) = false := by decide) : DE X W (.Name x pos) (eC (.ty n)) :=
  de_const (pe_bltn hg hm hv (v := .ty n) rfl hn hd) fun _ _ => .ty
theorem de_class {x : Str} (hg : Gl X x) (hm : ∃ c, X.mg x = some (.ref c)) (hd : (x == ("__debug__" : Str)) = false := by decide) : DE X W (.Name x pos) (eC (.cls x)) :=
  let ⟨_, hm⟩ := hm; de_const (pe_glob hg hm (v := .ref _) rfl hd) fun _ _ => .cls hm
end
theorem CallE.or {K mg} {r r' : List V → Hp → VK → Prop} {g g' : List D → Store → Option D} (h : CallE K mg r g) (h' : CallE K mg r' g') : CallE K mg (fun x H Q => r x H Q ∨ r' x H Q) (fun x S => match g x S with | some d => some d | none => g' x S) := by
  intro F A P S H x dx d Q rp hx e k
  dsimp only at e
  split at e
  · rename_i d' e'
    cases e
    exact .inl (h _ _ _ _ _ _ _ _ _ rp hx e' k)
  · exact .inr (h' _ _ _ _ _ _ _ _ _ rp hx e k)
/-- one argument -/
theorem CallE.one {K mg} {r : V → Hp → VK → Prop} {g : D → Store → Option D} (h : UnE K mg r g) : CallE K mg (fun xs H Q => ∃ x, xs = [x] ∧ r x H Q) (fun xs S => match xs with | [x] => g x S | _ => none) := by
  intro F A P S H xs dx d Q rp hx e k
  dsimp only at e
  split at e
  · rename_i d0
    cases hx with
    | cons h1 h2 =>
      cases h2
      exact ⟨_, rfl, h _ _ _ _ _ _ _ _ _ rp h1 e k⟩
  · cases e
/-- len -/
def lenD (S : Store) (x : D) : Option Nat := match x with
  | .str z => if z.length ≤ 16777216 then some z.length else none
  | x => match itemsS S x with
    | some xs => some xs.length
    | none => (itemsK S x).map List.length
def gLen : List D → Store → Option D := fun xs S => match xs with
  | [x] => (lenD S x).map fun (n : Nat) => D.int (n : Int)
  | _ => none
def rLenD : List V → Hp → VK → Prop := fun xs H Q => ∃ a kvs, xs = [.ref a] ∧ Rd H a (.dK kvs) ∧ Q (.int kvs.length) H
theorem call_lenK {X : Cx} : CallR X (.builtin "len") rLenD := by
  intro pins s σ H xs us Q I r h
  obtain ⟨a, kvs, rfl, h1, q⟩ := h
  obtain ⟨u, rfl, ru⟩ := vals1 r
  cases (show u = Value.ref a from ru)
  exact d_len I h1 fun t s' I' => ⟨.int kvs.length, H, I', ⟨t, rfl⟩, q⟩
def rLenG (K : PySem.W.Frag) : List V → Hp → VK → Prop := fun xs H Q => (∃ p ys, xs = [.ref p] ∧ (SqL K H p ys ∨ SqT K H p ys) ∧ Q (.int ys.length) H) ∨ (∃ z, xs = [.str z] ∧ z.length ≤ sizeLine ∧ Q (.int z.length) H) ∨ rLenD xs H Q
theorem call_lenG {X : Cx} : CallR X (.builtin "len") (rLenG X.K) := CallR.or call_len_seq (CallR.or call_len_str call_lenK)
theorem DatsK.length {K mg F A} : ∀ {vs ds}, DatsK K mg F A vs ds → vs.length = ds.length
  | _, _, .nil => rfl
  | _, _, .cons _ r => by rw [List.length_cons, List.length_cons, DatsK.length r]
theorem lenG_ent {K mg} : CallE K mg (rLenG K) gLen := by
  intro F A P S H xs dx d Q rp hx e k
  unfold gLen at e
  split at e
  · rename_i x
    cases hx with
    | cons h1 h2 =>
      cases h2
      rw [Option.map_eq_some_iff] at e
      obtain ⟨n, e, rfl⟩ := e
      unfold lenD at e
      split at e
      · split at e
        · rename_i hl
          cases e; cases h1
          exact .inr (.inl ⟨_, rfl, len_le hl, okE.now k rp .int⟩)
        · cases e
      · split at e
        · rename_i ys e1
          cases e
          obtain ⟨a, vs, rfl, h2, h3⟩ := itemsS_at rp h1 e1
          exact .inl ⟨a, vs, rfl, h2, by rw [h3.length]; exact okE.now k rp .int⟩
        · rw [Option.map_eq_some_iff] at e
          obtain ⟨ys, e, rfl⟩ := e
          obtain ⟨a, vs, rfl, h2, h3⟩ := itemsK_at rp h1 e
          exact .inr (.inr ⟨a, vs, rfl, h2, by rw [h3.length]; exact okE.now k rp .int⟩)
  · cases e
/-- list(x), tuple(x) of lists and tuples -/
def gList : List D → Store → Option D := fun xs S => match xs with
  | [x] => (itemsS S x).map .list
  | _ => none
def gTuple : List D → Store → Option D := fun xs S => match xs with
  | [x] => (itemsS S x).map .tup
  | _ => none
theorem listG_ent {K mg} : CallE K mg (fun xs H Q => ∃ p ys, xs = [.ref p] ∧ (SqL K H p ys ∨ SqT K H p ys) ∧ ∀ l, H l = none → Q (.ref l) (upd H l (.lst ys))) gList := by
  intro F A P S H xs dx d Q rp hx e k
  unfold gList at e
  split at e
  · cases hx with
    | cons h1 h2 =>
      cases h2
      rw [Option.map_eq_some_iff] at e
      obtain ⟨ys, e, rfl⟩ := e
      obtain ⟨a, vs, rfl, h2, h3⟩ := itemsS_at rp h1 e
      refine ⟨a, vs, rfl, h2, fun p hp => ?_⟩
      obtain ⟨x2, r2⟩ := rp.frz (o := .lst vs) hp
      exact k _ _ _ _ x2 r2 (.list upd_same (h3.mono x2))
  · cases e
theorem tupleG_ent {K mg} : CallE K mg (fun xs H Q => ∃ p ys, xs = [.ref p] ∧ ((SqL K H p ys ∧ ∀ l, H l = none → Q (.ref l) (upd H l (.tup ys))) ∨ (SqT K H p ys ∧ Q (.ref p) H))) gTuple := by
  intro F A P S H xs dx d Q rp hx e k
  unfold gTuple at e
  split at e
  · rename_i x
    cases hx with
    | cons h1 h2 =>
      cases h2
      rw [Option.map_eq_some_iff] at e
      obtain ⟨ys, e, rfl⟩ := e
      by_cases hz : ∃ zs, x = D.tup zs
      · obtain ⟨zs, rfl⟩ := hz
        cases e
        obtain ⟨a, vs, rfl, h2, h3⟩ := tup_at rp h1
        exact ⟨a, vs, rfl, .inr ⟨h2, okE.now k rp h1⟩⟩
      · have e' : itemsR S x = some ys := by
          cases x <;> first | exact e | exact absurd ⟨_, rfl⟩ hz
        obtain ⟨a, vs, rfl, h2, h3⟩ := itemsR_at rp h1 e'
        refine ⟨a, vs, rfl, .inl ⟨h2, fun p hp => ?_⟩⟩
        obtain ⟨x2, r2⟩ := rp.frz (o := .tup vs) hp
        exact k _ _ _ _ x2 r2 (.tup (SqT.of upd_same) (h3.mono x2))
  · cases e
end DL
namespace DL
open PySem PySem.Spec PyProof.Rows L2

/-! ### statements -/
inductive Res where
  | nx (ρ : Env') (S : Store) | rt (d : D) (S : Store) | bk (ρ : Env') (S : Store) | ct (ρ : Env') (S : Store)
  | ex (C : Str) (fs : List (Str × D)) (ρ : Env') (S : Store) | stuck
abbrev Stm := Env' → Store → Res
section
variable (K : PySem.W.Frag) (mg : Str → Option Value)
def nxP (F : Hp) (A : List Addr) (P : Hp) (Q : L2.St → Hp → Prop) (ρ : Env') (S : Store) : Prop := ∀ σ' H' F' A', Ext F A F' A' → Rep K mg F' A' S P H' → Slots K mg F' A' σ' ρ → Q σ' H'
def exP (F : Hp) (A : List Addr) (P : Hp) (W : WX) (C : Str) (fs : List (Str × D)) (ρ : Env') (S : Store) : Prop :=
  ∀ c d σ' H' F' A', Ext F A F' A' → Rep K mg F' A' S P H' → Slots K mg F' A' σ' ρ → mg C = some (.ref c) → ExAt K mg F' A' d fs → W (.ref c) d σ' H'
def Res.post (F : Hp) (A : List Addr) (P : Hp) (W : WX) (r : Res) (D : Ends) : Prop := match r with
  | .nx ρ S => nxP K mg F A P D.nx ρ S
  | .rt d S => okE K mg F A P D.rt d S
  | .bk ρ S => nxP K mg F A P D.bk ρ S
  | .ct ρ S => nxP K mg F A P D.ct ρ S
  | .ex C fs ρ S => exP K mg F A P W C fs ρ S
  | .stuck => False
def tDS (W : WX) (g : Stm) : TS := fun D σ H => ∃ F A P ρ S, Rep K mg F A S P H ∧ Slots K mg F A σ ρ ∧ (g ρ S).post K mg F A P W D
end
abbrev DS (X : Cx) (W : WX) (st : Stmt) (g : Stm) : Prop := PS X st (tDS X.K X.mg W g)
abbrev DSs (X : Cx) (W : WX) (st : List Stmt) (g : Stm) : Prop := PSs X st (tDS X.K X.mg W g)
section
variable {K : PySem.W.Frag} {mg : Str → Option Value} {F F' : Hp} {A A' : List Addr} {P : Hp} {S : Store} {W : WX}
theorem nxP.ext {Q : L2.St → Hp → Prop} {ρ : Env'} (x : Ext F A F' A') (h : nxP K mg F A P Q ρ S) : nxP K mg F' A' P Q ρ S := fun σ' H' F2 A2 e r s => h σ' H' F2 A2 (x.trans e) r s
theorem exP.ext {C fs} {ρ : Env'} (x : Ext F A F' A') (h : exP K mg F A P W C fs ρ S) : exP K mg F' A' P W C fs ρ S := fun c d σ' H' F2 A2 e r s m q => h c d σ' H' F2 A2 (x.trans e) r s m q
theorem Res.ext {r : Res} {D : Ends} (x : Ext F A F' A') (h : r.post K mg F A P W D) : r.post K mg F' A' P W D := by
  cases r with
  | nx ρ S => exact nxP.ext x h
  | rt d S => exact okE.ext x h
  | bk ρ S => exact nxP.ext x h
  | ct ρ S => exact nxP.ext x h
  | ex C fs ρ S => exact exP.ext x h
  | stuck => exact h
end
def Out.res {α : Type} (o : Out α) (ρ : Env') (k : α → Store → Res) : Res := match o with
  | .ok a S => k a S
  | .exc C fs S => .ex C fs ρ S
  | .stuck => .stuck
/-- behind an expression -/
theorem res_post {α : Type} {K mg F A P W} {σ : L2.St} {ρ : Env'} {o : Out α} {k : α → Store → Res} {D : Ends} {ok : α → Store → Prop} (s : Slots K mg F A σ ρ) (h : (o.res ρ k).post K mg F A P W D) (hk : ∀ a S, (k a S).post K mg F A P W D → ok a S) :
    o.post ok (exE K mg F A P fun c d H' => W c d σ H') := by
  cases o with
  | ok a S => exact hk a S h
  | exc C fs S => exact fun c d H' F' A' x r m e => h c d σ H' F' A' x r (s.mono x) m e
  | stuck => exact h
def sSeq (f g : Stm) : Stm := fun ρ S => match f ρ S with
  | .nx ρ S => g ρ S
  | r => r
def sNil : Stm := fun ρ S => .nx ρ S
def sSet (i : Nat) (f : Ev D) : Stm := fun ρ S => (f ρ S).res ρ fun d S => .nx (ρ.set i (some d)) S
def sExpr (f : Ev D) : Stm := fun ρ S => (f ρ S).res ρ fun _ S => .nx ρ S
def sRet (f : Ev D) : Stm := fun ρ S => (f ρ S).res ρ fun d S => .rt d S
def sRetN : Stm := fun _ S => .rt .non S
def sIf (c : Ev Bool) (f g : Stm) : Stm := fun ρ S => (c ρ S).res ρ fun b S => if b then f ρ S else g ρ S
def sBk : Stm := fun ρ S => .bk ρ S
def sCt : Stm := fun ρ S => .ct ρ S
section
variable {X : Cx} {W : WX} {e c : Expr} {st : Stmt} {rest a b : List Stmt} {f : Ev D} {p : Ev Bool} {g h : Stm} {pos : Pos}
theorem dss_nil : DSs X W [] sNil := PSs.imp pss_nil fun D σ H ⟨F, A, P, ρ, S, rp, s, q⟩ => q σ H F A (Ext.refl F A) rp s
theorem dss_cons (h1 : DS X W st g) (h2 : DSs X W rest h) : DSs X W (st :: rest) (sSeq g h) := PSs.imp (pss_cons h1 h2) fun D σ H ⟨F, A, P, ρ, S, rp, s, q⟩ => by
  refine ⟨F, A, P, ρ, S, rp, s, ?_⟩
  unfold sSeq at q
  cases e : g ρ S with
  | nx ρ1 S1 => rw [e] at q; exact fun σ' H' F' A' x r s' => ⟨F', A', P, ρ1, S1, r, s', Res.ext x q⟩
  | rt d S1 => rw [e] at q; exact q
  | bk ρ1 S1 => rw [e] at q; exact q
  | ct ρ1 S1 => rw [e] at q; exact q
  | ex C fs ρ1 S1 => rw [e] at q; exact q
  | stuck => rw [e] at q; exact q
theorem dss_one (h1 : DS X W st g) : DSs X W [st] g := pss_one h1
theorem ds_pass : DS X W (.Pass pos) sNil := PS.imp ps_pass fun D σ H ⟨F, A, P, ρ, S, rp, s, q⟩ => q σ H F A (Ext.refl F A) rp s
theorem ds_break : DS X W (.Break pos) sBk := PS.imp ps_break fun D σ H ⟨F, A, P, ρ, S, rp, s, q⟩ => q σ H F A (Ext.refl F A) rp s
theorem ds_continue : DS X W (.Continue pos) sCt := PS.imp ps_continue fun D σ H ⟨F, A, P, ρ, S, rp, s, q⟩ => q σ H F A (Ext.refl F A) rp s
theorem set_ent {i : Nat} : ∀ D σ H, tDS X.K X.mg W (sSet i f) D σ H → tAsg (tD X.K X.mg W f) (gName i) D σ H := fun D σ H ⟨F, A, P, ρ, S, rp, s, q⟩ =>
  ⟨F, A, P, ρ, S, rp, s, res_post s q fun d S1 h1 v H' F' A' x r dv => h1 _ _ _ _ x r ((s.mono x).set dv i)⟩
theorem ds_set {i : Nat} {x : Str} {pos' : Pos} (hN : X.N.Nodup) (hi : X.N[i]? = some x) (he : DE X W e f) (hx : Loc X.env.scope x := by first | exact Or.inl rfl | exact Or.inr rfl) (hs : swapsWith e (some (.Name x pos')) pos.line X.env = pure false := by rfl)
    (hf : X.fn x = true ∨ X.env.scope.names.lookup x = some .local := by first | exact .inl rfl | exact .inr rfl | assumption) : DS X W (.Assign [.Name x pos'] e pos) (sSet i f) := PS.imp (ps_set hN hi hx he hs hf) set_ent
theorem ds_expr (he : DE X W e f) (hs : swapsWith e none pos.line X.env = pure false := by rfl) : DS X W (.Expr e pos) (sExpr f) := PS.imp (ps_expr he hs) fun D σ H ⟨F, A, P, ρ, S, rp, s, q⟩ =>
  ⟨F, A, P, ρ, S, rp, s, res_post s q fun d S1 h1 v H' F' A' x r dv => h1 _ _ _ _ x r (s.mono x)⟩
theorem ds_ret (he : DE X W e f) : DS X W (.Return (some e) pos) (sRet f) := PS.imp (ps_ret he) fun D σ H ⟨F, A, P, ρ, S, rp, s, q⟩ =>
  ⟨F, A, P, ρ, S, rp, s, res_post s q fun d S1 h1 v H' F' A' x r dv => h1 _ _ _ _ x r dv⟩
theorem ds_retN : DS X W (.Return none pos) sRetN := PS.imp ps_retN fun D σ H ⟨F, A, P, ρ, S, rp, s, q⟩ => okE.now q rp .non
theorem ds_if (hc : DT X W c p) (ha : DSs X W a g) (hb : DSs X W b h) : DS X W (.If c a b pos) (sIf p g h) := PS.imp (ps_if hc ha hb) fun D σ H ⟨F, A, P, ρ, S, rp, s, q⟩ =>
  ⟨F, A, P, ρ, S, rp, s, res_post s q fun d S1 h1 H' F' A' x r => by
    cases d with
    | true => rw [if_pos rfl] at h1 ⊢; exact ⟨F', A', P, ρ, S1, r, s.mono x, Res.ext x h1⟩
    | false => rw [if_neg (by decide)] at h1 ⊢; exact ⟨F', A', P, ρ, S1, r, s.mono x, Res.ext x h1⟩⟩
end

/-! ### targets -/
abbrev Tg := D → Env' → Option Env'
abbrev Tgs := List D → Env' → Option Env'
section
variable (K : PySem.W.Frag) (mg : Str → Option Value)
def tDG (g : Tg) : TG := fun v σ H Q => ∃ F A P ρ S d, Rep K mg F A S P H ∧ Slots K mg F A σ ρ ∧ Dat K mg F A v d ∧ ∃ ρ', g d ρ = some ρ' ∧ ∀ σ', Slots K mg F A σ' ρ' → Q σ' H
def tDGs (g : Tgs) : TGs := fun v σ H Q => ∃ F A P ρ S d, Rep K mg F A S P H ∧ Slots K mg F A σ ρ ∧ Dats K mg F A v d ∧ ∃ ρ', g d ρ = some ρ' ∧ ∀ σ', Slots K mg F A σ' ρ' → Q σ' H
end
def gnName (i : Nat) : Tg := fun d ρ => some (ρ.set i (some d))
def gnNil : Tgs := fun ds ρ => match ds with | [] => some ρ | _ => none
def gnCons (g : Tg) (h : Tgs) : Tgs := fun ds ρ => match ds with
  | d :: ds => match g d ρ with
    | some ρ => h ds ρ
    | none => none
  | _ => none
def gnTup (n : Nat) (h : Tgs) : Tg := fun d ρ => match d with
  | .tup ds => if ds.length = n then h ds ρ else none
  | _ => none
section
variable {X : Cx} {W : WX} {e : Expr} {es : List Expr} {g : Tg} {h : Tgs} {f : Ev D} {pos : Pos}
theorem PG.imp {t t' : TG} (h : PG X e t) (i : ∀ v σ H Q, t' v σ H Q → t v σ H Q) : PG X e t' := ⟨fun pins s σ H v u Q I r q => h.run pins s σ H v u Q I r (i v σ H Q q)⟩
theorem PGs.imp {t t' : TGs} (h : PGs X es t) (i : ∀ v σ H Q, t' v σ H Q → t v σ H Q) : PGs X es t' := ⟨fun pins s σ H v u Q I r q => h.run pins s σ H v u Q I r (i v σ H Q q)⟩
theorem dg_name {i : Nat} {x : Str} (hN : X.N.Nodup) (hi : X.N[i]? = some x) (hx : Loc X.env.scope x := by first | exact Or.inl rfl | exact Or.inr rfl) (hf : X.fn x = true ∨ X.env.scope.names.lookup x = some .local := by first | exact .inl rfl | exact .inr rfl | assumption) :
    PG X (.Name x pos) (tDG X.K X.mg (gnName i)) := PG.imp (pg_name hN hi hx hf) fun v σ H Q ⟨F, A, P, ρ, S, d, rp, s, dv, ρ', e, k⟩ => by
  cases e
  exact k _ (s.set dv i)
theorem dgs_nil : PGs X [] (tDGs X.K X.mg gnNil) := PGs.imp pgs_nil fun v σ H Q ⟨F, A, P, ρ, S, d, rp, s, dv, ρ', e, k⟩ => by
  unfold gnNil at e
  split at e
  · cases e; cases dv; exact ⟨rfl, k _ s⟩
  · cases e
theorem dgs_cons (h1 : PG X e (tDG X.K X.mg g)) (h2 : PGs X es (tDGs X.K X.mg h)) (hs : (assignEach (e :: es) X.env).map (·.2) = assign e X.env :: (assignEach es X.env).map (·.2) := by rfl) : PGs X (e :: es) (tDGs X.K X.mg (gnCons g h)) := PGs.imp (pgs_cons h1 h2 hs) fun v σ H Q ⟨F, A, P, ρ, S, d, rp, s, dv, ρ', e, k⟩ => by
  unfold gnCons at e
  split at e
  · split at e
    · rename_i e1
      cases dv with
      | cons q r => exact ⟨_, _, rfl, F, A, P, ρ, S, _, rp, s, q, _, e1, fun σ' s' => ⟨F, A, P, _, S, _, rp, s', r, _, e, k⟩⟩
    · cases e
  · cases e
theorem dg_tup {k n : Nat} (hc : X.calm = true) (h1 : PGs X es (tDGs X.K X.mg h)) (hn : (assignEach es X.env).length = n := by rfl) (hst : (assignEach es X.env).findIdx? (·.1) = none := by rfl) : PG X (.Tuple es k pos) (tDG X.K X.mg (gnTup n h)) := by
  refine PG.imp (pg_tup hc h1 hn hst) fun v σ H Q ⟨F, A, P, ρ, S, d, rp, s, dv, ρ', e, k⟩ => ?_
  unfold gnTup at e
  split at e
  · split at e
    · rename_i hl
      obtain ⟨a, vs, rfl, h1, h2⟩ := tup_at rp dv
      exact ⟨a, vs, rfl, h1, h2.length.trans hl, F, A, P, ρ, S, _, rp, s, h2, _, e, k⟩
    · cases e
  · cases e
/-- target = e, any such target -/
def sAsg (g : Tg) (f : Ev D) : Stm := fun ρ S => (f ρ S).res ρ fun d S => match g d ρ with
  | some ρ => .nx ρ S
  | none => .stuck
theorem asg_ent : ∀ D σ H, tDS X.K X.mg W (sAsg g f) D σ H → tAsg (tD X.K X.mg W f) (tDG X.K X.mg g) D σ H := fun D σ H ⟨F, A, P, ρ, S, rp, s, q⟩ =>
  ⟨F, A, P, ρ, S, rp, s, res_post s q fun d S1 h1 v H' F' A' x r dv => by
    split at h1
    · rename_i ρ' e
      exact ⟨F', A', P, ρ, S1, d, r, s.mono x, dv, ρ', e, fun σ' s' => h1 _ _ _ _ x r s'⟩
    · exact h1.elim⟩
theorem ds_asg {tg : Expr} (he : DE X W e f) (hg : PG X tg (tDG X.K X.mg g)) (hs : swapsWithSole [tg] e pos.line X.env = pure false := by rfl) (hw : swappedStores [tg] e X.env = pure none := by rfl) (h1 : (assignEach [tg] X.env).map (·.2) = [assign tg X.env] := by rfl) : DS X W (.Assign [tg] e pos) (sAsg g f) :=
  PS.imp (ps_asg he hg hs hw h1) asg_ent
end

/-! ### what is walked -/
section
variable (K : PySem.W.Frag) (mg : Str → Option Value)
structure ItOk (J : It) (F : Hp) (A : List Addr) (ds : List D) : Prop where
  go : ∀ F' A' P S H i, Ext F A F' A' → Rep K mg F' A' S P H → i < ds.length → J.go i H
  yld : ∀ F' A' P S H i x H' d, Ext F A F' A' → Rep K mg F' A' S P H → J.yld i H x H' → ds[i]? = some d → ∃ F2, Ext F' A' F2 A' ∧ Rep K mg F2 A' S P H' ∧ Dat K mg F2 A' x d
  stop : ∀ F' A' P S H i, Ext F A F' A' → Rep K mg F' A' S P H → ds.length ≤ i → J.stop i H
def tDI (W : WX) (f : Ev (List D)) : TI := fun σ H R => ∃ F A P ρ S, Rep K mg F A S P H ∧ Slots K mg F A σ ρ ∧ (f ρ S).post (fun ds S' => ∀ J H' F' A', Ext F A F' A' → Rep K mg F' A' S' P H' → ItOk K mg J F' A' ds → R J H') (exE K mg F A P fun c d H' => W c d σ H')
end
abbrev DI (X : Cx) (W : WX) (tg e : Expr) (f : Ev (List D)) : Prop := PI X tg e (tDI X.K X.mg W f)
theorem ItOk.ext {K mg J F A F' A' ds} (x : Ext F A F' A') (h : ItOk K mg J F A ds) : ItOk K mg J F' A' ds :=
  ⟨fun F2 A2 P S H i e => h.go F2 A2 P S H i (x.trans e), fun F2 A2 P S H i y H' d e => h.yld F2 A2 P S H i y H' d (x.trans e), fun F2 A2 P S H i e => h.stop F2 A2 P S H i (x.trans e)⟩
theorem sql_uniq {K : PySem.W.Frag} {H : Hp} {a : Addr} {xs ys : List V} {X : Cx} {pins σ s} (I : Inv X pins σ H s) (h : SqL X.K H a xs) (h' : SqL X.K H a ys) : xs = ys := by
  obtain ⟨its, r, ⟨o, n, e, c, d, q⟩, _⟩ := I.list h
  obtain ⟨its2, r2, ⟨o2, n2, e2, c2, d2, q2⟩, _⟩ := I.list h'
  rw [e] at e2; cases e2
  rw [q] at q2
  have : its = its2 := by
    have z := (Data.seq.inj q2).1
    simpa using z
  subst this
  exact r.inj r2
/-- the items of frozen data -/
def itemsF : D → Option (List D)
  | .rd xs => some xs
  | .list xs => some xs
  | .tup xs => some xs
  | _ => none
/-- for x in a list, a tuple, a text -/
def iAny (f : Ev D) : Ev (List D) := fun ρ S => (f ρ S).bind fun d S => match d with
  | .rd xs => .ok xs S
  | .list xs => .ok xs S
  | .tup xs => .ok xs S
  | .str z => .ok (z.cps.toList.map fun c => D.str ⟨#[c]⟩) S
  | _ => .stuck
def rangeD (lo : Int) (n : Nat) : List D := (List.range n).map fun (i : Nat) => D.int (lo + (i : Int))
def iRange1 (f : Ev D) : Ev (List D) := fun ρ S => (f ρ S).bind fun d S => match d with
  | .int j => if -(2 ^ 62) ≤ j ∧ j < 2 ^ 62 then .ok (rangeD 0 j.toNat) S else .stuck
  | _ => .stuck
def iRange2 (f g : Ev D) : Ev (List D) := fun ρ S => (f ρ S).bind fun d S => (g ρ S).bind fun d2 S => match d, d2 with
  | .int i, .int j => if -(2 ^ 62) ≤ i ∧ i < 2 ^ 62 ∧ -(2 ^ 62) ≤ j ∧ j < 2 ^ 62 then .ok (rangeD i (j - i).toNat) S else .stuck
  | _, _ => .stuck
section
variable {X : Cx} {W : WX} {tg l a b : Expr} {f g : Ev D} {fs : Ev (List D)} {p pos : Pos}
theorem PI.imp {t t' : TI} {tg e : Expr} (h : PI X tg e t) (i : ∀ σ H R, t' σ H R → t σ H R) : PI X tg e t' := ⟨fun pins s σ H R I w => h.run pins s σ H R I (i σ H R w)⟩
theorem PI.or {t t' : TI} {tg e : Expr} (h : PI X tg e t) (h' : PI X tg e t') : PI X tg e (fun σ H R => t σ H R ∨ t' σ H R) := ⟨fun pins s σ H R I w => w.elim (h.run pins s σ H R I) (h'.run pins s σ H R I)⟩
theorem tri_post {α : Type} {o : Out α} {ok : α → Store → Prop} {ex} (h : o.post ok ex) : (∃ a S, o = .ok a S ∧ ok a S) ∨ (∃ C fs S, o = .exc C fs S ∧ ex C fs S) := by
  cases o with
  | ok a S => exact .inl ⟨a, S, rfl, h⟩
  | exc C fs S => exact .inr ⟨C, fs, S, rfl, h⟩
  | stuck => exact h.elim
theorem itl_ok {K mg F A a} {vs : List V} {ds : List D} (h : SqL K F a vs) (r : Dats K mg F A vs ds) : ItOk K mg (Itl K a) F A ds where
  go := fun F' A' P S H i x rp hi => ⟨vs, vs[i]'(by rw [r.length]; exact hi), sql_mono (x.f.trans rp.le) h, by simp⟩
  yld := fun F' A' P S H i y H' d x rp hy hd => by
    obtain ⟨rfl, hy⟩ := hy
    have e := hy vs (sql_mono (x.f.trans rp.le) h)
    obtain ⟨v, e1, e2⟩ := r.get hd
    rw [e] at e1; cases e1
    exact ⟨F', Ext.refl _ _, rp, e2.mono x⟩
  stop := fun F' A' P S H i x rp hi => ⟨vs, sql_mono (x.f.trans rp.le) h, by rw [r.length]; exact hi⟩
theorem itt_ok {K mg F A a} {vs : List V} {ds : List D} (h : SqT K F a vs) (r : Dats K mg F A vs ds) : ItOk K mg (Itt K a) F A ds where
  go := fun F' A' P S H i x rp hi => ⟨vs, vs[i]'(by rw [r.length]; exact hi), sqt_mono (x.f.trans rp.le) h, by simp⟩
  yld := fun F' A' P S H i y H' d x rp hy hd => by
    obtain ⟨rfl, hy⟩ := hy
    have e := hy vs (sqt_mono (x.f.trans rp.le) h)
    obtain ⟨v, e1, e2⟩ := r.get hd
    rw [e] at e1; cases e1
    exact ⟨F', Ext.refl _ _, rp, e2.mono x⟩
  stop := fun F' A' P S H i x rp hi => ⟨vs, sqt_mono (x.f.trans rp.le) h, by rw [r.length]; exact hi⟩
theorem its_ok {K mg F A} {z : Str} : ItOk K mg (Its z) F A (z.cps.toList.map fun c => D.str ⟨#[c]⟩) where
  go := fun F' A' P S H i x rp hi => by simpa [Its] using hi
  yld := fun F' A' P S H i y H' d x rp hy hd => by
    obtain ⟨rfl, c, e, rfl⟩ := hy
    have : (z.cps.toList.map fun c => D.str ⟨#[c]⟩)[i]? = some (D.str ⟨#[c]⟩) := by
      rw [List.getElem?_map, Array.getElem?_toList, e]; rfl
    rw [this] at hd; cases hd
    exact ⟨F', Ext.refl _ _, rp, .str⟩
  stop := fun F' A' P S H i x rp hi => by simpa [Its] using hi
theorem rangeD_get {lo : Int} {n i : Nat} {d : D} (h : (rangeD lo n)[i]? = some d) : d = .int (lo + (i : Int)) := by
  unfold rangeD at h
  rw [List.getElem?_map] at h
  by_cases hi : i < n
  · rw [List.getElem?_range hi] at h; exact (Option.some.inj h).symm
  · rw [List.getElem?_eq_none (by simpa using hi)] at h; cases h
theorem rangeD_len {lo : Int} {n : Nat} : (rangeD lo n).length = n := by simp [rangeD]
theorem itr_ok {K mg F A} {lo : Int} {n : Nat} : ItOk K mg (Itr lo n) F A (rangeD lo n) where
  go := fun F' A' P S H i x rp hi => by rw [rangeD_len] at hi; exact hi
  yld := fun F' A' P S H i y H' d x rp hy hd => by
    obtain ⟨rfl, rfl⟩ := hy
    rw [rangeD_get hd]
    exact ⟨F', Ext.refl _ _, rp, .int⟩
  stop := fun F' A' P S H i x rp hi => by rw [rangeD_len] at hi; exact hi
theorem di_any (h : DE X W l f) : DI X W tg l (iAny f) :=
  PI.imp (PI.or (pi_list h) (PI.or (pi_tup h) (pi_str h))) fun σ H R ⟨F, A, P, ρ, S, rp, s, q⟩ => by
    rcases tri_post (Out.post_bind q) with ⟨d, S1, e, h1⟩ | ⟨C, fs, S1, e, h1⟩
    · have base : ∀ {R' : V → Hp → Prop}, (∀ v H' F' A', Ext F A F' A' → Rep X.K X.mg F' A' S1 P H' → Dat X.K X.mg F' A' v d → R' v H') → tD X.K X.mg W f σ H R' := fun {R'} k => ⟨F, A, P, ρ, S, rp, s, by rw [e]; exact fun v H' F' A' x r dv => k v H' F' A' x r dv⟩
      cases d with
      | rd xs => exact .inl (base fun v H' F' A' x r dv => by
          cases dv with
          | rd h2 h3 => exact ⟨_, rfl, ⟨_, sql_mono r.le h2⟩, h1 _ _ _ _ x r (itl_ok h2 h3)⟩)
      | list xs => exact .inl (base fun v H' F' A' x r dv => by
          cases dv with
          | list h2 h3 => exact ⟨_, rfl, ⟨_, SqL.of (r.le _ _ h2)⟩, h1 _ _ _ _ x r (itl_ok (SqL.of h2) h3)⟩)
      | tup xs => exact .inr (.inl (base fun v H' F' A' x r dv => by
          cases dv with
          | tup h2 h3 => exact ⟨_, rfl, ⟨_, sqt_mono r.le h2⟩, h1 _ _ _ _ x r (itt_ok h2 h3)⟩))
      | str z => exact .inr (.inr (base fun v H' F' A' x r dv => by
          cases dv
          exact ⟨_, rfl, h1 _ _ _ _ x r its_ok⟩))
      | _ => exact h1.elim
    · exact .inl ⟨F, A, P, ρ, S, rp, s, by rw [e]; exact h1⟩
theorem di_range1 (ha : DE X W a f) (hg : Gl X "range") (hm : X.mg "range" = none) (hs : starEach [a] X.env = [(false, eval a X.env)] := by rfl) : DI X W tg (.Call (.Name "range" p) [a] [] pos) (iRange1 f) :=
  PI.imp (pi_range1 hg hm (pa_cons ha pa_nil hs) hs) fun σ H R ⟨F, A, P, ρ, S, rp, s, q⟩ =>
    tD.seq rp s q fun d S1 v H1 F1 A1 x1 r1 s1 d1 h1 => by
      split at h1
      · split at h1
        · rename_i hj
          cases d1
          exact ⟨_, rfl, hj.1, hj.2, h1 _ _ _ _ x1 r1 itr_ok⟩
        · exact h1.elim
      · exact h1.elim
theorem di_range2 (ha : DE X W a f) (hb : DE X W b g) (hg : Gl X "range") (hm : X.mg "range" = none) (hs : starEach [a, b] X.env = [(false, eval a X.env), (false, eval b X.env)] := by rfl) (hs2 : starEach [b] X.env = [(false, eval b X.env)] := by rfl) (hs3 : starEach (a :: [b]) X.env = (false, eval a X.env) :: starEach [b] X.env := by rfl) :
    DI X W tg (.Call (.Name "range" p) [a, b] [] pos) (iRange2 f g) :=
  PI.imp (pi_range2 hg hm (pa_cons ha (pa_cons hb pa_nil hs2) hs3) hs hs2) fun σ H R ⟨F, A, P, ρ, S, rp, s, q⟩ => by
    refine tD.seq rp s q fun d S1 v H1 F1 A1 x1 r1 s1 d1 h1 => ?_
    have h1' : ((g ρ S1).bind _).post _ (exE X.K X.mg F1 A1 P fun c d H' => W c d σ H') := Out.post_mono h1 (fun _ _ z => z) fun _ _ _ z => exE.ext x1 z
    refine tD.seq r1 s1 h1' fun d2 S2 v2 H2 F2 A2 x2 r2 s2 d2' h2 => ?_
    split at h2
    · split at h2
      · rename_i hj
        cases d1; cases d2'
        exact ⟨_, _, rfl, hj, h2 _ _ _ _ (x1.trans x2) r2 itr_ok⟩
      · exact h2.elim
    · exact h2.elim
end
end DL
namespace DL
open PySem PySem.Spec PyProof.Rows L2
variable {gf gj : Bool}

/-! ### private objects -/
section
variable {K : PySem.W.Frag} {mg : Str → Option Value} {F : Hp} {A : List Addr} {P H : Hp} {S : Store} {p : Addr} {o o' : HO}
theorem Rep.priv (r : Rep K mg F A S P H) (hp : H p = none) : Rep K mg F A S (upd P p o) (upd H p o) := by
  have fF : F p = none := r.le.free hp
  have nA : ∀ a ∈ A, a ≠ p := fun a ha e => by
    obtain ⟨o, h⟩ := r.th a ha
    rw [e, hp] at h; cases h
  refine ⟨fun b u h => by rw [upd_ne (ne_of_none h fF)]; exact r.le b u h, fun b u h => ?_, fun b u h => ?_, fun a ha => by rw [upd_ne (nA a ha)]; exact r.ap a ha, r.len, r.nd, fun a ha => ?_, fun n so h => ?_⟩
  · by_cases hb : b = p
    · subst hb; rw [upd_same] at h ⊢; exact h
    · rw [upd_ne hb] at h ⊢; exact r.pr b u h
  · by_cases hb : b = p
    · subst hb; exact fF
    · rw [upd_ne hb] at h; exact r.fp b u h
  · obtain ⟨o, h⟩ := r.th a ha
    exact ⟨o, by rw [upd_ne (nA a ha)]; exact h⟩
  · have q := r.so n so h
    cases so with
    | gone => trivial
    | tab y =>
      obtain ⟨a, c, ps, h1, h2, ht, h3, h4⟩ := q
      exact ⟨a, c, ps, h1, h2, ht, by rw [upd_ne (nA a (List.mem_of_getElem? h1))]; exact h3, h4⟩
    | lst xs =>
      obtain ⟨a, vs, h1, h2, h3, h4⟩ := q
      exact ⟨a, vs, h1, h2, by rw [upd_ne (nA a (List.mem_of_getElem? h1))]; exact h3, h4⟩
    | dict xs =>
      obtain ⟨a, vs, h1, h2, h3, h4⟩ := q
      exact ⟨a, vs, h1, h2, by rw [upd_ne (nA a (List.mem_of_getElem? h1))]; exact h3, h4⟩
    | ins C xs =>
      obtain ⟨a, c, dx, vs, h1, h2, hc, h3, h4⟩ := q
      exact ⟨a, c, dx, vs, h1, h2, hc, by rw [upd_ne (nA a (List.mem_of_getElem? h1))]; exact h3, h4⟩
theorem Rep.privUpd (r : Rep K mg F A S (upd P p o) H) : Rep K mg F A S (upd P p o') (upd H p o') := by
  have fF : F p = none := r.fp p o upd_same
  have nA : ∀ a ∈ A, a ≠ p := fun a ha e => by
    have := r.ap a ha
    rw [e, upd_same] at this; cases this
  refine ⟨fun b u h => by rw [upd_ne (ne_of_none h fF)]; exact r.le b u h, fun b u h => ?_, fun b u h => ?_, fun a ha => ?_, r.len, r.nd, fun a ha => ?_, fun n so h => ?_⟩
  · by_cases hb : b = p
    · subst hb; rw [upd_same] at h ⊢; exact h
    · rw [upd_ne hb] at h ⊢; exact r.pr b u (by rw [upd_ne hb]; exact h)
  · by_cases hb : b = p
    · subst hb; exact fF
    · rw [upd_ne hb] at h; exact r.fp b u (by rw [upd_ne hb]; exact h)
  · have := r.ap a ha
    rw [upd_ne (nA a ha)] at this ⊢; exact this
  · obtain ⟨o, h⟩ := r.th a ha
    exact ⟨o, by rw [upd_ne (nA a ha)]; exact h⟩
  · have q := r.so n so h
    cases so with
    | gone => trivial
    | tab y =>
      obtain ⟨a, c, ps, h1, h2, ht, h3, h4⟩ := q
      exact ⟨a, c, ps, h1, h2, ht, by rw [upd_ne (nA a (List.mem_of_getElem? h1))]; exact h3, h4⟩
    | lst xs =>
      obtain ⟨a, vs, h1, h2, h3, h4⟩ := q
      exact ⟨a, vs, h1, h2, by rw [upd_ne (nA a (List.mem_of_getElem? h1))]; exact h3, h4⟩
    | dict xs =>
      obtain ⟨a, vs, h1, h2, h3, h4⟩ := q
      exact ⟨a, vs, h1, h2, by rw [upd_ne (nA a (List.mem_of_getElem? h1))]; exact h3, h4⟩
    | ins C xs =>
      obtain ⟨a, c, dx, vs, h1, h2, hc, h3, h4⟩ := q
      exact ⟨a, c, dx, vs, h1, h2, hc, by rw [upd_ne (nA a (List.mem_of_getElem? h1))]; exact h3, h4⟩
/-- a private object is frozen -/
theorem Rep.privFrz (r : Rep K mg F A S (upd P p o) H) (hP : P p = none) : Ext F A (upd F p o) A ∧ Rep K mg (upd F p o) A S P H := by
  have fF : F p = none := r.fp p o upd_same
  have nA : ∀ a ∈ A, a ≠ p := fun a ha e => by
    have := r.ap a ha
    rw [e, upd_same] at this; cases this
  have x : Ext F A (upd F p o) A := ⟨fun b u h => by rw [upd_ne (ne_of_none h fF)]; exact h, [], by simp⟩
  refine ⟨x, ⟨fun b u h => ?_, fun b u h => r.pr b u (by rw [upd_ne (ne_of_none h hP)]; exact h), fun b u h => ?_, fun a ha => ?_, r.len, r.nd, r.th, fun n so h => ?_⟩⟩
  · by_cases hb : b = p
    · subst hb; rw [upd_same] at h; rw [← h]; exact r.pr _ _ upd_same
    · rw [upd_ne hb] at h; exact r.le b u h
  · have hb : b ≠ p := ne_of_none h hP
    rw [upd_ne hb]
    exact r.fp b u (by rw [upd_ne hb]; exact h)
  · have := r.ap a ha
    rw [upd_ne (nA a ha)] at this; exact this
  · have q := r.so n so h
    cases so with
    | gone => trivial
    | tab y =>
      obtain ⟨a, c, ps, h1, h2, ht, h3, h4, h5⟩ := q
      exact ⟨a, c, ps, h1, by rw [upd_ne (nA a (List.mem_of_getElem? h1))]; exact h2, ht, h3, h4, fun pos cv e => let ⟨d, e1, e2⟩ := h5 pos cv e; ⟨d, e1, x.f _ _ e2⟩⟩
    | lst xs =>
      obtain ⟨a, vs, h1, h2, h3, h4⟩ := q
      exact ⟨a, vs, h1, by rw [upd_ne (nA a (List.mem_of_getElem? h1))]; exact h2, h3, h4.mono x⟩
    | dict xs =>
      obtain ⟨a, vs, h1, h2, h3, h4⟩ := q
      exact ⟨a, vs, h1, by rw [upd_ne (nA a (List.mem_of_getElem? h1))]; exact h2, h3, h4.mono x⟩
    | ins C xs =>
      obtain ⟨a, c, dx, vs, h1, h2, hc, h3, h4⟩ := q
      exact ⟨a, c, dx, vs, h1, by rw [upd_ne (nA a (List.mem_of_getElem? h1))]; exact h2, hc, h3, h4.mono x⟩
end

/-! ### loops -/
def loopD (g : Tg) (body : Stm) : List D → Env' → Store → Res
  | [], ρ, S => .nx ρ S
  | d :: ds, ρ, S => match g d ρ with
    | none => .stuck
    | some ρ1 => match body ρ1 S with
      | .nx ρ2 S2 => loopD g body ds ρ2 S2
      | .ct ρ2 S2 => loopD g body ds ρ2 S2
      | .bk ρ2 S2 => .nx ρ2 S2
      | r => r
def sFor (it : Ev (List D)) (g : Tg) (body : Stm) : Stm := fun ρ S => (it ρ S).res ρ fun ds S => loopD g body ds ρ S
def whileD (c : Ev Bool) (body : Stm) : Nat → Env' → Store → Res
  | 0, _, _ => .stuck
  | n + 1, ρ, S => (c ρ S).res ρ fun b S => if b then match body ρ S with
      | .nx ρ2 S2 => whileD c body n ρ2 S2
      | .ct ρ2 S2 => whileD c body n ρ2 S2
      | .bk ρ2 S2 => .nx ρ2 S2
      | r => r
    else .nx ρ S
def sWhile (n : Nat) (c : Ev Bool) (body : Stm) : Stm := fun ρ S => whileD c body n ρ S
/-- what a def's body may lean on -/
structure Bod (gf : Bool) (X : Cx) (W : WX) (k : Nat) : Prop where
  calm : X.calm = true
  nd : X.N.Nodup
  room : Room k X.A
  gd : gf = true → X.A.guards = some []
  sy : ∃ mm, X.base.Ns sysModules mm
  tk : Takes X W
  po : PassesOwn (model X.prog X.w) X.A X.env X.xe
section
variable {X : Cx} {W : WX} {tg iter c : Expr} {body : List Stmt} {it : Ev (List D)} {g : Tg} {p : Ev Bool} {b : Stm} {k : Nat} {pos : Pos}
theorem for_ent : ∀ D σ H, tDS X.K X.mg W (sFor it g b) D σ H → tFor (tDI X.K X.mg W it) (tDG X.K X.mg g) (tDS X.K X.mg W b) D σ H := fun D σ H ⟨F, A, P, ρ, S, rp, s, q⟩ => by
  refine ⟨F, A, P, ρ, S, rp, s, res_post s q fun ds S1 h1 J H1 F1 A1 x1 r1 io => ?_⟩
  have h1 := Res.ext x1 h1
  refine ⟨fun i m σ H => m = ds.length - i ∧ i ≤ ds.length ∧ ∃ F2 A2 ρ S, Ext F1 A1 F2 A2 ∧ Rep X.K X.mg F2 A2 S P H ∧ Slots X.K X.mg F2 A2 σ ρ ∧ (loopD g b (ds.drop i) ρ S).post X.K X.mg F2 A2 P W D,
    ⟨ds.length, by simp, Nat.zero_le _, F1, A1, ρ, S1, Ext.refl _ _, r1, s.mono x1, by simpa using h1⟩, ?_⟩
  rintro i m σ2 H2 ⟨rfl, hi, F2, A2, ρ2, S2, x2, r2, s2, h2⟩
  by_cases hlt : i < ds.length
  · rw [List.drop_eq_getElem_cons hlt] at h2
    have hd : ds[i]? = some ds[i] := by simp [hlt]
    refine .inr ⟨io.go _ _ _ _ _ i x2 r2 hlt, fun σ' H' => i + 1 ≤ ds.length ∧ ∃ F2 A2 ρ S, Ext F1 A1 F2 A2 ∧ Rep X.K X.mg F2 A2 S P H' ∧ Slots X.K X.mg F2 A2 σ' ρ ∧ (loopD g b (ds.drop (i + 1)) ρ S).post X.K X.mg F2 A2 P W D,
      fun σ' H' n => ⟨ds.length - (i + 1), by omega, rfl, n⟩, fun y H3 hy => ?_⟩
    obtain ⟨F3, x3, r3, dv⟩ := io.yld _ _ _ _ _ i y H3 _ x2 r2 hy hd
    have h2 := Res.ext x3 h2
    unfold loopD at h2
    cases e : g ds[i] ρ2 with
    | none => rw [e] at h2; exact h2.elim
    | some ρ3 =>
      rw [e] at h2
      refine ⟨F3, A2, P, ρ2, S2, _, r3, s2.mono x3, dv, ρ3, e, fun σ4 s4 => ⟨F3, A2, P, ρ3, S2, r3, s4, ?_⟩⟩
      dsimp only at h2
      cases e2 : b ρ3 S2 with
      | nx ρ5 S5 => rw [e2] at h2; exact fun σ' H' F' A' x r s' => ⟨hlt, F', A', ρ5, S5, (x2.trans x3).trans x, r, s', Res.ext x h2⟩
      | ct ρ5 S5 => rw [e2] at h2; exact fun σ' H' F' A' x r s' => ⟨hlt, F', A', ρ5, S5, (x2.trans x3).trans x, r, s', Res.ext x h2⟩
      | bk ρ5 S5 => rw [e2] at h2; exact h2
      | rt d S5 => rw [e2] at h2; exact h2
      | ex C fs ρ5 S5 => rw [e2] at h2; exact h2
      | stuck => rw [e2] at h2; exact h2
  · have e : i = ds.length := by omega
    subst e
    rw [List.drop_length] at h2
    exact .inl ⟨io.stop _ _ _ _ _ _ x2 r2 (Nat.le_refl _), h2 _ _ _ _ (Ext.refl _ _) r2 s2⟩
theorem ds_for (B : Bod gf X W k) (hi : DI X W tg iter it) (hg : PG X tg (tDG X.K X.mg g)) (hb : DSs X W body b) (hs : ∀ x, foldedSetIterable iter X.env x = pure x := by intro _; rfl) : DS X W (.For tg iter body [] pos) (sFor it g b) :=
  PS.imp (ps_for B.po B.calm hi hg hb hs) for_ent
theorem while_ent {n : Nat} : ∀ D σ H, tDS X.K X.mg W (sWhile n p b) D σ H → tWhile (tDT X.K X.mg W p) (tDS X.K X.mg W b) D σ H := fun D σ H ⟨F, A, P, ρ, S, rp, s, q⟩ => by
  refine ⟨fun m σ H => ∃ F A ρ S, Rep X.K X.mg F A S P H ∧ Slots X.K X.mg F A σ ρ ∧ (whileD p b m ρ S).post X.K X.mg F A P W D, ⟨n, F, A, ρ, S, rp, s, q⟩, ?_⟩
  rintro m σ1 H1 ⟨F1, A1, ρ1, S1, r1, s1, h1⟩
  cases m with
  | zero => exact h1.elim
  | succ m =>
    unfold whileD at h1
    refine ⟨F1, A1, P, ρ1, S1, r1, s1, res_post s1 h1 fun d S2 h2 H2 F2 A2 x2 r2 => ?_⟩
    have h2 := Res.ext x2 h2
    cases d with
    | false => rw [if_neg (by decide)] at h2; exact iteF (h2 _ _ _ _ (Ext.refl _ _) r2 (s1.mono x2))
    | true =>
      rw [if_pos rfl] at h2
      refine iteT ⟨fun σ' H' => ∃ F A ρ S, Rep X.K X.mg F A S P H' ∧ Slots X.K X.mg F A σ' ρ ∧ (whileD p b m ρ S).post X.K X.mg F A P W D, fun σ' H' n => ⟨m, Nat.lt_succ_self m, n⟩, F2, A2, P, ρ1, S2, r2, s1.mono x2, ?_⟩
      cases e2 : b ρ1 S2 with
      | nx ρ5 S5 => rw [e2] at h2; exact fun σ' H' F' A' x r s' => ⟨F', A', ρ5, S5, r, s', Res.ext x h2⟩
      | ct ρ5 S5 => rw [e2] at h2; exact fun σ' H' F' A' x r s' => ⟨F', A', ρ5, S5, r, s', Res.ext x h2⟩
      | bk ρ5 S5 => rw [e2] at h2; exact h2
      | rt d S5 => rw [e2] at h2; exact h2
      | ex C fs ρ5 S5 => rw [e2] at h2; exact h2
      | stuck => rw [e2] at h2; exact h2
theorem ds_while (B : Bod gf X W k) (n : Nat) (hc : DT X W c p) (hb : DSs X W body b) : DS X W (.While c body [] pos) (sWhile n p b) := PS.imp (ps_while B.po hc hb) while_ent
end

/-! ### comprehensions -/
/-- a target: a name, or a tuple of names -/
inductive Ts where
  | nm (i : Nat) | tp (is : List Nat)
def gNames : List Nat → TGs
  | [] => gNil
  | i :: is => gCons (gName i) (gNames is)
def Ts.tg (K : PySem.W.Frag) : Ts → TG
  | .nm i => gName i
  | .tp is => gTup K is.length (gNames is)
def Ts.slots : Ts → List Nat
  | .nm i => [i]
  | .tp is => is
def setAll : List Nat → List D → Env' → Env'
  | i :: is, d :: ds, ρ => setAll is ds (ρ.set i (some d))
  | _, _, ρ => ρ
def Ts.g : Ts → Tg
  | .nm i => fun d ρ => some (ρ.set i (some d))
  | .tp is => fun d ρ => match d with
    | .tup ds => if ds.length = is.length then some (setAll is ds ρ) else none
    | _ => none
def wipeD (ρ : Env') : List Nat → Env'
  | [] => ρ
  | v :: vs => (wipeD ρ vs).set v none
theorem wipeD_length (ρ : Env') : ∀ vs, (wipeD ρ vs).length = ρ.length
  | [] => rfl
  | v :: vs => by unfold wipeD; rw [List.length_set, wipeD_length ρ vs]
theorem wipe_get {σ : L2.St} : ∀ {vs : List Nat} {i : Nat}, i ∉ vs → (wipe σ vs)[i]? = σ[i]?
  | [], _, _ => rfl
  | v :: vs, i, h => by
    simp only [List.mem_cons, not_or] at h
    unfold wipe
    rw [List.getElem?_set_ne (Ne.symm h.1)]
    exact wipe_get h.2
theorem wipeD_some {ρ : Env'} {i : Nat} {x : D} : ∀ {vs : List Nat}, (wipeD ρ vs)[i]? = some (some x) → ρ[i]? = some (some x) ∧ i ∉ vs
  | [], h => ⟨h, by simp⟩
  | v :: vs, h => by
    unfold wipeD at h
    by_cases hi : v = i
    · subst hi
      by_cases hv : v < (wipeD ρ vs).length
      · rw [List.getElem?_set_self hv] at h; cases h
      · rw [List.getElem?_eq_none (by simpa using hv)] at h; cases h
    · rw [List.getElem?_set_ne hi] at h
      obtain ⟨h1, h2⟩ := wipeD_some h
      exact ⟨h1, by simp only [List.mem_cons, not_or]; exact ⟨fun e => hi e.symm, h2⟩⟩
theorem Slots.wipe {K mg F A} {σ : L2.St} {ρ : Env'} (s : Slots K mg F A σ ρ) (vs : List Nat) : Slots K mg F A (L2.wipe σ vs) (wipeD ρ vs) := by
  refine ⟨by rw [wipe_length, wipeD_length]; exact s.1, fun i d h => ?_⟩
  obtain ⟨h1, h2⟩ := wipeD_some h
  obtain ⟨v, h3, h4⟩ := s.2 i d h1
  exact ⟨v, by rw [wipe_get h2]; exact h3, h4⟩
/-- the slots outside vs agree -/
def Agree (vs : List Nat) (σ σ' : L2.St) : Prop := σ.length = σ'.length ∧ ∀ i, i ∉ vs → σ[i]? = σ'[i]?
theorem Agree.wipe : ∀ {vs : List Nat} {σ σ' : L2.St}, Agree vs σ σ' → L2.wipe σ vs = L2.wipe σ' vs := by
  intro vs σ σ' h
  apply List.ext_getElem?
  intro i
  by_cases hi : i ∈ vs
  · have key : ∀ {τ : L2.St} (us : List Nat), i ∈ us → (L2.wipe τ us)[i]? = if i < τ.length then some none else none := by
      intro τ us
      induction us with
      | nil => intro z; simp at z
      | cons u us ih =>
        intro z
        unfold L2.wipe
        by_cases hu : u = i
        · subst hu
          by_cases hl : u < (L2.wipe τ us).length
          · rw [List.getElem?_set_self hl]; rw [wipe_length] at hl; rw [if_pos hl]
          · rw [List.getElem?_eq_none (by simpa using hl)]; rw [wipe_length] at hl; rw [if_neg hl]
        · rw [List.getElem?_set_ne hu]
          refine ih ?_
          rcases List.mem_cons.mp z with e | e
          · exact absurd e.symm hu
          · exact e
    rw [key vs hi, key vs hi, h.1]
  · rw [wipe_get hi, wipe_get hi]; exact h.2 i hi
theorem Agree.set {vs : List Nat} {σ σ' : L2.St} {i : Nat} {v : Option V} (h : Agree vs σ σ') (hi : i ∈ vs) : Agree vs σ (σ'.set i v) :=
  ⟨by rw [List.length_set]; exact h.1, fun j hj => by rw [List.getElem?_set_ne (show i ≠ j from fun e => hj (by rw [← e]; exact hi))]; exact h.2 j hj⟩
theorem names_run {K mg F A} {vs : List Nat} {τ : L2.St} {H : Hp} {Q : L2.St → Hp → Prop} : ∀ {is : List Nat} {ws : List V} {ds : List D} {σ : L2.St} {ρ : Env'}, (∀ i ∈ is, i ∈ vs) → Dats K mg F A ws ds → ds.length = is.length → Slots K mg F A σ ρ → Agree vs τ σ →
    (∀ σ', Slots K mg F A σ' (setAll is ds ρ) → Agree vs τ σ' → Q σ' H) → gNames is ws σ H Q
  | [], _, _, σ, ρ, hi, r, hl, s, a, k => by
    cases r with
    | nil => exact ⟨rfl, k σ s a⟩
    | cons _ _ => cases hl
  | i :: is, _, _, σ, ρ, hi, r, hl, s, a, k => by
    cases r with
    | nil => cases hl
    | cons h r => exact ⟨_, _, rfl, names_run (fun j hj => hi j (List.mem_cons_of_mem _ hj)) r (by simpa using hl) (s.set h i) (a.set (hi i (List.mem_cons_self ..))) k⟩
theorem ts_run {K mg F A S P} {vs : List Nat} {ts : Ts} {σ : L2.St} {ρ ρ' : Env'} {H : Hp} {Q : L2.St → Hp → Prop} {v : V} {d : D} (rp : Rep K mg F A S P H) (hv : ∀ i ∈ ts.slots, i ∈ vs) (dv : Dat K mg F A v d) (s : Slots K mg F A σ ρ) (e : ts.g d ρ = some ρ')
    (k : ∀ σ', Slots K mg F A σ' ρ' → Agree vs σ σ' → Q σ' H) : ts.tg K v σ H Q := by
  cases ts with
  | nm i =>
    cases e
    exact k _ (s.set dv i) (Agree.set ⟨rfl, fun _ _ => rfl⟩ (hv i (List.mem_cons_self ..)))
  | tp is =>
    unfold Ts.g at e
    dsimp only at e
    split at e
    · split at e
      · rename_i hl
        cases e
        obtain ⟨a, ws, rfl, h1, h2⟩ := tup_at rp dv
        exact ⟨a, ws, rfl, h1, h2.length.trans hl, names_run hv h2 hl s ⟨rfl, fun _ _ => rfl⟩ k⟩
      · cases e
    · cases e
/-- an exception is not carried -/
def noExc {α : Type} (o : Out α) : Out α := match o with
  | .exc _ _ _ => .stuck
  | o => o
def lcD (g : Tg) (tt : Ev Bool) (te : Ev D) (ρ : Env') : List D → Store → Out (List D)
  | [], S => .ok [] S
  | d :: ds, S => match g d ρ with
    | none => .stuck
    | some ρ1 => (noExc (tt ρ1 S)).bind fun b S => if b then (noExc (te ρ1 S)).bind fun y S => (lcD g tt te ρ ds S).bind fun ys S => .ok (y :: ys) S else lcD g tt te ρ ds S
def eLc (it : Ev (List D)) (g : Tg) (tt : Ev Bool) (te : Ev D) (vs : List Nat) : Ev D := fun ρ S => (it ρ S).bind fun ds S => if ds.length ≤ 16777216 then (lcD g tt te (wipeD ρ vs) ds S).bind fun ys S => .ok (.list ys) S else .stuck
def bYes : Ev Bool := fun _ S => .ok true S
abbrev W0 : WX := fun _ _ _ _ => False
theorem noExc_post {α : Type} {o : Out α} {ok : α → Store → Prop} {ex ex'} (h : (noExc o).post ok ex) : o.post ok ex' := by
  cases o with
  | ok a S => exact h
  | exc C fs S => exact h.elim
  | stuck => exact h
theorem lcD_noexc {g tt te ρ} : ∀ {ds : List D} {S : Store} {ok : List D → Store → Prop} {ex ex'}, (lcD g tt te ρ ds S).post ok ex → (lcD g tt te ρ ds S).post ok ex' := by
  intro ds
  induction ds with
  | nil => intro S ok ex ex' h; exact h
  | cons d ds ih =>
    intro S ok ex ex' h
    unfold lcD at h ⊢
    cases e : g d ρ with
    | none => rw [e] at h; exact h.elim
    | some ρ1 =>
      rw [e] at h
      dsimp only at h ⊢
      cases e1 : tt ρ1 S with
      | stuck => rw [e1] at h; exact h.elim
      | exc C fs S => rw [e1] at h; exact h.elim
      | ok b S1 =>
        rw [e1] at h
        cases b with
        | false => exact ih (ex := ex) h
        | true =>
          show (((noExc (te ρ1 S1)).bind _ : Out (List D))).post ok ex'
          have h : (((noExc (te ρ1 S1)).bind fun y S => (lcD g tt te ρ ds S).bind fun ys S => .ok (y :: ys) S : Out (List D))).post ok ex := h
          cases e2 : te ρ1 S1 with
          | stuck => rw [e2] at h; exact h.elim
          | exc C fs S => rw [e2] at h; exact h.elim
          | ok y S2 =>
            rw [e2] at h
            have h : ((lcD g tt te ρ ds S2).bind fun ys S => .ok (y :: ys) S : Out (List D)).post ok ex := h
            have q := ih (ex' := ex') (Out.post_bind h)
            show ((lcD g tt te ρ ds S2).bind fun ys S => .ok (y :: ys) S : Out (List D)).post ok ex'
            cases e3 : lcD g tt te ρ ds S2 with
            | ok a S => rw [e3] at q; exact q
            | exc C fs S => rw [e3] at q; exact q
            | stuck => rw [e3] at q; exact q
section
variable {X : Cx} {W : WX}
theorem lc_ent {it : Ev (List D)} {ts : Ts} {tt : Ev Bool} {te : Ev D} {vs : List Nat} (hv : ∀ i ∈ ts.slots, i ∈ vs) : ∀ σ H Q, tD X.K X.mg W (eLc it ts.g tt te vs) σ H Q → tLc (tDI X.K X.mg W it) (ts.tg X.K) (tDT X.K X.mg W0 tt) (tD X.K X.mg W0 te) vs σ H Q :=
  fun σ H Q ⟨F, A, P, ρ, S, rp, s, q⟩ => by
    refine ⟨F, A, P, ρ, S, rp, s, Out.post_mono (Out.post_bind q) (fun ds S1 h1 J H1 F1 A1 x1 r1 io p hp => ?_) fun _ _ _ z => z⟩
    split at h1
    · rename_i hl
      have hP : P p = none := r1.pr.free hp
      have h1 := lcD_noexc (ex' := noEx) (Out.post_bind h1)
      refine ⟨fun i m H => m = ds.length - i ∧ i ≤ ds.length ∧ ∃ F2 A2 S2 av ad, Ext F1 A1 F2 A2 ∧ Rep X.K X.mg F2 A2 S2 (upd P p (.lst av)) H ∧ Dats X.K X.mg F2 A2 av ad ∧ av.length ≤ i ∧ (lcD ts.g tt te (wipeD ρ vs) (ds.drop i) S2).post (fun ys S' => okE X.K X.mg F2 A2 P Q (.list (ad ++ ys)) S') noEx,
        ⟨ds.length, by simp, Nat.zero_le _, F1, A1, S1, [], [], Ext.refl _ _, r1.priv hp, .nil, Nat.le_refl _, by simpa using Out.post_mono h1 (fun ys S' z => okE.ext x1 z) fun _ _ _ z => z⟩, ?_⟩
      rintro i m H2 ⟨rfl, hi, F2, A2, S2, av, ad, x2, r2, da, hal, h2⟩
      by_cases hlt : i < ds.length
      · rw [List.drop_eq_getElem_cons hlt] at h2
        have hd : ds[i]? = some ds[i] := by simp [hlt]
        refine .inr ⟨io.go _ _ _ _ _ i x2 r2 hlt, fun H => i + 1 ≤ ds.length ∧ ∃ F2 A2 S2 av ad, Ext F1 A1 F2 A2 ∧ Rep X.K X.mg F2 A2 S2 (upd P p (.lst av)) H ∧ Dats X.K X.mg F2 A2 av ad ∧ av.length ≤ i + 1 ∧ (lcD ts.g tt te (wipeD ρ vs) (ds.drop (i + 1)) S2).post (fun ys S' => okE X.K X.mg F2 A2 P Q (.list (ad ++ ys)) S') noEx,
          fun H' n => ⟨ds.length - (i + 1), by omega, rfl, n⟩, fun y H3 hy => ?_⟩
        obtain ⟨F3, x3, r3, dv⟩ := io.yld _ _ _ _ _ i y H3 _ x2 r2 hy hd
        have h2 := Out.post_mono h2 (fun ys S' z => okE.ext x3 z) fun _ _ _ z => z
        unfold lcD at h2
        cases e : ts.g ds[i] (wipeD ρ vs) with
        | none => rw [e] at h2; exact h2.elim
        | some ρ3 =>
          rw [e] at h2
          dsimp only at h2
          refine ts_run r3 hv dv (((s.mono x1).mono x2).mono x3 |>.wipe vs) e fun σ4 s4 ag => ⟨?_, ?_⟩
          · have z := ag.wipe.symm
            have zz : L2.wipe (L2.wipe σ vs) vs = L2.wipe σ vs := by
              refine (Agree.wipe ⟨wipe_length _ _, fun i hi => wipe_get hi⟩)
            rw [z, zz]
          · refine ⟨F3, A2, _, ρ3, S2, r3, s4, Out.post_mono (noExc_post (ex' := exE X.K X.mg F3 A2 (upd P p (.lst av)) fun c d H' => W0 c d σ4 H') (Out.post_bind h2)) (fun b S5 h5 H5 F5 A5 x5 r5 => ?_) fun _ _ _ z => z⟩
            cases b with
            | false =>
              rw [if_neg (by decide)] at h5
              refine iteF ?_
              exact ⟨hlt, F5, A5, S5, av, ad, ((x2.trans x3).trans x5), r5, (da.mono x3).mono x5, Nat.le_succ_of_le hal, Out.post_mono h5 (fun ys S' z => okE.ext x5 z) fun _ _ _ z => z⟩
            | true =>
              rw [if_pos rfl] at h5
              refine iteT ?_
              refine ⟨F5, A5, _, ρ3, S5, r5, s4.mono x5, Out.post_mono (noExc_post (ex' := exE X.K X.mg F5 A5 (upd P p (.lst av)) fun c d H' => W0 c d σ4 H') (Out.post_bind h5)) (fun y6 S6 h6 v6 H6 F6 A6 x6 r6 d6 => ?_) fun _ _ _ z => z⟩
              refine ⟨av, r6.pr p _ upd_same, Nat.lt_of_le_of_lt hal (Nat.lt_of_lt_of_le hlt (len_le hl)), hlt, F6, A6, S6, av ++ [v6], ad ++ [y6], (((x2.trans x3).trans x5).trans x6), r6.privUpd, (((da.mono x3).mono x5).mono x6).append (.cons d6 .nil), by simp; omega, ?_⟩
              refine Out.post_mono (Out.post_bind h6) (fun ys S' z => ?_) fun _ _ _ z => z
              have z' : okE X.K X.mg F3 A2 P Q (.list (ad ++ (y6 :: ys))) S' := z
              rw [List.append_assoc]
              exact okE.ext (x5.trans x6) z'
      · have e : i = ds.length := by omega
        subst e
        rw [List.drop_length] at h2
        refine .inl ⟨io.stop _ _ _ _ _ _ x2 r2 (Nat.le_refl _), ?_⟩
        obtain ⟨x3, r3⟩ := r2.privFrz hP
        have h2 : okE X.K X.mg F2 A2 P Q (.list (ad ++ [])) S2 := h2
        rw [List.append_nil] at h2
        exact h2 _ _ _ _ x3 r3 (.list upd_same (da.mono x3))
    · exact h1.elim
end
end DL
namespace DL
open PySem PySem.Spec PyProof.Rows L2
variable {gf gj : Bool}

section
variable {X : Cx} {W : WX} {k : Nat}
theorem Bod.mono {j : Nat} (B : Bod gf X W k) (h : j ≤ k) : Bod gf X W j := ⟨B.calm, B.nd, B.room.mono h, B.gd, B.sy, B.tk, B.po⟩
theorem Bod.blk (B : Bod gf X W k) (s : Shared) (H : Hp) (scope : Scope) (cenv : Env) (fp : List Addr) : Bod gf (X.blk s H scope cenv fp) W0 k :=
  ⟨B.calm, B.nd, ⟨B.room.hd, B.room.dp, B.room.un⟩, B.gd, B.sy, fun u s' ⟨_, _, _, _, _, _, _, _, _, _, _, _, _, _, _, _, z⟩ => z.elim, PassesOwn.never⟩
theorem Bod.hu (B : Bod gf X W k) : X.A.units + 65 < cLine := by have := B.room.un; omega
theorem dts_nil : PTs X [] (tDT X.K X.mg W bYes) := ⟨fun pins s σ H Q I ⟨F, A, P, ρ, S, rp, sl, q⟩ => pts_nil.run pins s σ H Q I (okT.now q rp)⟩
theorem dts_one {c : Expr} {p : Ev Bool} (h : DT X W c p) : PTs X [c] (tDT X.K X.mg W p) := pts_one h
end
section
variable {X : Cx} {W : WX} {k : Nat} {elt tg iter : Expr} {ifs : List Expr} {scope : Scope} {own : List (Str × Nat)} {pos : Pos} {it : Ev (List D)} {ts : Ts} {tt : Ev Bool} {te : Ev D}
theorem de_lc (B : Bod gf X W k) (ts : Ts) (own : List (Str × Nat)) (hi : DI X W tg iter it) (ok : blkC X.N X.env.scope scope own = true)
    (hg : ∀ (s : Shared) (H : Hp) (C : Addr) (cl : List (Str × Addr)) (fp : List Addr), Bod gf (X.blk s H scope (compEnvC scope cl C X.env) fp) W0 k → PG (X.blk s H scope (compEnvC scope cl C X.env) fp) tg (ts.tg X.K))
    (ht : ∀ (s : Shared) (H : Hp) (C : Addr) (cl : List (Str × Addr)) (fp : List Addr), Bod gf (X.blk s H scope (compEnvC scope cl C X.env) fp) W0 k → PTs (X.blk s H scope (compEnvC scope cl C X.env) fp) ifs (tDT X.K X.mg W0 tt))
    (he : ∀ (s : Shared) (H : Hp) (C : Addr) (cl : List (Str × Addr)) (fp : List Addr), Bod gf (X.blk s H scope (compEnvC scope cl C X.env) fp) W0 k → DE (X.blk s H scope (compEnvC scope cl C X.env) fp) W0 elt te)
    (hv : ∀ i ∈ ts.slots, i ∈ own.map (·.2) := by decide) (hs : ∀ x, foldedSetIterable iter X.env x = pure x := by intro _; rfl) : DE X W (.ListComp elt [⟨tg, iter, ifs, 0⟩] scope pos) (eLc it ts.g tt te (own.map (·.2))) :=
  PE.imp (pe_lc B.calm B.nd hi (blkOk_by ok) (fun s H C cl fp => hg s H C cl fp (B.blk ..)) (fun s H C cl fp => ht s H C cl fp (B.blk ..)) (fun s H C cl fp => he s H C cl fp (B.blk ..)) hs) (lc_ent hv)
theorem ds_setLc {i : Nat} {y : Str} {py : Pos} {spos : Pos} (B : Bod gf X W k) (ts : Ts) (own : List (Str × Nat)) (hy : X.N[i]? = some y) (hyl : X.env.scope.names.lookup y = some .local)
    (hsw : swapsWith (.ListComp elt [⟨tg, iter, ifs, 0⟩] scope pos) (some (.Name y py)) spos.line X.env = pure true) (hi : DI X W tg iter it) (ok : blkC X.N X.env.scope scope own = true)
    (hg : ∀ (s : Shared) (H : Hp) (C : Addr) (cl : List (Str × Addr)) (fp : List Addr), Bod gf (X.blk s H scope (compEnvC scope cl C X.env) fp) W0 k → PG (X.blk s H scope (compEnvC scope cl C X.env) fp) tg (ts.tg X.K))
    (ht : ∀ (s : Shared) (H : Hp) (C : Addr) (cl : List (Str × Addr)) (fp : List Addr), Bod gf (X.blk s H scope (compEnvC scope cl C X.env) fp) W0 k → PTs (X.blk s H scope (compEnvC scope cl C X.env) fp) ifs (tDT X.K X.mg W0 tt))
    (he : ∀ (s : Shared) (H : Hp) (C : Addr) (cl : List (Str × Addr)) (fp : List Addr), Bod gf (X.blk s H scope (compEnvC scope cl C X.env) fp) W0 k → DE (X.blk s H scope (compEnvC scope cl C X.env) fp) W0 elt te)
    (hv : ∀ i ∈ ts.slots, i ∈ own.map (·.2) := by decide) (hs : ∀ x, foldedSetIterable iter X.env x = pure x := by intro _; rfl) : DS X W (.Assign [.Name y py] (.ListComp elt [⟨tg, iter, ifs, 0⟩] scope pos) spos) (sSet i (eLc it ts.g tt te (own.map (·.2)))) :=
  PS.imp (ps_setLc B.calm B.nd hy hyl hsw hi (blkOk_by ok) (fun s H C cl fp => hg s H C cl fp (B.blk ..)) (fun s H C cl fp => ht s H C cl fp (B.blk ..)) (fun s H C cl fp => he s H C cl fp (B.blk ..)) hs)
    fun D σ H z => lc_ent hv σ H _ (set_ent D σ H z)
end

/-! ### defs -/
abbrev Fn := List D → Store → Out D
def spD (K : PySem.W.Frag) (mg : Str → Option Value) (n : Nat) (m : Fn) : Sp := fun vs H Q E => ∃ F A P ds S, Rep K mg F A S P H ∧ Dats K mg F A vs ds ∧ ds.length = n ∧ (m ds S).post (okE K mg F A P Q) (exE K mg F A P E)
def fnD (N : Nat) (body : Stm) : Fn := fun ds S => match body (ds.map some ++ List.replicate (N - ds.length) none) S with
  | .nx _ S => .ok .non S
  | .rt d S => .ok d S
  | .ex C fs _ S => .exc C fs S
  | _ => .stuck
/-- the def at f keeps the promise sp wherever nothing is being shown (no guard is up) and there is room -/
structure FnG (gf : Bool) (P : Program) (w : World) (K : PySem.W.Frag) (mg : Str → Option Value) (base : Heap) (k : Nat) (f : Addr) (fd : FuncData) (ps : List Str) (sp : Sp) : Prop where
  len : ∀ vs H Q E, sp vs H Q E → vs.length = ps.length
  run : ∀ (A : Around) (outer : List Env) (s : Shared) (H : Hp) (args : Args) (us : List Value) (vs : List V) (Q : VK) (E : XK),
    Room k A → (gf = true → A.guards = some []) → Env0 P w K mg base A outer s H → BindsTo s fd args (ps.zip us) → Vals vs us → sp vs H Q E →
    codeAny (model P w) A (.call (.ref f) args) (CR (L2.CX P w) outer P w H s Q E) s
structure FnD (gf : Bool) (P : Program) (w : World) (K : PySem.W.Frag) (mg : Str → Option Value) (base : Heap) (x : Str) (ps : List Str) (k : Nat) (f : Addr) (fd : FuncData) (m : Fn) : Prop where
  fn : FnG gf P w K mg base k f fd ps (spD K mg ps.length m)
  mg : mg x = some (.ref f)
  kp : PySem.W.keepIn K (.ref f) = true
  b : Binds K fd ps []
theorem Dats.slots {K mg F A} : ∀ {vs : List V} {ds : List D}, Dats K mg F A vs ds → ∀ (i : Nat) (d : D), (ds.map some)[i]? = some (some d) → ∃ v, (vs.map some)[i]? = some (some v) ∧ Dat K mg F A v d := by
  intro vs ds h i d e
  rw [List.getElem?_map] at e
  cases q : ds[i]? with
  | none => rw [q] at e; cases e
  | some d' =>
    rw [q] at e
    cases e
    obtain ⟨v, h1, h2⟩ := h.get q
    exact ⟨v, by rw [List.getElem?_map, h1]; rfl, h2⟩
theorem start_slots {K mg F A} {N : List Str} {vs : List V} {ds : List D} (h : Dats K mg F A vs ds) (hl : vs.length ≤ N.length) : Slots K mg F A (L2.start N vs) (ds.map some ++ List.replicate (N.length - ds.length) none) := by
  refine ⟨by simp [L2.start, h.length], fun i d e => ?_⟩
  unfold L2.start
  by_cases hi : i < ds.length
  · rw [List.getElem?_append_left (by simpa using hi)] at e
    obtain ⟨v, h1, h2⟩ := h.slots i d e
    exact ⟨v, by rw [List.getElem?_append_left (by rw [List.length_map, h.length]; exact hi)]; exact h1, h2⟩
  · rw [List.getElem?_append_right (by simpa using hi)] at e
    rw [List.getElem?_replicate] at e
    split at e <;> cases e
section
variable {P : Program} {w : World} {K : PySem.W.Frag} {mg : Str → Option Value} {base : Heap}
theorem gd_deeper {A : Around} (env : Env) (h : gf = true → A.guards = some []) : gf = true → (A.deeper env).guards = some [] := h
theorem fng_of {x qual : Str} {st : Stmt} {f : Addr} {fd : FuncData} {N ps : List Str} {k : Nat} {sp : Sp} (F : Fun K x qual st f fd) (S : FnScope N ps (defScope st)) (len : ∀ vs H Q E, sp vs H Q E → vs.length = ps.length)
    (hb : ∀ (cdv : Value) (A : Around) (outer : List Env) (s : Shared) (H : Hp) (vs : List V) (Q : VK) (E : XK), Room k (A.deeper (envOfC qual (defScope st) s.heap.objs.size f cdv)) → (gf = true → A.guards = some []) → sp vs H Q E →
      ∃ t, PSs (cxOf (L2.CX P w) P w K mg base N qual (defScope st) f cdv A outer s H E) (defBody st) t ∧ t { nx := fun _ H' => Q .non H', rt := Q } (L2.start N vs) H) : FnG gf P w K mg base (k + 1) f fd ps sp := by
  obtain ⟨oc, od, kV, doc, pm, an, cdv, ct, osl, rfl, lk, hcd⟩ := F.ex
  refine ⟨len, ?_⟩
  intro A outer s H args us vs Q E hr hgd e0 hbd rv hsp
  have KX : K.In s.heap := e0.mod.kin.keeps fun b o z => (e0.bs b o z).1
  refine codeAny_call_function hr.depth (KX _ _ lk) rfl S.co S.gen rfl (PySem.W.codeRec_of KX hcd) (hbd _ _ _ _ ?_)
  have kinds : ∀ y ∈ ps.zip us, (defScope st).names.lookup y.1 = some .local ∨
      ((defScope st).names.lookup y.1 = some .cell ∧ ((cellsFrom (s.heap.objs.size + 1) (defScope st).names []).lookup y.1).isSome = true) := by
    intro y hy
    obtain ⟨n, v⟩ := y
    exact (S.par n (List.of_mem_zip hy).1).imp id fun z => ⟨z, PySem.W.cellsFrom_some _ _ _ (.inl z)⟩
  refine wpAny_newFunctionEnv_cells S.kind kinds fun env he s1 xc => ?_
  subst he
  refine ⟨(e0.mod.nolimit.keeps fun b o z => (e0.bs b o z).1).keeps xc.toInCall.keep, codeAny_func ?_⟩
  obtain ⟨t, ht, hq⟩ := hb cdv A outer s H vs Q E (hr.deeper _) hgd hsp
  have I : Inv (cxOf (L2.CX P w) P w K mg base N qual (defScope st) f cdv A outer s H E) [] (L2.start N vs) H s1 := inv_start S hr.hd e0 (len _ _ _ _ hsp) rv xc
  refine wpAny_mono (ht.run [] s1 (L2.start N vs) H _ I hq) (fun fl s' hs => ?_) fun _ _ z => z
  cases fl with
  | ret u => obtain ⟨v, _, H', J, r, q⟩ := hs; exact ⟨v, H', J.os, J.bare, J.base, J.hok, r, q⟩
  | next => obtain ⟨_, H', J, q⟩ := hs; exact ⟨.non, H', J.os, J.bare, J.base, J.hok, rfl, q⟩
  | brk => obtain ⟨_, _, _, q⟩ := hs; exact q.elim
  | cont => obtain ⟨_, _, _, q⟩ := hs; exact q.elim
theorem fn_ok {x qual : Str} {st : Stmt} {f : Addr} {fd : FuncData} {N ps : List Str} {k : Nat} {g : Stm} (sy : ∃ mm, base.Ns sysModules mm) (F : Fun K x qual st f fd) (S : FnScope N ps (defScope st)) (hn : ps.length ≤ N.length)
    (hb : ∀ (cdv : Value) (A : Around) (outer : List Env) (s : Shared) (H : Hp) (E : XK), Bod gf (cxOf (L2.CX P w) P w K mg base N qual (defScope st) f cdv A outer s H E) (fun cls d _ H => E cls d H) k →
      DSs (cxOf (L2.CX P w) P w K mg base N qual (defScope st) f cdv A outer s H E) (fun cls d _ H => E cls d H) (defBody st) g) :
    FnG gf P w K mg base (k + 1) f fd ps (spD K mg ps.length (fnD N.length g)) := by
  refine fng_of F S (fun vs H Q E ⟨F, A, P', ds, S', rp, dv, hl, _⟩ => dv.length.trans hl) (fun cdv A outer s H vs Q E hr hgd ⟨F', A', P', ds, S', rp, dv, hl, q⟩ => ?_)
  refine ⟨_, hb cdv A outer s H E ⟨rfl, S.nd, hr, gd_deeper _ hgd, sy, takes_of rfl rfl rfl rfl, passes_of rfl⟩, F', A', P', _, S', rp, start_slots dv (by rw [dv.length, hl]; exact hn), ?_⟩
  unfold fnD at q
  cases e : g (ds.map some ++ List.replicate (N.length - ds.length) none) S' with
  | nx ρ S2 => rw [e] at q; exact fun σ' H' F2 A2 x r s => q _ _ _ _ x r .non
  | rt d S2 => rw [e] at q; exact q
  | ex C fs ρ S2 => rw [e] at q; exact fun c d σ' H' F2 A2 x r s m z => q c d H' F2 A2 x r m z
  | bk ρ S2 => rw [e] at q; exact q.elim
  | ct ρ S2 => rw [e] at q; exact q.elim
  | stuck => rw [e] at q; exact q.elim
end
def eFn (m : Fn) (f : Ev (List D)) : Ev D := fun ρ S => (f ρ S).bind fun ds S => m ds S
section
variable {X : Cx} {W : WX} {k j : Nat} {e : Expr} {es : List Expr} {x : Str} {ps : List Str} {f : Addr} {fd : FuncData} {m : Fn} {a : Ev (List D)} {p pos : Pos}
/-- the callee runs, what leaves it is wished for at the slots -/
theorem run_g {pins : List (Addr × Obj)} {σ : L2.St} {H : Hp} {s : Shared} {Q : VK} {args : Args} {us : List Value} {vs : List V} {sp : Sp} (B : Bod gf X W k) (F : FnG gj X.prog X.w X.K X.mg X.base j f fd ps sp) (hgf : gj = true → gf = true) (hj : j ≤ k) (hb : BindsTo s fd args (ps.zip us))
    (I : Inv X pins σ H s) (r : Vals vs us) (h : sp vs H Q (WE W σ)) : codeAny (model X.prog X.w) X.A (.call (.ref f) args) (fun r s' => match r with
      | .ok (.ret u) => EP X pins σ Q u s'
      | .ok _ => False
      | .error e => X.xe e s') s := by
  refine codeAny_mono (F.run X.A X.stack s H args us vs Q (WE W σ) (B.room.mono hj) (fun z => B.gd (hgf z)) I.env0 hb r h) fun r s' hq => ?_
  cases r with
  | error e => exact passAt B.tk σ pins H s e s' I hq
  | ok fl =>
    cases fl with
    | ret u => exact I.after hq
    | next => exact hq
    | brk => exact hq
    | cont => exact hq
theorem fn_ent {n : Nat} (hn : ∀ ρ S ds S', a ρ S = .ok ds S' → ds.length = n) : ∀ σ H Q, tD X.K X.mg W (eFn m a) σ H Q → tCallS (spD X.K X.mg n m) (WE W) (tDA X.K X.mg W a) σ H Q := fun σ H Q ⟨F, A, P, ρ, S, rp, s, q⟩ => by
  refine ⟨F, A, P, ρ, S, rp, s, ?_⟩
  have q := Out.post_bind q
  cases e : a ρ S with
  | stuck => rw [e] at q; exact q.elim
  | exc C fs S1 => rw [e] at q; exact q
  | ok ds S1 =>
    rw [e] at q
    exact fun vs H1 F1 A1 x1 r1 dv => ⟨F1, A1, P, ds, S1, r1, dv, hn _ _ _ _ e, post_okE x1 q⟩
/-- how many arguments there are -/
class Ar (a : Ev (List D)) (n : outParam Nat) : Prop where
  len : ∀ ρ S ds S', a ρ S = .ok ds S' → ds.length = n
instance : Ar aNil 0 := ⟨fun ρ S ds S' h => by cases h; rfl⟩
instance {f : Ev D} {g : Ev (List D)} {n : Nat} [q : Ar g n] : Ar (aCons f g) (n + 1) := ⟨fun ρ S ds S' h => by
  unfold aCons at h
  cases e : f ρ S with
  | stuck => rw [e] at h; cases h
  | exc C fs S => rw [e] at h; cases h
  | ok d S1 =>
    rw [e] at h
    have h : (g ρ S1).bind (fun ds S => Out.ok (d :: ds) S) = Out.ok ds S' := h
    cases e2 : g ρ S1 with
    | stuck => rw [e2] at h; cases h
    | exc C fs S => rw [e2] at h; cases h
    | ok ds2 S2 =>
      rw [e2] at h
      have h : Out.ok (d :: ds2) S2 = Out.ok ds S' := h
      cases h
      rw [List.length_cons, q.len _ _ _ _ e2]⟩
theorem pe_callG {sp : Sp} {t : TA} (B : Bod gf X W k) (F : FnG gj X.prog X.w X.K X.mg X.base j f fd ps sp) (hgf : gj = true → gf = true) (hj : j ≤ k) (hg : Gl X x) (hm : X.mg x = some (.ref f)) (hk : PySem.W.keepIn X.K (.ref f) = true) (hb : Binds X.K fd ps [])
    (ha : PA X (e :: es) t) (hdb : (x == ("__debug__" : Str)) = false) (he : starEach (e :: es) X.env = (false, eval e X.env) :: starEach es X.env) (hpl : (backTo pos (starEach es X.env)).any (·.1) = false) :
    PE X (.Call (.Name x p) (e :: es) [] pos) (tCallS sp (WE W) t) := by
  refine ⟨fun pins s σ H Q I h => wpAny_Call_Name_kw (ld_glob I hg hm ?_ hdb)⟩
  refine PySem.W.callWith_K (h₀ := X.base) I.ok.mod.kin hk (thn (ha.run pos pins s σ H _ I h) ?_) he hpl
  rintro us s1 ⟨vs, H1, I1, r, q⟩
  have hl : us.length = ps.length := by rw [← r.length]; exact F.len _ _ _ _ q
  have b := hb s1 us I1.kIn (by rw [List.append_nil]; exact hl)
  rw [List.append_nil] at b
  exact ⟨I1.kIn, wpAny_call (run_g B F hgf hj b I1 r q)⟩
theorem de_call (B : Bod gf X W k) (c : FnD gj X.prog X.w X.K X.mg X.base x ps j f fd m) (hj : j ≤ k) (hg : Gl X x) (ha : DA X W (e :: es) a) {n : Nat} [q : Ar a n] (hn : n = ps.length := by rfl) (hdb : (x == ("__debug__" : Str)) = false := by decide) (he : starEach (e :: es) X.env = (false, eval e X.env) :: starEach es X.env := by rfl)
    (hpl : (backTo pos (starEach es X.env)).any (·.1) = false := by rfl) (hgf : gj = true → gf = true := by decide) : DE X W (.Call (.Name x p) (e :: es) [] pos) (eFn m a) :=
  PE.imp (pe_callG B c.fn hgf hj hg c.mg c.kp c.b ha hdb he hpl) (fn_ent (hn ▸ q.len))
end
end DL
namespace DL
open PySem PySem.Spec PyProof.Rows L2
variable {gf gj : Bool}

/-! ### repr -/
def keyPy : Key → PyData
  | .inl i => .int i
  | .inr x => .str x
mutual
def toPyR : D → Option PyData
  | .non => some .none
  | .bl b => some (.bool b)
  | .int i => some (.int i)
  | .str x => some (.str x)
  | .rd xs => (toPysR xs).map .list
  | .list xs => (toPysR xs).map .list
  | .tup xs => (toPysR xs).map .tuple
  | .dict kvs => (toPyKR kvs).map .dict
  | _ => none
def toPysR : List D → Option (List PyData)
  | [] => some []
  | d :: ds => match toPyR d, toPysR ds with
    | some a, some b => some (a :: b)
    | _, _ => none
def toPyKR : List (Key × D) → Option (List (PyData × PyData))
  | [] => some []
  | (k, d) :: ds => match toPyR d, toPyKR ds with
    | some a, some b => some ((keyPy k, a) :: b)
    | _, _ => none
end
def toPyRS (S : Store) (d : D) : Option PyData := match itemsR S d with
  | some xs => (toPysR xs).map .list
  | none => match itemsK S d with
    | some kvs => (toPyKR kvs).map .dict
    | none => toPyR d
def showOk (p : PyData) : Bool := p.showable && decide (p.depth ≤ 60) && decide (p.shown.length ≤ 16777216)
def gRepr : List D → Store → Option D := fun xs S => match xs with
  | [x] => match toPyRS S x with
    | some p => if showOk p then some (.str p.shown) else none
    | none => none
  | _ => none
section
variable {X : Cx} {pins : List (Addr × Obj)} {σ : L2.St} {H F : Hp} {A : List Addr} {s : Shared}
theorem not_sys (sy : ∃ mm, X.base.Ns sysModules mm) (I : Inv X pins σ H s) {a : Addr} {o : Obj} {vs : Array Value} {n : Nat} (h : s.heap.get? a = some o) (hd : o.data = .seq vs n) : a ≠ sysModules := by
  rintro rfl
  obtain ⟨mm, o2, es, ep, e, d, _⟩ := sy
  rw [I.bk _ _ e] at h
  cases h
  rw [d] at hd
  cases hd
theorem pairs_keys {P : Program} {w : World} : ∀ {es : List DictEntry} {kvs : List (Key × Value)}, Pairs (mixKind P w) es kvs → ∀ {h : Heap}, ∃ as, ReadsAll h (es.map (·.key)) (kvs.map fun kv => keyPy kv.1) as ∧ sysModules ∉ as
  | _, _, .nil, _ => ⟨[], .nil, by simp⟩
  | _, _, .cons (kv := kv) hk hv r, h => by
    obtain ⟨as, h1, h2⟩ := pairs_keys r (h := h)
    obtain ⟨k, u⟩ := kv
    rcases keyIs_shape hk with ⟨i, t, e1, e2⟩ | ⟨x, t, e1, e2⟩
    · obtain rfl : k = .inl i := e1
      refine ⟨[] ++ as, ?_, by simpa using h2⟩
      simp only [List.map_cons]
      rw [e2]
      exact .cons (.int i t) h1
    · obtain rfl : k = .inr x := e1
      refine ⟨[] ++ as, ?_, by simpa using h2⟩
      simp only [List.map_cons]
      rw [e2]
      exact .cons (.str x t) h1
theorem pairs_vals {P : Program} {w : World} : ∀ {es : List DictEntry} {kvs : List (Key × Value)}, Pairs (mixKind P w) es kvs → es.map (·.val) = kvs.map (·.2)
  | _, _, .nil => rfl
  | _, _, .cons hk hv r => by rw [List.map_cons, List.map_cons, hv, pairs_vals r]
theorem kv_keys : ∀ {ks : List (Key × V)} {vs : List (Key × Value)}, KV ks vs → vs.map (·.1) = ks.map (·.1) := fun r => (KV.keys r).symm
theorem kv_vals : ∀ {ks : List (Key × V)} {vs : List (Key × Value)}, KV ks vs → Vals (ks.map (·.2)) (vs.map (·.2))
  | _, _, .nil => .nil
  | _, _, .cons h r => .cons h.2 (kv_vals r)
theorem datsK_vals {K mg} : ∀ {ks : List (Key × V)} {ds : List (Key × D)}, DatsK K mg F A ks ds → Dats K mg F A (ks.map (·.2)) (ds.map (·.2))
  | _, _, .nil => .nil
  | _, _, .cons h r => .cons h (datsK_vals r)
theorem datsK_keys {K mg} : ∀ {ks : List (Key × V)} {ds : List (Key × D)}, DatsK K mg F A ks ds → ks.map (·.1) = ds.map (·.1)
  | _, _, .nil => rfl
  | _, _, .cons h r => by rw [List.map_cons, List.map_cons, datsK_keys r]
theorem toPyKR_spec : ∀ {ds : List (Key × D)} {ps : List (PyData × PyData)}, toPyKR ds = some ps → ps.map (·.1) = ds.map (fun kv => keyPy kv.1) ∧ toPysR (ds.map (·.2)) = some (ps.map (·.2))
  | [], ps, e => by simp [toPyKR] at e; subst e; exact ⟨rfl, rfl⟩
  | (k, d) :: ds, ps, e => by
    simp only [toPyKR] at e
    split at e
    · rename_i a b e1 e2
      simp only [Option.some.injEq] at e
      subst e
      obtain ⟨h1, h2⟩ := toPyKR_spec e2
      refine ⟨by simp [h1], ?_⟩
      simp only [List.map_cons, toPysR, e1, h2]
    · cases e
mutual
theorem rd_of (sy : ∃ mm, X.base.Ns sysModules mm) (I : Inv X pins σ H s) (le : Same F H) : ∀ {v : V} {d : D} {p : PyData} {u : Value}, Dat X.K X.mg F A v d → toPyR d = some p → RelV v u → ∃ as, Reads s.heap u p as ∧ sysModules ∉ as
  | _, _, _, _, .non, e, r => by simp only [toPyR, Option.some.injEq] at e; subst e; cases r; exact ⟨_, .none, by simp⟩
  | _, _, _, _, .bl, e, r => by simp only [toPyR, Option.some.injEq] at e; subst e; cases r; exact ⟨_, .bool _, by simp⟩
  | _, _, _, _, .int, e, r => by simp only [toPyR, Option.some.injEq] at e; subst e; obtain ⟨t, rfl⟩ := r; exact ⟨_, .int _ _, by simp⟩
  | _, _, _, _, .str, e, r => by simp only [toPyR, Option.some.injEq] at e; subst e; obtain ⟨t, rfl⟩ := r; exact ⟨_, .str _ _, by simp⟩
  | _, _, _, _, .rd h q, e, r => by
    simp only [toPyR, Option.map_eq_some_iff] at e
    obtain ⟨ps, e1, rfl⟩ := e
    cases r
    obtain ⟨its, rv, ⟨o, n, ho, hc, _, hd⟩, _⟩ := I.list (le.seq h)
    obtain ⟨as, hr, hn⟩ := rds_of sy I le q e1 rv
    exact ⟨_, .list ho hc hd hr, by simp only [List.mem_cons, not_or]; exact ⟨(not_sys sy I ho hd).symm, hn⟩⟩
  | _, _, _, _, .list h q, e, r => by
    simp only [toPyR, Option.map_eq_some_iff] at e
    obtain ⟨ps, e1, rfl⟩ := e
    cases r
    obtain ⟨its, rv, ⟨o, n, ho, hc, _, hd⟩, _⟩ := I.list (SqL.of (le _ _ h))
    obtain ⟨as, hr, hn⟩ := rds_of sy I le q e1 rv
    exact ⟨_, .list ho hc hd hr, by simp only [List.mem_cons, not_or]; exact ⟨(not_sys sy I ho hd).symm, hn⟩⟩
  | _, _, _, _, .tup h q, e, r => by
    simp only [toPyR, Option.map_eq_some_iff] at e
    obtain ⟨ps, e1, rfl⟩ := e
    cases r
    obtain ⟨its, rv, ⟨o, ho, hc, n, hd⟩, _⟩ := I.tuple (sqt_mono le h)
    obtain ⟨as, hr, hn⟩ := rds_of sy I le q e1 rv
    exact ⟨_, .tuple ho hc hd hr, hn⟩
  | _, _, _, _, .dict h q, e, r => by
    simp only [toPyR, Option.map_eq_some_iff] at e
    obtain ⟨ps, e1, rfl⟩ := e
    cases r
    obtain ⟨hz, hS, vs, kv, o, es, ep, ho, hx, hd, _, hp, _⟩ : _ ∧ _ ∧ ∃ vs, KV _ vs ∧ s.heap.DictOf (mixKind X.prog X.w) _ vs := (I.hok _ _ (le _ _ h)).2
    obtain ⟨bs, hr, hn⟩ := rdk_of sy I le q e1 (kv_vals kv)
    obtain ⟨as, hk, hkn⟩ := pairs_keys hp (h := s.heap)
    obtain ⟨e2, _⟩ := toPyKR_spec e1
    have ek : vs.map (fun kv => keyPy kv.1) = ps.map (·.1) := by
      have z1 := (KV.keys kv).symm.trans (datsK_keys q)
      have z2 := congrArg (List.map keyPy) z1
      rw [List.map_map, List.map_map] at z2
      rw [e2]
      exact z2
    rw [ek] at hk
    rw [← pairs_vals hp] at hr
    refine ⟨_, .dict ho hx.1 hd hk hr, ?_⟩
    simp only [List.mem_append, List.mem_cons, not_or]
    exact ⟨⟨fun z => by rw [← z] at hS; simp at hS, hkn⟩, hn⟩
  | _, _, _, _, .ins _ _ _, e, _ => by simp [toPyR] at e
  | _, _, _, _, .ref _, e, _ => by simp [toPyR] at e
  | _, _, _, _, .cls _, e, _ => by simp [toPyR] at e
  | _, _, _, _, .ty, e, _ => by simp [toPyR] at e
theorem rds_of (sy : ∃ mm, X.base.Ns sysModules mm) (I : Inv X pins σ H s) (le : Same F H) : ∀ {v : List V} {d : List D} {p : List PyData} {u : List Value}, Dats X.K X.mg F A v d → toPysR d = some p → Vals v u → ∃ as, ReadsAll s.heap u p as ∧ sysModules ∉ as
  | _, _, _, _, .nil, e, r => by simp only [toPysR, Option.some.injEq] at e; subst e; cases r; exact ⟨_, .nil, by simp⟩
  | _, _, _, _, .cons h q, e, r => by
    simp only [toPysR] at e
    split at e
    · rename_i a b e1 e2
      simp only [Option.some.injEq] at e
      subst e
      cases r with
      | cons r1 r2 =>
        obtain ⟨as, h1, n1⟩ := rd_of sy I le h e1 r1
        obtain ⟨bs, h2, n2⟩ := rds_of sy I le q e2 r2
        exact ⟨_, .cons h1 h2, by simp only [List.mem_append, not_or]; exact ⟨n1, n2⟩⟩
    · cases e
theorem rdk_of (sy : ∃ mm, X.base.Ns sysModules mm) (I : Inv X pins σ H s) (le : Same F H) : ∀ {v : List (Key × V)} {d : List (Key × D)} {p : List (PyData × PyData)} {u : List Value}, DatsK X.K X.mg F A v d → toPyKR d = some p → Vals (v.map (·.2)) u → ∃ as, ReadsAll s.heap u (p.map (·.2)) as ∧ sysModules ∉ as
  | _, _, _, _, .nil, e, r => by simp only [toPyKR, Option.some.injEq] at e; subst e; cases r; exact ⟨_, .nil, by simp⟩
  | _, _, _, _, .cons h q, e, r => by
    simp only [toPyKR] at e
    split at e
    · rename_i a b e1 e2
      simp only [Option.some.injEq] at e
      subst e
      cases r with
      | cons r1 r2 =>
        obtain ⟨as, h1, n1⟩ := rd_of sy I le h e1 r1
        obtain ⟨bs, h2, n2⟩ := rdk_of sy I le q e2 r2
        exact ⟨_, .cons h1 h2, by simp only [List.mem_append, not_or]; exact ⟨n1, n2⟩⟩
    · cases e
end
def rRepr (X : Cx) : List V → Hp → VK → Prop := fun xs H Q => ∃ x p, xs = [x] ∧ (∀ pins σ s u, Inv X pins σ H s → RelV x u → ∃ as, Reads s.heap u p as ∧ sysModules ∉ as) ∧ showOk p = true ∧ Q (.str p.shown) H
theorem call_reprG {W : WX} {k : Nat} (B : Bod true X W k) : CallR X (.builtin "repr") (rRepr X) := by
  intro pins s σ H xs us Q I r h
  obtain ⟨x, p, rfl, rd, ok, q⟩ := h
  obtain ⟨u, rfl, ru⟩ := vals1 r
  obtain ⟨as, hr, hn⟩ := rd pins σ s u I ru
  unfold showOk at ok
  rw [Bool.and_eq_true, Bool.and_eq_true, decide_eq_true_eq, decide_eq_true_eq] at ok
  obtain ⟨⟨o1, o2⟩, o3⟩ := ok
  have hl := len_le o3
  have hu : X.A.units + 65 < cLine := B.hu
  cases hr with
  | none => exact P.repr_of_none ⟨.str _, H, I.tok _, ⟨_, rfl⟩, q⟩
  | bool b => exact P.repr_of_bool ⟨.str _, H, I.tok _, ⟨_, rfl⟩, by
      have e : (PyData.bool b).shown = (if b then "True" else "False" : Str) := by simp [PyData.shown]
      rw [e] at q; exact q⟩
  | int i t => exact P.repr_of_int (by simpa [PyData.showable] using o1) ⟨.str _, H, I.tok _, ⟨_, rfl⟩, by
      have e : (PyData.int i).shown = toString i := by simp [PyData.shown]
      rw [e] at q; exact q⟩
  | str z t => exact P.repr_of_str ⟨.str _, H, I.tok _, ⟨_, rfl⟩, by
      have e : (PyData.str z).shown = reprText z := by simp [PyData.shown]
      rw [e] at q; exact q⟩ (by simpa [PyData.shown] using hl)
  | list h1 h2 h3 h4 => exact repr_of_reads' (.list h1 h2 h3 h4) o1 (fun _ => hn) (B.gd rfl) (by omega) (fun _ _ z => z) (fun h' u tk hk => ⟨.str _, H, I.kept hk, ⟨_, rfl⟩, q⟩) hl
  | tuple h1 h2 h3 h4 => exact repr_of_reads' (.tuple h1 h2 h3 h4) o1 (fun _ => hn) (B.gd rfl) (by omega) (fun _ _ z => z) (fun h' u tk hk => ⟨.str _, H, I.kept hk, ⟨_, rfl⟩, q⟩) hl
  | dict h1 h2 h3 h4 h5 => exact repr_of_reads' (.dict h1 h2 h3 h4 h5) o1 (fun _ => hn) (B.gd rfl) (by omega) (fun _ _ z => z) (fun h' u tk hk => ⟨.str _, H, I.kept hk, ⟨_, rfl⟩, q⟩) hl
theorem reprG_ent {W : WX} {k : Nat} (B : Bod true X W k) : CallE X.K X.mg (rRepr X) gRepr := by
  intro F A P S H xs dx d Q rp hx e k
  unfold gRepr at e
  split at e
  · rename_i x
    cases hx with
    | @cons v _ _ _ h1 h2 =>
      cases h2
      split at e
      · rename_i p e1
        split at e
        · rename_i ok
          cases e
          refine ⟨v, p, rfl, fun pins σ s u I ru => ?_, ok, okE.now k rp .str⟩
          unfold toPyRS at e1
          split at e1
          · rename_i ys e2
            obtain ⟨a, vs, rfl, h3, h4⟩ := itemsR_at rp h1 e2
            simp only [Option.map_eq_some_iff] at e1
            obtain ⟨ps, e3, rfl⟩ := e1
            cases ru
            obtain ⟨its, rv, ⟨o, n, ho, hc, _, hd⟩, _⟩ := I.list h3
            obtain ⟨as, hr, hn⟩ := rds_of B.sy I rp.le h4 e3 rv
            exact ⟨_, .list ho hc hd hr, by simp only [List.mem_cons, not_or]; exact ⟨(not_sys B.sy I ho hd).symm, hn⟩⟩
          · split at e1
            · rename_i kvs e2
              obtain ⟨a, vs, rfl, h3, h4⟩ := itemsK_at rp h1 e2
              have z : ∃ as, Reads s.heap u p as ∧ sysModules ∉ as := by
                simp only [Option.map_eq_some_iff] at e1
                obtain ⟨ps, e1, rfl⟩ := e1
                cases ru
                obtain ⟨hz, hS, vs', kv, o, es, ep, ho, hx, hd, _, hp, _⟩ : _ ∧ _ ∧ ∃ vs, KV _ vs ∧ s.heap.DictOf (mixKind X.prog X.w) _ vs := Rd.ok h3 I.hok
                obtain ⟨bs, hr, hn⟩ := rdk_of B.sy I rp.le h4 e1 (kv_vals kv)
                obtain ⟨as, hk, hkn⟩ := pairs_keys hp (h := s.heap)
                obtain ⟨e2, _⟩ := toPyKR_spec e1
                have ek : vs'.map (fun kv => keyPy kv.1) = ps.map (·.1) := by
                  have z1 := (KV.keys kv).symm.trans (datsK_keys h4)
                  have z2 := congrArg (List.map keyPy) z1
                  rw [List.map_map, List.map_map] at z2
                  rw [e2]
                  exact z2
                rw [ek] at hk
                rw [← pairs_vals hp] at hr
                refine ⟨_, .dict ho hx.1 hd hk hr, ?_⟩
                simp only [List.mem_append, List.mem_cons, not_or]
                exact ⟨⟨fun z => by rw [← z] at hS; simp at hS, hkn⟩, hn⟩
              exact z
            · exact rd_of B.sy I rp.le h1 e1 ru
        · cases e
      · cases e
  · cases e
end
end DL
namespace DL
open PySem PySem.Spec PyProof.Rows L2

/-! ### the store changes -/
section
variable {K : PySem.W.Frag} {mg : Str → Option Value} {F : Hp} {A : List Addr} {P H : Hp} {S : Store} {a p : Addr} {o o' : HO} {n : Nat} {so so0 : SO}
theorem Rep.ap_ne (r : Rep K mg F A S P H) (hn : A[n]? = some a) : P a = none := r.ap a (List.mem_of_getElem? hn)
theorem soOk_keep {H' : Hp} {m : Nat} {s : SO} (h : SoOk K mg F A H m s) (k : ∀ b, A[m]? = some b → H' b = H b) : SoOk K mg F A H' m s := by
  cases s with
  | gone => trivial
  | tab y => obtain ⟨b, c, ps, h1, h2, ht, h3, h4⟩ := h; exact ⟨b, c, ps, h1, h2, ht, by rw [k b h1]; exact h3, h4⟩
  | lst xs => obtain ⟨b, vs, h1, h2, h3, h4⟩ := h; exact ⟨b, vs, h1, h2, by rw [k b h1]; exact h3, h4⟩
  | dict xs => obtain ⟨b, vs, h1, h2, h3, h4⟩ := h; exact ⟨b, vs, h1, h2, by rw [k b h1]; exact h3, h4⟩
  | ins C xs => obtain ⟨b, c, dx, vs, h1, h2, hc, h3, h4⟩ := h; exact ⟨b, c, dx, vs, h1, h2, hc, by rw [k b h1]; exact h3, h4⟩
theorem soOk_ext {F' : Hp} {A' : List Addr} {m : Nat} {s : SO} (x : Ext F A F' A') (h : SoOk K mg F A H m s) (k : ∀ b, A[m]? = some b → F b = none → F' b = none) : SoOk K mg F' A' H m s := by
  cases s with
  | gone => trivial
  | tab y => obtain ⟨b, c, ps, h1, h2, ht, h3, h4, h5⟩ := h; exact ⟨b, c, ps, x.at h1, k b h1 h2, ht, h3, h4, fun pos cv e => let ⟨d, e1, e2⟩ := h5 pos cv e; ⟨d, e1, x.f _ _ e2⟩⟩
  | lst xs => obtain ⟨b, vs, h1, h2, h3, h4⟩ := h; exact ⟨b, vs, x.at h1, k b h1 h2, h3, h4.mono x⟩
  | dict xs => obtain ⟨b, vs, h1, h2, h3, h4⟩ := h; exact ⟨b, vs, x.at h1, k b h1 h2, h3, h4.mono x⟩
  | ins C xs => obtain ⟨b, c, dx, vs, h1, h2, hc, h3, h4⟩ := h; exact ⟨b, c, dx, vs, x.at h1, k b h1 h2, hc, h3, h4.mono x⟩
theorem Rep.put (r : Rep K mg F A S P H) (hn : A[n]? = some a) (hF : F a = none) (new : SoOk K mg F A (upd H a o') n so) : Rep K mg F A (S.set n so) P (upd H a o') := by
  have hP := r.ap_ne hn
  refine ⟨fun b u h => by rw [upd_ne (ne_of_none h hF)]; exact r.le b u h, fun b u h => by rw [upd_ne (ne_of_none h hP)]; exact r.pr b u h, r.fp, r.ap, by rw [List.length_set]; exact r.len, r.nd, fun b hb => ?_, fun m s h => ?_⟩
  · by_cases e : b = a
    · exact ⟨o', by rw [e, upd_same]⟩
    · obtain ⟨u, h⟩ := r.th b hb
      exact ⟨u, by rw [upd_ne e]; exact h⟩
  · by_cases e : n = m
    · subst e
      have hl : n < S.length := by rw [← r.len]; exact (List.getElem?_eq_some_iff.mp hn).1
      rw [List.getElem?_set_self hl] at h
      cases h
      exact new
    · rw [List.getElem?_set_ne e] at h
      exact soOk_keep (r.so m s h) fun b hb => upd_ne fun z => e (nd_ix r.nd hn (by rw [← z]; exact hb))
theorem Rep.alloc (r : Rep K mg F A S P H) (hp : H p = none) (new : SoOk K mg F (A ++ [p]) (upd H p o) A.length so) : Ext F A F (A ++ [p]) ∧ Rep K mg F (A ++ [p]) (S ++ [so]) P (upd H p o) := by
  have hF : F p = none := r.le.free hp
  have hP : P p = none := r.pr.free hp
  have nA : ∀ b ∈ A, b ≠ p := fun b hb e => by
    obtain ⟨u, h⟩ := r.th b hb
    rw [e, hp] at h; cases h
  have x : Ext F A F (A ++ [p]) := ⟨Same.refl F, [p], rfl⟩
  refine ⟨x, ⟨fun b u h => by rw [upd_ne (ne_of_none h hF)]; exact r.le b u h, fun b u h => by rw [upd_ne (ne_of_none h hP)]; exact r.pr b u h, r.fp, fun b hb => ?_, by rw [List.length_append, List.length_append, r.len]; rfl, ?_, fun b hb => ?_, fun m s h => ?_⟩⟩
  · rcases List.mem_append.mp hb with hb | hb
    · exact r.ap b hb
    · rw [List.mem_singleton.mp hb]; exact hP
  · refine List.nodup_append.mpr ⟨r.nd, by simp, fun b hb c hc => ?_⟩
    rw [List.mem_singleton.mp hc]
    exact nA b hb
  · rcases List.mem_append.mp hb with hb | hb
    · obtain ⟨u, h⟩ := r.th b hb
      exact ⟨u, by rw [upd_ne (nA b hb)]; exact h⟩
    · rw [List.mem_singleton.mp hb]; exact ⟨o, upd_same⟩
  · by_cases hm : m < S.length
    · rw [List.getElem?_append_left hm] at h
      have q := soOk_keep (H' := upd H p o) (r.so m s h) fun b hb => upd_ne (nA b (List.mem_of_getElem? hb))
      exact soOk_ext x q fun _ _ z => z
    · rw [List.getElem?_append_right (by omega)] at h
      have e : m = S.length := by
        by_cases z : m - S.length = 0
        · omega
        · rw [List.getElem?_eq_none (by simp; omega)] at h; cases h
      subst e
      rw [Nat.sub_self] at h
      cases h
      rw [← r.len]
      exact new
theorem Rep.frzSo (r : Rep K mg F A S P H) (hn : A[n]? = some a) (hF : F a = none) (hH : H a = some o) : Ext F A (upd F a o) A ∧ Rep K mg (upd F a o) A (S.set n .gone) P H := by
  have hP := r.ap_ne hn
  have x : Ext F A (upd F a o) A := ⟨fun b u h => by rw [upd_ne (ne_of_none h hF)]; exact h, [], by simp⟩
  refine ⟨x, ⟨fun b u h => ?_, r.pr, fun b u h => by rw [upd_ne (ne_of_none h hP)]; exact r.fp b u h, r.ap, by rw [List.length_set]; exact r.len, r.nd, r.th, fun m s h => ?_⟩⟩
  · by_cases e : b = a
    · rw [e, upd_same] at h; rw [e, hH]; exact h
    · rw [upd_ne e] at h; exact r.le b u h
  · by_cases e : n = m
    · subst e
      have hl : n < S.length := by rw [← r.len]; exact (List.getElem?_eq_some_iff.mp hn).1
      rw [List.getElem?_set_self hl] at h
      cases h
      trivial
    · rw [List.getElem?_set_ne e] at h
      exact soOk_ext x (r.so m s h) fun b hb z => by rw [upd_ne fun z2 => e (nd_ix r.nd hn (by rw [← z2]; exact hb))]; exact z
/-- .. locked for good -/
theorem Rep.frzSoL {od : Obj} (r : Rep K mg F A S P H) (hn : A[n]? = some a) (hF : F a = none) (hH : H a = some o) : Ext F A (upd F a (.frz od o)) A ∧ Rep K mg (upd F a (.frz od o)) A (S.set n .gone) P (upd H a (.frz od o)) := by
  have hP := r.ap_ne hn
  have x : Ext F A (upd F a (.frz od o)) A := ⟨fun b u h => by rw [upd_ne (ne_of_none h hF)]; exact h, [], by simp⟩
  refine ⟨x, ⟨fun b u h => ?_, fun b u h => by rw [upd_ne (ne_of_none h hP)]; exact r.pr b u h, fun b u h => by rw [upd_ne (ne_of_none h hP)]; exact r.fp b u h, r.ap, by rw [List.length_set]; exact r.len, r.nd, fun b hb => ?_, fun m s h => ?_⟩⟩
  · by_cases e : b = a
    · rw [e, upd_same] at h ⊢; exact h
    · rw [upd_ne e] at h ⊢; exact r.le b u h
  · by_cases e : b = a
    · rw [e, upd_same]; exact ⟨_, rfl⟩
    · rw [upd_ne e]; exact r.th b hb
  · by_cases e : n = m
    · subst e
      have hl : n < S.length := by rw [← r.len]; exact (List.getElem?_eq_some_iff.mp hn).1
      rw [List.getElem?_set_self hl] at h
      cases h
      trivial
    · rw [List.getElem?_set_ne e] at h
      have ne : ∀ b, A[m]? = some b → b ≠ a := fun b hb z => e (nd_ix r.nd hn (by rw [← z]; exact hb))
      have q := soOk_ext x (r.so m s h) fun b hb z => by rw [upd_ne (ne b hb)]; exact z
      cases s with
      | gone => trivial
      | tab y => obtain ⟨b, c, ps, h1, h2, ht, h3, h4⟩ := q; exact ⟨b, c, ps, h1, h2, ht, by rw [upd_ne (ne b h1)]; exact h3, h4⟩
      | lst xs => obtain ⟨b, vs, h1, h2, h3, h4⟩ := q; exact ⟨b, vs, h1, h2, by rw [upd_ne (ne b h1)]; exact h3, h4⟩
      | dict xs => obtain ⟨b, vs, h1, h2, h3, h4⟩ := q; exact ⟨b, vs, h1, h2, by rw [upd_ne (ne b h1)]; exact h3, h4⟩
      | ins C xs => obtain ⟨b, c, dx, vs, h1, h2, hc, h3, h4⟩ := q; exact ⟨b, c, dx, vs, h1, h2, hc, by rw [upd_ne (ne b h1)]; exact h3, h4⟩
theorem ref_lst (r : Rep K mg F A S P H) {v : V} {xs : List D} (h : Dat K mg F A v (.ref n)) (e : S[n]? = some (.lst xs)) : ∃ a vs, v = .ref a ∧ A[n]? = some a ∧ F a = none ∧ H a = some (.lst vs) ∧ Dats K mg F A vs xs := by
  cases h with
  | ref h1 =>
    obtain ⟨b, vs, e1, e2, e3, e4⟩ := r.so _ _ e
    rw [h1] at e1; cases e1
    exact ⟨_, vs, rfl, h1, e2, e3, e4⟩
theorem ref_dict (r : Rep K mg F A S P H) {v : V} {xs : List (Key × D)} (h : Dat K mg F A v (.ref n)) (e : S[n]? = some (.dict xs)) : ∃ a vs, v = .ref a ∧ A[n]? = some a ∧ F a = none ∧ H a = some (.dK vs) ∧ DatsK K mg F A vs xs := by
  cases h with
  | ref h1 =>
    obtain ⟨b, vs, e1, e2, e3, e4⟩ := r.so _ _ e
    rw [h1] at e1; cases e1
    exact ⟨_, vs, rfl, h1, e2, e3, e4⟩
end
theorem len_lt {n : Nat} (h : n < 16777216) : n < sizeLine := by rw [sizeLine_eq]; exact h
/-- a list that will change -/
theorem de_lstR {X : Cx} {W : WX} {es : List Expr} {fs : Ev (List D)} {pos : Pos} (h : DA X W es fs) : DE X W (.List es pos) (eLstR fs) :=
  PE.imp (pe_lst h) fun σ H Q ⟨F, A, P, ρ, S, r, s, h⟩ => by
    refine tDA.seq r s h fun ds S1 vs H1 F1 A1 x1 r1 s1 d1 h1 => ?_
    split at h1
    · rename_i hl
      refine ⟨by rw [d1.length]; exact len_le hl, fun p hp => ?_⟩
      have hF : F1 p = none := r1.le.free hp
      have e : (A1 ++ [p])[A1.length]? = some p := by simp
      obtain ⟨x2, r2⟩ := r1.alloc (o := .lst vs) (so := .lst ds) hp ⟨p, vs, e, hF, upd_same, d1.mono ⟨Same.refl _, [p], rfl⟩⟩
      exact h1 _ _ _ _ (x1.trans x2) r2 (.ref (by rw [← r1.len]; exact e))
    · exact h1.elim
def eDictR : Ev D := fun _ S => .ok (.ref S.length) (S ++ [.dict []])
theorem de_dictR {X : Cx} {W : WX} {pos : Pos} : DE X W (.Dict [] [] pos) eDictR :=
  PE.imp pe_dnewK fun σ H Q ⟨F, A, P, ρ, S, r1, s, h⟩ p hp => by
    have hF : F p = none := r1.le.free hp
    have e : (A ++ [p])[A.length]? = some p := by simp
    obtain ⟨x2, r2⟩ := r1.alloc (o := .dK []) (so := .dict []) hp ⟨p, [], e, hF, upd_same, .nil⟩
    exact h _ _ _ _ x2 r2 (.ref (by rw [← r1.len]; exact e))
def sFrz (i : Nat) (g : Stm) : Stm := fun ρ S => match ρ[i]? with
  | some (some (.ref n)) => match S[n]? with
    | some (.lst xs) => g (ρ.set i (some (.list xs))) (S.set n .gone)
    | some (.dict xs) => g (ρ.set i (some (.dict xs))) (S.set n .gone)
    | _ => .stuck
  | _ => .stuck
theorem slots_same {K mg F A} {σ : L2.St} {ρ : Env'} (s : Slots K mg F A σ ρ) {i : Nat} {v : V} {d : D} (h : σ[i]? = some (some v)) (q : Dat K mg F A v d) : Slots K mg F A σ (ρ.set i (some d)) := by
  have e : σ.set i (some v) = σ := by
    apply List.ext_getElem?
    intro j
    by_cases hj : i = j
    · subst hj
      rw [List.getElem?_set_self (List.getElem?_eq_some_iff.mp h).1, h]
    · rw [List.getElem?_set_ne hj]
  have := s.set q i
  rw [e] at this
  exact this
theorem PSs.or2 {X : Cx} {ss : List Stmt} {t t' : TS} (h : PSs X ss t) (h' : PSs X ss t') : PSs X ss (fun D σ H => t D σ H ∨ t' D σ H) := ⟨fun pins s σ H D I w => w.elim (h.run pins s σ H D I) (h'.run pins s σ H D I)⟩
theorem dss_frz {X : Cx} {W : WX} {sts : List Stmt} {g : Stm} (i : Nat) (h : DSs X W sts g) : DSs X W sts (sFrz i g) := PSs.imp (PSs.or2 h (pss_frzS h)) fun D σ H ⟨F, A, P, ρ, S, rp, s, q⟩ => by
  unfold sFrz at q
  split at q
  · rename_i n e
    obtain ⟨v, hv, dv⟩ := s.2 i _ e
    split at q
    · rename_i xs e2
      obtain ⟨a, vs, rfl, h1, h2, h3, h4⟩ := ref_lst rp dv e2
      obtain ⟨x, r2⟩ := rp.frzSo h1 h2 h3
      exact .inl ⟨_, A, P, _, _, r2, slots_same (s.mono x) hv (.list upd_same (h4.mono x)), Res.ext x q⟩
    · rename_i xs e2
      obtain ⟨a, vs, rfl, h1, h2, h3, h4⟩ := ref_dict rp dv e2
      refine .inr ⟨a, _, h3, trivial, fun od => ?_⟩
      obtain ⟨x, r2⟩ := rp.frzSoL (od := od) h1 h2 h3
      exact ⟨_, A, P, _, _, r2, slots_same (s.mono x) hv (.dict upd_same (h4.mono x)), Res.ext x q⟩
    · exact q.elim
  · exact q.elim

/-! ### methods of built-in types -/
def tyD (T : String) (S : Store) (x : D) : Bool := match x with
  | .str _ => T == "str"
  | .dict _ => false
  | x => (T == "list" && (itemsR S x).isSome) || (T == "dict" && (itemsK S x).isSome)
theorem tyD_at {K mg F A P S H T} (r : Rep K mg F A S P H) {x : V} {d : D} (h : Dat K mg F A x d) (e : tyD T S d = true) : tyV K T x H := by
  cases h with
  | str =>
    have z : T = "str" := by simpa [tyD] using e
    exact z
  | rd h1 h2 =>
    simp [tyD, itemsR, itemsL, itemsK] at e
    exact .inl ⟨e, _, sql_mono r.le h1⟩
  | list h1 h2 =>
    simp [tyD, itemsR, itemsL, itemsK] at e
    exact .inl ⟨e, _, SqL.of (r.le _ _ h1)⟩
  | @ref a n h1 =>
    simp only [tyD, Bool.or_eq_true, Bool.and_eq_true, beq_iff_eq, Option.isSome_iff_exists] at e
    rcases e with ⟨e1, xs, e2⟩ | ⟨e1, xs, e2⟩
    · obtain ⟨b, vs, eb, h2, _⟩ := itemsR_at r (.ref h1) e2
      cases eb
      exact .inl ⟨e1, vs, h2⟩
    · obtain ⟨vs, h2, _⟩ := itemsK_atR r h1 e2
      exact .inr (.inr (.inl ⟨e1, .inl ⟨vs, h2⟩⟩))
  | _ => simp [tyD, itemsR, itemsL, itemsK] at e
abbrev GM := D → List D → Store → Option (D × Store)
def MtE (K : PySem.W.Frag) (mg : Str → Option Value) (r : V → List V → Hp → VK → Prop) (g : GM) : Prop :=
  ∀ F A P S H x xs dx ds d S' Q, Rep K mg F A S P H → Dat K mg F A x dx → Dats K mg F A xs ds → g dx ds S = some (d, S') → okE K mg F A P Q d S' → r x xs H Q
def eMt (T : String) (g : GM) (f : Ev D) (a : Ev (List D)) : Ev D := fun ρ S => (f ρ S).bind fun x S => if tyD T S x = true then (a ρ S).bind fun ys S => match g x ys S with
  | some (d, S) => .ok d S
  | none => .stuck
  else .stuck
section
variable {X : Cx} {W : WX} {o e : Expr} {es : List Expr} {name : Str} {T id : String} {r : V → List V → Hp → VK → Prop} {g : GM} {f : Ev D} {a : Ev (List D)} {apos cpos : Pos}
theorem mt_ent (he : MtE X.K X.mg r g) : ∀ σ H Q, tD X.K X.mg W (eMt T g f a) σ H Q → tBM X.K T r (tD X.K X.mg W f) (tDA X.K X.mg W a) σ H Q := fun σ H Q ⟨F, A, P, ρ, S, rp, s, q⟩ => by
  refine tD.seq rp s q fun d S1 v H1 F1 A1 x1 r1 s1 d1 h1 => ?_
  split at h1
  · rename_i ht
    refine ⟨tyD_at r1 d1 ht, ?_⟩
    have h1 := post_okE x1 h1
    refine tDA.seq r1 s1 h1 fun ds S2 vs H2 F2 A2 x2 r2 s2 d2 h2 => ?_
    split at h2
    · rename_i z S3 e
      exact he _ _ _ _ _ _ _ _ _ _ _ _ r2 (d1.mono x2) d2 e (okE.ext x2 h2)
    · exact h2.elim
  · exact h1.elim
theorem mt_ent0 (he : MtE X.K X.mg r g) : ∀ σ H Q, tD X.K X.mg W (eMt T g f aNil) σ H Q → tBM0 X.K T r (tD X.K X.mg W f) σ H Q := fun σ H Q ⟨F, A, P, ρ, S, rp, s, q⟩ => by
  refine tD.seq rp s q fun d S1 v H1 F1 A1 x1 r1 s1 d1 h1 => ?_
  split at h1
  · rename_i ht
    refine ⟨tyD_at r1 d1 ht, ?_⟩
    have h1 : (match g d [] S1 with | some (d, S) => Out.ok d S | none => .stuck : Out D).post (okE X.K X.mg F A P Q) _ := h1
    split at h1
    · rename_i z S3 e
      exact he _ _ _ _ _ _ _ _ _ _ _ _ r1 d1 .nil e (okE.ext x1 h1)
    · exact h1.elim
  · exact h1.elim
theorem de_mt (pa : PlainAttrs T) (slot : Slot T name id) (hty : typeOf (.builtin id) = pure (.type "method_descriptor")) (hm : MtR X id r) (hg : MtE X.K X.mg r g) (ho : DE X W o f) (ha : DA X W (e :: es) a)
    (hbase : attributeBase o name X.env (eval o X.env) = eval o X.env := by rfl)
    (hfew : ((backTo cpos (starEach (e :: es) X.env)).all (fun x => !x.1) && (backToKw cpos (keywordEach [] X.env)).all (fun x => x.1.isSome) && decide ((e :: es).length + ([] : List Keyword).length + (if ([] : List Keyword).isEmpty then 0 else 1) < 30)) = true := by rfl)
    (hline : (apos.endLine == cpos.line) = true := by rfl) (hs : starEach (e :: es) X.env = (false, eval e X.env) :: starEach es X.env := by rfl) (hplain : (backTo cpos (starEach es X.env)).any (·.1) = false := by rfl) :
    DE X W (.Call (.Attribute o name apos) (e :: es) [] cpos) (eMt T g f a) := PE.imp (pe_bm pa slot hty hm ho ha hbase hfew hline hs hplain) (mt_ent hg)
end
/-! ### .. one by one -/
def gAppend : GM := fun x ys S => match x, ys with
  | .ref n, [y] => match S[n]? with
    | some (.lst xs) => if xs.length < 16777216 then some (.non, S.set n (.lst (xs ++ [y]))) else none
    | _ => none
  | _, _ => none
theorem append_ent {K mg} : MtE K mg rAppend gAppend := by
  intro F A P S H x xs dx ds d S' Q rp hx hxs e k
  unfold gAppend at e
  split at e
  · rename_i n y
    split at e
    · rename_i ys e1
      split at e
      · rename_i hl
        cases e
        obtain ⟨a, vs, rfl, h1, h2, h3, h4⟩ := ref_lst rp hx e1
        cases hxs with
        | cons h5 h6 =>
          cases h6
          refine ⟨a, vs, _, rfl, rfl, h3, by rw [h4.length]; exact len_lt hl, okE.now k (rp.put h1 h2 ⟨a, _, h1, h2, upd_same, h4.append (.cons h5 .nil)⟩) .non⟩
      · cases e
    · cases e
  · cases e
def strsOf : List D → Option (List Str)
  | [] => some []
  | .str x :: r => (strsOf r).map (x :: ·)
  | _ => none
theorem strsOf_at {K mg F A} : ∀ {ds : List D} {vs : List V} {ys : List Str}, Dats K mg F A vs ds → strsOf ds = some ys → vs = ys.map V.str
  | _, _, _, .nil, e => by simp [strsOf] at e; subst e; rfl
  | _, _, _, .cons h r, e => by
    cases h <;> simp [strsOf] at e
    obtain ⟨zs, e1, rfl⟩ := e
    rw [strsOf_at r e1]; rfl
def gJoin : GM := fun x ys S => match x, ys with
  | .str a, [y] => match itemsS S y with
    | some zs => match strsOf zs with
      | some ws => if (ws.map (·.length)).sum + ws.length * a.length ≤ 16777216 then some (.str (Txt.join a ws), S) else none
      | none => none
    | none => none
  | _, _ => none
def rJoin (K : PySem.W.Frag) : V → List V → Hp → VK → Prop := fun x xs H Q => ∃ a p, ∃ ys : List Str, x = .str a ∧ xs = [.ref p] ∧ (SqL K H p (ys.map V.str) ∨ SqT K H p (ys.map V.str)) ∧ (ys.map (·.length)).sum + ys.length * a.length ≤ 16777216 ∧ Q (.str (Txt.join a ys)) H
theorem join_ent {K mg} : MtE K mg (rJoin K) gJoin := by
  intro F A P S H x xs dx ds d S' Q rp hx hxs e k
  unfold gJoin at e
  split at e
  · split at e
    · rename_i zs e1
      split at e
      · rename_i ws e2
        split at e
        · rename_i hl
          cases e; cases hx
          cases hxs with
          | cons h5 h6 =>
            cases h6
            obtain ⟨a, vs, rfl, h1, h2⟩ := itemsS_at rp h5 e1
            have := strsOf_at h2 e2
            subst this
            exact ⟨_, a, ws, rfl, rfl, h1, hl, okE.now k rp .str⟩
        · cases e
      · cases e
    · cases e
  · cases e

/-! ### xs[i] = v, d[k] = v -/
def putD (kvs : List (Key × D)) (k : Key) (v : D) : List (Key × D) :=
  if kvs.any (fun kv => decide (kv.1 = k)) then kvs.map (fun kv => if kv.1 = k then (kv.1, v) else kv) else kvs ++ [(k, v)]
def setIx (o i v : D) (S : Store) : Option Store := match o with
  | .ref n => match S[n]? with
    | some (.lst xs) => match i with
      | .int k => match ixN xs.length k with
        | some j => some (S.set n (.lst (xs.set j v)))
        | none => none
      | _ => none
    | some (.dict kvs) => match keyOf i with
      | some k => if kvs.length < 16777216 then some (S.set n (.dict (putD kvs k v))) else none
      | none => none
    | _ => none
  | _ => none
def sSetIx (fv fo fi : Ev D) : Stm := fun ρ S => (fv ρ S).res ρ fun v S => (fo ρ S).res ρ fun o S => (fi ρ S).res ρ fun i S => match setIx o i v S with
  | some S => .nx ρ S
  | none => .stuck
theorem DatsK.any {K mg F A} : ∀ {vs : List (Key × V)} {ds : List (Key × D)} (k : Key), DatsK K mg F A vs ds → vs.any (fun kv => decide (kv.1 = k)) = ds.any (fun kv => decide (kv.1 = k))
  | _, _, _, .nil => rfl
  | _, _, k, .cons _ r => by rw [List.any_cons, List.any_cons, DatsK.any k r]
theorem DatsK.append {K mg F A} : ∀ {vs ds ws es}, DatsK K mg F A vs ds → DatsK K mg F A ws es → DatsK K mg F A (vs ++ ws) (ds ++ es)
  | _, _, _, _, .nil, s => s
  | _, _, _, _, .cons h r, s => .cons h (DatsK.append r s)
theorem DatsK.put {K mg F A} {vs : List (Key × V)} {ds : List (Key × D)} {k : Key} {v : V} {d : D} (h : DatsK K mg F A vs ds) (q : Dat K mg F A v d) : DatsK K mg F A (putK vs k v) (putD ds k d) := by
  unfold putK putD
  rw [h.any k]
  split
  · have key : ∀ {vs : List (Key × V)} {ds : List (Key × D)}, DatsK K mg F A vs ds → DatsK K mg F A (vs.map (fun kv => if kv.1 = k then (kv.1, v) else kv)) (ds.map (fun kv => if kv.1 = k then (kv.1, d) else kv)) := by
      intro vs ds h
      induction vs generalizing ds with
      | nil => cases h; exact .nil
      | cons p vs ih =>
        cases h with
        | cons h1 h2 =>
          rw [List.map_cons, List.map_cons]
          dsimp only
          split
          · exact .cons q (ih h2)
          · exact .cons h1 (ih h2)
    exact key h
  · exact h.append (.cons q .nil)
end DL
namespace DL
open PySem PySem.Spec PyProof.Rows L2
variable {gf gj : Bool}

theorem PS.or {X : Cx} {st : Stmt} {t t' : TS} (h : PS X st t) (h' : PS X st t') : PS X st (fun D σ H => t D σ H ∨ t' D σ H) := ⟨fun pins s σ H D I w => w.elim (h.run pins s σ H D I) (h'.run pins s σ H D I)⟩
/-- behind an expression whose outcome is known -/
theorem tD.out {K mg W} {σ : L2.St} {H : Hp} {f : Ev D} {F A P ρ S d S1} {R : V → Hp → Prop} (r : Rep K mg F A S P H) (s : Slots K mg F A σ ρ) (e : f ρ S = .ok d S1)
    (k : ∀ v H' F' A', Ext F A F' A' → Rep K mg F' A' S1 P H' → Slots K mg F' A' σ ρ → Dat K mg F' A' v d → R v H') : tD K mg W f σ H R :=
  ⟨F, A, P, ρ, S, r, s, by rw [e]; exact fun v H' F' A' x r' dv => k v H' F' A' x r' (s.mono x) dv⟩
section
variable {X : Cx} {W : WX} {k : Nat} {o i value : Expr} {fv fo fi : Ev D} {pos pos' : Pos}
theorem setIx_ent : ∀ D σ H, tDS X.K X.mg W (sSetIx fv fo fi) D σ H → tAsg (tD X.K X.mg W fv) (L2.gSub (tD X.K X.mg W fo) (tD X.K X.mg W fi) rSetL) D σ H ∨ sDPut (tD X.K X.mg W fo) (tD X.K X.mg W fi) (tD X.K X.mg W fv) D σ H :=
  fun D σ H ⟨F, A, P, ρ, S, rp, s, q⟩ => by
    unfold sSetIx at q
    cases e1 : fv ρ S with
    | stuck => rw [e1] at q; exact q.elim
    | exc C fs S1 => rw [e1] at q; exact .inl ⟨F, A, P, ρ, S, rp, s, by rw [e1]; exact fun c d H' F' A' x r m z => q c d σ H' F' A' x r (s.mono x) m z⟩
    | ok v S1 =>
      rw [e1] at q
      have q : ((fo ρ S1).res ρ fun o S => (fi ρ S).res ρ fun i S => match setIx o i v S with | some S => .nx ρ S | none => .stuck).post X.K X.mg F A P W D := q
      cases e2 : fo ρ S1 with
      | stuck => rw [e2] at q; exact q.elim
      | exc C fs S2 =>
        rw [e2] at q
        refine .inl (tD.out rp s e1 fun vv H1 F1 A1 x1 r1 s1 d1 => ?_)
        exact ⟨F1, A1, P, ρ, S1, r1, s1, by rw [e2]; exact fun c d H' F' A' x r m z => q c d σ H' F' A' (x1.trans x) r (s1.mono x) m z⟩
      | ok oo S2 =>
        rw [e2] at q
        have q : ((fi ρ S2).res ρ fun i S => match setIx oo i v S with | some S => .nx ρ S | none => .stuck).post X.K X.mg F A P W D := q
        cases e3 : fi ρ S2 with
        | stuck => rw [e3] at q; exact q.elim
        | exc C fs S3 =>
          rw [e3] at q
          refine .inl (tD.out rp s e1 fun vv H1 F1 A1 x1 r1 s1 d1 => tD.out r1 s1 e2 fun v2 H2 F2 A2 x2 r2 s2 d2 => ?_)
          exact ⟨F2, A2, P, ρ, S2, r2, s2, by rw [e3]; exact fun c d H' F' A' x r m z => q c d σ H' F' A' ((x1.trans x2).trans x) r (s2.mono x) m z⟩
        | ok ii S3 =>
          rw [e3] at q
          have q : ((match setIx oo ii v S3 with | some S => Res.nx ρ S | none => .stuck) : Res).post X.K X.mg F A P W D := q
          unfold setIx at q
          cases oo with
          | ref n =>
            cases e4 : S3[n]? with
            | none => simp only [e4] at q; exact q.elim
            | some so =>
              cases so with
              | lst xs =>
                simp only [e4] at q
                cases ii with
                | int j =>
                  simp only at q
                  cases e5 : ixN xs.length j with
                  | none => simp only [e5] at q; exact q.elim
                  | some m =>
                    simp only [e5] at q
                    refine .inl (tD.out rp s e1 fun vv H1 F1 A1 x1 r1 s1 d1 => tD.out r1 s1 e2 fun v2 H2 F2 A2 x2 r2 s2 d2 => tD.out r2 s2 e3 fun v3 H3 F3 A3 x3 r3 s3 d3 => ?_)
                    cases d3
                    obtain ⟨a, vs, rfl, h1, h2, h3, h4⟩ := ref_lst r3 (d2.mono x3) e4
                    refine ⟨a, vs, j, m, rfl, rfl, h3, by rw [h4.length]; exact e5, ?_⟩
                    exact q _ _ _ _ ((x1.trans x2).trans x3) (r3.put h1 h2 ⟨a, _, h1, h2, upd_same, Dats.set (d1.mono (x2.trans x3)) m h4⟩) s3
                | _ => exact q.elim
              | dict kvs =>
                simp only [e4] at q
                cases e5 : keyOf ii with
                | none => simp only [e5] at q; exact q.elim
                | some key =>
                  simp only [e5] at q
                  split at q
                  · rename_i S5 e6
                    split at e6
                    · rename_i hl
                      cases e6
                      refine .inr (tD.out rp s e1 fun vv H1 F1 A1 x1 r1 s1 d1 => tD.out r1 s1 e2 fun v2 H2 F2 A2 x2 r2 s2 d2 => tD.out r2 s2 e3 fun v3 H3 F3 A3 x3 r3 s3 d3 => ?_)
                      obtain ⟨a, vs, rfl, h1, h2, h3, h4⟩ := ref_dict r3 (d2.mono x3) e4
                      have ek := keyOf_at d3 e5
                      subst ek
                      refine ⟨a, _, rfl, DPut.k h3 (by rw [h4.length]; exact len_lt hl), ?_⟩
                      exact q _ _ _ _ ((x1.trans x2).trans x3) (r3.put h1 h2 ⟨a, _, h1, h2, upd_same, h4.put (d1.mono (x2.trans x3))⟩) s3
                    · cases e6
                  · exact q.elim
              | _ => simp only [e4] at q; exact q.elim
          | _ => exact q.elim
theorem ds_setIx (B : Bod gf X W k) (hv : DE X W value fv) (ho : DE X W o fo) (hi : DE X W i fi) (hpg : ∀ {to ti : TE}, PE X o to → PE X i ti → PG X (.Subscript o i pos') (L2.gSub to ti rSetL)) (hs : swapsWithSole [.Subscript o i pos'] value pos.line X.env = pure false := by rfl) (hw : swappedStores [.Subscript o i pos'] value X.env = pure none := by rfl)
    (h1 : (assignEach [.Subscript o i pos'] X.env).map (·.2) = [assign (.Subscript o i pos') X.env] := by rfl) (hs2 : swapsWith value (some (.Subscript o i pos')) pos.line X.env = pure false := by rfl) : DS X W (.Assign [.Subscript o i pos'] value pos) (sSetIx fv fo fi) :=
  PS.imp (PS.or (ps_asg hv (hpg ho hi) hs hw h1) (ps_dput (by have := B.hu; omega) ho hi hv hs2)) setIx_ent
end

/-! ### all, any, sum, int, bool, abs -/
def blsOf : List D → Option (List Bool)
  | [] => some []
  | .bl x :: r => (blsOf r).map (x :: ·)
  | _ => none
def intsOf : List D → Option (List Int)
  | [] => some []
  | .int x :: r => (intsOf r).map (x :: ·)
  | _ => none
section
variable {K : PySem.W.Frag} {mg : Str → Option Value} {F : Hp} {A : List Addr}
theorem blsOf_at : ∀ {ds : List D} {vs : List V} {ys : List Bool}, Dats K mg F A vs ds → blsOf ds = some ys → vs = ys.map V.bl
  | _, _, _, .nil, e => by simp [blsOf] at e; subst e; rfl
  | _, _, _, .cons h r, e => by
    cases h <;> simp [blsOf] at e
    obtain ⟨zs, e1, rfl⟩ := e
    rw [blsOf_at r e1]; rfl
theorem intsOf_at : ∀ {ds : List D} {vs : List V} {ys : List Int}, Dats K mg F A vs ds → intsOf ds = some ys → vs = ys.map V.int
  | _, _, _, .nil, e => by simp [intsOf] at e; subst e; rfl
  | _, _, _, .cons h r, e => by
    cases h <;> simp [intsOf] at e
    obtain ⟨zs, e1, rfl⟩ := e
    rw [intsOf_at r e1]; rfl
end
def gAll : List D → Store → Option D := fun xs S => match xs with
  | [x] => match itemsR S x with
    | some ys => (blsOf ys).map fun bs => .bl (bs.all id)
    | none => none
  | _ => none
def gAny : List D → Store → Option D := fun xs S => match xs with
  | [x] => match itemsR S x with
    | some ys => (blsOf ys).map fun bs => .bl (bs.any id)
    | none => none
  | _ => none
theorem allG_ent {K mg} : CallE K mg (rAll K) gAll := by
  intro F A P S H xs dx d Q rp hx e k
  unfold gAll at e
  split at e
  · cases hx with
    | cons h1 h2 =>
      cases h2
      split at e
      · rename_i ys e1
        rw [Option.map_eq_some_iff] at e
        obtain ⟨bs, e, rfl⟩ := e
        obtain ⟨a, vs, rfl, h3, h4⟩ := itemsR_at rp h1 e1
        have := blsOf_at h4 e
        subst this
        exact ⟨a, bs, rfl, h3, okE.now k rp .bl⟩
      · cases e
  · cases e
theorem anyG_ent {K mg} : CallE K mg (rAny K) gAny := by
  intro F A P S H xs dx d Q rp hx e k
  unfold gAny at e
  split at e
  · cases hx with
    | cons h1 h2 =>
      cases h2
      split at e
      · rename_i ys e1
        rw [Option.map_eq_some_iff] at e
        obtain ⟨bs, e, rfl⟩ := e
        obtain ⟨a, vs, rfl, h3, h4⟩ := itemsR_at rp h1 e1
        have := blsOf_at h4 e
        subst this
        exact ⟨a, bs, rfl, h3, okE.now k rp .bl⟩
      · cases e
  · cases e
def gInt : List D → Store → Option D := fun xs _ => match xs with
  | [.int i] => some (.int i)
  | [.bl b] => some (.int (if b then 1 else 0))
  | _ => none
def gBool : List D → Store → Option D := fun xs _ => match xs with
  | [.int i] => some (.bl (i != 0))
  | [.bl b] => some (.bl b)
  | _ => none
def gAbs : List D → Store → Option D := fun xs _ => match xs with
  | [.int i] => some (.int (if i < 0 then -i else i))
  | _ => none
theorem intG_ent {K mg} : CallE K mg (fun xs H Q => (∃ i, xs = [.int i] ∧ Q (.int i) H) ∨ ∃ k, xs = [.bl k] ∧ Q (.int (if k then 1 else 0)) H) gInt := by
  intro F A P S H xs dx d Q rp hx e k
  unfold gInt at e
  split at e
  · cases e
    cases hx with
    | cons h1 h2 => cases h2; cases h1; exact .inl ⟨_, rfl, okE.now k rp .int⟩
  · cases e
    cases hx with
    | cons h1 h2 => cases h2; cases h1; exact .inr ⟨_, rfl, okE.now k rp .int⟩
  · cases e
theorem boolG_ent {K mg} : CallE K mg (fun xs H Q => (∃ i, xs = [.int i] ∧ Q (.bl (i != 0)) H) ∨ ∃ k, xs = [.bl k] ∧ Q (.bl k) H) gBool := by
  intro F A P S H xs dx d Q rp hx e k
  unfold gBool at e
  split at e
  · cases e
    cases hx with
    | cons h1 h2 => cases h2; cases h1; exact .inl ⟨_, rfl, okE.now k rp .bl⟩
  · cases e
    cases hx with
    | cons h1 h2 => cases h2; cases h1; exact .inr ⟨_, rfl, okE.now k rp .bl⟩
  · cases e
theorem absG_ent {K mg} : CallE K mg (fun xs H Q => ∃ i, xs = [.int i] ∧ Q (.int (if i < 0 then -i else i)) H) gAbs := by
  intro F A P S H xs dx d Q rp hx e k
  unfold gAbs at e
  split at e
  · cases e
    cases hx with
    | cons h1 h2 => cases h2; cases h1; exact ⟨_, rfl, okE.now k rp .int⟩
  · cases e
theorem subG_ent {K mg} : OpE K mg (rI0 fun i j => .int (i - j)) gSub := gI0_ent fun _ _ _ _ => .int
theorem modG_ent {K mg} : OpE K mg (rI (fun _ j => 0 < j) fun i j => .int (i % j)) gMod := gI_ent (fun _ _ h => of_decide_eq_true h) fun _ _ _ _ => .int
theorem divG_ent {K mg} : OpE K mg (rI CDiv fun i j => .int (i / j)) gDiv := gI_ent (fun _ _ h => by
  rw [Bool.and_eq_true, decide_eq_true_eq, decide_eq_true_eq] at h
  exact h) fun _ _ _ _ => .int
theorem powG_ent {K mg} : OpE K mg (rI CPow fun i j => .int (i ^ j.toNat)) gPow := gI_ent (fun _ _ h => by
  rw [Bool.and_eq_true, Bool.and_eq_true, decide_eq_true_eq, decide_eq_true_eq, decide_eq_true_eq] at h
  exact ⟨h.1.1, h.1.2, h.2⟩) fun _ _ _ _ => .int
def gNeg : D → Store → Option D := fun x _ => match x with
  | .int i => some (.int (-i))
  | _ => none
theorem negG_ent {K mg} : UnE K mg (rU fun i => .int (-i)) gNeg := by
  intro F A P S H x dx d Q rp hx e k
  unfold gNeg at e
  split at e
  · cases e; cases hx
    exact ⟨_, rfl, okE.now k rp .int⟩
  · cases e

/-! ### isinstance, built-in types -/
def tyName (S : Store) : D → Option String
  | .non => some "NoneType"
  | .bl _ => some "bool"
  | .int _ => some "int"
  | .str _ => some "str"
  | .tup _ => some "tuple"
  | d => if (itemsR S d).isSome then some "list" else if (itemsK S d).isSome then some "dict" else none
theorem tyX_at {K mg F A P S H} (r : Rep K mg F A S P H) {x : V} {d : D} {t : String} (h : Dat K mg F A x d) (e : tyName S d = some t) : TyX K H x (.type t) := by
  have lst : ∀ {a vs}, SqL K H a vs → TyX K H (.ref a) (.type "list") := fun z => by
    rcases z with (z | ⟨o, z⟩) | ⟨o, its, n, h1, h2, _⟩
    · exact .base (.lst z)
    · exact .base (.frz z)
    · exact .kList h1 h2
  cases h with
  | non => cases e; exact .base .non
  | bl => cases e; exact .base (.bl _)
  | int => cases e; exact .base (.int _)
  | str => cases e; exact .base (.str _)
  | tup h1 h2 =>
    cases e
    rcases sqt_mono r.le h1 with (z | ⟨o, z⟩) | ⟨o, its, n, h3, h4, _⟩
    · exact .base (.tup z)
    · exact .fTuple z
    · exact .kTuple h3 h4
  | rd h1 h2 => simp [tyName, itemsR] at e; subst e; exact lst (sql_mono r.le h1)
  | list h1 h2 => simp [tyName, itemsR, itemsL] at e; subst e; exact lst (SqL.of (r.le _ _ h1))
  | dict h1 h2 => simp [tyName, itemsR, itemsL, itemsK] at e; subst e; exact .fDict (r.le _ _ h1)
  | @ref a n h1 =>
    simp only [tyName] at e
    split at e
    · rename_i z
      cases e
      obtain ⟨xs, e2⟩ := Option.isSome_iff_exists.mp z
      obtain ⟨b, vs, eb, h2, _⟩ := itemsR_at r (.ref h1) e2
      cases eb
      exact lst h2
    · split at e
      · rename_i z
        cases e
        obtain ⟨xs, e2⟩ := Option.isSome_iff_exists.mp z
        obtain ⟨vs, h2, _⟩ := itemsK_atR r h1 e2
        exact .base (.dK h2)
      · cases e
  | _ => simp [tyName, itemsR, itemsL, itemsK] at e
def tyNames : List String := ["NoneType", "bool", "int", "str", "tuple", "list", "dict"]
def isiT (a b : String) : Option Bool := if tyNames.contains a && tyNames.contains b then some (a == b || (a == "bool" && b == "int")) else none
theorem isiT_ok : ∀ a ∈ tyNames, ∀ b ∈ tyNames, kitB a b = isiT a b := by decide +kernel
theorem isiT_kit {a b : String} {r : Bool} (h : isiT a b = some r) : kitB a b = some r := by
  have h' := h
  unfold isiT at h'
  split at h'
  · rename_i z
    rw [Bool.and_eq_true] at z
    rw [isiT_ok a (by simpa using z.1) b (by simpa using z.2)]
    exact h
  · cases h'
def gIsi : List D → Store → Option D := fun xs S => match xs with
  | [x, .ty n] => match tyName S x with
    | some t => (isiT t n).map .bl
    | none => none
  | _ => none
theorem isiG_ent {K mg} : CallE K mg (rIsi K) gIsi := by
  intro F A P S H xs dx d Q rp hx e k
  unfold gIsi at e
  split at e
  · split at e
    · rename_i t e1
      rw [Option.map_eq_some_iff] at e
      obtain ⟨b, e, rfl⟩ := e
      cases hx with
      | cons h1 h2 =>
        cases h2 with
        | cons h3 h4 =>
          cases h4; cases h3
          exact ⟨_, _, _, _, b, rfl, .ty _, tyX_at rp h1 e1, kit_ty (isiT_kit e), okE.now k rp .bl⟩
    · cases e
  · cases e
end DL
namespace DL
open PySem PySem.Spec PyProof.Rows L2
variable {gf gj : Bool}

/-- a law answers True at every script of at most n ints -/
def Good (n : Nat) (m : Fn) : Prop := ∀ ns : List Int, ns.length ≤ n → ∃ S', m [.rd (ns.map .int)] [] = .ok (.bl true) S'
section
variable {P : Program} {w : World} {K : PySem.W.Frag} {mg mb : Str → Option Value} {k : Nat} {fa a : Addr} {fd : FuncData} {x : Str} {m : Fn} {s1 : Shared} {vs : List Value} {ns : List Int}
theorem sp_law {H : Hp} {S' : Store} (hS : SqL K H a (ns.map V.int)) (hm : m [.rd (ns.map .int)] [] = .ok (.bl true) S') : spD K mg 1 m [.ref a] H (fun v _ => v = .bl true) fun _ _ _ => False := by
  have rep : Rep K mg H [] [] (fun _ => none) H := by
    refine ⟨Same.refl H, ?_, ?_, ?_, rfl, List.nodup_nil, ?_, ?_⟩
    · intro b o z; cases z
    · intro b o z; cases z
    · intro b z; simp at z
    · intro b z; simp at z
    · intro i so z; simp at z
  refine ⟨H, [], (fun _ => none), [.rd (ns.map .int)], [], rep, .cons (.rd hS (Dats.ints ns)) .nil, rfl, ?_⟩
  rw [hm]
  intro v H' F' A' _ _ dv
  cases dv
  rfl
theorem law_run (KX : K.In s1.heap) (hns : s1.heap.Ns mainGlobals mg) (hb : s1.heap.Ns builtinsNs mb) (hbb : ∀ y : Str, y ≠ "__name__" → mb y = bootBuiltins y) (hlim : s1.heap.NoLimit) (sy : ∃ mm, s1.heap.Ns sysModules mm) (hg : s1.gens = #[])
    (ha : s1.heap.get? a = some { cls := .type "list", data := .seq vs.toArray }) (hi : IntsAre vs ns) (hl : ns.length ≤ sizeLine) (hr : Room k callerA)
    (F : ∀ base : Heap, K.In base → base.Ns mainGlobals mg → (∃ mm, base.Ns sysModules mm) → FnG gf P w K mg base k fa fd [x] (spD K mg 1 m)) (hbind : ∀ (s : Shared) (u : Value), BindsTo s fd ⟨[u], []⟩ [(x, u)])
    (hm : ∃ S', m [.rd (ns.map .int)] [] = .ok (.bl true) S') :
    codeAny (model P w) callerA (.call (.ref fa) ⟨[.ref a], []⟩) (fun r s' => r = .ok (.ret (.bool true)) ∧ OldK s1.heap s'.heap ∧ s'.os = s1.os ∧ AllBare s'.gens) s1 := by
  obtain ⟨S', hm⟩ := hm
  have main : ∀ H : Hp, (∀ b u, H b = some u → b = a ∧ K.lookup a = none ∧ ∃ o xs, u = .frz o (.lst xs)) → SqL K H a (ns.map V.int) → HOk P w H s1.heap →
      codeAny (model P w) callerA (.call (.ref fa) ⟨[.ref a], []⟩) (fun r s' => r = .ok (.ret (.bool true)) ∧ OldK s1.heap s'.heap ∧ s'.os = s1.os ∧ AllBare s'.gens) s1 := by
    intro H only hS hok
    have none_of : ∀ {b : Addr}, (∀ u, H b ≠ some u) → H b = none := fun {b} z => by
      cases q : H b with
      | none => rfl
      | some u => exact absurd q (z u)
    have nsB : ∀ {b : Addr} {f : Str → Option Value}, s1.heap.Ns b f → (hidT s1.heap H).Ns b f := by
      rintro b f ⟨o, es, ep, e, d, r⟩
      refine ⟨o, es, ep, hidT_get e (none_of fun u q => ?_), d, r⟩
      obtain ⟨rfl, _⟩ := only b u q
      rw [ha] at e
      cases e
      cases d
    have inB : K.In (hidT s1.heap H) := fun b o e => hidT_get (KX b o e) (none_of fun u q => by
      obtain ⟨rfl, z, _⟩ := only b u q
      rw [z] at e
      cases e)
    have M : Mod K mg (hidT s1.heap H) := ⟨inB, nsB hns, ⟨mb, nsB hb, hbb⟩, by obtain ⟨mc, h1, h2⟩ := hlim; exact ⟨mc, nsB h1, h2⟩⟩
    have syB : ∃ mm, (hidT s1.heap H).Ns sysModules mm := by obtain ⟨mm, h⟩ := sy; exact ⟨mm, nsB h⟩
    have e0 : Env0 P w K mg (hidT s1.heap H) callerA [] s1 H := { frames := rfl, mod := M, bs := fun b o e => of_hidT e, bsz := Nat.le_of_eq (hidT_size _ _), funs := trivial, frf := fun b z => by simp [frs] at z, hok := hok, bare := .of_eq hg }
    refine codeAny_mono ((F _ inB (nsB hns) syB).run callerA [] s1 H ⟨[.ref a], []⟩ [.ref a] [.ref a] _ _ hr (fun _ => rfl) e0 (hbind s1 (.ref a)) (.cons rfl .nil) (sp_law hS hm)) fun r s' h => ?_
    cases r with
    | error e =>
      obtain ⟨_, _, _, _, _, _, _, _, _, _, _, _, z⟩ := h
      exact z.elim
    | ok fl =>
      cases fl with
      | ret u =>
        obtain ⟨v, H', os, bare, un, hok', r', q⟩ := h
        have q : v = .bl true := q
        subst q
        cases (show u = Value.bool true from r')
        refine ⟨rfl, OldK.of_keep fun b o e => ?_, os, bare⟩
        cases q : H b with
        | none => exact un.keep b o e q (by simp [frs]) (by simp)
        | some u =>
          obtain ⟨_, _, ob, xs, rfl⟩ := only b u q
          have z1 := (hok b _ q).1
          have z2 := (hok' b _ (un.frzs b ob _ q)).1
          rw [e] at z1
          rw [z2, ← z1]
      | next => exact h.elim
      | brk => exact h.elim
      | cont => exact h.elim
  cases hk : K.lookup a with
  | some o =>
    have e := KX a o hk
    rw [ha] at e
    cases e
    exact main (fun _ => none) (fun b u z => by cases z) (.inr ⟨_, vs.toArray, _, hk, rfl, rfl, rfl, by rw [List.size_toArray, hi.length]; exact hl, by simpa using vals_ints hi⟩) fun b u z => by cases z
  | none =>
    have at_a : ∀ {b : Addr} {u : HO}, (if b = a then some (HO.frz { cls := .type "list", data := .seq vs.toArray } (.lst (ns.map V.int))) else none) = some u → b = a ∧ u = .frz { cls := .type "list", data := .seq vs.toArray } (.lst (ns.map V.int)) := fun {b u} z => by
      split at z
      · rename_i e; cases z; exact ⟨e, rfl⟩
      · cases z
    refine main (fun b => if b = a then some (.frz { cls := .type "list", data := .seq vs.toArray } (.lst (ns.map V.int))) else none) (fun b u z => ?_) (.inl (.inr ⟨_, if_pos rfl⟩)) fun b u z => ?_
    · obtain ⟨e1, e2⟩ := at_a z
      exact ⟨e1, hk, _, _, e2⟩
    · obtain ⟨rfl, rfl⟩ := at_a z
      exact ⟨ha, by rw [List.length_map]; exact hl, vs, _, vals_ints hi, ha⟩
end
/-- the goal that the head leaves, from the law's mirror -/
theorem law_end {l : PySem.W.OpenLaw} {n k : Nat} {q : Program} {loose : List Str} {XP : (Str → Option Value) → Heap → Prop} {YP : World → Heap → Prop} {d : DefRec} {K : Params → PySem.W.Frag} {x : Str} {m : Fn}
    (hn : l.most = some n) (hn2 : n ≤ sizeLine) (hdf : d.params.defaults = []) (hr : Room k callerA) (himp : importsNone q = true) (hY : ∀ (w : World) (h : Heap), YP w h → (K w.params).In h)
    (F : ∀ (w : World) (mg : Str → Option Value) (fa : Addr) (h : Heap), (K w.params).In h → h.Ns mainGlobals mg → mg d.name = some (.ref fa) →
      ∃ fd : FuncData, (∀ (s : Shared) (u : Value), BindsTo s fd ⟨[u], []⟩ [(x, u)]) ∧
        ∀ base : Heap, (K w.params).In base → base.Ns mainGlobals mg → (∃ mm, base.Ns sysModules mm) → FnG gf l.prog w (K w.params) mg base k fa fd [x] (spD (K w.params) mg 1 m))
    (hm : Good n m) : PySem.W.WalkO q loose XP YP l.row.toRowW d [] (fun f vs => PySem.call f vs) := by
  refine Att.attach_call hn hdf fun w s0 s1 mg mb fa o pm cd doc a vs ns G Y ho hd hcd hmg hobj hints hlen hg => ?_
  have KX := hY w _ Y
  obtain ⟨fd, hb, hF⟩ := F w mg fa _ KX G.T.g hmg
  obtain ⟨mm, h1, _⟩ := (G.T.seer himp).mods
  exact law_run KX G.T.g G.T.b G.T.builtins G.T.nolimit ⟨mm, h1⟩ hg hobj hints (Nat.le_trans hlen hn2) hr hF hb (hm ns hlen)
end DL
namespace DL
open PySem PySem.Spec PyProof.Rows L2
variable {gf gj : Bool}

/-! ### calls by keywords alone -/
/-- all parameters given by name, in the order of the def -/
def KwB (fd : FuncData) (ps : List Str) : Prop := ∀ (s : Shared) (us : List Value), us.length = ps.length → BindsTo s fd ⟨[], ps.zip us⟩ (ps.zip us)
theorem kwb_of {K : PySem.W.Frag} {x qual : Str} {st : Stmt} {f : Addr} {fd : FuncData} {ps : List Str} (F : Fun K x qual st f fd)
    (h : ∀ (kV doc pm : Value) (an : Option Addr) (cdv ct : Value) (us : List Value), us.length = ps.length → bindArgs (PySem.W.fnOf x qual (defArgs st) (defBody st) (defScope st) .none kV doc pm an cdv ct) ⟨[], ps.zip us⟩ = pure (ps.zip us)) : KwB fd ps := by
  obtain ⟨oc, od, kV, doc, pm, an, cdv, ct, osl, rfl, _, _⟩ := F.ex
  exact fun s us hl => .of_eq (h kV doc pm an cdv ct us hl)
abbrev DK (X : Cx) (W : WX) (kws : List Keyword) (f : Ev (List D)) : Prop := PK X kws (tDA X.K X.mg W f)
section
variable {X : Cx} {W : WX} {k j : Nat} {e : Expr} {kws : List Keyword} {x : Str} {ps : List Str} {f : Addr} {fd : FuncData} {m : Fn} {fe : Ev D} {a : Ev (List D)} {p pos kpos : Pos} {nm : Option Str}
theorem PK.imp {t t' : TA} (h : PK X kws t) (i : ∀ σ H Q, t' σ H Q → t σ H Q) : PK X kws t' := ⟨fun pos pins s σ H Q I w => h.run pos pins s σ H Q I (i σ H Q w)⟩
theorem dk_nil : DK X W [] aNil := PK.imp pk_nil fun σ H Q ⟨F, A, P, ρ, S, r, s, h⟩ => okA.now h r .nil
theorem dk_cons (he : DE X W e fe) (hr : DK X W kws a) : DK X W (⟨nm, e, kpos⟩ :: kws) (aCons fe a) :=
  PK.imp (pk_cons he hr) fun σ H Q ⟨F, A, P, ρ, S, r, s, h⟩ => by
    refine tD.seq r s h fun d S1 v H1 F1 A1 x1 r1 s1 d1 h1 => ?_
    have h1 := post_okA x1 h1
    refine tDA.seq r1 s1 h1 fun ds S2 vs H2 F2 A2 x2 r2 s2 d2 h2 => ?_
    exact h2 _ _ _ _ x2 r2 (.cons (d1.mono x2) d2)
theorem de_callKw (B : Bod gf X W k) (c : FnD gj X.prog X.w X.K X.mg X.base x ps j f fd m) (kb : KwB fd ps) (hj : j ≤ k) (hg : Gl X x) (ha : DK X W kws a) {n : Nat} [q : Ar a n] (hn : n = ps.length := by rfl) (hks : (backToKw pos (keywordEach kws X.env)).filterMap (·.1) = ps := by rfl)
    (hall : (backToKw pos (keywordEach kws X.env)).all (·.1.isSome) = true := by rfl) (hdb : (x == ("__debug__" : Str)) = false := by decide)
    (hpl : ((backTo pos (starEach [] X.env)).any (·.1) || (backToKw pos (keywordEach kws X.env)).any (·.1.isNone)) = false := by rfl) (hgf : gj = true → gf = true := by decide) : DE X W (.Call (.Name x p) [] kws pos) (eFn m a) := by
  have main : PE X (.Call (.Name x p) [] kws pos) (tCallS (spD X.K X.mg ps.length m) (WE W) (tDA X.K X.mg W a)) := by
    refine ⟨fun pins s σ H Q I h => wpAny_Call_Name_kw (ld_glob I hg c.mg ?_ hdb)⟩
    refine PySem.W.callWith_KW0 (h₀ := X.base) I.ok.mod.kin c.kp hall (thn (ha.run pos pins s σ H _ I h) ?_) hpl
    rintro us s1 ⟨vs, H1, I1, r, z⟩
    rw [hks]
    have hl : us.length = ps.length := by rw [← r.length]; exact c.fn.len _ _ _ _ z
    exact ⟨I1.kIn, wpAny_call (run_g B c.fn hgf hj (kb s1 us hl) I1 r z)⟩
  exact PE.imp main (fn_ent (hn ▸ q.len))
end

/-! ### a dict written with its keys -/
abbrev Ps := List (Ev D × Ev D)
def evPs : Ps → Ev (List (D × D))
  | [] => fun _ S => .ok [] S
  | (f, g) :: r => fun ρ S => (f ρ S).bind fun k S => (g ρ S).bind fun v S => (evPs r ρ S).bind fun ps S => .ok ((k, v) :: ps) S
def keysOf : List (D × D) → Option (List (Key × D))
  | [] => some []
  | (k, v) :: r => match keyOf k, keysOf r with
    | some a, some b => some ((a, v) :: b)
    | _, _ => none
def mergeD (kvs more : List (Key × D)) : List (Key × D) := more.foldl (fun acc kv => putD acc kv.1 kv.2) kvs
def eDisp (ps : Ps) : Ev D := fun ρ S => (evPs ps ρ S).bind fun ps S => match keysOf ps with
  | some kvs => if kvs.length ≤ 15 then .ok (.dict (mergeD [] kvs)) S else .stuck
  | none => .stuck
inductive PairsD (K : PySem.W.Frag) (mg : Str → Option Value) (F : Hp) (A : List Addr) : List (V × V) → List (D × D) → Prop
  | nil : PairsD K mg F A [] []
  | cons {k v dk dv vs ds} : Dat K mg F A k dk → Dat K mg F A v dv → PairsD K mg F A vs ds → PairsD K mg F A ((k, v) :: vs) ((dk, dv) :: ds)
theorem PairsD.keys {K mg F A} : ∀ {vs : List (V × V)} {ds : List (D × D)} {kvs : List (Key × D)}, PairsD K mg F A vs ds → keysOf ds = some kvs → ∃ ks : List (Key × V), vs = ks.map (fun kv => (kV kv.1, kv.2)) ∧ DatsK K mg F A ks kvs
  | _, _, _, .nil, e => by simp [keysOf] at e; subst e; exact ⟨[], rfl, .nil⟩
  | _, _, _, .cons hk hv r, e => by
    simp only [keysOf] at e
    split at e
    · rename_i a b e1 e2
      simp only [Option.some.injEq] at e
      subst e
      obtain ⟨ks, rfl, h⟩ := PairsD.keys r e2
      exact ⟨(a, _) :: ks, by rw [List.map_cons, keyOf_at hk e1], .cons hv h⟩
    · cases e
theorem merge_dats {K mg F A} : ∀ {ks : List (Key × V)} {kvs : List (Key × D)} {xs : List (Key × V)} {ys : List (Key × D)}, DatsK K mg F A ks kvs → DatsK K mg F A xs ys → DatsK K mg F A (mergeK xs ks) (mergeD ys kvs)
  | _, _, _, _, .nil, h => h
  | _, _, _, _, .cons q r, h => by
    unfold mergeK mergeD
    rw [List.foldl_cons, List.foldl_cons]
    exact merge_dats r (h.put q)
inductive DPs (X : Cx) (W : WX) (pos : Pos) : List (Option Expr) → List Expr → Ps → List (TE × TE) → Prop
  | nil : DPs X W pos [] [] [] []
  | cons {k v ks vs f g r tr} : DE X W k f → DE X W v g → DPs X W pos ks vs r tr → DPs X W pos (some k :: ks) (v :: vs) ((f, g) :: r) ((tD X.K X.mg W f, tD X.K X.mg W g) :: tr)
theorem DPs.pps {X W pos} : ∀ {ks : List (Option Expr)} {vs : List Expr} {ps : Ps} {tr : List (TE × TE)}, DPs X W pos ks vs ps tr → PPs X pos ks vs tr
  | _, _, _, _, .nil => pps_nil
  | _, _, _, _, .cons h1 h2 r => pps_cons h1 h2 r.pps
theorem PairsD.mono {K mg F A F' A'} (x : Ext F A F' A') : ∀ {vs : List (V × V)} {ds : List (D × D)}, PairsD K mg F A vs ds → PairsD K mg F' A' vs ds
  | _, _, .nil => .nil
  | _, _, .cons a b r => .cons (a.mono x) (b.mono x) (PairsD.mono x r)
theorem ps_run {X : Cx} {W : WX} {pos : Pos} {σ : L2.St} {P : Hp} : ∀ {ks : List (Option Expr)} {vs : List Expr} {ps : Ps} {tr : List (TE × TE)}, DPs X W pos ks vs ps tr → ∀ {F A ρ S H} {ok : List (D × D) → Store → Prop} {R : List (V × V) → Hp → Prop}, Rep X.K X.mg F A S P H → Slots X.K X.mg F A σ ρ →
    (evPs ps ρ S).post ok (exE X.K X.mg F A P fun c d H' => W c d σ H') →
    (∀ ds S' vs H' F' A', Ext F A F' A' → Rep X.K X.mg F' A' S' P H' → PairsD X.K X.mg F' A' vs ds → ok ds S' → R vs H') → tPairs tr σ H R := by
  intro ks vs ps tr h
  induction h with
  | nil => intro F A ρ S H ok R r s q k; exact k _ _ _ _ _ _ (Ext.refl _ _) r .nil q
  | cons h1 h2 r ih =>
    intro F A ρ S H ok R rp s q k
    refine tD.seq (k := fun d S => ((_ : Out D)).bind fun v S => (evPs _ ρ S).bind fun ps S => .ok ((d, v) :: ps) S) rp s q fun d S1 v H1 F1 A1 x1 r1 s1 d1 h3 => ?_
    have h3 := Out.post_mono h3 (fun _ _ z => z) fun _ _ _ z => exE.ext x1 z
    refine tD.seq r1 s1 h3 fun d2 S2 v2 H2 F2 A2 x2 r2 s2 d2' h4 => ?_
    have h4 := Out.post_mono (Out.post_bind h4) (fun _ _ z => z) fun _ _ _ z => exE.ext x2 z
    refine ih r2 s2 h4 fun ds S' vs H' F' A' x r' pd z => ?_
    exact k _ _ _ _ _ _ ((x1.trans x2).trans x) r' (.cons (d1.mono (x2.trans x)) (d2'.mono x) pd) z
theorem de_disp {X : Cx} {W : WX} {pos : Pos} {keys : List (Option Expr)} {values : List Expr} {ps : Ps} {tr : List (TE × TE)} (h : DPs X W pos keys values ps tr) (hall : keys.all (·.isSome) = true := by rfl) (hl : keys.length = values.length := by rfl) (h0 : keys ≠ [] := by intro z; cases z)
    (hlen : keys.length ≤ 15 := by decide) : DE X W (.Dict keys values pos) (eDisp ps) := PE.imp (pe_frzE (pe_disp h.pps hall hl h0 hlen)) fun σ H Q ⟨F, A, P, ρ, S, rp, s, q⟩ p hp => by
  have hP : P p = none := rp.pr.free hp
  have q := Out.post_bind q
  have q2 : (evPs ps ρ S).post (fun a S' => ((match keysOf a with | some kvs => if kvs.length ≤ 15 then .ok (.dict (mergeD [] kvs)) S' else .stuck | none => .stuck : Out D)).post (okE X.K X.mg F A P Q) noEx ∧ True) (exE X.K X.mg F A (upd P p (.dK [])) fun c d H' => W c d σ H') := by
    refine Out.post_mono q (fun a S' z => ⟨?_, trivial⟩) fun C fs S' z c d H' F' A' x r m e => ?_
    · split at z
      · split at z
        · rename_i hl3
          rw [if_pos hl3]
          exact z
        · exact z.elim
      · exact z.elim
    · obtain ⟨x3, r3⟩ := r.privFrz hP
      exact z c d H' _ A' (x.trans x3) r3 m (by
        rcases e with ⟨a, vs, e1, e2, e3⟩ | e
        · exact .inl ⟨a, vs, e1, x3.f _ _ e2, e3.mono x3⟩
        · exact .inr e)
  refine ps_run h (rp.priv hp) s q2 fun ds S' vs H' F' A' x r' pd ⟨z, _⟩ => ?_
  split at z
  · rename_i kvs e
    split at z
    · rename_i hl2
      obtain ⟨ks, rfl, h3⟩ := pd.keys e
      refine ⟨r'.pr p _ upd_same, ks, rfl, by rw [h3.length]; exact hl2, ?_⟩
      refine ⟨p, _, rfl, upd_same, trivial, fun od => ?_⟩
      rw [upd_upd]
      obtain ⟨x3, r3⟩ := (r'.privUpd (o' := .frz od (.dK (mergeK [] ks)))).privFrz hP
      exact z _ _ _ _ (x.trans x3) r3 (.dict upd_same ((merge_dats h3 .nil).mono x3))
    · exact z.elim
  · exact z.elim
end DL
namespace DL
open PySem PySem.Spec PyProof.Rows L2
def eDict0 : Ev D := fun _ S => .ok (.dict []) S
theorem de_dict0 {X : Cx} {W : WX} {pos : Pos} : DE X W (.Dict [] [] pos) eDict0 :=
  PE.imp (pe_frzE pe_dnewK) fun σ H Q ⟨F, A, P, ρ, S, r1, s, h⟩ p hp => by
    refine ⟨p, _, rfl, upd_same, trivial, fun od => ?_⟩
    rw [upd_upd]
    obtain ⟨x2, r2⟩ := r1.frz (o := .frz od (.dK [])) hp
    exact h _ _ _ _ x2 r2 (.dict upd_same .nil)
def gRev : D → Store → Option D := fun x S => (itemsR S x).map fun xs => .list xs.reverse
/-! ### what the built-in names stand for -/
theorem boot_len : bootBuiltins "len" = some (.builtin "len") := by decide +kernel
theorem boot_repr : bootBuiltins "repr" = some (.builtin "repr") := by decide +kernel
theorem boot_all : bootBuiltins "all" = some (.builtin "all") := by decide +kernel
theorem boot_any : bootBuiltins "any" = some (.builtin "any") := by decide +kernel
theorem boot_abs : bootBuiltins "abs" = some (.builtin "abs") := by decide +kernel
theorem boot_isinstance : bootBuiltins "isinstance" = some (.builtin "isinstance") := by decide +kernel
theorem boot_list : bootBuiltins "list" = some (.type "list") := by decide +kernel
theorem boot_tuple : bootBuiltins "tuple" = some (.type "tuple") := by decide +kernel
theorem boot_int : bootBuiltins "int" = some (.type "int") := by decide +kernel
theorem boot_bool : bootBuiltins "bool" = some (.type "bool") := by decide +kernel
theorem boot_str : bootBuiltins "str" = some (.type "str") := by decide +kernel
theorem boot_dict : bootBuiltins "dict" = some (.type "dict") := by decide +kernel
end DL
/-! comprehensions whose list goes into the store -/
namespace DL
open PySem PySem.Spec PyProof.Rows L2
variable {gf gj : Bool}
def eLcR (it : Ev (List D)) (g : Tg) (tt : Ev Bool) (te : Ev D) (vs : List Nat) : Ev D := fun ρ S => (it ρ S).bind fun ds S => if ds.length ≤ 16777216 then (lcD g tt te (wipeD ρ vs) ds S).bind fun ys S => .ok (.ref S.length) (S ++ [.lst ys]) else .stuck
section
variable {K : PySem.W.Frag} {mg : Str → Option Value} {F : Hp} {A : List Addr} {P H : Hp} {S : Store} {p : Addr} {o : HO} {so : SO}
theorem Rep.privAlloc (r : Rep K mg F A S (upd P p o) H) (hP : P p = none) (new : SoOk K mg F (A ++ [p]) H A.length so) : Ext F A F (A ++ [p]) ∧ Rep K mg F (A ++ [p]) (S ++ [so]) P H := by
  have nA : ∀ b ∈ A, b ≠ p := fun b hb e => by
    have := r.ap b hb
    rw [e, upd_same] at this; cases this
  have x : Ext F A F (A ++ [p]) := ⟨Same.refl F, [p], rfl⟩
  have ne : ∀ b u, P b = some u → b ≠ p := fun b u h e => by rw [e, hP] at h; cases h
  refine ⟨x, ⟨r.le, fun b u h => r.pr b u (by rw [upd_ne (ne b u h)]; exact h), fun b u h => r.fp b u (by rw [upd_ne (ne b u h)]; exact h), fun b hb => ?_, by rw [List.length_append, List.length_append, r.len]; rfl, ?_, fun b hb => ?_, fun m s h => ?_⟩⟩
  · rcases List.mem_append.mp hb with hb | hb
    · have := r.ap b hb
      rw [upd_ne (nA b hb)] at this
      exact this
    · rw [List.mem_singleton.mp hb]; exact hP
  · refine List.nodup_append.mpr ⟨r.nd, by simp, fun b hb c hc => ?_⟩
    rw [List.mem_singleton.mp hc]
    exact nA b hb
  · rcases List.mem_append.mp hb with hb | hb
    · exact r.th b hb
    · rw [List.mem_singleton.mp hb]; exact ⟨o, r.pr p _ upd_same⟩
  · by_cases hm : m < S.length
    · rw [List.getElem?_append_left hm] at h
      exact soOk_ext x (r.so m s h) fun _ _ z => z
    · rw [List.getElem?_append_right (by omega)] at h
      have e : m = S.length := by
        by_cases e : m = S.length
        · exact e
        · rw [List.getElem?_eq_none (by simp; omega)] at h; cases h
      subst e
      simp at h
      subst h
      rw [← r.len]
      exact new
end
section
variable {X : Cx} {W : WX}
theorem lc_entR {it : Ev (List D)} {ts : Ts} {tt : Ev Bool} {te : Ev D} {vs : List Nat} (hv : ∀ i ∈ ts.slots, i ∈ vs) : ∀ σ H Q, tD X.K X.mg W (eLcR it ts.g tt te vs) σ H Q → tLc (tDI X.K X.mg W it) (ts.tg X.K) (tDT X.K X.mg W0 tt) (tD X.K X.mg W0 te) vs σ H Q :=
  fun σ H Q ⟨F, A, P, ρ, S, rp, s, q⟩ => by
    refine ⟨F, A, P, ρ, S, rp, s, Out.post_mono (Out.post_bind q) (fun ds S1 h1 J H1 F1 A1 x1 r1 io p hp => ?_) fun _ _ _ z => z⟩
    split at h1
    · rename_i hl
      have hP : P p = none := r1.pr.free hp
      have h1 := lcD_noexc (ex' := noEx) (Out.post_bind h1)
      refine ⟨fun i m H => m = ds.length - i ∧ i ≤ ds.length ∧ ∃ F2 A2 S2 av ad, Ext F1 A1 F2 A2 ∧ Rep X.K X.mg F2 A2 S2 (upd P p (.lst av)) H ∧ Dats X.K X.mg F2 A2 av ad ∧ av.length ≤ i ∧ (lcD ts.g tt te (wipeD ρ vs) (ds.drop i) S2).post (fun ys S' => okE X.K X.mg F2 A2 P Q (.ref S'.length) (S' ++ [.lst (ad ++ ys)])) noEx,
        ⟨ds.length, by simp, Nat.zero_le _, F1, A1, S1, [], [], Ext.refl _ _, r1.priv hp, .nil, Nat.le_refl _, by simpa using Out.post_mono h1 (fun ys S' z => okE.ext x1 z) fun _ _ _ z => z⟩, ?_⟩
      rintro i m H2 ⟨rfl, hi, F2, A2, S2, av, ad, x2, r2, da, hal, h2⟩
      by_cases hlt : i < ds.length
      · rw [List.drop_eq_getElem_cons hlt] at h2
        have hd : ds[i]? = some ds[i] := by simp [hlt]
        refine .inr ⟨io.go _ _ _ _ _ i x2 r2 hlt, fun H => i + 1 ≤ ds.length ∧ ∃ F2 A2 S2 av ad, Ext F1 A1 F2 A2 ∧ Rep X.K X.mg F2 A2 S2 (upd P p (.lst av)) H ∧ Dats X.K X.mg F2 A2 av ad ∧ av.length ≤ i + 1 ∧ (lcD ts.g tt te (wipeD ρ vs) (ds.drop (i + 1)) S2).post (fun ys S' => okE X.K X.mg F2 A2 P Q (.ref S'.length) (S' ++ [.lst (ad ++ ys)])) noEx,
          fun H' n => ⟨ds.length - (i + 1), by omega, rfl, n⟩, fun y H3 hy => ?_⟩
        obtain ⟨F3, x3, r3, dv⟩ := io.yld _ _ _ _ _ i y H3 _ x2 r2 hy hd
        have h2 := Out.post_mono h2 (fun ys S' z => okE.ext x3 z) fun _ _ _ z => z
        unfold lcD at h2
        cases e : ts.g ds[i] (wipeD ρ vs) with
        | none => rw [e] at h2; exact h2.elim
        | some ρ3 =>
          rw [e] at h2
          dsimp only at h2
          refine ts_run r3 hv dv (((s.mono x1).mono x2).mono x3 |>.wipe vs) e fun σ4 s4 ag => ⟨?_, ?_⟩
          · have z := ag.wipe.symm
            have zz : L2.wipe (L2.wipe σ vs) vs = L2.wipe σ vs := by
              refine (Agree.wipe ⟨wipe_length _ _, fun i hi => wipe_get hi⟩)
            rw [z, zz]
          · refine ⟨F3, A2, _, ρ3, S2, r3, s4, Out.post_mono (noExc_post (ex' := exE X.K X.mg F3 A2 (upd P p (.lst av)) fun c d H' => W0 c d σ4 H') (Out.post_bind h2)) (fun b S5 h5 H5 F5 A5 x5 r5 => ?_) fun _ _ _ z => z⟩
            cases b with
            | false =>
              rw [if_neg (by decide)] at h5
              refine iteF ?_
              exact ⟨hlt, F5, A5, S5, av, ad, ((x2.trans x3).trans x5), r5, (da.mono x3).mono x5, Nat.le_succ_of_le hal, Out.post_mono h5 (fun ys S' z => okE.ext x5 z) fun _ _ _ z => z⟩
            | true =>
              rw [if_pos rfl] at h5
              refine iteT ?_
              refine ⟨F5, A5, _, ρ3, S5, r5, s4.mono x5, Out.post_mono (noExc_post (ex' := exE X.K X.mg F5 A5 (upd P p (.lst av)) fun c d H' => W0 c d σ4 H') (Out.post_bind h5)) (fun y6 S6 h6 v6 H6 F6 A6 x6 r6 d6 => ?_) fun _ _ _ z => z⟩
              refine ⟨av, r6.pr p _ upd_same, Nat.lt_of_le_of_lt hal (Nat.lt_of_lt_of_le hlt (len_le hl)), hlt, F6, A6, S6, av ++ [v6], ad ++ [y6], (((x2.trans x3).trans x5).trans x6), r6.privUpd, (((da.mono x3).mono x5).mono x6).append (.cons d6 .nil), by simp; omega, ?_⟩
              refine Out.post_mono (Out.post_bind h6) (fun ys S' z => ?_) fun _ _ _ z => z
              have z' : okE X.K X.mg F3 A2 P Q (.ref S'.length) (S' ++ [.lst (ad ++ (y6 :: ys))]) := z
              rw [List.append_assoc]
              exact okE.ext (x5.trans x6) z'
      · have e : i = ds.length := by omega
        subst e
        rw [List.drop_length] at h2
        refine .inl ⟨io.stop _ _ _ _ _ _ x2 r2 (Nat.le_refl _), ?_⟩
        have hF : F2 p = none := r2.fp p _ upd_same
        have e : (A2 ++ [p])[A2.length]? = some p := by simp
        obtain ⟨x3, r3⟩ := r2.privAlloc (so := .lst ad) hP ⟨p, av, e, hF, r2.pr p _ upd_same, da.mono ⟨Same.refl _, [p], rfl⟩⟩
        have h2 : okE X.K X.mg F2 A2 P Q (.ref S2.length) (S2 ++ [.lst (ad ++ [])]) := h2
        rw [List.append_nil] at h2
        exact h2 _ _ _ _ x3 r3 (.ref (by rw [← r2.len]; exact e))
    · exact h1.elim
end
section
variable {X : Cx} {W : WX} {k : Nat} {elt tg iter : Expr} {ifs : List Expr} {scope : Scope} {own : List (Str × Nat)} {pos : Pos} {it : Ev (List D)} {ts : Ts} {tt : Ev Bool} {te : Ev D}
theorem de_lcR (B : Bod gf X W k) (ts : Ts) (own : List (Str × Nat)) (hi : DI X W tg iter it) (ok : blkC X.N X.env.scope scope own = true)
    (hg : ∀ (s : Shared) (H : Hp) (C : Addr) (cl : List (Str × Addr)) (fp : List Addr), Bod gf (X.blk s H scope (compEnvC scope cl C X.env) fp) W0 k → PG (X.blk s H scope (compEnvC scope cl C X.env) fp) tg (ts.tg X.K))
    (ht : ∀ (s : Shared) (H : Hp) (C : Addr) (cl : List (Str × Addr)) (fp : List Addr), Bod gf (X.blk s H scope (compEnvC scope cl C X.env) fp) W0 k → PTs (X.blk s H scope (compEnvC scope cl C X.env) fp) ifs (tDT X.K X.mg W0 tt))
    (he : ∀ (s : Shared) (H : Hp) (C : Addr) (cl : List (Str × Addr)) (fp : List Addr), Bod gf (X.blk s H scope (compEnvC scope cl C X.env) fp) W0 k → DE (X.blk s H scope (compEnvC scope cl C X.env) fp) W0 elt te)
    (hv : ∀ i ∈ ts.slots, i ∈ own.map (·.2) := by decide) (hs : ∀ x, foldedSetIterable iter X.env x = pure x := by intro _; rfl) : DE X W (.ListComp elt [⟨tg, iter, ifs, 0⟩] scope pos) (eLcR it ts.g tt te (own.map (·.2))) :=
  PE.imp (pe_lc B.calm B.nd hi (blkOk_by ok) (fun s H C cl fp => hg s H C cl fp (B.blk ..)) (fun s H C cl fp => ht s H C cl fp (B.blk ..)) (fun s H C cl fp => he s H C cl fp (B.blk ..)) hs) (lc_entR hv)
theorem ds_setLcR {i : Nat} {y : Str} {py : Pos} {spos : Pos} (B : Bod gf X W k) (ts : Ts) (own : List (Str × Nat)) (hy : X.N[i]? = some y) (hyl : X.env.scope.names.lookup y = some .local)
    (hsw : swapsWith (.ListComp elt [⟨tg, iter, ifs, 0⟩] scope pos) (some (.Name y py)) spos.line X.env = pure true) (hi : DI X W tg iter it) (ok : blkC X.N X.env.scope scope own = true)
    (hg : ∀ (s : Shared) (H : Hp) (C : Addr) (cl : List (Str × Addr)) (fp : List Addr), Bod gf (X.blk s H scope (compEnvC scope cl C X.env) fp) W0 k → PG (X.blk s H scope (compEnvC scope cl C X.env) fp) tg (ts.tg X.K))
    (ht : ∀ (s : Shared) (H : Hp) (C : Addr) (cl : List (Str × Addr)) (fp : List Addr), Bod gf (X.blk s H scope (compEnvC scope cl C X.env) fp) W0 k → PTs (X.blk s H scope (compEnvC scope cl C X.env) fp) ifs (tDT X.K X.mg W0 tt))
    (he : ∀ (s : Shared) (H : Hp) (C : Addr) (cl : List (Str × Addr)) (fp : List Addr), Bod gf (X.blk s H scope (compEnvC scope cl C X.env) fp) W0 k → DE (X.blk s H scope (compEnvC scope cl C X.env) fp) W0 elt te)
    (hv : ∀ i ∈ ts.slots, i ∈ own.map (·.2) := by decide) (hs : ∀ x, foldedSetIterable iter X.env x = pure x := by intro _; rfl) : DS X W (.Assign [.Name y py] (.ListComp elt [⟨tg, iter, ifs, 0⟩] scope pos) spos) (sSet i (eLcR it ts.g tt te (own.map (·.2)))) :=
  PS.imp (ps_setLc B.calm B.nd hy hyl hsw hi (blkOk_by ok) (fun s H C cl fp => hg s H C cl fp (B.blk ..)) (fun s H C cl fp => ht s H C cl fp (B.blk ..)) (fun s H C cl fp => he s H C cl fp (B.blk ..)) hs)
    fun D σ H z => lc_entR hv σ H _ (set_ent D σ H z)
end
end DL
/-! == of lists of different lengths -/
namespace DL
open PySem PySem.Spec PyProof.Rows L2
def rEqLen (K : PySem.W.Frag) (b : Bool) : R2 := fun x y H Q => ∃ a c xs ys, x = .ref a ∧ y = .ref c ∧ SqL K H a xs ∧ SqL K H c ys ∧ xs.length ≠ ys.length ∧ Q (.bl b) H
section
variable {X : Cx}
theorem op_eqLen (hu : X.A.units + 64 < cLine) : OpR X (compareOp .Eq) (rEqLen X.K false) := by
  intro pins s σ H x y v u Q I rx ry h
  obtain ⟨a, c, xs, ys, rfl, rfl, ha, hb, hn, q⟩ := h
  cases (show v = Value.ref a from rx)
  cases (show u = Value.ref c from ry)
  obtain ⟨us, r1, p1, _⟩ := I.list ha
  obtain ⟨ws, r2, p2, _⟩ := I.list hb
  refine SeqAt.RcAt.lists_lengths p1.isList p2.isList ?_ (by omega) _ _ _ _ ⟨.bl false, H, I, rfl, q⟩
  rw [List.size_toArray, List.size_toArray, ← r1.length, ← r2.length]
  simpa using hn
theorem op_neLen (hu : X.A.units + 64 < cLine) : OpR X (compareOp .NotEq) (rEqLen X.K true) := by
  intro pins s σ H x y v u Q I rx ry h
  obtain ⟨a, c, xs, ys, rfl, rfl, ha, hb, hn, q⟩ := h
  cases (show v = Value.ref a from rx)
  cases (show u = Value.ref c from ry)
  obtain ⟨us, r1, p1, _⟩ := I.list ha
  obtain ⟨ws, r2, p2, _⟩ := I.list hb
  refine SeqAt.RcNeAt.lists_lengths p1.isList p2.isList ?_ (by omega) _ _ _ _ ⟨.bl true, H, I, rfl, q⟩
  rw [List.size_toArray, List.size_toArray, ← r1.length, ← r2.length]
  simpa using hn
theorem op_eqH (hu : X.A.units + 64 < cLine) : OpR X (compareOp .Eq) (fun x y H Q => rEqG X.K x y H Q ∨ rEqLen X.K false x y H Q) := OpR.or (op_eqG hu) (op_eqLen hu)
theorem op_neH (hu : X.A.units + 64 < cLine) : OpR X (compareOp .NotEq) (fun x y H Q => rNeG X.K x y H Q ∨ rEqLen X.K true x y H Q) := OpR.or (op_neG hu) (op_neLen hu)
end
def eqH (x y : D) (S : Store) : Option Bool := match itemsR S x, itemsR S y with
  | some xs, some ys => if xs.length = ys.length then eqB x y S else some false
  | _, _ => eqB x y S
def gEqH (x y : D) (S : Store) : Option D := (eqH x y S).map .bl
def gNeH (x y : D) (S : Store) : Option D := (eqH x y S).map fun b => .bl (!b)
theorem eqH_at {K mg F A P H S x y dx dy b} (rp : Rep K mg F A S P H) (hx : Dat K mg F A x dx) (hy : Dat K mg F A y dy) (e : eqH dx dy S = some b) :
    eqB dx dy S = some b ∨ (b = false ∧ ∃ a c xs ys, x = .ref a ∧ y = .ref c ∧ SqL K H a xs ∧ SqL K H c ys ∧ xs.length ≠ ys.length) := by
  unfold eqH at e
  split at e
  · rename_i xs ys e1 e2
    split at e
    · exact .inl e
    · rename_i hn
      cases e
      obtain ⟨a, vs, rfl, h1, h2⟩ := itemsR_at rp hx e1
      obtain ⟨c, ws, rfl, h3, h4⟩ := itemsR_at rp hy e2
      exact .inr ⟨rfl, a, c, vs, ws, rfl, rfl, h1, h3, by rw [h2.length, h4.length]; exact hn⟩
  · exact .inl e
theorem eqH_ent {K mg} : OpE K mg (fun x y H Q => rEqG K x y H Q ∨ rEqLen K false x y H Q) gEqH := by
  intro F A P S H x y dx dy d Q rp hx hy e k
  unfold gEqH at e
  rw [Option.map_eq_some_iff] at e
  obtain ⟨b, e, rfl⟩ := e
  rcases eqH_at rp hx hy e with e | ⟨rfl, a, c, xs, ys, h1, h2, h3, h4, h5⟩
  · exact .inl (eqG_ent _ _ _ _ _ _ _ _ _ _ _ rp hx hy (by unfold gEq; rw [e]; rfl) k)
  · exact .inr ⟨a, c, xs, ys, h1, h2, h3, h4, h5, okE.now k rp .bl⟩
theorem neH_ent {K mg} : OpE K mg (fun x y H Q => rNeG K x y H Q ∨ rEqLen K true x y H Q) gNeH := by
  intro F A P S H x y dx dy d Q rp hx hy e k
  unfold gNeH at e
  rw [Option.map_eq_some_iff] at e
  obtain ⟨b, e, rfl⟩ := e
  rcases eqH_at rp hx hy e with e | ⟨rfl, a, c, xs, ys, h1, h2, h3, h4, h5⟩
  · exact .inl (neG_ent _ _ _ _ _ _ _ _ _ _ _ rp hx hy (by unfold gNe; rw [e]; rfl) k)
  · exact .inr ⟨a, c, xs, ys, h1, h2, h3, h4, h5, okE.now k rp .bl⟩
end DL
/-! Own classes: fields, methods, making; defs called by positional values. -/
namespace DL
open PySem PySem.Spec PyProof.Rows L2
variable {gf gj : Bool}
/-! ### a def by positional values -/
def spV (K : PySem.W.Frag) (mg : Str → Option Value) (m : Fn) : Sp := fun vs H Q E => ∃ F A P ds S, Rep K mg F A S P H ∧ Dats K mg F A vs ds ∧ (m ds S).post (okE K mg F A P Q) (exE K mg F A P E)
abbrev FnM (P : Program) (w : World) (K : PySem.W.Frag) (mg : Str → Option Value) (base : Heap) (k : Nat) (f : Addr) (m : Fn) : Prop := FnR P w K mg base (L2.CX P w) k f (spV K mg m)
def mN (n : Nat) (m : Fn) : Fn := fun ds S => if ds.length = n then m ds S else .stuck
theorem fnm_of {P : Program} {w : World} {K : PySem.W.Frag} {mg : Str → Option Value} {base : Heap} {k : Nat} {f : Addr} {fd : FuncData} {ps : List Str} {m : Fn} (F : FnG false P w K mg base k f fd ps (spD K mg ps.length m)) (hb : Binds K fd ps []) : FnM P w K mg base k f (mN ps.length m) := by
  intro A outer s H us vs Q E hr e0 r hs
  obtain ⟨F', A', P', ds, S, rp, dv, q⟩ := hs
  unfold mN at q
  split at q
  · rename_i hl
    have hl2 : us.length = ps.length := by rw [← r.length, dv.length, hl]
    have b := hb s us (e0.mod.kin.keeps fun b o e => (e0.bs b o e).1) (by rw [List.append_nil]; exact hl2)
    rw [List.append_nil] at b
    exact F.run A outer s H ⟨us, []⟩ us vs Q E hr (fun z => nomatch z) e0 b r ⟨F', A', P', ds, S, rp, dv, hl, q⟩
  · exact q.elim
section
variable {X : Cx} {W : WX} {k j : Nat} {f : Addr} {sp : Sp}
theorem run_at' {A : Around} {pins : List (Addr × Obj)} {σ : L2.St} {H : Hp} {s : Shared} {Q : VK} {us : List Value} {vs : List V} (tk : Takes X W) (F : FnR X.prog X.w X.K X.mg X.base (L2.CX X.prog X.w) j f sp) (hr : Room j A) (e0 : Env0 X.prog X.w X.K X.mg X.base A X.stack s H)
    (I : Inv X pins σ H s) (r : Vals vs us) (h : sp vs H Q (WE W σ)) : codeAny (model X.prog X.w) A (.call (.ref f) ⟨us, []⟩) (fun r s' => match r with
      | .ok (.ret u) => EP X pins σ Q u s'
      | .ok _ => False
      | .error e => X.xe e s') s := by
  refine codeAny_mono (F A X.stack s H us vs Q (WE W σ) hr e0 r h) fun r s' hq => ?_
  cases r with
  | error e => exact passAt tk σ pins H s e s' I hq
  | ok fl =>
    cases fl with
    | ret u => exact I.after hq
    | next => exact hq
    | brk => exact hq
    | cont => exact hq
end

/-! ### instances -/
def insOf (S : Store) : D → Option (Str × List (Str × D))
  | .ins C fs => some (C, fs)
  | .ref n => match S[n]? with
    | some (.ins C fs) => some (C, fs)
    | _ => none
  | _ => none
section
variable {K : PySem.W.Frag} {mg : Str → Option Value} {F : Hp} {A : List Addr} {P H : Hp} {S : Store}
theorem ins_at (r : Rep K mg F A S P H) {v : V} {d : D} {C : Str} {fs : List (Str × D)} (h : Dat K mg F A v d) (e : insOf S d = some (C, fs)) : ∃ a c dx vs, v = .ref a ∧ mg C = some (.ref c) ∧ H a = some (.ins c dx vs) ∧ DatsF K mg F A vs fs := by
  cases h with
  | ins h1 h2 h3 => cases e; exact ⟨_, _, _, _, rfl, h1, r.le _ _ h2, h3⟩
  | @ref a n h1 =>
    simp only [insOf] at e
    split at e
    · rename_i C' fs' hs
      cases e
      obtain ⟨b, c, dx, vs, e1, e2, e3, e4, e5⟩ := r.so _ _ hs
      rw [h1] at e1; cases e1
      exact ⟨_, _, _, _, rfl, e3, e4, e5⟩
    · cases e
  | _ => simp [insOf] at e
theorem DatsF.lookup : ∀ {vs : List (Str × V)} {ds : List (Str × D)} (f : Str), DatsF K mg F A vs ds → (vs.lookup f = none ∧ ds.lookup f = none) ∨ ∃ v d, vs.lookup f = some v ∧ ds.lookup f = some d ∧ Dat K mg F A v d
  | _, _, _, .nil => .inl ⟨rfl, rfl⟩
  | _, _, f, .cons (k := g) h r => by
    by_cases e : f = g
    · subst e
      exact .inr ⟨_, _, by simp [List.lookup], by simp [List.lookup], h⟩
    · have e2 : (f == g) = false := by simpa using e
      simp only [List.lookup, e2]
      exact DatsF.lookup f r
theorem DatsF.length : ∀ {vs : List (Str × V)} {ds : List (Str × D)}, DatsF K mg F A vs ds → vs.length = ds.length
  | _, _, .nil => rfl
  | _, _, .cons _ r => by rw [List.length_cons, List.length_cons, DatsF.length r]
def putDF (f : Str) (v : D) : List (Str × D) → List (Str × D)
  | [] => [(f, v)]
  | (g, x) :: r => if g = f then (g, v) :: r else (g, x) :: putDF f v r
theorem DatsF.put {v : V} {d : D} (h : Dat K mg F A v d) (f : Str) : ∀ {vs : List (Str × V)} {ds : List (Str × D)}, DatsF K mg F A vs ds → DatsF K mg F A (putF f v vs) (putDF f d ds)
  | _, _, .nil => .cons h .nil
  | _, _, .cons (k := g) q r => by
    unfold putF putDF
    by_cases e : g = f
    · rw [if_pos e, if_pos e]; exact .cons h r
    · rw [if_neg e, if_neg e]; exact .cons q (DatsF.put h f r)
end
/-- C is an own class of the module -/
def ClsT (K : PySem.W.Frag) (mg : Str → Option Value) (C : Str) : Prop := ∀ c, mg C = some (.ref c) → Cls K c
def NoAt (K : PySem.W.Frag) (mg : Str → Option Value) (C f : Str) : Prop := ∀ c, mg C = some (.ref c) → NoAttr K c f
/-- classes whose objects' own fields of the name f are read and stored -/
def FldM (K : PySem.W.Frag) (mg : Str → Option Value) (f : Str) (cs : List Str) : Prop := ∀ C ∈ cs, ClsT K mg C ∧ NoAt K mg C f
/-- o.f -/
def eFld (cs : List Str) (f : Str) (g : Ev D) : Ev D := fun ρ S => (g ρ S).bind fun d S => match insOf S d with
  | some (C', fs) => if C' ∈ cs then ofO (fs.lookup f) S else .stuck
  | none => .stuck
/-- o.f = v -/
def fldSet (cs : List Str) (f : Str) (o v : D) (S : Store) : Option Store := match o with
  | .ref n => match S[n]? with
    | some (.ins C' fs) => if C' ∈ cs ∧ fs.length < 1000 then some (S.set n (.ins C' (putDF f v fs))) else none
    | _ => none
  | _ => none
def sFldD (cs : List Str) (f : Str) (fo fv : Ev D) : Stm := fun ρ S => (fv ρ S).res ρ fun v S => (fo ρ S).res ρ fun o S => match fldSet cs f o v S with
  | some S => .nx ρ S
  | none => .stuck
section
variable {X : Cx} {W : WX} {e o value : Expr} {g fo fv : Ev D} {cs : List Str} {f : Str} {pos pos' : Pos}
theorem de_fld (c : FldM X.K X.mg f cs) (h : DE X W e g) (hb : attributeBase e f X.env (eval e X.env) = eval e X.env := by rfl) : DE X W (.Attribute e f pos) (eFld cs f g) :=
  PE.imp (pe_fld h hb) fun σ H Q ⟨F, A, P, ρ, S, rp, s, q⟩ => by
    refine tD.seq rp s q fun d S1 v H1 F1 A1 x1 r1 s1 d1 h1 => ?_
    split at h1
    · rename_i C' fs e1
      split at h1
      · rename_i hC
        obtain ⟨a, c0, dx, vs, rfl, m1, h2, h3⟩ := ins_at r1 d1 e1
        obtain ⟨z, e2, h4⟩ := ofO_post h1
        rcases h3.lookup f with ⟨_, e3⟩ | ⟨u, d2, e3, e4, h5⟩
        · rw [e3] at e2; cases e2
        · rw [e4] at e2; cases e2
          exact ⟨a, c0, dx, vs, u, rfl, h2, (c _ hC).1 c0 m1, (c _ hC).2 c0 m1, e3, h4 _ _ _ _ x1 r1 h5⟩
      · exact h1.elim
    · exact h1.elim
theorem ds_fld (c : FldM X.K X.mg f cs) (ho : DE X W o fo) (hv : DE X W value fv) (hs : swapsWith value (some (.Attribute o f pos')) pos.line X.env = pure false := by rfl) : DS X W (.Assign [.Attribute o f pos'] value pos) (sFldD cs f fo fv) :=
  PS.imp (ps_fld ho hv hs) fun D σ H ⟨F, A, P, ρ, S, rp, s, q⟩ => by
    unfold sFldD at q
    cases e1 : fv ρ S with
    | stuck => rw [e1] at q; exact q.elim
    | exc C fs S1 => rw [e1] at q; exact ⟨F, A, P, ρ, S, rp, s, by rw [e1]; exact fun c d H' F' A' x r m z => q c d σ H' F' A' x r (s.mono x) m z⟩
    | ok v S1 =>
      rw [e1] at q
      refine tD.out rp s e1 fun vv H1 F1 A1 x1 r1 s1 d1 => ?_
      have q : ((fo ρ S1).res ρ fun o S => match fldSet cs f o v S with | some S => .nx ρ S | none => .stuck).post X.K X.mg F A P W D := q
      cases e2 : fo ρ S1 with
      | stuck => rw [e2] at q; exact q.elim
      | exc C fs S2 => rw [e2] at q; exact ⟨F1, A1, P, ρ, S1, r1, s1, by rw [e2]; exact fun c d H' F' A' x r m z => q c d σ H' F' A' (x1.trans x) r (s1.mono x) m z⟩
      | ok oo S2 =>
        rw [e2] at q
        refine tD.out r1 s1 e2 fun v2 H2 F2 A2 x2 r2 s2 d2 => ?_
        have q : ((match fldSet cs f oo v S2 with | some S => Res.nx ρ S | none => .stuck) : Res).post X.K X.mg F A P W D := q
        cases e3 : fldSet cs f oo v S2 with
        | none => rw [e3] at q; exact q.elim
        | some S3 =>
          rw [e3] at q
          unfold fldSet at e3
          split at e3
          · rename_i n1
            split at e3
            · rename_i C' fs e4
              split at e3
              · rename_i hC
                obtain ⟨hC, hl⟩ := hC
                cases e3
                cases d2 with
                | ref hA =>
                  obtain ⟨b, c0, dx, vs, e4', e5, m1, e6, e7⟩ := r2.so _ _ e4
                  rw [hA] at e4'; cases e4'
                  refine ⟨_, c0, dx, vs, rfl, e6, (c _ hC).1 c0 m1, (c _ hC).2 c0 m1, by rw [e7.length]; exact hl, ?_⟩
                  exact q _ _ _ _ (x1.trans x2) (r2.put hA e5 ⟨_, c0, dx, _, hA, e5, m1, upd_same, e7.put (d1.mono x2) f⟩) s2
              · cases e3
            · cases e3
          · cases e3
end

/-! ### methods: which def, the class tells -/
def MethT (K : PySem.W.Frag) (mg : Str → Option Value) (C m : Str) (f : Addr) : Prop := ∀ c, mg C = some (.ref c) → Meth K c m f
/-- the defs of the name m, class by class -/
def OwnM (P : Program) (w : World) (K : PySem.W.Frag) (mg : Str → Option Value) (base : Heap) (m : Str) (j : Nat) (own : Str → Option Fn) : Prop :=
  ∀ C mm, own C = some mm → ClsT K mg C ∧ ∃ f, MethT K mg C m f ∧ FnM P w K mg base j f mm
/-- the def for an object -/
def ownOf (own : Str → Option Fn) (m : Str) (S : Store) (o : D) : Option Fn := match insOf S o with
  | some (C, fs) => if fs.lookup m = none then own C else none
  | none => none
def eMeth (m : Str) (own : Str → Option Fn) (fo : Ev D) (fa : Ev (List D)) : Ev D := fun ρ S => (fo ρ S).bind fun o S => match ownOf own m S o with
  | some mm => (fa ρ S).bind fun ds S => mm (o :: ds) S
  | none => .stuck
/-- an object whose class has a def of the name -/
def IsOwn (mg : Str → Option Value) (own : Str → Option Fn) (m : Str) (H : Hp) (x : V) (mm : Fn) : Prop := ∃ a c dx fs C, x = .ref a ∧ mg C = some (.ref c) ∧ own C = some mm ∧ H a = some (.ins c dx fs) ∧ fs.lookup m = none
theorem own_at {K : PySem.W.Frag} {mg : Str → Option Value} {F : Hp} {A : List Addr} {P H : Hp} {S : Store} {own : Str → Option Fn} {m : Str} {v : V} {d : D} {mm : Fn} (r : Rep K mg F A S P H) (h : Dat K mg F A v d) (e : ownOf own m S d = some mm) : IsOwn mg own m H v mm := by
  unfold ownOf at e
  split at e
  · rename_i C fs e1
    split at e
    · rename_i hl
      obtain ⟨a, c0, dx, vs, rfl, m1, h2, h3⟩ := ins_at r h e1
      refine ⟨a, c0, dx, vs, C, rfl, m1, e, h2, ?_⟩
      rcases h3.lookup m with ⟨z, _⟩ | ⟨u, d2, _, z, _⟩
      · exact z
      · rw [hl] at z; cases z
    · cases e
  · cases e
def tMethW (K : PySem.W.Frag) (mg : Str → Option Value) (W : WX) (own : Str → Option Fn) (m : Str) (to : TE) (t : TA) : TE := fun σ H Q => to σ H fun x H1 => ∃ mm, IsOwn mg own m H1 x mm ∧ t σ H1 fun vs H2 => spV K mg mm (x :: vs) H2 Q (WE W σ)
section
variable {X : Cx} {W : WX} {k j : Nat} {e o : Expr} {es : List Expr} {C m : Str} {own : Str → Option Fn} {fo : Ev D} {fa : Ev (List D)} {pos apos p : Pos} {to : TE} {t : TA}
theorem pe_methW {pl : Sem Bool} (B : Bod gf X W k) (he : PE X o to) (hw : OwnM X.prog X.w X.K X.mg X.base m j own) (hj : j ≤ k) (ha : PA X (e :: es) t)
    (hst : starEach (e :: es) X.env = (false, eval e X.env) :: starEach es X.env) (hpl : (backTo pos (starEach es X.env)).any (·.1) = false)
    (ht : eval (.Call (.Attribute o m apos) (e :: es) [] pos) X.env = (do
      let ov ← eval o X.env
      standAt apos.atName
      let (f, first) ← holding [ov] (getMethod ov m pl)
      callWith pos f first (backTo pos (starEach (e :: es) X.env)) (backToKw pos (keywordEach [] X.env)))) : PE X (.Call (.Attribute o m apos) (e :: es) [] pos) (tMethW X.K X.mg W own m to t) := by
  refine ⟨fun pins s σ H Q I h => PySem.W.methodCall_KW (pl := pl) (thn (he.run pins s σ H _ I h) ?_) ht⟩
  rintro u s1 ⟨x, H1, I1, rx, mm, ⟨a, c0, dx, fs, C, rfl, hc, ho, ea, l⟩, q⟩
  cases rx
  obtain ⟨hcl, f, hM, F⟩ := hw C mm ho
  have hM := hM c0 hc
  refine getmeth_ok I1 ea (hcl c0 hc) hM l (PySem.W.callWith_K (first := [.ref a]) (h₀ := X.base) I.ok.mod.kin hM.kp (thn (ha.run pos pins s1 σ H1 _ I1 q) ?_) hst hpl)
  rintro us s2 ⟨vs, H2, I2, r, q2⟩
  exact ⟨I2.kIn, wpAny_call (run_at' (us := .ref a :: us) (vs := .ref a :: vs) B.tk F (B.room.mono hj) I2.env0 I2 (.cons rfl r) q2)⟩
theorem pe_methW0 {pl : Sem Bool} (B : Bod gf X W k) (he : PE X o to) (hw : OwnM X.prog X.w X.K X.mg X.base m j own) (hj : j ≤ k)
    (ht : eval (.Call (.Attribute o m apos) [] [] pos) X.env = (do
      let ov ← eval o X.env
      standAt apos.atName
      let (f, first) ← holding [ov] (getMethod ov m pl)
      callWith pos f first (backTo pos (starEach [] X.env)) (backToKw pos (keywordEach [] X.env)))) : PE X (.Call (.Attribute o m apos) [] [] pos) (tMethW X.K X.mg W own m to tNil) := by
  refine ⟨fun pins s σ H Q I h => PySem.W.methodCall_KW (pl := pl) (thn (he.run pins s σ H _ I h) ?_) ht⟩
  rintro u s1 ⟨x, H1, I1, rx, mm, ⟨a, c0, dx, fs, C, rfl, hc, ho, ea, l⟩, q⟩
  cases rx
  obtain ⟨hcl, f, hM, F⟩ := hw C mm ho
  have hM := hM c0 hc
  exact getmeth_ok I1 ea (hcl c0 hc) hM l (PySem.W.callWith_K0 (first := [.ref a]) I1.kIn hM.kp (wpAny_call (run_at' (us := [.ref a]) (vs := [.ref a]) B.tk F (B.room.mono hj) I1.env0 I1 (.cons rfl .nil) q)))
theorem meth_ent : ∀ σ H Q, tD X.K X.mg W (eMeth m own fo fa) σ H Q → tMethW X.K X.mg W own m (tD X.K X.mg W fo) (tDA X.K X.mg W fa) σ H Q := fun σ H Q ⟨F, A, P, ρ, S, rp, s, q⟩ => by
  refine tD.seq rp s q fun d S1 v H1 F1 A1 x1 r1 s1 d1 h1 => ?_
  split at h1
  · rename_i mm e1
    refine ⟨mm, own_at r1 d1 e1, ?_⟩
    have h1 := post_okE x1 h1
    refine tDA.seq r1 s1 h1 fun ds S2 ws H2 F2 A2 x2 r2 s2 d2 h4 => ?_
    exact ⟨F2, A2, P, _, S2, r2, .cons (d1.mono x2) d2, post_okE x2 h4⟩
  · exact h1.elim
theorem aNil_ent {σ : L2.St} {H : Hp} {R : List V → Hp → Prop} (h : tDA X.K X.mg W aNil σ H R) : tNil σ H R := by
  obtain ⟨F, A, P, ρ, S, r, s, q⟩ := h
  exact okA.now q r .nil
theorem de_meth {pl : Sem Bool} (B : Bod gf X W k) (hw : OwnM X.prog X.w X.K X.mg X.base m j own) (hj : j ≤ k) (ho : DE X W o fo) (ha : DA X W (e :: es) fa)
    (hst : starEach (e :: es) X.env = (false, eval e X.env) :: starEach es X.env := by rfl) (hpl : (backTo pos (starEach es X.env)).any (·.1) = false := by rfl)
    (ht : eval (.Call (.Attribute o m apos) (e :: es) [] pos) X.env = (do
      let ov ← eval o X.env
      standAt apos.atName
      let (f, first) ← holding [ov] (getMethod ov m pl)
      callWith pos f first (backTo pos (starEach (e :: es) X.env)) (backToKw pos (keywordEach [] X.env))) := by rfl) : DE X W (.Call (.Attribute o m apos) (e :: es) [] pos) (eMeth m own fo fa) :=
  PE.imp (pe_methW B ho hw hj ha hst hpl ht) meth_ent
theorem de_meth0 {pl : Sem Bool} (B : Bod gf X W k) (hw : OwnM X.prog X.w X.K X.mg X.base m j own) (hj : j ≤ k) (ho : DE X W o fo)
    (ht : eval (.Call (.Attribute o m apos) [] [] pos) X.env = (do
      let ov ← eval o X.env
      standAt apos.atName
      let (f, first) ← holding [ov] (getMethod ov m pl)
      callWith pos f first (backTo pos (starEach [] X.env)) (backToKw pos (keywordEach [] X.env))) := by rfl) : DE X W (.Call (.Attribute o m apos) [] [] pos) (eMeth m own fo aNil) :=
  PE.imp (pe_methW0 B ho hw hj ht) fun σ H Q w => by
    have z := meth_ent σ H Q w
    obtain ⟨F, A, P, ρ, S, rp, s, q⟩ := z
    exact ⟨F, A, P, ρ, S, rp, s, Out.post_mono q (fun d S1 h v H' F' A' x r dd => by
      obtain ⟨mm, h1, h5⟩ := h v H' F' A' x r dd
      exact ⟨mm, h1, aNil_ent h5⟩) fun _ _ _ z => z⟩
end
end DL
/-! Making instances; a star in an argument list; class methods, properties. -/
namespace DL
open PySem PySem.Spec PyProof.Rows L2
variable {gf gj : Bool}
section
variable {K : PySem.W.Frag} {mg : Str → Option Value} {F : Hp} {A : List Addr} {P P' H : Hp} {S : Store} {p : Addr} {o : HO}
theorem Rep.less (r : Rep K mg F A S P' H) (h : Same P P') : Rep K mg F A S P H :=
  ⟨r.le, fun b u z => r.pr b u (h b u z), fun b u z => r.fp b u (h b u z), fun a ha => (by
    cases e : P a with
    | none => rfl
    | some u => have := h a u e; rw [r.ap a ha] at this; cases this), r.len, r.nd, r.th, r.so⟩
/-- something that nobody looks at -/
theorem Rep.beside (r : Rep K mg F A S P H) (hp : H p = none) : Rep K mg F A S P (upd H p o) :=
  (r.priv hp).less fun b u z => by rw [upd_ne (ne_of_none z (r.pr.free hp))]; exact z
end
/-! ### making -/
def finMk (fr : Bool) (n : Nat) (S : Store) : Option (D × Store) := if fr then match S[n]? with
  | some (.ins C fs) => some (.ins C fs, S.set n .gone)
  | _ => none
  else some (.ref n, S)
def eMake (fr : Bool) (C : Str) (mm : Fn) (fa : Ev (List D)) : Ev D := fun ρ S => (fa ρ S).bind fun ds S => (mm (.ref S.length :: ds) (S ++ [.ins C []])).bind fun r S' => match r with
  | .non => match finMk fr S.length S' with
    | some (d, S2) => .ok d S2
    | none => .stuck
  | _ => .stuck
def tMakeW (W : WX) (c : Addr) (sp : Sp) (t : TA) : TE := fun σ H Q => t σ H fun vs H1 => ∀ x dx, H1 x = none → H1 dx = none → dx ≠ x →
  sp (V.ref x :: vs) (upd (upd H1 dx (.own x)) x (.ins c dx [])) (fun v H2 => v = .non ∧ Q (.ref x) H2) (WE W σ)
section
variable {X : Cx} {W : WX} {k j i : Nat} {e o : Expr} {es : List Expr} {C x : Str} {c f : Addr} {mm : Fn} {fo : Ev D} {fa : Ev (List D)} {pos apos p p2 : Pos} {sp : Sp} {te : TE} {t : TA}
theorem run_makeW {pins : List (Addr × Obj)} {σ : L2.St} {H : Hp} {s : Shared} {Q : VK} {us : List Value} {vs : List V} (B : Bod gf X W k) (M : Mk X.K c f) (F : FnR X.prog X.w X.K X.mg X.base (L2.CX X.prog X.w) j f sp) (hj : j + 1 ≤ k) (I : Inv X pins σ H s) (r : Vals vs us)
    (h : ∀ x dx, H x = none → H dx = none → dx ≠ x → sp (V.ref x :: vs) (upd (upd H dx (.own x)) x (.ins c dx [])) (fun v H2 => v = .non ∧ Q (.ref x) H2) (WE W σ)) : wpAny (model X.prog X.w) X.A (call (.ref c) us) (EP X pins σ Q) X.xe s := by
  have hq := h (s.heap.objs.size + 1) s.heap.objs.size (I.hok.fresh (Nat.le_succ _)) (I.hok.fresh (Nat.le_refl _)) (Nat.ne_of_lt (Nat.lt_succ_self _))
  have I2 := Inv.made (C := c) I
  refine wpAny_call (make_map (f := f) I.kIn M.makes M.init (beq_iff_eq.mp M.fn) (codeAny_mono (run_at' (us := Value.ref (s.heap.objs.size + 1) :: us) (vs := V.ref (s.heap.objs.size + 1) :: vs) B.tk F ((B.room.mono hj).make c us []) (I2.env0.make c us []) I2 (.cons rfl r) hq) fun r s' hq' => ?_))
  cases r with
  | error e => exact hq'
  | ok fl =>
    cases fl with
    | ret u =>
      obtain ⟨v, H', I3, rv, ⟨ev, q3⟩⟩ := hq'
      subst ev
      exact ⟨rv, ⟨V.ref (s.heap.objs.size + 1), H', I3, rfl, q3⟩⟩
    | next => exact hq'
    | brk => exact hq'
    | cont => exact hq'
theorem make_ent {fr : Bool} {σ : L2.St} {H : Hp} {Q : VK} (hc : X.mg C = some (.ref c)) (w : tD X.K X.mg W (eMake fr C mm fa) σ H Q) : tMakeW W c (spV X.K X.mg mm) (tDA X.K X.mg W fa) σ H Q := by
  obtain ⟨F, A, P, ρ, S, rp, s, q⟩ := w
  refine tDA.seq rp s q fun ds S1 vs H1 F1 A1 x1 r1 s1 d1 h1 => ?_
  have h1 := post_okE x1 h1
  intro y dx hy hdx hne
  have r2 := r1.beside (o := .own y) hdx
  have hy2 : upd H1 dx (.own y) y = none := by rw [upd_ne (Ne.symm hne)]; exact hy
  have hF : F1 y = none := r2.le.free hy2
  have ea : (A1 ++ [y])[A1.length]? = some y := by simp
  obtain ⟨x3, r3⟩ := r2.alloc (o := .ins c dx []) (so := .ins C []) hy2 ⟨y, c, dx, [], ea, hF, hc, upd_same, .nil⟩
  have eS : (A1 ++ [y])[S1.length]? = some y := by rw [← r1.len]; exact ea
  refine ⟨F1, A1 ++ [y], P, _, _, r3, .cons (.ref eS) (d1.mono x3), ?_⟩
  have h1 := post_okE x3 h1
  refine Out.post_mono (Out.post_bind h1) (fun d S2 z v H2 F2 A2 x4 r4 d4 => ?_) fun _ _ _ z => z
  cases d with
  | non =>
    cases d4
    refine ⟨rfl, ?_⟩
    dsimp only at z
    split at z
    · rename_i d2 S3 e2
      unfold finMk at e2
      split at e2
      · split at e2
        · rename_i C' fs e3
          cases e2
          obtain ⟨b, c0, dx', ws, g1, g2, g3, g4, g5⟩ := r4.so _ _ e3
          have e4 := x4.at eS
          rw [e4] at g1; cases g1
          obtain ⟨x5, r5⟩ := r4.frzSo e4 g2 g4
          exact z _ _ _ _ (x4.trans x5) r5 (.ins g3 upd_same (g5.mono x5))
        · cases e2
      · cases e2
        exact z _ _ _ _ x4 r4 (.ref (x4.at eS))
    · exact z.elim
  | _ => exact z.elim
def MkT (K : PySem.W.Frag) (c f : Addr) : Prop := Mk K c f
/-- C(e, ..) -/
theorem de_make {fr : Bool} (B : Bod gf X W k) (hc : X.mg C = some (.ref c)) (M : Mk X.K c f) (F : FnM X.prog X.w X.K X.mg X.base j f mm) (hj : j + 1 ≤ k) (hg : Gl X C) (ha : DA X W (e :: es) fa) (hdb : (C == ("__debug__" : Str)) = false := by decide)
    (he : starEach (e :: es) X.env = (false, eval e X.env) :: starEach es X.env := by rfl) (hpl : (backTo pos (starEach es X.env)).any (·.1) = false := by rfl) : DE X W (.Call (.Name C p) (e :: es) [] pos) (eMake fr C mm fa) := by
  refine ⟨fun pins s σ H Q I h => wpAny_Call_Name_kw (ld_glob I hg hc ?_ hdb)⟩
  refine PySem.W.callWith_K (h₀ := X.base) I.ok.mod.kin M.kp (thn (ha.run pos pins s σ H _ I (make_ent hc h)) ?_) he hpl
  rintro us s1 ⟨vs, H1, I1, r, q⟩
  exact ⟨I1.kIn, run_makeW B M F hj I1 r q⟩
/-- C() -/
theorem de_make0 {fr : Bool} (B : Bod gf X W k) (hc : X.mg C = some (.ref c)) (M : Mk X.K c f) (F : FnM X.prog X.w X.K X.mg X.base j f mm) (hj : j + 1 ≤ k) (hg : Gl X C) (hdb : (C == ("__debug__" : Str)) = false := by decide) : DE X W (.Call (.Name C p) [] [] pos) (eMake fr C mm aNil) := by
  refine ⟨fun pins s σ H Q I h => wpAny_Call_Name_kw (ld_glob I hg hc ?_ hdb)⟩
  exact PySem.W.callWith_K0 I.kIn M.kp (run_makeW (us := []) B M F hj I .nil (aNil_ent (X := X) (W := W) (make_ent hc h)))
/-- C(*e) -/
def aStar1 (g : Ev D) : Ev (List D) := fun ρ S => (g ρ S).bind fun d S => ofO (itemsS S d) S
theorem de_makeS {fr : Bool} {g : Ev D} (B : Bod gf X W k) (hc : X.mg C = some (.ref c)) (M : Mk X.K c f) (F : FnM X.prog X.w X.K X.mg X.base j f mm) (hj : j + 1 ≤ k) (hg : Gl X C) (he : DE X W e g) (hdb : (C == ("__debug__" : Str)) = false := by decide)
    (hst : starEach [.Starred e p2] X.env = [(true, eval e X.env)] := by rfl) : DE X W (.Call (.Name C p) [.Starred e p2] [] pos) (eMake fr C mm (aStar1 g)) := by
  refine ⟨fun pins s σ H Q I h => wpAny_Call_Name_kw (ld_glob I hg hc ?_ hdb)⟩
  have w := make_ent hc h
  obtain ⟨F1, A, P, ρ, S, rp, sl, q⟩ := w
  refine PySem.W.callWith_S (h₀ := X.base) I.ok.mod.kin M.kp (thn (he.run pins s σ H (fun v H1 => ∃ a xs, v = V.ref a ∧ (SqT X.K H1 a xs ∨ SqL X.K H1 a xs) ∧ (∀ x dx, H1 x = none → H1 dx = none → dx ≠ x →
    spV X.K X.mg mm (V.ref x :: xs) (upd (upd H1 dx (.own x)) x (.ins c dx [])) (fun v H2 => v = .non ∧ Q (.ref x) H2) (WE W σ))) I ?_) ?_) hst
  · refine tD.seq rp sl q fun d S1 v H1 F1 A1 x1 r1 s1 d1 h1 => ?_
    obtain ⟨xs, e2, h2⟩ := ofO_post h1
    obtain ⟨a, vs, rfl, h3, h4⟩ := itemsS_at r1 d1 e2
    exact ⟨a, vs, rfl, h3.symm, h2 _ _ _ _ x1 r1 h4⟩
  · rintro v s1 ⟨y, H1, I1, ry, a, xs, rfl, hxs, z⟩
    cases ry
    exact StX.star_any I1 hxs fun us s2 I2 rv => ⟨I2.kIn, run_makeW B M F hj I2 rv z⟩
/-- x(*e), x a local that holds the class -/
def eMakeL (i : Nat) (fr : Bool) (C : Str) (mm : Fn) (fa : Ev (List D)) : Ev D := fun ρ S => match ρ[i]? with
  | some (some (.cls C')) => if C' = C then eMake fr C mm fa ρ S else .stuck
  | _ => .stuck
theorem makeL_at {fr : Bool} {σ : L2.St} {H : Hp} {Q : VK} (hc : X.mg C = some (.ref c)) (w : tD X.K X.mg W (eMakeL i fr C mm fa) σ H Q) : σ[i]? = some (some (.ref c)) ∧ tD X.K X.mg W (eMake fr C mm fa) σ H Q := by
  obtain ⟨F, A, P, ρ, S, rp, s, q⟩ := w
  unfold eMakeL at q
  split at q
  · rename_i C' e1
    split at q
    · rename_i hC
      subst hC
      obtain ⟨v, e2, d⟩ := s.2 i _ e1
      cases d with
      | cls hm => rw [hc] at hm; cases hm; exact ⟨e2, F, A, P, ρ, S, rp, s, q⟩
    · exact q.elim
  · exact q.elim
theorem de_makeSL {fr : Bool} {g : Ev D} (i : Nat) (B : Bod gf X W k) (hN : X.N[i]? = some x) (hv : Vis X.env.scope x) (hc : X.mg C = some (.ref c)) (M : Mk X.K c f) (F : FnM X.prog X.w X.K X.mg X.base j f mm) (hj : j + 1 ≤ k) (he : DE X W e g) (hdb : (x == ("__debug__" : Str)) = false := by decide)
    (hcd : (x == ("__classdict__" : Str)) = false := by decide) (hst : starEach [.Starred e p2] X.env = [(true, eval e X.env)] := by rfl) : DE X W (.Call (.Name x p) [.Starred e p2] [] pos) (eMakeL i fr C mm (aStar1 g)) := by
  refine ⟨fun pins s σ H Q I h => ?_⟩
  obtain ⟨hs, h⟩ := makeL_at hc h
  refine wpAny_Call_Name_kw (thn ((pe_var (pos := p) hN hv hdb hcd).run pins s σ H (fun v H1 => v = .ref c ∧ H1 = H) I ⟨.ref c, hs, rfl, rfl⟩) ?_)
  rintro u s1 ⟨v, H1, I1, r1, rfl, rfl⟩
  cases r1
  have w := make_ent hc h
  obtain ⟨F1, A, P, ρ, S, rp, sl, q⟩ := w
  refine PySem.W.callWith_S (h₀ := X.base) I.ok.mod.kin M.kp (thn (he.run pins s1 σ _ (fun v H1 => ∃ a xs, v = V.ref a ∧ (SqT X.K H1 a xs ∨ SqL X.K H1 a xs) ∧ (∀ x dx, H1 x = none → H1 dx = none → dx ≠ x →
    spV X.K X.mg mm (V.ref x :: xs) (upd (upd H1 dx (.own x)) x (.ins c dx [])) (fun v H2 => v = .non ∧ Q (.ref x) H2) (WE W σ))) I1 ?_) ?_) hst
  · refine tD.seq rp sl q fun d S1 v H1 F1 A1 x1 r1 s1 d1 h1 => ?_
    obtain ⟨xs, e2, h2⟩ := ofO_post h1
    obtain ⟨a, vs, rfl, h3, h4⟩ := itemsS_at r1 d1 e2
    exact ⟨a, vs, rfl, h3.symm, h2 _ _ _ _ x1 r1 h4⟩
  · rintro v s1 ⟨y, H1, I1, ry, a, xs, rfl, hxs, z⟩
    cases ry
    exact StX.star_any I1 hxs fun us s2 I2 rv => ⟨I2.kIn, run_makeW B M F hj I2 rv z⟩
end
end DL
/-! Defs with a star parameter; operators, len, str of own classes (what they call lets nothing out). -/
namespace DL
open PySem PySem.Spec PyProof.Rows L2
variable {gf gj : Bool}
/-! ### def f(a, .., *v) -/
def mS (j : Nat) (m : Fn) : Fn := fun ds S => if j ≤ ds.length ∧ ds.length ≤ 16777216 then m (ds.take j ++ [.tup (ds.drop j)]) S else .stuck
theorem fnm_star {P : Program} {w : World} {K : PySem.W.Frag} {mg : Str → Option Value} {base : Heap} {k : Nat} {f : Addr} {name qual : Str} {params : Arguments} {body : List Stmt} {scope : Scope} {dV kV doc pm cdv ct oc : Value} {an od : Option Addr}
    {osl : Array (Option Value)} {N ps : List Str} {pv : Str} {g : Stm} (sy : ∃ mm, base.Ns sysModules mm) (lk : K.lookup f = some ⟨oc, od, .func (PySem.W.fnOf name qual params body scope dV kV doc pm an cdv ct), osl⟩) (hcd : PySem.W.codeIn K cdv qual = true) (S : FnScope N (ps ++ [pv]) scope) (hn : (ps ++ [pv]).length ≤ N.length)
    (hbi : ∀ us rest : List Value, us.length = ps.length → bindArgs (PySem.W.fnOf name qual params body scope dV kV doc pm an cdv ct) ⟨us ++ rest, []⟩ = (newTuple rest >>= fun t => pure (ps.zip us ++ [(pv, t)])))
    (hb : ∀ (cdv : Value) (A : Around) (outer : List Env) (s : Shared) (H : Hp) (E : XK), Bod false (cxOf (L2.CX P w) P w K mg base N qual scope f cdv A outer s H E) (fun cls d _ H => E cls d H) k →
      DSs (cxOf (L2.CX P w) P w K mg base N qual scope f cdv A outer s H E) (fun cls d _ H => E cls d H) body g) : FnM P w K mg base (k + 1) f (mS ps.length (fnD N.length g)) := by
  have main := StX.fn_star (CX := L2.CX P w) (sp := spD K mg (ps.length + 1) (fnD N.length g)) lk hcd S StX.cxUp hbi (k := k) (fun A outer s H vs Q E hr ⟨F', A', P', ds, S', rp, dv, hl, q⟩ => by
    refine ⟨_, hb cdv A outer s H E ⟨rfl, S.nd, hr, (fun z => nomatch z), sy, takes_of rfl rfl rfl rfl, passes_of rfl⟩, F', A', P', _, S', rp, start_slots dv (by rw [dv.length, hl]; simpa using hn), ?_⟩
    unfold fnD at q
    cases e : g (ds.map some ++ List.replicate (N.length - ds.length) none) S' with
    | nx ρ S2 => rw [e] at q; exact fun σ' H' F2 A2 x r s => q _ _ _ _ x r .non
    | rt d S2 => rw [e] at q; exact q
    | ex C fs ρ S2 => rw [e] at q; exact fun c d σ' H' F2 A2 x r s m z => q c d H' F2 A2 x r m z
    | bk ρ S2 => rw [e] at q; exact q.elim
    | ct ρ S2 => rw [e] at q; exact q.elim
    | stuck => rw [e] at q; exact q.elim)
  refine main.imp fun vs H Q E ⟨F, A, P', ds, S', rp, dv, q⟩ => ?_
  unfold mS at q
  split at q
  · rename_i hl
    have hl2 := dv.length
    refine ⟨vs.take ps.length, vs.drop ps.length, (List.take_append_drop _ _).symm, by rw [List.length_take]; omega, by rw [List.length_drop]; exact len_le (by omega), fun p hp => ?_⟩
    obtain ⟨x2, r2⟩ := rp.frz (o := .tup (vs.drop ps.length)) hp
    exact ⟨_, A, P', _, S', r2, ((dv.take _).mono x2).append (.cons (.tup (SqT.of upd_same) ((dv.drop _).mono x2)) .nil), by rw [List.length_append, List.length_take]; simp; omega, post_okE x2 q⟩
  · exact q.elim
/-! ### what is called inside lets nothing out -/
abbrev noE : XK := fun _ _ _ => False
section
variable {X : Cx} {W : WX} {k j : Nat} {e o : Expr} {C m : Str} {f p : Addr} {mm : Fn} {fo : Ev D} {pos : Pos} {sp : Sp}
theorem run_in1 {pins : List (Addr × Obj)} {σ : L2.St} {H : Hp} {s : Shared} {Q : VK} {us : List Value} {vs : List V} {A : Around} {E' : Value → Shared → Prop} (F : FnR X.prog X.w X.K X.mg X.base (L2.CX X.prog X.w) j f sp) (hr : Room j A) (e0 : Env0 X.prog X.w X.K X.mg X.base A X.stack s H) (I : Inv X pins σ H s) (r : Vals vs us) (h : sp vs H Q noE) :
    wpAny (model X.prog X.w) A (call (.ref f) us) (EP X pins σ Q) E' s := by
  refine wpAny_call (codeAny_mono (F A X.stack s H us vs Q noE hr e0 r h) fun r s' hq => ?_)
  cases r with
  | error e => obtain ⟨_, _, _, _, _, _, _, _, _, _, _, _, z⟩ := hq; exact z.elim
  | ok fl =>
    cases fl with
    | ret u => exact I.after hq
    | next => exact hq.elim
    | brk => exact hq.elim
    | cont => exact hq.elim
theorem ins_inst {pins : List (Addr × Obj)} {σ : L2.St} {H : Hp} {s : Shared} {a c dx : Addr} {fs : List (Str × V)} (I : Inv X pins σ H s) (e : H a = some (.ins c dx fs)) : ∃ od, PySem.W.InstAt s.heap a (PySem.W.instObj c dx) c (some od) := by
  obtain ⟨mA, O, r, _, _, _⟩ := ins_get I.hok e
  obtain ⟨od, J, _⟩ := O.look
  exact ⟨od, J⟩
theorem noE_post {mm : Fn} {ds : List D} {S : Store} {K : PySem.W.Frag} {mg : Str → Option Value} {F : Hp} {A : List Addr} {P : Hp} {Q : VK} {ex} (h : (noExc (mm ds S)).post (okE K mg F A P Q) ex) : (mm ds S).post (okE K mg F A P Q) (exE K mg F A P noE) := noExc_post h
/-! ### properties -/
def PropM (P : Program) (w : World) (K : PySem.W.Frag) (mg : Str → Option Value) (base : Heap) (m : Str) (j : Nat) (own : Str → Option Fn) : Prop :=
  ∀ C mm, own C = some mm → ClsT K mg C ∧ ∃ p g, (∀ c, mg C = some (.ref c) → PropOf K c m p g) ∧ FnM P w K mg base j g mm
def own1 (own : Str → Option Fn) (S : Store) (o : D) : Option Fn := match insOf S o with
  | some (C, _) => own C
  | none => none
def IsOwn1 (mg : Str → Option Value) (own : Str → Option Fn) (H : Hp) (x : V) (mm : Fn) : Prop := ∃ a c dx fs C, x = .ref a ∧ mg C = some (.ref c) ∧ own C = some mm ∧ H a = some (.ins c dx fs)
theorem own1_at {K : PySem.W.Frag} {mg : Str → Option Value} {F : Hp} {A : List Addr} {P H : Hp} {S : Store} {own : Str → Option Fn} {v : V} {d : D} {mm : Fn} (r : Rep K mg F A S P H) (h : Dat K mg F A v d) (e : own1 own S d = some mm) : IsOwn1 mg own H v mm := by
  unfold own1 at e
  split at e
  · rename_i C fs e1
    obtain ⟨a, c0, dx, vs, rfl, m1, h2, h3⟩ := ins_at r h e1
    exact ⟨a, c0, dx, vs, C, rfl, m1, e, h2⟩
  · cases e
def eProp (own : Str → Option Fn) (fo : Ev D) : Ev D := fun ρ S => (fo ρ S).bind fun o S => match own1 own S o with
  | some mm => noExc (mm [o] S)
  | none => .stuck
theorem de_prop {own : Str → Option Fn} (B : Bod gf X W k) (hw : PropM X.prog X.w X.K X.mg X.base m j own) (hj : j + 1 ≤ k) (ho : DE X W o fo) (hab : attributeBase o m X.env (eval o X.env) = eval o X.env := by rfl) : DE X W (.Attribute o m pos) (eProp own fo) := by
  refine ⟨fun pins s σ H Q I h => attr_of hab (thn (ho.run pins s σ H (fun x H1 => ∃ mm, IsOwn1 X.mg own H1 x mm ∧ spV X.K X.mg mm [x] H1 Q noE) I ?_) ?_)⟩
  · obtain ⟨F, A, P, ρ, S, rp, sl, q⟩ := h
    refine tD.seq rp sl q fun d S1 v H1 F1 A1 x1 r1 s1 d1 h1 => ?_
    split at h1
    · rename_i mm e1
      exact ⟨mm, own1_at r1 d1 e1, F1, A1, P, _, S1, r1, .cons d1 .nil, noE_post (post_okE x1 h1)⟩
    · exact h1.elim
  · rintro u s1 ⟨x, H1, I1, rx, mm, ⟨a, c0, dx, fs, C, rfl, hc, hown, ea⟩, q⟩
    cases rx
    obtain ⟨hcl, p, g, hp, F⟩ := hw C mm hown
    have hp := hp c0 hc
    have c := hcl c0 hc
    obtain ⟨od, J⟩ := ins_inst I1 ea
    obtain ⟨rest, hrec⟩ := hp.rec_
    have I2 := I1.tok (s1.toks + 1)
    have hcs : (PySem.W.clsIn X.K c0).isSome = true := by
      obtain ⟨cd, hc, _⟩ := PySem.W.any_some c.hd
      rw [hc]; rfl
    refine PySem.W.get_bind I1.kIn J (PySem.W.plainGet_of (c.get m)).1 (PySem.W.findObj_data hcs hp.at_ hp.get hp.tak) (PySem.W.plainGet_of (c.get m)).2 (wpAny_call (PySem.W.prop_get (s := { s1 with toks := s1.toks + 1 }) I1.kIn hrec ?_))
    refine codeAny_mono (F X.A.in1 X.stack { s1 with toks := s1.toks + 1 } H1 [.ref a] [.ref a] Q noE ((B.room.mono hj).in1) I2.env0.in1 (.cons rfl .nil) q) fun r s' hq => ?_
    cases r with
    | error e => obtain ⟨_, _, _, _, _, _, _, _, _, _, _, _, z⟩ := hq; exact z.elim
    | ok fl =>
      cases fl with
      | ret u =>
        obtain ⟨v, H', I3, rv, q3⟩ := I2.after hq
        show wpAny _ _ (handedOut u) _ _ _
        rw [PySem.W.handedOut_of (handed_of rv)]
        exact wpAny_pure ⟨v, H', I3, rv, q3⟩
      | next => exact False.elim hq
      | brk => exact False.elim hq
      | cont => exact False.elim hq
/-! ### len, items, sums, texts -/
def rLenO (K : PySem.W.Frag) (mg : Str → Option Value) (own : Str → Option Fn) : List V → Hp → VK → Prop := fun xs H Q => ∃ x mm, xs = [x] ∧ IsOwn1 mg own H x mm ∧ spV K mg mm [x] H (fun v H' => ∃ n : Int, v = .int n ∧ 0 ≤ n ∧ n < 2 ^ 63 ∧ Q (.int n) H') noE
theorem call_lenO {own : Str → Option Fn} (B : Bod gf X W k) (hw : OwnM X.prog X.w X.K X.mg X.base "__len__" j own) (hj : j + 1 ≤ k) : CallR X (.builtin "len") (rLenO X.K X.mg own) := by
  intro pins s σ H xs us Q I r h
  obtain ⟨x, mm, rfl, ⟨a, c0, dx, fs, C, rfl, hc, hown, ea⟩, q⟩ := h
  obtain ⟨u, rfl, ru⟩ := vals1 r
  cases (show u = Value.ref a from ru)
  obtain ⟨hcl, f, hM, F⟩ := hw C mm hown
  have hM := hM c0 hc
  obtain ⟨od, J⟩ := ins_inst I ea
  obtain ⟨m0, fr⟩ := I.fr
  refine PySem.W.len_K fr I.ok.mod.kin J hM.at_ hM.fn (wpAny_mono (run_in1 (us := [.ref a]) (vs := [.ref a]) (E' := X.xe) F ((B.room.mono hj).in1) I.env0.in1 I (.cons rfl .nil) q) (fun w s' z => ?_) fun _ _ z => z)
  obtain ⟨v, H', I', rv, n, rfl, h0, h1, q2⟩ := z
  obtain ⟨t, rfl⟩ := rv
  exact ⟨⟨h0, h1⟩, .int n, H', I'.tok _, ⟨_, rfl⟩, q2⟩
/-- len(o): by an own def, or built in -/
def eLenU (own : Str → Option Fn) (f : Ev (List D)) : Ev D := fun ρ S => (f ρ S).bind fun xs S => match xs with
  | [o] => match own1 own S o with
    | some mm => (noExc (mm [o] S)).bind fun r S => match r with
      | .int n => if 0 ≤ n ∧ n < 2 ^ 63 then .ok (.int n) S else .stuck
      | _ => .stuck
    | none => ofO (gLen [o] S) S
  | _ => .stuck
theorem lenU_ent {own : Str → Option Fn} {fa : Ev (List D)} : ∀ σ H Q, tD X.K X.mg W (eLenU own fa) σ H Q → tCB (fun xs H Q => rLenG X.K xs H Q ∨ rLenO X.K X.mg own xs H Q) (tDA X.K X.mg W fa) σ H Q := fun σ H Q ⟨F, A, P, ρ, S, rp, s, q⟩ => by
  refine tDA.seq rp s q fun ds S1 vs H1 F1 A1 x1 r1 s1 d1 h1 => ?_
  have h1 := post_okE x1 h1
  split at h1
  · rename_i o
    cases d1 with
    | cons do_ d2 =>
      cases d2
      split at h1
      · rename_i mm e1
        refine .inr ⟨_, mm, rfl, own1_at r1 do_ e1, F1, A1, P, _, S1, r1, .cons do_ .nil, noExc_post (Out.post_mono (Out.post_bind h1) (fun d S2 z v H2 F2 A2 x4 r4 d4 => ?_) fun _ _ _ z => z)⟩
        split at z
        · rename_i n
          split at z
          · rename_i hn
            cases d4
            exact ⟨n, rfl, hn.1, hn.2, z _ _ _ _ x4 r4 .int⟩
          · exact z.elim
        · exact z.elim
      · obtain ⟨z, e, h3⟩ := ofO_post h1
        exact .inl (lenG_ent _ _ _ _ _ _ _ _ _ r1 (.cons do_ .nil) e h3)
  · exact h1.elim
theorem de_lenU {own : Str → Option Fn} {fa : Ev (List D)} {p : Pos} {es : List Expr} (B : Bod gf X W k) (hw : OwnM X.prog X.w X.K X.mg X.base "__len__" j own) (hj : j + 1 ≤ k) (hg : Gl X "len") (hm : X.mg "len" = none) (ha : DA X W (e :: es) fa)
    (he : starEach (e :: es) X.env = (false, eval e X.env) :: starEach es X.env := by rfl) (hpl : (backTo pos (starEach es X.env)).any (·.1) = false := by rfl) : DE X W (.Call (.Name "len" p) (e :: es) [] pos) (eLenU own fa) :=
  PE.imp (pe_callB (CallR.or call_lenG (call_lenO B hw hj)) hg hm boot_len ha (by decide) (by decide) he hpl) lenU_ent
end
end DL
namespace DL
open PySem PySem.Spec PyProof.Rows L2
variable {gf gj : Bool}
/-- x op y, by x's own def -/
def rOwn2 (K : PySem.W.Frag) (mg : Str → Option Value) (own : Str → Option Fn) : R2 := fun x y H Q => ∃ mm, IsOwn1 mg own H x mm ∧ spV K mg mm [x, y] H Q noE
/-- .. beside what is built in -/
def eBinU (own : Str → Option Fn) (g : D → D → Store → Option D) (f h : Ev D) : Ev D := fun ρ S => (f ρ S).bind fun x S => (h ρ S).bind fun y S => match own1 own S x with
  | some mm => noExc (mm [x, y] S)
  | none => ofO (g x y S) S
section
variable {X : Cx} {W : WX} {k j : Nat} {a b e o : Expr} {f h : Ev D} {pos : Pos} {own : Str → Option Fn} {r : R2} {g : D → D → Store → Option D}
theorem binU_ent (he : OpE X.K X.mg r g) : ∀ σ H Q, tD X.K X.mg W (eBinU own g f h) σ H Q → tOp (fun x y H Q => r x y H Q ∨ rOwn2 X.K X.mg own x y H Q) (tD X.K X.mg W f) (tD X.K X.mg W h) σ H Q := fun σ H Q ⟨F, A, P, ρ, S, rp, s, q⟩ => by
  refine tD.seq rp s q fun d S1 v H1 F1 A1 x1 r1 s1 d1 h1 => ?_
  have h1 := post_okE x1 h1
  refine tD.seq r1 s1 h1 fun d2 S2 v2 H2 F2 A2 x2 r2 s2 d2' h2 => ?_
  have h2 := post_okE x2 h2
  split at h2
  · rename_i mm e1
    exact .inr ⟨mm, own1_at r2 (d1.mono x2) e1, F2, A2, P, _, S2, r2, .cons (d1.mono x2) (.cons d2' .nil), noE_post h2⟩
  · obtain ⟨z, e, h3⟩ := ofO_post h2
    exact .inl (he _ _ _ _ _ _ _ _ _ _ _ r2 (d1.mono x2) d2' e h3)
/-- o[i] -/
def IxM (P : Program) (w : World) (K : PySem.W.Frag) (mg : Str → Option Value) (base : Heap) (j : Nat) (own : Str → Option Fn) : Prop :=
  ∀ C mm, own C = some mm → ClsT K mg C ∧ ∃ f, MethT K mg C "__getitem__" f ∧ PySem.W.fnIn K f = true ∧ FnM P w K mg base j f mm
theorem ix_own (B : Bod gf X W k) (hw : IxM X.prog X.w X.K X.mg X.base j own) (hj : j + 1 ≤ k) {value slice : Expr} (hsl : ∀ v u, subscripted slice true v u = runValue (.builtin "lifetime.subscript" ⟨[v, u], []⟩))
    {pins : List (Addr × Obj)} {s : Shared} {σ : L2.St} {H : Hp} {x y : V} {v u : Value} {Q : VK} (I : Inv X pins σ H s) (rx : RelV x v) (ry : RelV y u) (hq : rOwn2 X.K X.mg own x y H Q) : wpAny (model X.prog X.w) X.A (subscriptTail value slice v u) (EP X pins σ Q) X.xe s := by
  obtain ⟨mm, ⟨a, c0, dx, fs, C, rfl, hc, hown, ea⟩, q⟩ := hq
  cases (show v = Value.ref a from rx)
  obtain ⟨hcl, f, hM, hfi, F⟩ := hw C mm hown
  have hM := hM c0 hc
  obtain ⟨od, J⟩ := ins_inst I ea
  obtain ⟨m0, fr⟩ := I.fr
  exact PySem.W.sub_K fr I.ok.mod.kin J hM.at_ hfi hM.fn (run_in1 (us := [.ref a, u]) (vs := [.ref a, y]) F ((B.room.mono hj).in1) I.env0.in1 I (.cons rfl (.cons ry .nil)) q) (hsl _ _)
theorem de_ixU (B : Bod gf X W k) (hw : IxM X.prog X.w X.K X.mg X.base j own) (hj : j + 1 ≤ k) (ha : DE X W a f) (hb : DE X W b h) (hs : PlainIx b) (hsl : ∀ v u, subscripted b true v u = runValue (.builtin "lifetime.subscript" ⟨[v, u], []⟩)) : DE X W (.Subscript a b pos) (eBinU own gIx f h) := by
  refine ⟨fun pins s σ H Q I w => PyProof.Rows.Subscript_ (binT ha hb I (binU_ent ixG_ent σ H Q w) ?_)⟩
  rintro v u s2 x y H2 I2 rx ry (q | q)
  · exact ix_seq a b pins s2 σ H2 x y v u Q I2 rx ry q (hs _ _)
  · exact ix_own B hw hj hsl I2 rx ry q
/-- o + p, both of one class -/
def AddM (P : Program) (w : World) (K : PySem.W.Frag) (mg : Str → Option Value) (base : Heap) (m : Str) (j : Nat) (own : Str → Option Fn) : Prop :=
  ∀ C mm, own C = some mm → ClsT K mg C ∧ (∀ c, mg C = some (.ref c) → PySem.W.selfFirst K c = true) ∧ ∃ f, MethT K mg C m f ∧ FnM P w K mg base j f mm
/-- the class of an object -/
def clsOf (S : Store) (d : D) : Option Str := (insOf S d).map (·.1)
def rOwn2S (K : PySem.W.Frag) (mg : Str → Option Value) (own : Str → Option Fn) : R2 := fun x y H Q => ∃ mm a b c dx dy fs gs C, x = .ref a ∧ y = .ref b ∧ mg C = some (.ref c) ∧ own C = some mm ∧ H a = some (.ins c dx fs) ∧ H b = some (.ins c dy gs) ∧ spV K mg mm [x, y] H Q noE
def eBinS (own : Str → Option Fn) (g : D → D → Store → Option D) (f h : Ev D) : Ev D := fun ρ S => (f ρ S).bind fun x S => (h ρ S).bind fun y S => match own1 own S x with
  | some mm => if clsOf S x = clsOf S y then noExc (mm [x, y] S) else .stuck
  | none => ofO (g x y S) S
theorem clsOf_at {K : PySem.W.Frag} {mg : Str → Option Value} {F : Hp} {A : List Addr} {P H : Hp} {S : Store} {x y : V} {d d2 : D} {mm : Fn} (r : Rep K mg F A S P H) (h : Dat K mg F A x d) (h2 : Dat K mg F A y d2) (e : own1 own S d = some mm) (e2 : clsOf S d = clsOf S d2) :
    ∃ a b c dx dy fs gs C, x = .ref a ∧ y = .ref b ∧ mg C = some (.ref c) ∧ own C = some mm ∧ H a = some (.ins c dx fs) ∧ H b = some (.ins c dy gs) := by
  unfold own1 at e
  unfold clsOf at e2
  split at e
  · rename_i C fs e1
    rw [e1] at e2
    cases e3 : insOf S d2 with
    | none => rw [e3] at e2; cases e2
    | some cf =>
      obtain ⟨C2, gs⟩ := cf
      rw [e3] at e2
      cases e2
      obtain ⟨a, c0, dx, vs, rfl, m1, g1, g2⟩ := ins_at r h e1
      obtain ⟨b, c1, dy, ws, rfl, m2, g3, g4⟩ := ins_at r h2 e3
      rw [m1] at m2
      cases m2
      exact ⟨a, b, c0, dx, dy, vs, ws, C, rfl, rfl, m1, e, g1, g3⟩
  · cases e
theorem binS_ent (he : OpE X.K X.mg r g) : ∀ σ H Q, tD X.K X.mg W (eBinS own g f h) σ H Q → tOp (fun x y H Q => r x y H Q ∨ rOwn2S X.K X.mg own x y H Q) (tD X.K X.mg W f) (tD X.K X.mg W h) σ H Q := fun σ H Q ⟨F, A, P, ρ, S, rp, s, q⟩ => by
  refine tD.seq rp s q fun d S1 v H1 F1 A1 x1 r1 s1 d1 h1 => ?_
  have h1 := post_okE x1 h1
  refine tD.seq r1 s1 h1 fun d2 S2 v2 H2 F2 A2 x2 r2 s2 d2' h2 => ?_
  have h2 := post_okE x2 h2
  split at h2
  · rename_i mm e1
    split at h2
    · rename_i e2
      obtain ⟨a, b, c, dx, dy, fs, gs, C, g1, g2, g3, g4, g5, g6⟩ := clsOf_at r2 (d1.mono x2) d2' e1 e2
      exact .inr ⟨mm, a, b, c, dx, dy, fs, gs, C, g1, g2, g3, g4, g5, g6, F2, A2, P, _, S2, r2, .cons (d1.mono x2) (.cons d2' .nil), noE_post h2⟩
    · exact h2.elim
  · obtain ⟨z, e, h3⟩ := ofO_post h2
    exact .inl (he _ _ _ _ _ _ _ _ _ _ _ r2 (d1.mono x2) d2' e h3)
theorem op_ownS {op : Operator} (B : Bod gf X W k) (hw : AddM X.prog X.w X.K X.mg X.base (PySem.dunder op.info.2) j own) (hj : j ≤ k) : OpR X (binaryOp op) (rOwn2S X.K X.mg own) := by
  intro pins s σ H x y v u Q I rx ry hq
  obtain ⟨mm, a, b, c0, dx, dy, fs, gs, C, rfl, rfl, hc, hown, ea, eb, q⟩ := hq
  cases (show v = Value.ref a from rx)
  cases (show u = Value.ref b from ry)
  obtain ⟨hcl, hsf, f, hM, F⟩ := hw C mm hown
  have hM := hM c0 hc
  obtain ⟨od, J⟩ := ins_inst I ea
  obtain ⟨od2, J2⟩ := ins_inst I eb
  obtain ⟨m0, fr⟩ := I.fr
  refine PySem.W.binop_K fr I.ok.mod.kin J J2.type (hsf c0 hc) hM.at_ hM.fn (wpAny_mono (run_in1 (us := [.ref a, .ref b]) (vs := [.ref a, .ref b]) (E' := X.xe) F (B.room.mono hj) I.env0 I (.cons rfl (.cons rfl .nil)) q) (fun w s' z => ?_) fun _ _ z => z)
  obtain ⟨v, H', I', rv, q2⟩ := z
  exact SlX.cmpback rv ⟨v, H', I', rv, q2⟩
theorem de_addU (B : Bod gf X W k) (hw : AddM X.prog X.w X.K X.mg X.base "__add__" j own) (hj : j ≤ k) (ha : DE X W a f) (hb : DE X W b h) : DE X W (.BinOp a .Add b pos) (eBinS own gAdd f h) :=
  PE.imp (pe_op (OpR.or op_addG (op_ownS (op := .Add) B hw hj)) ha hb) (binS_ent addG_ent)
/-- str(o) -/
def rStrO (K : PySem.W.Frag) (mg : Str → Option Value) (own : Str → Option Fn) : List V → Hp → VK → Prop := fun xs H Q => ∃ x mm, xs = [x] ∧ IsOwn1 mg own H x mm ∧ spV K mg mm [x] H (fun v H' => ∃ z : Str, v = .str z ∧ Q (.str z) H') noE
theorem call_strO (B : Bod gf X W k) (hw : OwnM X.prog X.w X.K X.mg X.base "__str__" j own) (hj : j + 2 ≤ k) : CallR X (.type "str") (rStrO X.K X.mg own) := by
  intro pins s σ H xs us Q I r h
  obtain ⟨x, mm, rfl, ⟨a, c0, dx, fs, C, rfl, hc, hown, ea⟩, q⟩ := h
  obtain ⟨u, rfl, ru⟩ := vals1 r
  cases (show u = Value.ref a from ru)
  obtain ⟨hcl, f, hM, F⟩ := hw C mm hown
  have hM := hM c0 hc
  obtain ⟨od, J⟩ := ins_inst I ea
  have hr := (B.room.mono hj).in1.in1
  refine PySem.W.kso_call hr.units0 I.kIn J hM.at_ hM.fn (wpAny_mono (run_in1 (us := [.ref a]) (vs := [.ref a]) (E' := X.xe) F hr I.env0.in1.in1 I (.cons rfl .nil) q) (fun w s' z => ?_) fun _ _ z => z)
  obtain ⟨v, H', I', rv, n, rfl, q2⟩ := z
  obtain ⟨t, rfl⟩ := rv
  exact ⟨.str n, H', I', ⟨_, rfl⟩, q2⟩
end
end DL
namespace PySem.W
open PySem PySem.Calls PyProof.Rows Builtin
section
variable {prog : Program} {w : World} {A : Around} {E : Value → Shared → Prop} {s : Shared} {K : Frag} {x C L f : Addr} {h₀ : Heap} {m : Str → Option Value} {ox : Obj} {od : Option Obj} {b tb : Value}
/-- o != b where the class says __eq__ alone -/
theorem dl_ne {Q : Value → Shared → Prop} (hu : A.units < cLine) (hu1 : A.in1.units < cLine) (F : Fr h₀ L s.heap m) (X₀ : K.In h₀) (I : InstAt s.heap x ox C od) (hb : Looks (model prog w) s.heap (typeOf b) tb) (hn : notFirst K C tb = true)
    (hne : findIn K (.ref C) "__ne__" = some (some (.builtin "object.__ne__"))) (hob : subIn K (.ref C) (.type "object") = some true) (hs : findIn K (.ref C) "__eq__" = some (some (.ref f))) (hf : isFn K (.ref f) = true)
    (h : wpAny (model prog w) A.in1 (call (.ref f) [.ref x, b]) (BoolBack fun r s' => Q (.bool (!r)) s') E s) : wpAny (model prog w) A (richCompare .NotEq (.ref x) b) Q E s := by
  have X := X₀.keeps F.keep
  have S := PySem.F.cmp_object.ne
  have sub : Looks (model prog w) s.heap (isInstance (.ref x) (.type "object")) true := I.type.andThen (looks_subIn X hob)
  have cal : wpAny (model prog w) A (call (.builtin "object.__ne__") [.ref x, b]) (fun v s' => v ≠ .notImplemented ∧ Q v s') E s := by
    obtain ⟨hp, g, d, t, os⟩ := s
    refine wpAny_call (codeAny_call_builtin S.plain PySem.F.cmpEntry_ne (@check_slot (model prog w) _ _ ⟨hp, g, d, t, os⟩ "object.__ne__" "object" "__ne__" (.ref x) [b] [] _ PySem.F.cmpKind_ne PySem.F.cmpSplit_ne sub (PySem.F.cmpArgs_ne (.ref x) b) ?_))
    show wpAny _ _ (Builtin.«object.__ne__» _) _ _ _
    unfold Builtin.«object.__ne__»; refine wpAny_bind (wpAny_of_eq (a := ((Value.ref x : Value), [b])) (by first | rfl | (simp only [slotArgs]; rfl)) (wpAny_bind (wpAny_cRoomFor hu1 (wpAny_bind (ifBound_K X I hs hf (wpAny_mono h (fun r s' hr => ?_) fun _ _ z => z))))))
    cases r with
    | bool b0 => exact wpAny_bind (wpAny_truthy_bool (wpAny_pure ⟨(fun z => nomatch z), hr⟩))
    | _ => exact hr.elim
  have one : wpAny (model prog w) A (tryCompare (.ref x) "__ne__" b) (fun r s' => ∃ v, r = some v ∧ Q v s') E s := by
    have fin : wpAny (model prog w) A (call (.builtin "object.__ne__") ([.ref x] ++ [b]) >>= fun v => pure (some v)) (fun v s' => ∃ u, v = some u ∧ u ≠ .notImplemented ∧ Q u s') E s := wpAny_bind (wpAny_mono cal (fun v s' h' => wpAny_pure ⟨v, rfl, h'⟩) fun _ _ h' => h')
    have ifb : wpAny (model prog w) A (callSpecialIfBound? (.ref x) "__ne__" [b]) (fun v s' => ∃ u, v = some u ∧ u ≠ .notImplemented ∧ Q u s') E s := by
      simp only [callSpecialIfBound?, bindSpecialIfBound?]; refine wpAny_holding (wpAny_bind (wpAny_bind (wpAny_bind (I.type.here ((looks_findIn X hne).here ?_)))))
      simp only [S.bind]; refine wpAny_bind (wpAny_askSetting (wpAny_ite ?_)); split
      · exact wpAny_bind (wpAny_pure (wpAny_pure fin))
      · exact wpAny_tryCatch (wpAny_bind (wpAny_pure (wpAny_pure fin)))
    unfold tryCompare; refine wpAny_bind (wpAny_mono ifb (fun v s' z => ?_) fun _ _ z => z)
    obtain ⟨u, rfl, hu2, hq⟩ := z
    cases u <;> first | exact absurd rfl hu2 | exact wpAny_pure ⟨_, rfl, hq⟩
  unfold richCompare; simp only [oneThing_ref]; refine wpAny_holding (wpAny_bind (wpAny_cRoomFor hu (wpAny_bind (I.type.here (wpAny_bind (hb.here ?_)))))); split
  · rename_i q
    have e : subIn K tb (.ref C) = some false := by
      unfold notFirst at hn; rw [Bool.or_eq_true] at hn
      rcases hn with e | e
      · have e := beq_iff_eq.mp e; subst e; simp at q
      · exact beq_iff_eq.mp e
    refine wpAny_bind ((looks_subIn X e).here ?_); simp only [Bool.false_eq_true, if_false]
    refine wpAny_bind (wpAny_mono one (fun r s' z => ?_) fun _ _ z => z); obtain ⟨v, rfl, hq⟩ := z; exact wpAny_pure hq
  · refine wpAny_bind (wpAny_pure ?_); simp only [Bool.false_eq_true, if_false]
    refine wpAny_bind (wpAny_mono one (fun r s' z => ?_) fun _ _ z => z); obtain ⟨v, rfl, hq⟩ := z; exact wpAny_pure hq
end
end PySem.W
/-! == and != by an own __eq__; isinstance with own classes. -/
namespace DL
open PySem PySem.Spec PyProof.Rows L2
variable {gf gj : Bool}
/-- what x's type is: its built-in name, its own class -/
def TyIs (K : PySem.W.Frag) (mg : Str → Option Value) (H : Hp) (x : V) (t : Value) : Prop := (∃ n : String, n ∈ tyNames ∧ t = .type n ∧ TyX K H x t) ∨ ∃ a c dx fs C, x = .ref a ∧ mg C = some (.ref c) ∧ H a = some (.ins c dx fs) ∧ t = .ref c
section
variable {X : Cx} {W : WX} {k j : Nat} {a b e o : Expr} {f h : Ev D} {pos : Pos} {own : Str → Option Fn} {r : R2} {g : D → D → Store → Option D}
theorem tyIs_looks {pins : List (Addr × Obj)} {σ : L2.St} {H : Hp} {s : Shared} {x : V} {u t : Value} (I : Inv X pins σ H s) (rx : RelV x u) (h : TyIs X.K X.mg H x t) : PySem.W.Looks (model X.prog X.w) s.heap (typeOf u) t := by
  rcases h with ⟨n, hn, rfl, h⟩ | ⟨a, c, dx, fs, C, rfl, hc, ea, rfl⟩
  · obtain ⟨P, K, hP, _⟩ := kit_of I rx h
    exact K.ty _ _ I.kIn hP
  · cases (show u = Value.ref a from rx)
    obtain ⟨od, J⟩ := ins_inst I ea
    exact J.type
/-- the own __eq__ of classes whose objects are compared with built-in values and with their like -/
def EqM (P : Program) (w : World) (K : PySem.W.Frag) (mg : Str → Option Value) (base : Heap) (j : Nat) (own : Str → Option Fn) : Prop :=
  ∀ C mm, own C = some mm → ClsT K mg C ∧ (∀ c, mg C = some (.ref c) → (∀ n ∈ tyNames, PySem.W.notFirst K c (.type n) = true) ∧ PySem.W.findIn K (.ref c) "__ne__" = some (some (.builtin "object.__ne__")) ∧ PySem.W.subIn K (.ref c) (.type "object") = some true) ∧
    ∃ f, MethT K mg C "__eq__" f ∧ FnM P w K mg base j f mm
def rEqO (neg : Bool) (K : PySem.W.Frag) (mg : Str → Option Value) (own : Str → Option Fn) : R2 := fun x y H Q => ∃ mm a c dx fs C t, x = .ref a ∧ mg C = some (.ref c) ∧ own C = some mm ∧ H a = some (.ins c dx fs) ∧ TyIs K mg H y t ∧ (∀ c2, t = .ref c2 → c2 = c) ∧
  spV K mg mm [x, y] H (fun v H' => ∃ b, v = .bl b ∧ Q (.bl (if neg then !b else b)) H') noE
def tyOk (S : Store) (x y : D) : Bool := match clsOf S y with
  | some C => clsOf S x == some C
  | none => match tyName S y with
    | some n => tyNames.contains n
    | none => false
def eEqU (neg : Bool) (own : Str → Option Fn) (g : D → D → Store → Option D) (f h : Ev D) : Ev D := fun ρ S => (f ρ S).bind fun x S => (h ρ S).bind fun y S => match own1 own S x with
  | some mm => if tyOk S x y = true then (noExc (mm [x, y] S)).bind fun r S => match r with
      | .bl b => .ok (.bl (if neg then !b else b)) S
      | _ => .stuck
    else .stuck
  | none => ofO (g x y S) S
theorem run_eq (B : Bod gf X W k) (hw : EqM X.prog X.w X.K X.mg X.base j own) (hj : j + 1 ≤ k) : OpR X (compareOp .Eq) (rEqO false X.K X.mg own) ∧ OpR X (compareOp .NotEq) (rEqO true X.K X.mg own) := by
  constructor
  · intro pins s σ H x y v u Q I rx ry hq
    obtain ⟨mm, a, c0, dx, fs, C, t, rfl, hc, hown, ea, ty, same, q⟩ := hq
    cases (show v = Value.ref a from rx)
    obtain ⟨hcl, hfa, f, hM, F⟩ := hw C mm hown
    have hM := hM c0 hc
    obtain ⟨hnf, hne, hob⟩ := hfa c0 hc
    obtain ⟨od, J⟩ := ins_inst I ea
    obtain ⟨m0, fr⟩ := I.fr
    have hn : PySem.W.notFirst X.K c0 t = true := by
      rcases ty with ⟨n, hn, rfl, _⟩ | ⟨_, c2, _, _, _, _, _, _, rfl⟩
      · exact hnf n hn
      · rw [same c2 rfl]; simp [PySem.W.notFirst]
    show wpAny _ _ (richCompare .Eq _ _) _ _ _
    refine PySem.W.cmp_K (op := .Eq) (tb := t) (B.room.mono hj).units0 fr I.ok.mod.kin J (tyIs_looks I ry ty) hn hM.at_ hM.fn (wpAny_mono (run_in1 (us := [.ref a, u]) (vs := [.ref a, y]) (E' := X.xe) F (B.room.mono (by omega)) I.env0 I (.cons rfl (.cons ry .nil)) q) (fun w s' z => ?_) fun _ _ z => z)
    obtain ⟨v, H', I', rv, b, rfl, q2⟩ := z
    cases (show w = Value.bool b from rv)
    exact ⟨.bl b, H', I', rfl, q2⟩
  · intro pins s σ H x y v u Q I rx ry hq
    obtain ⟨mm, a, c0, dx, fs, C, t, rfl, hc, hown, ea, ty, same, q⟩ := hq
    cases (show v = Value.ref a from rx)
    obtain ⟨hcl, hfa, f, hM, F⟩ := hw C mm hown
    have hM := hM c0 hc
    obtain ⟨hnf, hne, hob⟩ := hfa c0 hc
    obtain ⟨od, J⟩ := ins_inst I ea
    obtain ⟨m0, fr⟩ := I.fr
    have hn : PySem.W.notFirst X.K c0 t = true := by
      rcases ty with ⟨n, hn, rfl, _⟩ | ⟨_, c2, _, _, _, _, _, _, rfl⟩
      · exact hnf n hn
      · rw [same c2 rfl]; simp [PySem.W.notFirst]
    show wpAny _ _ (richCompare .NotEq _ _) _ _ _
    have hr := (B.room.mono hj).in1
    refine PySem.W.dl_ne (tb := t) (B.room.mono hj).units0 hr.units0 fr I.ok.mod.kin J (tyIs_looks I ry ty) hn hne hob hM.at_ hM.fn (wpAny_mono (run_in1 (us := [.ref a, u]) (vs := [.ref a, y]) (E' := X.xe) F hr I.env0.in1 I (.cons rfl (.cons ry .nil)) q) (fun w s' z => ?_) fun _ _ z => z)
    obtain ⟨v, H', I', rv, b, rfl, q2⟩ := z
    cases (show w = Value.bool b from rv)
    exact ⟨.bl (!b), H', I', rfl, q2⟩
theorem eqU_ent {neg : Bool} (he : OpE X.K X.mg r g) : ∀ σ H Q, tD X.K X.mg W (eEqU neg own g f h) σ H Q → tOp (fun x y H Q => r x y H Q ∨ rEqO neg X.K X.mg own x y H Q) (tD X.K X.mg W f) (tD X.K X.mg W h) σ H Q := fun σ H Q ⟨F, A, P, ρ, S, rp, s, q⟩ => by
  refine tD.seq rp s q fun d S1 v H1 F1 A1 x1 r1 s1 d1 h1 => ?_
  have h1 := post_okE x1 h1
  refine tD.seq r1 s1 h1 fun d2 S2 v2 H2 F2 A2 x2 r2 s2 d2' h2 => ?_
  have h2 := post_okE x2 h2
  split at h2
  · rename_i mm e1
    split at h2
    · rename_i hty
      have e1' := e1
      unfold own1 at e1
      split at e1
      · rename_i C fs e3
        obtain ⟨a, c0, dx, vs, rfl, m1, g1, g2⟩ := ins_at r2 (d1.mono x2) e3
        have hx : clsOf S2 d = some C := by unfold clsOf; rw [e3]; rfl
        have ty : ∃ t, TyIs X.K X.mg H2 v2 t ∧ ∀ c2, t = .ref c2 → c2 = c0 := by
          unfold tyOk at hty
          split at hty
          · rename_i C2 e4
            rw [hx] at hty
            have hty := eq_of_beq hty
            cases hty
            unfold clsOf at e4
            rw [Option.map_eq_some_iff] at e4
            obtain ⟨⟨C3, gs⟩, e5, e6⟩ := e4
            cases e6
            obtain ⟨b, c1, dy, ws, rfl, m2, g3, g4⟩ := ins_at r2 d2' e5
            rw [m1] at m2
            cases m2
            exact ⟨.ref c0, .inr ⟨b, c0, dy, ws, _, rfl, m1, g3, rfl⟩, fun c2 z => by cases z; rfl⟩
          · split at hty
            · rename_i n e5
              exact ⟨.type n, .inl ⟨n, by simpa using hty, rfl, tyX_at r2 d2' e5⟩, fun c2 z => by cases z⟩
            · cases hty
        obtain ⟨t, ty, same⟩ := ty
        refine .inr ⟨mm, a, c0, dx, vs, C, t, rfl, m1, e1, g1, ty, same, F2, A2, P, _, S2, r2, .cons (d1.mono x2) (.cons d2' .nil), noExc_post (Out.post_mono (Out.post_bind h2) (fun d3 S3 z v3 H3 F3 A3 x4 r4 d4 => ?_) fun _ _ _ z => z)⟩
        split at z
        · rename_i b0
          cases d4
          exact ⟨b0, rfl, z _ _ _ _ x4 r4 .bl⟩
        · exact z.elim
      · cases e1
    · exact h2.elim
  · obtain ⟨z, e, h3⟩ := ofO_post h2
    exact .inl (he _ _ _ _ _ _ _ _ _ _ _ r2 (d1.mono x2) d2' e h3)
theorem de_eqU (B : Bod gf X W k) (hw : EqM X.prog X.w X.K X.mg X.base j own) (hj : j + 1 ≤ k) (ha : DE X W a f) (hb : DE X W b h) (hm : behindInMarks .Eq b = false := by first | exact nobehind _ (by decide) (by decide) | rfl) : DE X W (.Compare a [.Eq] [b] pos) (eEqU false own gEqH f h) :=
  PE.imp (pe_cmpR (OpR.or (op_eqH (by have := B.hu; omega)) (run_eq B hw hj).1) ha hb hm) (eqU_ent eqH_ent)
theorem de_neU (B : Bod gf X W k) (hw : EqM X.prog X.w X.K X.mg X.base j own) (hj : j + 1 ≤ k) (ha : DE X W a f) (hb : DE X W b h) (hm : behindInMarks .NotEq b = false := by first | exact nobehind _ (by decide) (by decide) | rfl) : DE X W (.Compare a [.NotEq] [b] pos) (eEqU true own gNeH f h) :=
  PE.imp (pe_cmpR (OpR.or (op_neH (by have := B.hu; omega)) (run_eq B hw hj).2) ha hb hm) (eqU_ent neH_ent)
end
end DL
/-! isinstance with own classes; o in an own class; class methods. -/
namespace DL
open PySem PySem.Spec PyProof.Rows L2
variable {gf gj : Bool}
/-- what isinstance asks of an own class's objects -/
structure IsC (K : PySem.W.Frag) (c : Addr) : Prop where
  ha : PySem.W.findIn K (.ref c) "__class__" = some (some (.builtin "object.__class__"))
  hn : PySem.W.specialIn K (.builtin "object.__class__") "__get__" = some (some (.builtin "getset_descriptor.__get__"))
  htk : PySem.W.takesIn K (.builtin "object.__class__") = some true
  hm : PySem.W.mroIn K c (.type "object") = some true
/-- the classes that are asked for, and what is said of own classes -/
structure IsiM (K : PySem.W.Frag) (mg : Str → Option Value) (cs : List Str) (sub : Str → Str → Option Bool) : Prop where
  blt : ∀ C ∈ cs, ∀ c, mg C = some (.ref c) → ∀ n ∈ tyNames, PySem.W.kitOne K (.type n) (.ref c) = some false
  own : ∀ C D b, sub C D = some b → ∀ c d, mg C = some (.ref c) → mg D = some (.ref d) → Cls K c ∧ IsC K c ∧ PySem.W.kitOne K (.ref c) (.ref d) = some b
def gIsiU (cs : List Str) (sub : Str → Str → Option Bool) : List D → Store → Option D := fun xs S => match xs with
  | [x, .cls C] => match clsOf S x with
    | some C' => (sub C' C).map .bl
    | none => match tyName S x with
      | some n => if n ∈ tyNames ∧ C ∈ cs then some (.bl false) else none
      | none => none
  | xs => gIsi xs S
theorem isiU_ent {K mg} {cs : List Str} {sub : Str → Str → Option Bool} (M : IsiM K mg cs sub) : CallE K mg (rIsi K) (gIsiU cs sub) := by
  intro F A P S H xs dx d Q rp hx e k
  unfold gIsiU at e
  split at e
  · rename_i x C
    cases hx with
    | cons h1 h2 =>
      cases h2 with
      | cons h3 h4 =>
        cases h4
        cases h3 with
        | cls hC =>
          split at e
          · rename_i C' e1
            rw [Option.map_eq_some_iff] at e
            obtain ⟨b, e2, rfl⟩ := e
            unfold clsOf at e1
            rw [Option.map_eq_some_iff] at e1
            obtain ⟨⟨C2, fs⟩, e3, e4⟩ := e1
            cases e4
            obtain ⟨a, c, dx, vs, rfl, m1, g1, g2⟩ := ins_at rp h1 e3
            obtain ⟨k1, k2, k3⟩ := M.own _ _ _ e2 _ _ m1 hC
            exact ⟨_, _, _, _, b, rfl, .own _, .base (.ins g1 k1 k2.ha k2.hn k2.htk k2.hm), k3, okE.now k rp .bl⟩
          · split at e
            · rename_i n e1
              split at e
              · rename_i hn
                cases e
                exact ⟨_, _, _, _, false, rfl, .own _, tyX_at rp h1 e1, M.blt C hn.2 _ hC n hn.1, okE.now k rp .bl⟩
              · cases e
            · cases e
  · exact isiG_ent _ _ _ _ _ _ _ _ _ rp hx e k
/-! ### x in o -/
def rInO (neg : Bool) (K : PySem.W.Frag) (mg : Str → Option Value) (own : Str → Option Fn) : R2 := fun x y H Q => ∃ mm, IsOwn1 mg own H y mm ∧ spV K mg mm [y, x] H (fun v H' => ∃ b, v = .bl b ∧ Q (.bl (if neg then !b else b)) H') noE
def eInU (neg : Bool) (own : Str → Option Fn) (g : D → D → Store → Option D) (f h : Ev D) : Ev D := fun ρ S => (f ρ S).bind fun x S => (h ρ S).bind fun y S => match own1 own S y with
  | some mm => (noExc (mm [y, x] S)).bind fun r S => match r with
    | .bl b => .ok (.bl (if neg then !b else b)) S
    | _ => .stuck
  | none => ofO (g x y S) S
section
variable {X : Cx} {W : WX} {k j : Nat} {a b e o : Expr} {es : List Expr} {f h : Ev D} {fa : Ev (List D)} {pos apos : Pos} {own : Str → Option Fn} {r : R2} {g : D → D → Store → Option D} {m : Str}
theorem inU_ent {neg : Bool} (he : OpE X.K X.mg r g) : ∀ σ H Q, tD X.K X.mg W (eInU neg own g f h) σ H Q → tOp (fun x y H Q => r x y H Q ∨ rInO neg X.K X.mg own x y H Q) (tD X.K X.mg W f) (tD X.K X.mg W h) σ H Q := fun σ H Q ⟨F, A, P, ρ, S, rp, s, q⟩ => by
  refine tD.seq rp s q fun d S1 v H1 F1 A1 x1 r1 s1 d1 h1 => ?_
  have h1 := post_okE x1 h1
  refine tD.seq r1 s1 h1 fun d2 S2 v2 H2 F2 A2 x2 r2 s2 d2' h2 => ?_
  have h2 := post_okE x2 h2
  split at h2
  · rename_i mm e1
    refine .inr ⟨mm, own1_at r2 d2' e1, F2, A2, P, _, S2, r2, .cons d2' (.cons (d1.mono x2) .nil), noExc_post (Out.post_mono (Out.post_bind h2) (fun d3 S3 z v3 H3 F3 A3 x4 r4 d4 => ?_) fun _ _ _ z => z)⟩
    split at z
    · rename_i b0
      cases d4
      exact ⟨b0, rfl, z _ _ _ _ x4 r4 .bl⟩
    · exact z.elim
  · obtain ⟨z, e, h3⟩ := ofO_post h2
    exact .inl (he _ _ _ _ _ _ _ _ _ _ _ r2 (d1.mono x2) d2' e h3)
theorem run_in (B : Bod gf X W k) (hw : OwnM X.prog X.w X.K X.mg X.base "__contains__" j own) (hj : j ≤ k) : OpR X (compareOp .In) (rInO false X.K X.mg own) ∧ OpR X (compareOp .NotIn) (rInO true X.K X.mg own) := by
  constructor
  · intro pins s σ H x y v u Q I rx ry hq
    obtain ⟨mm, ⟨a, c0, dx, fs, C, rfl, hc, hown, ea⟩, q⟩ := hq
    cases (show u = Value.ref a from ry)
    obtain ⟨hcl, f, hM, F⟩ := hw C mm hown
    have hM := hM c0 hc
    obtain ⟨od, J⟩ := ins_inst I ea
    obtain ⟨m0, fr⟩ := I.fr
    refine PySem.W.in_K fr I.ok.mod.kin J hM.at_ hM.fn (wpAny_mono (run_in1 (us := [.ref a, v]) (vs := [.ref a, x]) (E' := X.xe) F (B.room.mono hj) I.env0 I (.cons rfl (.cons rx .nil)) q) (fun w s' z => ?_) fun _ _ z => z)
    obtain ⟨v, H', I', rv, b, rfl, q2⟩ := z
    cases (show w = Value.bool b from rv)
    exact wpAny_truthy_bool ⟨.bl b, H', I', rfl, q2⟩
  · intro pins s σ H x y v u Q I rx ry hq
    obtain ⟨mm, ⟨a, c0, dx, fs, C, rfl, hc, hown, ea⟩, q⟩ := hq
    cases (show u = Value.ref a from ry)
    obtain ⟨hcl, f, hM, F⟩ := hw C mm hown
    have hM := hM c0 hc
    obtain ⟨od, J⟩ := ins_inst I ea
    obtain ⟨m0, fr⟩ := I.fr
    refine PySem.W.notIn_K fr I.ok.mod.kin J hM.at_ hM.fn (wpAny_mono (run_in1 (us := [.ref a, v]) (vs := [.ref a, x]) (E' := X.xe) F (B.room.mono hj) I.env0 I (.cons rfl (.cons rx .nil)) q) (fun w s' z => ?_) fun _ _ z => z)
    obtain ⟨v, H', I', rv, b, rfl, q2⟩ := z
    cases (show w = Value.bool b from rv)
    exact wpAny_truthy_bool ⟨.bl (!b), H', I', rfl, q2⟩
theorem de_inU (B : Bod gf X W k) (hw : OwnM X.prog X.w X.K X.mg X.base "__contains__" j own) (hj : j ≤ k) (ha : DE X W a f) (hb : DE X W b h) (hm : behindInMarks .In b = false := by first | exact nobehind _ (by decide) (by decide) | rfl) : DE X W (.Compare a [.In] [b] pos) (eInU false own gIn f h) :=
  PE.imp (pe_cmpR (OpR.or (op_inG B.hu) (run_in B hw hj).1) ha hb hm) (inU_ent inG_ent)
theorem de_notInU (B : Bod gf X W k) (hw : OwnM X.prog X.w X.K X.mg X.base "__contains__" j own) (hj : j ≤ k) (ha : DE X W a f) (hb : DE X W b h) (hm : behindInMarks .NotIn b = false := by first | exact nobehind _ (by decide) (by decide) | rfl) : DE X W (.Compare a [.NotIn] [b] pos) (eInU true own gNotIn f h) :=
  PE.imp (pe_cmpR (OpR.or (op_notInG B.hu) (run_in B hw hj).2) ha hb hm) (inU_ent notInG_ent)
/-! ### C.m(..), m a class method -/
structure CMetT (K : PySem.W.Frag) (mg : Str → Option Value) (C m : Str) (g : Addr) : Prop where
  at_ : ∀ c, mg C = some (.ref c) → ∃ mc p, ClX.CRead K c mc ∧ ClX.CMet K c mc m p g
def eCMeth (C : Str) (mm : Fn) (fo : Ev D) (fa : Ev (List D)) : Ev D := fun ρ S => (fo ρ S).bind fun o S => match o with
  | .cls C' => if C' = C then (fa ρ S).bind fun ds S => mm (.cls C :: ds) S else .stuck
  | _ => .stuck
theorem de_cmeth {pl : Sem Bool} {C : Str} {gg : Addr} {mm : Fn} (B : Bod gf X W k) (hc : CMetT X.K X.mg C m gg) (F : FnM X.prog X.w X.K X.mg X.base j gg mm) (hj : j ≤ k) (ho : DE X W o f) (ha : DA X W (e :: es) fa)
    (hst : starEach (e :: es) X.env = (false, eval e X.env) :: starEach es X.env := by rfl) (hpl : (backTo pos (starEach es X.env)).any (·.1) = false := by rfl)
    (ht : eval (.Call (.Attribute o m apos) (e :: es) [] pos) X.env = (do
      let ov ← eval o X.env
      standAt apos.atName
      let (f, first) ← holding [ov] (getMethod ov m pl)
      callWith pos f first (backTo pos (starEach (e :: es) X.env)) (backToKw pos (keywordEach [] X.env))) := by rfl) : DE X W (.Call (.Attribute o m apos) (e :: es) [] pos) (eCMeth C mm f fa) := by
  refine ⟨fun pins s σ H Q I w => PySem.W.methodCall_KW (pl := pl) (thn (ho.run pins s σ H (fun x H1 => ∃ c, x = .ref c ∧ X.mg C = some (.ref c) ∧ tDA X.K X.mg W fa σ H1 fun vs H2 => spV X.K X.mg mm (.ref c :: vs) H2 Q (WE W σ)) I ?_) ?_) ht⟩
  · obtain ⟨F1, A, P, ρ, S, rp, sl, q⟩ := w
    refine tD.seq rp sl q fun d S1 v H1 F1 A1 x1 r1 s1 d1 h1 => ?_
    split at h1
    · rename_i C'
      split at h1
      · rename_i hC
        subst hC
        cases d1 with
        | cls hm =>
          refine ⟨_, rfl, hm, ?_⟩
          have h1 := post_okE x1 h1
          refine tDA.seq r1 s1 h1 fun ds S2 ws H2 F2 A2 x2 r2 s2 d2 h4 => ?_
          exact ⟨F2, A2, P, _, S2, r2, .cons (.cls hm) d2, post_okE x2 h4⟩
      · exact h1.elim
    · exact h1.elim
  · rintro u s1 ⟨x, H1, I1, rx, c, rfl, hC, q⟩
    cases (show u = Value.ref c from rx)
    obtain ⟨mc, p, r, cm⟩ := hc.at_ c hC
    refine ClX.getmethcm_ok I1 r cm fun s2 I2 => ?_
    refine ClX.callwith_cm I2 (ClX.base_none I1 (Nat.le_refl _)) cm.fi (thn (ha.run pos _ s2 σ H1 _ I2 q) ?_) hst hpl
    rintro us s3 ⟨vs, H2, I3, rv, q2⟩
    refine ⟨⟨ClX.pin_at I3, I3.kIn⟩, ?_⟩
    have z : wpAny (model X.prog X.w) X.A (call (.ref s1.heap.objs.size) us) (EP X ((s1.heap.objs.size, PySem.W.methodObj (.ref gg) (.ref c)) :: pins) σ Q) X.xe s3 :=
      wpAny_call (PySem.W.method_call (ClX.pin_at I3) (run_at' (us := .ref c :: us) (vs := .ref c :: vs) B.tk F (B.room.mono hj) I3.env0 I3 (.cons rfl rv) q2))
    exact thn z fun _ _ y => ClX.unpinE y
end
end DL
/-! f-strings; str and repr of what may be an own object. -/
namespace DL
open PySem PySem.Spec PyProof.Rows L2
variable {gf gj : Bool}
/-- {e} -/
def eFmt (f : Ev D) : Ev D := fun ρ S => (f ρ S).bind fun d S => match d with
  | .str z => if z.length ≤ 16777216 then .ok (.str z) S else .stuck
  | .int i => if i.natAbs.log2 < 1920 then .ok (.str (toString i)) S else .stuck
  | _ => .stuck
/-- the parts, one behind the other -/
def evJ : List (Ev D) → Str → Ev Str
  | [], acc => fun _ S => .ok acc S
  | f :: fs, acc => fun ρ S => (f ρ S).bind fun d S => match d with
    | .str z => if (acc ++ z).length ≤ 16777216 then evJ fs (acc ++ z) ρ S else .stuck
    | _ => .stuck
def eJoined (fs : List (Ev D)) : Ev D := fun ρ S => (evJ fs Str.empty ρ S).bind fun z S => .ok (.str z) S
section
variable {X : Cx} {W : WX} {k j : Nat} {e v1 v2 : Expr} {es : List Expr} {f : Ev D} {fa : Ev (List D)} {pos p : Pos} {own : Str → Option Fn}
theorem de_fmt (h : DE X W e f) : DE X W (.FormattedValue e (-1) none pos) (eFmt f) := PE.imp (pe_fmt h) fun σ H Q ⟨F, A, P, ρ, S, rp, s, q⟩ => by
  refine tD.seq rp s q fun d S1 v H1 F1 A1 x1 r1 s1 d1 h1 => ?_
  split at h1
  · split at h1
    · rename_i hl
      cases d1
      exact .inl ⟨_, rfl, len_le hl, h1 _ _ _ _ x1 r1 .str⟩
    · exact h1.elim
  · split at h1
    · rename_i hl
      cases d1
      exact .inr ⟨_, rfl, hl, h1 _ _ _ _ x1 r1 .str⟩
    · exact h1.elim
  · exact h1.elim
/-- the parts' judgements -/
inductive DJ (X : Cx) (W : WX) : List Expr → List (Ev D) → Prop where
  | nil : DJ X W [] []
  | cons {e : Expr} {f : Ev D} {es : List Expr} {fs : List (Ev D)} (h : DE X W e f) (r : DJ X W es fs) : DJ X W (e :: es) (f :: fs)
theorem DJ.pj {es : List Expr} {fs : List (Ev D)} (h : DJ X W es fs) : PJ X es (fs.map fun f => tD X.K X.mg W f) := by
  induction h with
  | nil => exact .nil
  | cons h r ih => exact .cons h ih
theorem joined_ent : ∀ (fs : List (Ev D)) (acc : Str) (σ : L2.St) (H : Hp) (Q : Str → Hp → Prop), (∃ F A P ρ S, Rep X.K X.mg F A S P H ∧ Slots X.K X.mg F A σ ρ ∧ (evJ fs acc ρ S).post (fun z S' => ∀ H' F' A', Ext F A F' A' → Rep X.K X.mg F' A' S' P H' → Q z H') (exE X.K X.mg F A P fun c d H' => W c d σ H')) →
    tJs (fs.map fun f => tD X.K X.mg W f) acc σ H Q := by
  intro fs
  induction fs with
  | nil =>
    intro acc σ H Q ⟨F, A, P, ρ, S, rp, s, q⟩
    exact q H F A (Ext.refl F A) rp
  | cons f fs ih =>
    intro acc σ H Q ⟨F, A, P, ρ, S, rp, s, q⟩
    show tD X.K X.mg W f σ H _
    refine tD.seq rp s q fun d S1 v H1 F1 A1 x1 r1 s1 d1 h1 => ?_
    split at h1
    · rename_i z
      split at h1
      · rename_i hl
        cases d1
        refine ⟨z, rfl, len_le hl, ih _ _ _ _ ⟨F1, A1, P, ρ, S1, r1, s1, Out.post_mono h1 (fun z' S2 w H' F' A' x r => w H' F' A' (x1.trans x) r) fun _ _ _ w => exE.ext x1 w⟩⟩
      · exact h1.elim
    · exact h1.elim
theorem de_joined {fs : List (Ev D)} (h : DJ X W (v1 :: v2 :: es) fs) : DE X W (.JoinedStr (v1 :: v2 :: es) pos) (eJoined fs) := PE.imp (pe_joined h.pj) fun σ H Q ⟨F, A, P, ρ, S, rp, s, q⟩ =>
  joined_ent fs Str.empty σ H _ ⟨F, A, P, ρ, S, rp, s, Out.post_mono (Out.post_bind q) (fun z S1 w H' F' A' x r => w _ _ _ _ x r .str) fun _ _ _ w => w⟩
/-- str(e): a text, a whole number, an own object -/
def eStrU (own : Str → Option Fn) (f : Ev (List D)) : Ev D := fun ρ S => (f ρ S).bind fun xs S => match xs with
  | [o] => match own1 own S o with
    | some mm => (noExc (mm [o] S)).bind fun r S => match r with
      | .str z => .ok (.str z) S
      | _ => .stuck
    | none => match o with
      | .str z => .ok (.str z) S
      | .int i => if i.natAbs.log2 < 1920 then .ok (.str (toString i)) S else .stuck
      | _ => .stuck
  | _ => .stuck
def rStrU (K : PySem.W.Frag) (mg : Str → Option Value) (own : Str → Option Fn) : List V → Hp → VK → Prop := fun xs H Q => (∃ i, xs = [.int i] ∧ i.natAbs.log2 < 1920 ∧ Q (.str (toString i)) H) ∨ (∃ a, xs = [.str a] ∧ Q (.str a) H) ∨ rStrO K mg own xs H Q
theorem strU_ent : ∀ σ H Q, tD X.K X.mg W (eStrU own fa) σ H Q → tCB (rStrU X.K X.mg own) (tDA X.K X.mg W fa) σ H Q := fun σ H Q ⟨F, A, P, ρ, S, rp, s, q⟩ => by
  refine tDA.seq rp s q fun ds S1 vs H1 F1 A1 x1 r1 s1 d1 h1 => ?_
  have h1 := post_okE x1 h1
  split at h1
  · rename_i o
    cases d1 with
    | cons do_ d2 =>
      cases d2
      split at h1
      · rename_i mm e1
        refine .inr (.inr ⟨_, mm, rfl, own1_at r1 do_ e1, F1, A1, P, _, S1, r1, .cons do_ .nil, noExc_post (Out.post_mono (Out.post_bind h1) (fun d S2 z v H2 F2 A2 x4 r4 d4 => ?_) fun _ _ _ z => z)⟩)
        split at z
        · cases d4
          exact ⟨_, rfl, z _ _ _ _ x4 r4 .str⟩
        · exact z.elim
      · split at h1
        · cases do_
          exact .inr (.inl ⟨_, rfl, okE.now h1 r1 .str⟩)
        · split at h1
          · rename_i hl
            cases do_
            exact .inl ⟨_, rfl, hl, okE.now h1 r1 .str⟩
          · exact h1.elim
        · exact h1.elim
  · exact h1.elim
theorem de_strU (B : Bod gf X W k) (hw : OwnM X.prog X.w X.K X.mg X.base "__str__" j own) (hj : j + 2 ≤ k) (hg : Gl X "str") (hm : X.mg "str" = none) (ha : DA X W (e :: es) fa)
    (he : starEach (e :: es) X.env = (false, eval e X.env) :: starEach es X.env := by rfl) (hpl : (backTo pos (starEach es X.env)).any (·.1) = false := by rfl) : DE X W (.Call (.Name "str" p) (e :: es) [] pos) (eStrU own fa) :=
  PE.imp (pe_callTy (CallR.or call_str_int (CallR.or SkE.call_str_str (call_strO B hw hj))) hg hm boot_str ha (by decide) (by decide) he hpl) strU_ent
/-- repr(e): data, or an own object -/
def rRepO (K : PySem.W.Frag) (mg : Str → Option Value) (own : Str → Option Fn) : List V → Hp → VK → Prop := fun xs H Q => ∃ x mm, xs = [x] ∧ IsOwn1 mg own H x mm ∧ spV K mg mm [x] H (fun v H' => ∃ z : Str, v = .str z ∧ Q (.str z) H') noE
theorem call_repO (B : Bod gf X W k) (hw : OwnM X.prog X.w X.K X.mg X.base "__repr__" j own) (hj : j + 1 ≤ k) : CallR X (.builtin "repr") (rRepO X.K X.mg own) := by
  intro pins s σ H xs us Q I r h
  obtain ⟨x, mm, rfl, ⟨a, c0, dx, fs, C, rfl, hc, hown, ea⟩, q⟩ := h
  obtain ⟨u, rfl, ru⟩ := vals1 r
  cases (show u = Value.ref a from ru)
  obtain ⟨hcl, f, hM, F⟩ := hw C mm hown
  have hM := hM c0 hc
  obtain ⟨od, J⟩ := ins_inst I ea
  obtain ⟨m0, fr⟩ := I.fr
  have hr := (B.room.mono hj).in1
  refine PySem.W.repr_K hr.units0 fr I.ok.mod.kin J hM.at_ hM.fn (wpAny_mono (run_in1 (us := [.ref a]) (vs := [.ref a]) (E' := X.xe) F hr I.env0.in1 I (.cons rfl .nil) q) (fun w s' z => ?_) fun _ _ z => z)
  obtain ⟨v, H', I', rv, n, rfl, q2⟩ := z
  obtain ⟨t, rfl⟩ := rv
  exact ⟨.str n, H', I', ⟨_, rfl⟩, q2⟩
def eRepU (own : Str → Option Fn) (f : Ev (List D)) : Ev D := fun ρ S => (f ρ S).bind fun xs S => match xs with
  | [o] => match own1 own S o with
    | some mm => (noExc (mm [o] S)).bind fun r S => match r with
      | .str z => .ok (.str z) S
      | _ => .stuck
    | none => ofO (gRepr [o] S) S
  | _ => .stuck
theorem repU_ent (B : Bod true X W k) : ∀ σ H Q, tD X.K X.mg W (eRepU own fa) σ H Q → tCB (fun xs H Q => rRepr X xs H Q ∨ rRepO X.K X.mg own xs H Q) (tDA X.K X.mg W fa) σ H Q := fun σ H Q ⟨F, A, P, ρ, S, rp, s, q⟩ => by
  refine tDA.seq rp s q fun ds S1 vs H1 F1 A1 x1 r1 s1 d1 h1 => ?_
  have h1 := post_okE x1 h1
  split at h1
  · rename_i o
    cases d1 with
    | cons do_ d2 =>
      cases d2
      split at h1
      · rename_i mm e1
        refine .inr ⟨_, mm, rfl, own1_at r1 do_ e1, F1, A1, P, _, S1, r1, .cons do_ .nil, noExc_post (Out.post_mono (Out.post_bind h1) (fun d S2 z v H2 F2 A2 x4 r4 d4 => ?_) fun _ _ _ z => z)⟩
        split at z
        · cases d4
          exact ⟨_, rfl, z _ _ _ _ x4 r4 .str⟩
        · exact z.elim
      · obtain ⟨z, e, h3⟩ := ofO_post h1
        exact .inl (reprG_ent B _ _ _ _ _ _ _ _ _ r1 (.cons do_ .nil) e h3)
  · exact h1.elim
theorem de_repU (B : Bod true X W k) (hw : OwnM X.prog X.w X.K X.mg X.base "__repr__" j own) (hj : j + 1 ≤ k) (hg : Gl X "repr") (hm : X.mg "repr" = none) (ha : DA X W (e :: es) fa)
    (he : starEach (e :: es) X.env = (false, eval e X.env) :: starEach es X.env := by rfl) (hpl : (backTo pos (starEach es X.env)).any (·.1) = false := by rfl) : DE X W (.Call (.Name "repr" p) (e :: es) [] pos) (eRepU own fa) :=
  PE.imp (pe_callB (CallR.or (call_reprG B) (call_repO B hw hj)) hg hm boot_repr ha (by decide) (by decide) he hpl) (repU_ent B)
end
end DL
/-! What is never reached; facts of classes put together. -/
namespace DL
open PySem PySem.Spec PyProof.Rows L2
variable {gf gj : Bool}
def sStuck : Stm := fun _ _ => .stuck
def eStuck : Ev D := fun _ _ => .stuck
section
variable {X : Cx} {W : WX}
theorem ds_stuck {st : Stmt} : DS X W st sStuck := ⟨fun pins s σ H D I ⟨F, A, P, ρ, S, rp, sl, q⟩ => q.elim⟩
theorem dss_stuck {st : List Stmt} : DSs X W st sStuck := ⟨fun pins s σ H D I ⟨F, A, P, ρ, S, rp, sl, q⟩ => q.elim⟩
theorem de_stuck {e : Expr} : DE X W e eStuck := ⟨fun pins s σ H Q I ⟨F, A, P, ρ, S, rp, sl, q⟩ => q.elim⟩
end
section
variable {P : Program} {w : World} {K : PySem.W.Frag} {mg : Str → Option Value} {base : Heap} {C f m : Str} {c : Addr} {j k : Nat} {mm : Fn} {g p : Addr} {own : Str → Option Fn}
theorem clsT_mk (h : mg C = some (.ref c)) (h1 : PySem.W.plainGet K c Str.empty = true) (h2 : PySem.W.hasDictIn K c = true) (h3 : PySem.W.plainOver K c = true) (h4 : PySem.W.findIn K (.ref c) "__setattr__" = some (some (.builtin "object.__setattr__"))) : ClsT K mg C :=
  fun c' e => by rw [h] at e; cases e; exact ⟨h1, h2, h3, h4⟩
theorem noAt_mk (h : mg C = some (.ref c)) (n : PySem.W.findIn K (.ref c) f = some none) : NoAt K mg C f := fun c' e => by rw [h] at e; cases e; exact n
theorem fldM_nil : FldM K mg f [] := fun _ h => by cases h
theorem fldM_cons {cs : List Str} (c1 : ClsT K mg C) (n : NoAt K mg C f) (r : FldM K mg f cs) : FldM K mg f (C :: cs) := fun D h => by
  rcases List.mem_cons.mp h with rfl | h
  · exact ⟨c1, n⟩
  · exact r D h
theorem methT_mk (h : mg C = some (.ref c)) (h1 : PySem.W.findIn K (.ref c) m = some (some (.ref g))) (h2 : PySem.W.isFn K (.ref g) = true) (h3 : PySem.W.keepIn K (.ref g) = true) : MethT K mg C m g := fun c' e => by rw [h] at e; cases e; exact ⟨h1, h2, h3⟩
theorem propT_mk {rest : List Value} (h : mg C = some (.ref c)) (h1 : PySem.W.findIn K (.ref c) m = some (some (.ref p))) (h2 : PySem.W.specialIn K (.ref p) "__get__" = some (some (.builtin "property.__get__"))) (h3 : PySem.W.takesIn K (.ref p) = some true) (h4 : PySem.W.recIn K p "property" = some (.ref g :: rest)) :
    ∀ c, mg C = some (.ref c) → PropOf K c m p g := fun c' e => by rw [h] at e; cases e; exact ⟨h1, h2, h3, rest, h4⟩
theorem cmetT_mk {rest : List Value} {mc : Value} (h : mg C = some (.ref c)) (h1 : PySem.W.readsIn K c mc = true) (h2 : PySem.W.specialIn K (.ref c) "__getattribute__" = some (some (.builtin "type.__getattribute__"))) (h3 : PySem.W.findCls K (.ref c) mc m = some (.get (.builtin "classmethod.__get__") (.ref p) .none (.ref c)))
    (h4 : PySem.W.recIn K p "classmethod" = some (.ref g :: rest)) (h5 : PySem.W.fnIn K g = true) : CMetT K mg C m g := ⟨fun c' e => by rw [h] at e; cases e; exact ⟨mc, p, ⟨h1, h2⟩, ⟨h3, ⟨rest, h4⟩, h5⟩⟩⟩
/-- one class alone -/
def one (C : Str) (mm : Fn) : Str → Option Fn := fun D => if D = C then some mm else none
/-- .. one more -/
def more (C : Str) (mm : Fn) (own : Str → Option Fn) : Str → Option Fn := fun D => if D = C then some mm else own D
def none' : Str → Option Fn := fun _ => none
theorem ownM_nil : OwnM P w K mg base m j none' := fun _ _ h => by cases h
theorem ownM_more (c1 : ClsT K mg C) (h : MethT K mg C m g) (F : FnM P w K mg base k g mm) (hk : k ≤ j) (r : OwnM P w K mg base m j own) : OwnM P w K mg base m j (more C mm own) := fun D m2 e => by
  unfold more at e
  split at e
  · rename_i hD
    subst hD; cases e
    exact ⟨c1, g, h, F.mono hk⟩
  · exact r D m2 e
theorem propM_nil : PropM P w K mg base m j none' := fun _ _ h => by cases h
theorem propM_more (c1 : ClsT K mg C) (h : ∀ c, mg C = some (.ref c) → PropOf K c m p g) (F : FnM P w K mg base k g mm) (hk : k ≤ j) (r : PropM P w K mg base m j own) : PropM P w K mg base m j (more C mm own) := fun D m2 e => by
  unfold more at e
  split at e
  · rename_i hD
    subst hD; cases e
    exact ⟨c1, p, g, h, F.mono hk⟩
  · exact r D m2 e
theorem ixM_nil : IxM P w K mg base j none' := fun _ _ h => by cases h
theorem ixM_more (c1 : ClsT K mg C) (h : MethT K mg C "__getitem__" g) (hf : PySem.W.fnIn K g = true) (F : FnM P w K mg base k g mm) (hk : k ≤ j) (r : IxM P w K mg base j own) : IxM P w K mg base j (more C mm own) := fun D m2 e => by
  unfold more at e
  split at e
  · rename_i hD
    subst hD; cases e
    exact ⟨c1, g, h, hf, F.mono hk⟩
  · exact r D m2 e
theorem addM_nil : AddM P w K mg base m j none' := fun _ _ h => by cases h
theorem addM_more (hc : mg C = some (.ref c)) (c1 : ClsT K mg C) (hs : PySem.W.selfFirst K c = true) (h : MethT K mg C m g) (F : FnM P w K mg base k g mm) (hk : k ≤ j) (r : AddM P w K mg base m j own) : AddM P w K mg base m j (more C mm own) := fun D m2 e => by
  unfold more at e
  split at e
  · rename_i hD
    subst hD; cases e
    exact ⟨c1, fun c' z => by rw [hc] at z; cases z; exact hs, g, h, F.mono hk⟩
  · exact r D m2 e
theorem eqM_nil : EqM P w K mg base j none' := fun _ _ h => by cases h
theorem eqM_more (hc : mg C = some (.ref c)) (c1 : ClsT K mg C) (h1 : PySem.W.notFirst K c (.type "NoneType") = true) (h2 : PySem.W.notFirst K c (.type "bool") = true) (h3 : PySem.W.notFirst K c (.type "int") = true) (h4 : PySem.W.notFirst K c (.type "str") = true)
    (h5 : PySem.W.notFirst K c (.type "tuple") = true) (h6 : PySem.W.notFirst K c (.type "list") = true) (h7 : PySem.W.notFirst K c (.type "dict") = true) (hne : PySem.W.findIn K (.ref c) "__ne__" = some (some (.builtin "object.__ne__"))) (hob : PySem.W.subIn K (.ref c) (.type "object") = some true)
    (h : MethT K mg C "__eq__" g) (F : FnM P w K mg base k g mm) (hk : k ≤ j) (r : EqM P w K mg base j own) : EqM P w K mg base j (more C mm own) := fun D m2 e => by
  unfold more at e
  split at e
  · rename_i hD
    subst hD; cases e
    refine ⟨c1, fun c' z => ?_, g, h, F.mono hk⟩
    rw [hc] at z; cases z
    refine ⟨fun n hn => ?_, hne, hob⟩
    simp only [tyNames, List.mem_cons, List.not_mem_nil, or_false] at hn
    rcases hn with rfl | rfl | rfl | rfl | rfl | rfl | rfl <;> assumption
  · exact r D m2 e
/-- isinstance: one own class -/
def sub1 (C : Str) : Str → Str → Option Bool := fun A B => if A = C ∧ B = C then some true else none
theorem isiM_one (hc : mg C = some (.ref c)) (c1 : ClsT K mg C) (h1 : PySem.W.kitOne K (.type "NoneType") (.ref c) = some false) (h2 : PySem.W.kitOne K (.type "bool") (.ref c) = some false) (h3 : PySem.W.kitOne K (.type "int") (.ref c) = some false) (h4 : PySem.W.kitOne K (.type "str") (.ref c) = some false)
    (h5 : PySem.W.kitOne K (.type "tuple") (.ref c) = some false) (h6 : PySem.W.kitOne K (.type "list") (.ref c) = some false) (h7 : PySem.W.kitOne K (.type "dict") (.ref c) = some false) (hs : IsC K c) : IsiM K mg [C] (sub1 C) := by
  refine ⟨fun D hD c' e n hn => ?_, fun A B b e c' d e1 e2 => ?_⟩
  · rw [List.mem_singleton.mp hD, hc] at e; cases e
    simp only [tyNames, List.mem_cons, List.not_mem_nil, or_false] at hn
    rcases hn with rfl | rfl | rfl | rfl | rfl | rfl | rfl <;> assumption
  · unfold sub1 at e
    split at e
    · rename_i hh
      obtain ⟨rfl, rfl⟩ := hh
      cases e
      rw [e1] at e2; cases e2
      have z := e1
      rw [hc] at z; cases z
      exact ⟨c1 c hc, hs, by unfold PySem.W.kitOne; simp⟩
    · cases e
end
end DL
/-! split, enumerate -/
namespace DL
open PySem PySem.Spec PyProof.Rows L2
variable {gf gj : Bool}
theorem Dats.strs {K mg F A} : ∀ (ns : List Str), Dats K mg F A (ns.map V.str) (ns.map D.str)
  | [] => .nil
  | _ :: r => .cons .str (Dats.strs r)
/-- a.split(b) -/
def eSplit (f g : Ev D) : Ev D := fun ρ S => (f ρ S).bind fun x S => match x with
  | .str a => (g ρ S).bind fun y S => match y with
    | .str b => if (b.length == 0) = false ∧ a.length ≤ 10000000 then .ok (.list ((Txt.split a b).map .str)) S else .stuck
    | _ => .stuck
  | _ => .stuck
def enumD (xs : List D) : List D := (List.range xs.length).map fun (i : Nat) => D.tup [.int (i : Int), xs.getD i .non]
/-- for i, x in enumerate(list) -/
def iEnumD (f : Ev D) : Ev (List D) := fun ρ S => (f ρ S).bind fun d S => match d with
  | .rd xs => .ok (enumD xs) S
  | .list xs => .ok (enumD xs) S
  | _ => .stuck
section
variable {X : Cx} {W : WX} {o e : Expr} {es elts : List Expr} {f g : Ev D} {pos apos p tpos : Pos} {kk : Nat}
theorem de_split (ho : DE X W o f) (he : DE X W e g) (hs : starEach [e] X.env = [(false, eval e X.env)] := by rfl) (hbase : attributeBase o "split" X.env (eval o X.env) = eval o X.env := by rfl) (hline : (apos.endLine == pos.line) = true := by rfl) :
    DE X W (.Call (.Attribute o "split" apos) [e] [] pos) (eSplit f g) := PE.imp (pe_split ho he (hs := hs) (hbase := hbase) (hline := hline)) fun σ H Q ⟨F, A, P, ρ, S, rp, s, q⟩ => by
  refine tD.seq rp s q fun d S1 v H1 F1 A1 x1 r1 s1 d1 h1 => ?_
  have h1 := post_okE x1 h1
  cases d with
  | str a =>
    cases d1
    refine ⟨⟨_, rfl⟩, tD.seq r1 s1 h1 fun d2 S2 v2 H2 F2 A2 x2 r2 s2 d2' h2 => ?_⟩
    split at h2
    · rename_i b
      split at h2
      · rename_i hh
        cases d2'
        refine ⟨a, b, rfl, rfl, hh.1, ?_, fun p hp => ?_⟩
        · have := len_le (n := a.length + 2) (by omega); exact this
        · obtain ⟨x3, r3⟩ := r2.frz (o := .lst ((Txt.split a b).map V.str)) hp
          exact h2 _ _ _ _ (x2.trans x3) r3 (.list upd_same (Dats.strs _))
      · exact h2.elim
    · exact h2.elim
  | _ => exact h1.elim
theorem enumD_get {xs : List D} {i : Nat} {d : D} (h : (enumD xs)[i]? = some d) : ∃ x, xs[i]? = some x ∧ d = .tup [.int (i : Int), x] := by
  unfold enumD at h
  rw [List.getElem?_map] at h
  by_cases hi : i < xs.length
  · rw [List.getElem?_range hi] at h
    refine ⟨xs[i], by simp [hi], ?_⟩
    have := (Option.some.inj h).symm
    rw [this]
    simp [List.getD, hi]
  · rw [List.getElem?_eq_none (by simpa using hi)] at h; cases h
theorem enumD_len {xs : List D} : (enumD xs).length = xs.length := by simp [enumD]
theorem ite_ok {K mg F A a} {vs : List V} {ds : List D} (h : SqL K F a vs) (r : Dats K mg F A vs ds) : ItOk K mg (Ite K a) F A (enumD ds) where
  go := fun F' A' P S H i x rp hi => ⟨vs, vs[i]'(by rw [r.length, ← enumD_len]; exact hi), sql_mono (x.f.trans rp.le) h, by simp⟩
  yld := fun F' A' P S H i y H' d x rp hy hd => by
    obtain ⟨T, z, rfl, hT, rfl, hz⟩ := hy
    have e := hz vs (sql_mono (x.f.trans rp.le) h)
    obtain ⟨w, e1, rfl⟩ := enumD_get hd
    obtain ⟨v, e2, e3⟩ := r.get e1
    rw [e] at e2; cases e2
    obtain ⟨x2, r2⟩ := rp.frz (o := .tup [.int (i : Nat), z]) hT
    exact ⟨_, x2, r2, .tup (SqT.of upd_same) (.cons .int (.cons ((e3.mono x).mono x2) .nil))⟩
  stop := fun F' A' P S H i x rp hi => ⟨vs, sql_mono (x.f.trans rp.le) h, by rw [r.length, ← enumD_len]; exact hi⟩
theorem di_enum (ha : DE X W e f) (hg : Gl X "enumerate") (hm : X.mg "enumerate" = none) (hs : starEach [e] X.env = [(false, eval e X.env)] := by rfl) : DI X W (.Tuple elts kk tpos) (.Call (.Name "enumerate" p) [e] [] pos) (iEnumD f) :=
  PI.imp (pi_enum hg hm (pa_cons ha pa_nil hs) hs) fun σ H R ⟨F, A, P, ρ, S, rp, s, q⟩ =>
    tD.seq rp s q fun d S1 v H1 F1 A1 x1 r1 s1 d1 h1 => by
      split at h1
      · cases d1 with
        | rd h2 h3 => exact ⟨_, _, rfl, sql_mono r1.le h2, h1 _ _ _ _ x1 r1 (ite_ok h2 h3)⟩
      · cases d1 with
        | list h2 h3 => exact ⟨_, _, rfl, SqL.of (r1.le _ _ h2), h1 _ _ _ _ x1 r1 (ite_ok (SqL.of h2) h3)⟩
      · exact h1.elim
/-! the same comparisons as tests -/
variable {a b : Expr} {h : Ev D} {k j : Nat} {own : Str → Option Fn}
theorem dt_eqU (B : Bod gf X W k) (hw : EqM X.prog X.w X.K X.mg X.base j own) (hj : j + 1 ≤ k) (ha : DE X W a f) (hb : DE X W b h) (hm : behindInMarks .Eq b = false := by first | exact nobehind _ (by decide) (by decide) | rfl) : DT X W (.Compare a [.Eq] [b] pos) (bOfE (eEqU false own gEqH f h)) :=
  PT.imp (pt_cmpR (OpR.or (op_eqH (by have := B.hu; omega)) (run_eq B hw hj).1) ha hb hm) fun σ H Q z => eqU_ent eqH_ent σ H _ (ofE_ent σ H Q z)
theorem dt_neU (B : Bod gf X W k) (hw : EqM X.prog X.w X.K X.mg X.base j own) (hj : j + 1 ≤ k) (ha : DE X W a f) (hb : DE X W b h) (hm : behindInMarks .NotEq b = false := by first | exact nobehind _ (by decide) (by decide) | rfl) : DT X W (.Compare a [.NotEq] [b] pos) (bOfE (eEqU true own gNeH f h)) :=
  PT.imp (pt_cmpR (OpR.or (op_neH (by have := B.hu; omega)) (run_eq B hw hj).2) ha hb hm) fun σ H Q z => eqU_ent neH_ent σ H _ (ofE_ent σ H Q z)
theorem dt_inU (B : Bod gf X W k) (hw : OwnM X.prog X.w X.K X.mg X.base "__contains__" j own) (hj : j ≤ k) (ha : DE X W a f) (hb : DE X W b h) (hm : behindInMarks .In b = false := by first | exact nobehind _ (by decide) (by decide) | rfl) : DT X W (.Compare a [.In] [b] pos) (bOfE (eInU false own gIn f h)) :=
  PT.imp (pt_cmpR (OpR.or (op_inG B.hu) (run_in B hw hj).1) ha hb hm) fun σ H Q z => inU_ent inG_ent σ H _ (ofE_ent σ H Q z)
theorem dt_notInU (B : Bod gf X W k) (hw : OwnM X.prog X.w X.K X.mg X.base "__contains__" j own) (hj : j ≤ k) (ha : DE X W a f) (hb : DE X W b h) (hm : behindInMarks .NotIn b = false := by first | exact nobehind _ (by decide) (by decide) | rfl) : DT X W (.Compare a [.NotIn] [b] pos) (bOfE (eInU true own gNotIn f h)) :=
  PT.imp (pt_cmpR (OpR.or (op_notInG B.hu) (run_in B hw hj).2) ha hb hm) fun σ H Q z => inU_ent notInG_ent σ H _ (ofE_ent σ H Q z)
end
end DL
/-! Own exception classes over any built-in one: making, with an own __init__ that stores its parameters. -/
namespace DL
open PySem PySem.Spec PyProof.Rows L2
/-- what is asked of such a class -/
structure XC (K : PySem.W.Frag) (nid : String) (bm : List Value) (C : Addr) : Prop where
  ini : PySem.W.excInitIn K C bm nid = true
  ovr : PySem.W.excOver K C bm = true
  hd : PySem.W.hasDictIn K C = true
  sa : PySem.W.findIn K (.ref C) "__setattr__" = some (some (.builtin "object.__setattr__"))
  be : PySem.W.subIn K (.ref C) (.type "BaseException") = some true
  ty : PySem.W.typeIn K (.ref C) = some (.type "type")
  kp : PySem.W.keepIn K (.ref C) = true
section
variable {prog : Program} {w : World} {A : Around} {E : Value → Shared → Prop} {hp : Heap} {g : Array GenState} {dr : Drawn} {t : Nat} {os : OsState} {K : PySem.W.Frag} {x C t1 dx : Addr} {B nid : String} {bm : List Value} {f : Str} {u : Value} {Q : Unit → Shared → Prop} {m0 : Str → Option Value} {nl : List Str}
abbrev excD (C t1 : Addr) (d : Option Addr) : Obj := { cls := .ref C, dict := d, data := .fields #[.ref t1, .none, .none, .none, .bool false, .none] }
/-- the first store on a new exception -/
theorem xset_new (SF : StoreFacts B bm "object.__setattr__" "object") (T : XC K nid bm C) (kin : K.In hp) (hx : hp.get? x = some (excD C t1 none)) (hf : PySem.W.takerIn K C f = some none)
    (h : ∀ h2 t2 dx, (∀ b o, b ≠ x → hp.get? b = some o → h2.get? b = some o) → hp.objs.size ≤ dx → dx ≠ x → h2.get? x = some (excD C t1 (some dx)) → h2.Ns1 dx (fun y => if y = f then some u else none) → Q () ⟨h2, g, dr, t2, os⟩) :
    wpAny (model prog w) A (setAttr (.ref x) f u) Q E ⟨hp, g, dr, t, os⟩ := by
  refine PySem.W.set_plain kin (ox := excD C t1 none) (od := none) ⟨hx, rfl, rfl, trivial⟩ T.sa ?_
  refine PySem.W.osa_openX (od := none) SF kin ⟨hx, rfl, rfl, trivial⟩ T.ovr hf fun b => ?_
  obtain ⟨cd, hc, hdct⟩ := PySem.W.any_some T.hd
  refine wpAny_bind (wpAny_pure (wpAny_bind (PySem.W.instanceDict_exc hx (PySem.W.looks_clsIn kin hc) hdct ?_)))
  have nx : x ≠ hp.objs.size := Nat.ne_of_lt (Heap.lt_size hx)
  have hx2 : (hp.push (PySem.W.dictOf [] 0)).get? x = some (excD C t1 none) := Heap.get?_push_of_some _ hx
  refine PySem.HandSPX.store_in_new ?_ fun h2 t2 hn hs => ?_
  · exact ⟨_, #[], _, (Heap.get?_update_ne _ _ _ _ (Ne.symm nx)).trans (Heap.get?_push_at rfl rfl), rfl, fun e he => absurd he (by simp), fun _ => rfl⟩
  · refine h h2 t2 hp.objs.size (fun b o hb e => ?_) (Nat.le_refl _) (Ne.symm nx) ?_ hn
    · rw [hs.2 b (Nat.ne_of_lt (Heap.lt_size e)), Heap.get?_update_ne _ _ _ _ hb]
      exact Heap.get?_push_of_some _ e
    · rw [hs.2 x nx]
      exact Heap.get?_update_self _ hx2 rfl
/-- a further one -/
theorem xset_old (SF : StoreFacts B bm "object.__setattr__" "object") (T : XC K nid bm C) (kin : K.In hp) (hx : hp.get? x = some (excD C t1 (some dx))) (hns : hp.Ns1 dx m0) (hw : Within m0 nl) (hz : nl.length ≤ 1000) (hf : PySem.W.takerIn K C f = some none)
    (h : ∀ h2 t2, (∀ b o, b ≠ dx → hp.get? b = some o → h2.get? b = some o) → h2.Ns1 dx (fun y => if y = f then some u else m0 y) → Q () ⟨h2, g, dr, t2, os⟩) :
    wpAny (model prog w) A (setAttr (.ref x) f u) Q E ⟨hp, g, dr, t, os⟩ := by
  obtain ⟨od, _, _, hod, _, _⟩ := hns.count hw
  refine PySem.W.set_plain kin (ox := excD C t1 (some dx)) (od := some od) ⟨hx, rfl, rfl, hod⟩ T.sa ?_
  refine PySem.W.osa_openX (od := some od) SF kin ⟨hx, rfl, rfl, hod⟩ T.ovr hf fun b => ?_
  obtain ⟨cd, hc, hdct⟩ := PySem.W.any_some T.hd
  refine wpAny_bind (wpAny_pure (wpAny_bind (wpAny_bind (wpAny_loadPart hx (wpAny_bind ((PySem.W.looks_clsIn kin hc).here ?_))))))
  rw [hdct]
  refine wpAny_pure (a := some dx) ?_
  exact PySem.OEX.store_in_old hns hw hz fun h2 t2 hn hs => h h2 t2 (fun b o hb e => (hs.2 b hb).trans e) hn
end

/-! ### a thing that is there is tracked from now on -/
section
variable {X : Cx} {pins : List (Addr × Obj)} {σ : L2.St} {H : Hp} {s : Shared} {a : Addr} {o : HO}
theorem inv_track (I : Inv X pins σ H s) (hn : H a = none) (h0 : X.s_0.heap.get? a = none) (hL : a ≠ X.env.locals) (hc : ∀ x c, X.env.cells.lookup x = some c → c ≠ a) (hp : ∀ p ∈ X.pn ++ pins, p.1 ≠ a) (new : ObjOk X.prog X.w (upd H a o) s.heap a o) :
    Inv X pins σ (upd H a o) s where
  ok := I.ok
  os := I.os
  bare := I.bare
  base := {
    keep := I.base.keep
    slot := I.base.slot
    free := fun b u e n hx => by
      rw [upd_ne fun z => by rw [z, h0] at e; cases e]
      exact I.base.free b u e n hx
    there := I.base.there
    tups := fun b xs e => by
      have e2 := I.base.tups b xs e
      rw [upd_ne (ne_of_none e2 hn)]; exact e2
    frzs := fun b u xs e => by
      have e2 := I.base.frzs b u xs e
      rw [upd_ne (ne_of_none e2 hn)]; exact e2
    tbls := fun b ps e => by
      obtain ⟨m, e2⟩ := I.base.tbls b ps e
      exact ⟨m, by rw [upd_ne (ne_of_none e2 hn)]; exact e2⟩ }
  loc := I.loc
  cell := I.cell
  free := by rw [upd_ne (Ne.symm hL)]; exact I.free
  freeC := fun x c e => by rw [upd_ne (hc x c e)]; exact I.freeC x c e
  pin := fun p h => by
    obtain ⟨h1, h2, h3⟩ := I.pin p h
    exact ⟨h1, by rw [upd_ne (hp p h)]; exact h2, h3⟩
  hok := fun b u e => by
    by_cases z : b = a
    · subst z; rw [upd_same] at e; cases e; exact new
    · rw [upd_ne z] at e
      exact (I.hok b u e).stay (fun _ _ _ q => q) (fun c q => by rw [upd_ne (ne_of_none q hn)]; exact q) fun c xs q => by rw [upd_ne (ne_of_none q hn)]; exact q
  len := I.len
end
/-! ### self.f = y in an own __init__ -/
section
variable {X : Cx} {pins : List (Addr × Obj)} {σ : L2.St} {H : Hp} {s : Shared} {a C dx : Addr} {f nid : String} {g : Str} {bm : List Value} {y : V} {u : Value} {fs : List (Str × V)} {Q : Unit → Shared → Prop} {E : Value → Shared → Prop} {A : Around}
theorem put_new {B : String} (SF : StoreFacts B bm "object.__setattr__" "object") (T : XC X.K nid bm C) (I : Inv X pins σ H s) (e : H a = some (exo a C none)) (hf : PySem.W.takerIn X.K C g = some none) (ry : RelV y u)
    (h : ∀ dx s', H dx = none → dx ≠ a → Inv X pins σ (upd (upd H a (exo a C (some dx))) dx (exd dx [(g, y)])) s' → Q () s') : wpAny (model X.prog X.w) A (setAttr (.ref a) g u) Q E s := by
  obtain ⟨t1, ho⟩ := exo_at I.hok e
  obtain ⟨hp, gg, dr, t, os⟩ := s
  refine xset_new SF T I.kIn ho hf fun h2 t2 dx k dn dne hx hn => ?_
  have J := I.write (t' := t2) (x := a) (e := a) (o := exo a C (some dx)) (by rw [e]; exact True.intro) (.inl rfl) k ⟨_, hx⟩ (exo_ok hx)
  have fresh : H dx = none := I.hok.fresh dn
  refine h dx _ fresh dne (inv_track J (by rw [upd_ne dne]; exact fresh) ?_ (fun z => ?_) (fun x c hc z => ?_) (fun p hp' z => ?_) (exd_ok hn fun q => ?_))
  · cases q : X.s_0.heap.get? dx with
    | none => rfl
    | some o => exact absurd (Nat.lt_of_lt_of_le (Heap.lt_size q) (Nat.le_trans I.sz dn)) (Nat.lt_irrefl _)
  · have := I.lt
    rw [← z] at this
    exact absurd (Nat.lt_of_lt_of_le this dn) (Nat.lt_irrefl _)
  · obtain ⟨v, o, hv, _⟩ := I.cell x c hc
    have := Heap.lt_size hv
    rw [z] at this
    exact absurd (Nat.lt_of_lt_of_le this dn) (Nat.lt_irrefl _)
  · have := Heap.lt_size (I.pin p hp').1
    rw [z] at this
    exact absurd (Nat.lt_of_lt_of_le this dn) (Nat.lt_irrefl _)
  · exact relO_put (fs := []) (mA := fun _ => none) ry (fun _ => True.intro) q
theorem put_old {B : String} (SF : StoreFacts B bm "object.__setattr__" "object") (T : XC X.K nid bm C) (I : Inv X pins σ H s) (e : H a = some (exo a C (some dx))) (ed : H dx = some (exd dx fs)) (hl : fs.length ≤ 900) (hf : PySem.W.takerIn X.K C g = some none) (ry : RelV y u)
    (h : ∀ s', Inv X pins σ (upd H dx (exd dx ((g, y) :: fs))) s' → Q () s') : wpAny (model X.prog X.w) A (setAttr (.ref a) g u) Q E s := by
  obtain ⟨t1, ho⟩ := exo_at I.hok e
  obtain ⟨mA, hns, rel⟩ := exd_at I.hok ed
  obtain ⟨hp, gg, dr, t, os⟩ := s
  refine xset_old SF T I.kIn ho hns (within_of rel) (by rw [List.length_map]; omega) hf fun h2 t2 k hn => ?_
  exact h _ (I.write (t' := t2) (x := dx) (e := dx) (o := exd dx ((g, y) :: fs)) (by rw [ed]; exact True.intro) (.inl rfl) k (by obtain ⟨o, _, _, z, _⟩ := hn; exact ⟨o, z⟩) (exd_ok hn (relO_put ry rel)))
/-- the statement -/
def tPut (C : Addr) (g : Str) (to te : TE) : TS := fun D σ H => te σ H fun y H1 => to σ H1 fun x H2 => ∃ a, x = .ref a ∧
  ((H2 a = some (exo a C none) ∧ ∀ dx, H2 dx = none → dx ≠ a → D.nx σ (upd (upd H2 a (exo a C (some dx))) dx (exd dx [(g, y)]))) ∨
    ∃ dx fs, H2 a = some (exo a C (some dx)) ∧ H2 dx = some (exd dx fs) ∧ fs.length ≤ 900 ∧ D.nx σ (upd H2 dx (exd dx ((g, y) :: fs))))
theorem ps_put {B : String} {o e : Expr} {to te : TE} {p' pos : Pos} (SF : StoreFacts B bm "object.__setattr__" "object") (T : XC X.K nid bm C) (hf : PySem.W.takerIn X.K C g = some none) (ho : PE X o to) (he : PE X e te) (hs : swapsWith e (some (.Attribute o g p')) pos.line X.env = pure false := by rfl) :
    PS X (.Assign [.Attribute o g p'] e pos) (tPut C g to te) := ⟨fun pins s σ H D I h =>
  plainObj_wpAny_Assign_Attribute (thn (he.run pins s σ H _ I h) fun v s1 ⟨y, H1, I1, r1, q1⟩ => thn (ho.run pins s1 σ H1 _ I1 q1) fun u s2 ⟨x, H2, I2, r2, a, ex, q⟩ => by
    subst ex
    obtain rfl : u = Value.ref a := r2
    rcases q with ⟨ea, q⟩ | ⟨dx, fs, ea, ed, hl, q⟩
    · exact put_new SF T I2 ea hf r1 fun dx s' n ne J => ⟨σ, _, J, q dx n ne⟩
    · exact put_old SF T I2 ea ed hl hf r1 fun s' J => ⟨σ, _, J, q⟩) hs⟩
end
end DL
/-! raise C(e, ..): the call of an own exception class. -/
namespace DL
open PySem PySem.Spec PyProof.Rows L2
variable {gf gj : Bool}
/-- what an own __init__ that stores its parameters one by one promises: the fields, the last one first -/
def spX (C : Addr) (fs : List Str) : Sp := fun vs H Q E => ∃ a ys, vs = V.ref a :: ys ∧ ys.length = fs.length ∧ H a = some (exo a C none) ∧
  ∀ dx, H dx = none → dx ≠ a → Q .non (upd (upd H a (exo a C (some dx))) dx (exd dx (fs.zip ys).reverse))
section
variable {P : Program} {w : World} {K : PySem.W.Frag} {mg : Str → Option Value} {base : Heap} {C f : Addr} {fd : FuncData} {st : Stmt} {qual nid B : String} {self p1 p2 : Str} {bm : List Value} {k : Nat}
/-- a def by its positional values -/
theorem fnr_of {ps : List Str} {sp : Sp} {f : Addr} (F : FnOk P w K mg base (L2.CX P w) k f fd ps sp) (hb : Binds K fd ps []) : FnR P w K mg base (L2.CX P w) k f sp := by
  intro A outer s H us vs Q E hr e0 r hs
  have hl : us.length = ps.length := by rw [← r.length]; exact F.len _ _ _ _ hs
  have b := hb s us (e0.mod.kin.keeps fun b o e => (e0.bs b o e).1) (by rw [List.append_nil]; exact hl)
  rw [List.append_nil] at b
  exact F.run A outer s H ⟨us, []⟩ us vs Q E hr e0 b r hs
theorem ini_1 (SF : StoreFacts B bm "object.__setattr__" "object") (T : XC K nid bm C) (h1 : PySem.W.takerIn K C p1 = some none) {q1 q2 q3 q4 : Pos} (F : Fun K "__init__" qual st f fd) (S : FnScope [self, p1] [self, p1] (defScope st)) (hb : Binds K fd [self, p1] [])
    (hB : defBody st = [.Assign [.Attribute (.Name self q1) p1 q2] (.Name p1 q3) q4]) (hdb : (self == ("__debug__" : Str)) = false) (hdb1 : (p1 == ("__debug__" : Str)) = false) (hcd : (self == ("__classdict__" : Str)) = false) (hcd1 : (p1 == ("__classdict__" : Str)) = false) (hk : (defScope st).kind = .function)
    (v0 : Vis (defScope st) self) (v1 : Vis (defScope st) p1) : FnR P w K mg base (L2.CX P w) 1 f (spX C [p1]) := by
  refine fnr_of (F.okX S (fun vs H Q E ⟨a, ys, e, hl, _⟩ => by rw [e, List.length_cons, hl]; rfl) fun cdv A outer s H vs Q E hr hs => ?_) hb
  rw [hB]
  refine ⟨_, pss_one (ps_put SF T h1 (pe_var (i := 0) rfl v0 hdb hcd) (pe_var (i := 1) rfl v1 hdb1 hcd1)), ?_⟩
  obtain ⟨a, ys, rfl, hl, ea, q⟩ := hs
  match ys, hl with
  | [y], _ => exact ⟨y, rfl, .ref a, rfl, a, rfl, .inl ⟨ea, fun dx n ne => q dx n ne⟩⟩
theorem ini_2 (SF : StoreFacts B bm "object.__setattr__" "object") (T : XC K nid bm C) (h1 : PySem.W.takerIn K C p1 = some none) (h2 : PySem.W.takerIn K C p2 = some none) {q1 q2 q3 q4 r1 r2 r3 r4 : Pos} (F : Fun K "__init__" qual st f fd) (S : FnScope [self, p1, p2] [self, p1, p2] (defScope st)) (hb : Binds K fd [self, p1, p2] [])
    (hB : defBody st = [.Assign [.Attribute (.Name self q1) p1 q2] (.Name p1 q3) q4, .Assign [.Attribute (.Name self r1) p2 r2] (.Name p2 r3) r4]) (hdb : (self == ("__debug__" : Str)) = false) (hdb1 : (p1 == ("__debug__" : Str)) = false) (hdb2 : (p2 == ("__debug__" : Str)) = false) (hcd : (self == ("__classdict__" : Str)) = false)
    (hcd1 : (p1 == ("__classdict__" : Str)) = false) (hcd2 : (p2 == ("__classdict__" : Str)) = false) (v0 : Vis (defScope st) self) (v1 : Vis (defScope st) p1) (v2 : Vis (defScope st) p2) : FnR P w K mg base (L2.CX P w) 1 f (spX C [p1, p2]) := by
  refine fnr_of (F.okX S (fun vs H Q E ⟨a, ys, e, hl, _⟩ => by rw [e, List.length_cons, hl]; rfl) fun cdv A outer s H vs Q E hr hs => ?_) hb
  rw [hB]
  refine ⟨_, pss_cons (ps_put SF T h1 (pe_var (i := 0) rfl v0 hdb hcd) (pe_var (i := 1) rfl v1 hdb1 hcd1)) (pss_one (ps_put SF T h2 (pe_var (i := 0) rfl v0 hdb hcd) (pe_var (i := 2) rfl v2 hdb2 hcd2))), ?_⟩
  obtain ⟨a, ys, rfl, hl, ea, q⟩ := hs
  match ys, hl with
  | [y, z], _ =>
    refine ⟨y, rfl, .ref a, rfl, a, rfl, .inl ⟨ea, fun dx n ne => ?_⟩⟩
    refine ⟨z, rfl, .ref a, rfl, a, rfl, .inr ⟨dx, [(p1, y)], by rw [upd_ne (Ne.symm ne), upd_same], upd_same, by show 1 ≤ 900; decide, ?_⟩⟩
    rw [upd_upd]
    exact q dx n ne
end
/-- the call -/
def tMkX (C : Addr) (fs : List Str) (ta : TA) : L2.St → Hp → XK → Prop := fun σ H Q => ta σ H fun vs H1 => vs.length = fs.length ∧ vs.length ≤ 1000 ∧ ∀ d, H1 d = none → Q (.ref C) (some d) (upd H1 d (.xd (fs.zip vs).reverse))
section
variable {X : Cx} {W : WX} {k : Nat} {C f : Addr} {nid B iid : String} {bm : List Value} {fs : List Str} {e : Expr} {es : List Expr} {x : Str} {ta : TA} {p pos : Pos}
theorem pmk_x (FB : ExcBaseFacts B nid iid bm) (T : XC X.K nid bm C) (iC : PySem.W.findIn X.K (.ref C) "__init__" = some (some (.ref f))) (tI : PySem.W.typeIn X.K (.ref f) = some (.type "function")) (F1 : FnR X.prog X.w X.K X.mg X.base (L2.CX X.prog X.w) 1 f (spX C fs)) (hr : Room 2 X.A)
    (hg : Gl X x) (hm : X.mg x = some (.ref C)) (ha : PA X (e :: es) ta) (hdb : (x == ("__debug__" : Str)) = false := by decide) (he : starEach (e :: es) X.env = (false, eval e X.env) :: starEach es X.env := by rfl) (hpl : (backTo pos (starEach es X.env)).any (·.1) = false := by rfl) :
    PMk X (.Call (.Name x p) (e :: es) [] pos) (tMkX C fs ta) := by
  intro pins s σ H Q I h
  refine wpAny_Call_Name_kw (ld_glob I hg hm ?_ hdb)
  refine PySem.W.callWith_K (h₀ := X.base) I.ok.mod.kin T.kp (thn (ha.run pos pins s σ H _ I h) ?_) he hpl
  rintro us s1 ⟨vs, H1, I1, rv, hl, hl2, q1⟩
  refine ⟨I1.kIn, ?_⟩
  show wpAny _ _ (call (.ref C) us) _ _ _
  obtain ⟨nm, N, qn, bs, mro, hdct, sn, sub, ab, col, dd, k0, k1, k2, k3, k5, hC, hT⟩ := PySem.W.excInit_of I1.kIn T.ini
  obtain ⟨hp, g, dr, tk, os⟩ := s1
  have na : H1 (hp.objs.size + 1) = none := I1.hok.fresh (Nat.le_succ _)
  have kk : ∀ b o, hp.get? b = some o → ((hp.push (PySem.W.kdv_tup us)).push (PySem.HandSPX.excO C hp.objs.size)).get? b = some o := fun b o z => Heap.get?_push_of_some _ (Heap.get?_push_of_some _ z)
  have hx : ((hp.push (PySem.W.kdv_tup us)).push (PySem.HandSPX.excO C hp.objs.size)).get? (hp.objs.size + 1) = some (PySem.HandSPX.excO C hp.objs.size) := by heap_get
  have I2 : Inv X pins σ (upd H1 (hp.objs.size + 1) (exo (hp.objs.size + 1) C none)) ⟨(hp.push (PySem.W.kdv_tup us)).push (PySem.HandSPX.excO C hp.objs.size), g, dr, tk, os⟩ :=
    I1.laid (t' := tk) (o := exo (hp.objs.size + 1) C none) kk (Nat.le_succ _) (exo_ok hx)
  have hus : us.length ≤ sizeLine := by rw [← rv.length, sizeLine_eq]; omega
  refine wpAny_call (PySem.HandSPX.call_own FB hT hC (PySem.W.looks_findIn I1.kIn iC) (fun self => PySem.W.bind_fn I1.kIn self tI) hus
    (codeAny_mono (F1 _ X.stack _ _ (Value.ref (hp.objs.size + 1) :: us) (V.ref (hp.objs.size + 1) :: vs) (fun v H2 => v = .non ∧ ∃ d, H1 d = none ∧ d ≠ hp.objs.size + 1 ∧ H2 = upd (upd (upd H1 (hp.objs.size + 1) (exo (hp.objs.size + 1) C none)) (hp.objs.size + 1) (exo (hp.objs.size + 1) C (some d))) d (exd d (fs.zip vs).reverse)) (fun _ _ _ => False)
      (hr.make C us []) (I2.env0.make C us []) (.cons rfl rv) ⟨_, vs, rfl, hl, upd_same, fun d hd ne => ⟨rfl, d, by rw [upd_ne ne] at hd; exact hd, ne, rfl⟩⟩) fun r s' hq => ?_))
  cases r with
  | error er => obtain ⟨_, _, _, _, _, _, _, _, _, _, _, _, z⟩ := hq; exact z.elim
  | ok fl =>
    cases fl with
    | ret u =>
      obtain ⟨v, H2, os2, bare2, un2, hok2, ru, ev, d, hd, ne, e2⟩ := hq
      subst ev
      obtain ⟨h2, g2, dr2, t2, os'⟩ := s'
      have e3 : upd (del H2 (hp.objs.size + 1)) d (.xd (fs.zip vs).reverse) = upd H1 d (.xd (fs.zip vs).reverse) := by
        funext b
        by_cases z1 : b = d
        · rw [z1, upd_same, upd_same]
        · rw [upd_ne z1, upd_ne z1, e2]
          by_cases z2 : b = hp.objs.size + 1
          · rw [z2, del_same, na]
          · rw [del_ne z2, upd_ne z1, upd_ne z2, upd_ne z2]
      refine ⟨ru, mk_end (fs := (fs.zip vs).reverse) (raises_own T.be T.ty) I1 (Nat.le_succ _) kk un2 hok2 os2 bare2 (by rw [e2, upd_ne (Ne.symm ne), upd_same]) (by rw [e2, upd_same]) hd ?_⟩
      rw [e3]
      exact q1 d hd
    | next => exact hq.elim
    | brk => exact hq.elim
    | cont => exact hq.elim
end
end DL
/-! raise, over data. -/
namespace DL
open PySem PySem.Spec PyProof.Rows L2
variable {gf gj : Bool}
section
variable {K : PySem.W.Frag} {mg : Str → Option Value} {F : Hp} {A : List Addr}
theorem DatsF.append : ∀ {vs ds ws es}, DatsF K mg F A vs ds → DatsF K mg F A ws es → DatsF K mg F A (vs ++ ws) (ds ++ es)
  | _, _, _, _, .nil, s => s
  | _, _, _, _, .cons h r, s => .cons h (DatsF.append r s)
theorem DatsF.zipR : ∀ {fs : List Str} {vs : List V} {ds : List D}, Dats K mg F A vs ds → DatsF K mg F A (fs.zip vs).reverse (fs.zip ds).reverse
  | [], _, _, _ => by simp; exact .nil
  | _ :: _, _, _, .nil => by simp; exact .nil
  | f :: fs, _, _, .cons h r => by
    rw [List.zip_cons_cons, List.zip_cons_cons, List.reverse_cons, List.reverse_cons]
    exact (DatsF.zipR r).append (.cons h .nil)
end
def sRaise (C : Str) (fs : List Str) (fa : Ev (List D)) : Stm := fun ρ S => (fa ρ S).res ρ fun ds S => if ds.length = fs.length ∧ ds.length ≤ 1000 then .ex C (fs.zip ds).reverse ρ S else .stuck
def sRaise0 (C : Str) : Stm := fun ρ S => .ex C [] ρ S
section
variable {X : Cx} {W : WX} {k : Nat} {c f : Addr} {nid B iid : String} {bm : List Value} {fs : List Str} {e : Expr} {es : List Expr} {C : Str} {fa : Ev (List D)} {p pos pos2 : Pos}
theorem raise_ent (hc : X.mg C = some (.ref c)) : ∀ D σ H, tDS X.K X.mg W (sRaise C fs fa) D σ H → tMkX c fs (tDA X.K X.mg W fa) σ H fun cls d H' => W cls d σ H' := fun D σ H ⟨F, A, P, ρ, S, rp, s, q⟩ => by
  refine ⟨F, A, P, ρ, S, rp, s, res_post s q fun ds S1 h1 vs H1 F1 A1 x1 r1 dv => ?_⟩
  split at h1
  · rename_i hl
    refine ⟨dv.length.trans hl.1, by rw [dv.length]; exact hl.2, fun d hd => ?_⟩
    obtain ⟨x2, r2⟩ := r1.frz (o := .xd (fs.zip vs).reverse) hd
    exact h1 c (some d) σ _ _ _ (x1.trans x2) r2 (s.mono (x1.trans x2)) hc (.inl ⟨d, _, rfl, upd_same, (DatsF.zipR dv).mono x2⟩)
  · exact h1.elim
/-- what the top tells of such a class: its base, its __init__ -/
structure ErrM (P : Program) (w : World) (K : PySem.W.Frag) (mg : Str → Option Value) (base : Heap) (C : Str) (fs : List Str) : Prop where
  ex : ∃ c f B nid iid bm, mg C = some (.ref c) ∧ ExcBaseFacts B nid iid bm ∧ XC K nid bm c ∧ PySem.W.findIn K (.ref c) "__init__" = some (some (.ref f)) ∧ PySem.W.typeIn K (.ref f) = some (.type "function") ∧ FnR P w K mg base (L2.CX P w) 1 f (spX c fs)
theorem ds_raise (B : Bod gf X W k) (h : ErrM X.prog X.w X.K X.mg X.base C fs) (hk : 2 ≤ k) (hg : Gl X C) (ha : DA X W (e :: es) fa) (hdb : (C == ("__debug__" : Str)) = false := by decide) (he : starEach (e :: es) X.env = (false, eval e X.env) :: starEach es X.env := by rfl)
    (hpl : (backTo pos (starEach es X.env)).any (·.1) = false := by rfl) : DS X W (.Raise (some (.Call (.Name C p) (e :: es) [] pos)) none pos2) (sRaise C fs fa) := by
  obtain ⟨c, f, B', nid, iid, bm, hc, FB, T, iC, tI, F1⟩ := h.ex
  exact PS.imp (ps_raise B.calm B.tk (pmk_x FB T iC tI F1 (B.room.mono hk) hg hc ha hdb he hpl)) (raise_ent hc)
/-- a class without an own __init__, without arguments -/
structure ErrM0 (K : PySem.W.Frag) (mg : Str → Option Value) (C : Str) : Prop where
  ex : ∃ c B nid iid bm, mg C = some (.ref c) ∧ ExcBaseFacts B nid iid bm ∧ PySem.W.excIn K c bm nid = true ∧ PySem.W.keepIn K (.ref c) = true ∧ PySem.W.subIn K (.ref c) (.type "BaseException") = some true ∧ PySem.W.typeIn K (.ref c) = some (.type "type")
theorem pmk_0 {x : Str} (FB : ExcBaseFacts B nid iid bm) (q : PySem.W.excIn X.K c bm nid = true) (hm : X.mg x = some (.ref c)) (kp : PySem.W.keepIn X.K (.ref c) = true) (r : Raises X (.ref c)) (hg : Gl X x) (hdb : (x == ("__debug__" : Str)) = false := by decide) :
    PMk X (.Call (.Name x p) [] [] pos) (fun _ H Q => Q (.ref c) none H) := by
  intro pins s σ H Q I h
  refine wpAny_Call_Name_kw (ld_glob I hg hm ?_ hdb)
  refine PySem.W.callWith_K0 I.kIn kp ?_
  obtain ⟨mro, N, nm, qn, bs, hdct, sn, sub, ab, col, dd, k0, k1, k2, k3, k5, mN, hC, hN, hni, T⟩ := exc_obj I.kIn q
  refine wpAny_call_exc_subT FB T hC hN hni (fun h2 a hm2 => ?_) (by show 0 ≤ sizeLine; exact Nat.zero_le _)
  exact mk_of I hm2 r h (I.hok.gone hm2.new)
theorem ds_raise0 (B : Bod gf X W k) (h : ErrM0 X.K X.mg C) (hg : Gl X C) (hdb : (C == ("__debug__" : Str)) = false := by decide) : DS X W (.Raise (some (.Call (.Name C p) [] [] pos)) none pos2) (sRaise0 C) := by
  obtain ⟨c, B', nid, iid, bm, hc, FB, q, kp, be, ty⟩ := h.ex
  exact PS.imp (ps_raise B.calm B.tk (pmk_0 FB q hc kp (raises_own be ty) hg hdb)) fun D σ H ⟨F, A, P, ρ, S, rp, s, q⟩ => q c none σ H F A (Ext.refl F A) rp s hc (.inr ⟨rfl, rfl⟩)
end
end DL
/-! try with several clauses, each of one class or of a tuple of classes, named or not; the error outlives its suite. -/
namespace DL
open PySem PySem.Spec PyProof.Rows L2
section
variable {base h h2 : Heap} {l : List Env} {e : Addr} {Z : Obj → Prop}
theorem fly_keeps (x : HandSPX.FlyingZ base l e Z h) (k : ∀ b o, h.get? b = some o → h2.get? b = some o) : HandSPX.FlyingZ base l e Z h2 := by
  obtain ⟨y1, y2, y3, oe, vs, T, oT, ts, z1, z2, z3, z4, z5, z6, z7, z8, z9⟩ := x
  exact ⟨fun b o q => k b o (y1 b o q), y2, y3.of_keeps fun b o q _ => ⟨o, k b o q, rfl⟩, oe, vs, T, oT, ts, k _ _ z1, z2, z3, z4, z5, z6, k _ _ z7, z8, z9⟩
end
/-- the classes that a clause names -/
def TestX (X : Cx) (t : Expr) (cs : List Value) : Prop := ∀ (a : Addr) (pn pins : List (Addr × Obj)) (σ : L2.St) (H : Hp) (s : Shared) (cls : Value) (b : Bool) (Q : Bool → Shared → Prop) (E : Value → Shared → Prop), Inv (X.suite a pn) pins σ H s →
  PySem.W.Looks (model X.prog X.w) s.heap (typeOf (.ref a)) cls → PySem.W.exmAny X.K cls cs = some b → (∀ h', (∀ q o, s.heap.get? q = some o → h'.get? q = some o) → Q b { s with heap := h' }) →
  wpAny (model X.prog X.w) (X.A.mark (some (.ref a))) (eval t X.env) (fun c s1 => wpAny (model X.prog X.w) (X.A.mark (some (.ref a))) (excMatches (.ref a) c) Q E s1) E s
section
variable {X : Cx} {x x1 x2 x3 x4 : Str} {c c1 c2 c3 c4 : Value} {p p1 p2 p3 p4 tp : Pos} {kk : Nat}
theorem names_ld {a : Addr} {pn pins : List (Addr × Obj)} {σ : L2.St} {H : Hp} {s : Shared} {Q E : Value → Shared → Prop} (hn : Names X x c) (I : Inv (X.suite a pn) pins σ H s) (q : Q c s) :
    wpAny (model X.prog X.w) (X.A.mark (some (.ref a))) (eval (.Name x p) X.env) Q E s := by
  obtain ⟨hg, hd, h | ⟨h1, h2, h3⟩⟩ := hn
  · exact ld_glob (X := X.suite a pn) I hg h q hd
  · exact ld_blt (X := X.suite a pn) I hg h1 h2 q h3 hd
theorem exm_any1 {K : PySem.W.Frag} {cls c : Value} {b : Bool} (h : PySem.W.exmAny K cls [c] = some b) : PySem.W.exmOne K cls c = some b := by
  obtain ⟨b1, d1, e1, e2, e3⟩ := PySem.W.exmAny_cons h
  cases e2
  rw [e1, e3]; cases b1 <;> rfl
theorem test_1 (n : Names X x c) : TestX X (.Name x p) [c] := fun a pn pins σ H s cls b Q E I LT e q =>
  names_ld n I ((PySem.W.exm_one I.kIn LT (exm_any1 e)).here (q s.heap fun _ _ z => z))
theorem test_2 (n1 : Names X x1 c1) (n2 : Names X x2 c2) : TestX X (.Tuple [.Name x1 p1, .Name x2 p2] kk tp) [c1, c2] := fun a pn pins σ H s cls b Q E I LT e q => by
  refine wpAny_Tuple (wpAny_items_cons (names_ld n1 I (wpAny_items_cons (names_ld n2 I (wpAny_items_nil ⟨by size_fits, ?_⟩)))))
  have kp : ∀ d o, s.heap.get? d = some o → (s.heap.push { cls := .type "tuple", data := .seq [c1, c2].toArray }).get? d = some o := fun _ _ z => Heap.get?_push_of_some _ z
  exact (PySem.W.exm_tup2 (I.kIn.keeps kp) (LT.keeps kp) (Heap.get?_push_size s.heap rfl) e).here (q _ kp)
theorem test_3 (n1 : Names X x1 c1) (n2 : Names X x2 c2) (n3 : Names X x3 c3) : TestX X (.Tuple [.Name x1 p1, .Name x2 p2, .Name x3 p3] kk tp) [c1, c2, c3] := fun a pn pins σ H s cls b Q E I LT e q => by
  refine wpAny_Tuple (wpAny_items_cons (names_ld n1 I (wpAny_items_cons (names_ld n2 I (wpAny_items_cons (names_ld n3 I (wpAny_items_nil ⟨by size_fits, ?_⟩)))))))
  have kp : ∀ d o, s.heap.get? d = some o → (s.heap.push { cls := .type "tuple", data := .seq [c1, c2, c3].toArray }).get? d = some o := fun _ _ z => Heap.get?_push_of_some _ z
  exact (PySem.W.exm_tup3 (I.kIn.keeps kp) (LT.keeps kp) (Heap.get?_push_size s.heap rfl) e).here (q _ kp)
theorem test_4 (n1 : Names X x1 c1) (n2 : Names X x2 c2) (n3 : Names X x3 c3) (n4 : Names X x4 c4) : TestX X (.Tuple [.Name x1 p1, .Name x2 p2, .Name x3 p3, .Name x4 p4] kk tp) [c1, c2, c3, c4] := fun a pn pins σ H s cls b Q E I LT e q => by
  refine wpAny_Tuple (wpAny_items_cons (names_ld n1 I (wpAny_items_cons (names_ld n2 I (wpAny_items_cons (names_ld n3 I (wpAny_items_cons (names_ld n4 I (wpAny_items_nil ⟨by size_fits, ?_⟩)))))))))
  have kp : ∀ d o, s.heap.get? d = some o → (s.heap.push { cls := .type "tuple", data := .seq [c1, c2, c3, c4].toArray }).get? d = some o := fun _ _ z => Heap.get?_push_of_some _ z
  exact (PySem.W.exm_tup4 (I.kIn.keeps kp) (LT.keeps kp) (Heap.get?_push_size s.heap rfl) e).here (q _ kp)
end
/-- behind a named suite the name is gone -/
def unset (i : Nat) (D : Ends) : Ends := { nx := fun σ H => D.nx (σ.set i none) H, rt := D.rt, bk := fun σ H => D.bk (σ.set i none) H, ct := fun σ H => D.ct (σ.set i none) H }
/-- a clause: the classes, the name's place, the suite -/
abbrev Cl := List Value × Option Nat × TS
def enter (oi : Option Nat) (ts : TS) (D : Ends) : WX := fun cls d σ H => match oi with
  | some i => ∃ c, cls = .ref c ∧ ∀ a, H a = none → ts (unset i D) (σ.set i (some (.ref a))) (upd H a (exq a c d))
  | none => ts D σ H
def wCl (K : PySem.W.Frag) (Wout : WX) (D : Ends) : List Cl → WX
  | [] => Wout
  | (cs, oi, ts) :: r => fun cls d σ H => ∃ b, PySem.W.exmAny K cls cs = some b ∧ (b = true → enter oi ts D cls d σ H) ∧ (b = false → wCl K Wout D r cls d σ H)
inductive ClsOk (X : Cx) : List ExceptHandler → List Cl → Prop
  | nil : ClsOk X [] []
  | as {t : Expr} {cs : List Value} {n : Str} {i : Nat} {b₀ : Stmt} {su : List Stmt} {ts : TS} {pos : Pos} {hds : List ExceptHandler} {l : List Cl} (ht : TestX X t cs) (hi : X.N[i]? = some n) (hl : X.env.kindOf n = some .local) (hs : ∀ a pn, PSs (X.suite a pn) (b₀ :: su) ts) (r : ClsOk X hds l) :
      ClsOk X (.ExceptHandler (some t) (some n) (b₀ :: su) pos :: hds) ((cs, some i, ts) :: l)
  | only {t : Expr} {cs : List Value} {b₀ : Stmt} {su : List Stmt} {ts : TS} {pos : Pos} {hds : List ExceptHandler} {l : List Cl} (ht : TestX X t cs) (hs : ∀ a pn, PSs (X.suite a pn) (b₀ :: su) ts) (r : ClsOk X hds l) :
      ClsOk X (.ExceptHandler (some t) none (b₀ :: su) pos :: hds) ((cs, none, ts) :: l)
theorem exq_ok {P : Program} {w : World} {H : Hp} {h : Heap} {a c : Addr} {d : Option Addr} {oe : Obj} {vs : Array Value} (he : h.get? a = some oe) (h1 : oe.cls = .ref c) (h2 : oe.dict = d) (h3 : oe.data = .fields vs) : ObjOk P w H h a (exq a c d) :=
  ⟨⟨oe, vs, he, h1, h2, h3⟩, ⟨oe, he⟩, fun g1 g2 ⟨o, ws, q1, q2, q3, q4⟩ k => ⟨o, ws, k _ q1, q2, q3, q4⟩⟩
section
variable {X : Cx} {pins : List (Addr × Obj)} {σ : L2.St} {H : Hp} {s : Shared} {a : Addr} {q : Addr × Obj}
theorem inv_in (I : Inv X pins σ H s) : Inv (X.suite a (X.pn ++ pins)) [] σ H s :=
  ⟨I.ok.suite _ _, I.os, I.bare, I.base, I.loc, I.cell, I.free, I.freeC, fun p hp => I.pin p (by rw [List.append_nil] at hp; exact hp), I.hok, I.len⟩
theorem inv_out {p2 : List (Addr × Obj)} (I : Inv (X.suite a (X.pn ++ pins)) p2 σ H s) (ok : X.Ok) : Inv X pins σ H s :=
  ⟨ok, I.os, I.bare, I.base, I.loc, I.cell, I.free, I.freeC, fun p hp => I.pin p (List.mem_append_left _ hp), I.hok, I.len⟩
end
section
variable {X : Cx} {body : List Stmt} {h₀ : ExceptHandler} {hds : List ExceptHandler} {l : List Cl} {pos : Pos} {tb : WX → TS} {Wout : WX}
theorem ps_tryX (hs : X.stack = X.env :: X.outer) (hf : X.env.frame = some X.env.locals) (hN : X.N.Nodup) (hex : X.ex = []) (tk : Takes X Wout)
    (hb : ∀ (W : WX) (pn : List (Addr × Obj)) (xe : Value → Shared → Prop), Takes (X.tr pn xe) W → PassesOwn (model X.prog X.w) X.A X.env xe → PSs (X.tr pn xe) body (tb W))
    (hh : ClsOk X (h₀ :: hds) l) : PS X (.Try body (h₀ :: hds) [] [] pos) (fun D σ H => tb (wCl X.K Wout D l) D σ H) := by
  refine ⟨fun pins s σ H D I hw => ?_⟩
  have ok := I.ok
  have hfr : X.A.frames = some (X.env :: X.outer) := by rw [ok.frames, hs]
  refine wpAny_Try_except (wpAny_mono ((hb (wCl X.K Wout D l) (X.pn ++ pins) (fun e s₁ => wpAny (model X.prog X.w) X.A (noteFrame e X.env) (fun _ s₂ => wpAny (model X.prog X.w) X.A (setFlight e none) (fun _ s₃ =>
    wpAny (model X.prog X.w) X.A (handleBy e X.env (h₀ :: hds)) (SP X pins D) X.xe s₃) X.xe s₂) X.xe s₁) (fun u s' xx => ?_) PassesOwn.looking).run [] s σ H D (I.toTry _) hw) (fun f s1 hsp => ?_) fun e s1 z => z)
  · obtain ⟨a, B, sI, pins', σ', H', cls, d, rfl, J', nb, up, sky, na, os, ag, wish⟩ := xx
    have J : Inv X pins σ' H' sI := J'.ofTry ok
    refine Sky.land Zc.steady hfr hf (by rw [← hs]; exact sky : Sky B (X.env :: X.outer) a (Zc cls d) X.env.locals s'.heap) fun h3 fl3 up3 => ?_
    -- clause by clause, at any heap that has grown meanwhile
    have go : ∀ {hd : List ExceptHandler} {lc : List Cl}, ClsOk X hd lc → ∀ (h : Heap), HandSPX.FlyingZ B (X.env :: X.outer) a (Zc cls d) h → sI.heap.UpToSlots h → wCl X.K Wout D lc cls d σ' H' →
        wpAny (model X.prog X.w) X.A (handleBy (.ref a) X.env hd) (SP X pins D) X.xe { s' with heap := h } := by
      intro hd lc hk
      -- what is known of the error at such a heap
      have at_ : ∀ {h : Heap}, HandSPX.FlyingZ B (X.env :: X.outer) a (Zc cls d) h → sI.heap.UpToSlots h → Inv X pins σ' H' { s' with heap := h } ∧ (∃ oe vs, h.get? a = some oe ∧ Zc cls d oe ∧ oe.data = .fields vs) ∧ a ≠ X.env.locals := fun {h} fl u => by
        obtain ⟨oe, vs, e1, e2, e3⟩ := fl.there
        refine ⟨J.landed (s' := { s' with heap := h }) nb fl.1 u os ag, ⟨oe, vs, e1, e2, e3⟩, fun z => ?_⟩
        have ff : h.FunFrames B (X.env :: X.outer) := fl.2.2.1
        obtain ⟨_, o, eo, nf⟩ := ff.mem (List.mem_filterMap.mpr ⟨X.env, List.mem_cons_self, by rw [hf]⟩)
        rw [← z, e1] at eo; cases eo
        exact nf _ e3
      -- the error stood nowhere ahead of the try
      have newB : B.get? a = none := fl3.2.1
      have newI : ∀ {o : Obj}, sI.heap.get? a = some o → a ∈ frs X.stack := fun {o} e => Classical.byContradiction fun hn => by
        have := nb a o e hn
        rw [newB] at this; cases this
      have notF : a ∉ frs X.stack := fun hm => by
        rw [hs] at hm
        have ff : h3.FunFrames B (X.env :: X.outer) := fl3.2.2.1
        obtain ⟨oe, vs, e1, e2, e3⟩ := fl3.there
        obtain ⟨_, o, eo, nf⟩ := ff.mem hm
        rw [e1] at eo; cases eo
        exact nf _ e3
      have noI : sI.heap.get? a = none := by
        cases e : sI.heap.get? a with
        | none => rfl
        | some o => exact absurd (newI e) notF
      have no0 : X.s_0.heap.get? a = none := by
        cases e : X.s_0.heap.get? a with
        | none => rfl
        | some o =>
          obtain ⟨o', q⟩ := J.base.there a o e (by rw [hex]; simp)
          rw [noI] at q; cases q
      have noC : ∀ x c, X.env.cells.lookup x = some c → c ≠ a := fun x c e z => by
        obtain ⟨v, o, q, _⟩ := J.cell x c e
        rw [z, noI] at q; cases q
      have noP : ∀ p ∈ X.pn ++ pins, p.1 ≠ a := fun p hp z => by
        have q := (J.pin p hp).1
        rw [z, noI] at q; cases q
      induction hk with
      | nil =>
        intro h fl u wish
        obtain ⟨_, _, _, oe, vs, T, oT, ts', e1, e2, e3, e4, e5⟩ := id fl
        refine wpAny_handleBy_nil ?_
        unfold PySem.passOn
        refine wpAny_bind (wpAny_field e1 e3 e4 ?_)
        rw [if_neg (by simp)]
        have fin : wpAny (model X.prog X.w) X.A (setFlight (.ref a) X.env.frame) (fun _ s4 => wpAny (model X.prog X.w) X.A (throw (.ref a) : Sem Flow) (SP X pins D) X.xe s4) X.xe { s' with heap := h } := by
          rw [hf]
          refine HandSPX.setFlight_upZ fl fun h4 hh4 up4 => wpAny_throw (tk _ _ ⟨a, B, sI, pins, σ', H', cls, d, rfl, J, nb, u.trans up4, .inr (.inr ?_), na, os, ag, wish⟩)
          rw [hs]; exact hh4
        first
          | exact wpAny_bind (wpAny_pure (wpAny_bind fin))
          | exact wpAny_bind fin
      | @as t cs n i b₀ su ts pos' hds2 l2 ht hi hl hsu r ih =>
        intro h fl u wish
        obtain ⟨b, hb1, hyes, hno⟩ := wish
        obtain ⟨J2, ⟨oe, vs, e1, e2, e3⟩, nL⟩ := at_ fl u
        refine wpAny_handleBy_cons (codeAny_handlers_test ?_) (by intro q; cases q)
        have LT : PySem.W.Looks (model X.prog X.w) h (typeOf (.ref a)) cls := fun A Q E s k q => wpAny_typeOf_ref (k _ _ e1) (by rw [e2.1]; exact q)
        refine ht a (X.pn ++ pins) [] σ' H' { s' with heap := h } cls b _ _ (inv_in J2) LT hb1 fun h4 k4 => ?_
        have fl4 := fly_keeps fl k4
        have u4 : sI.heap.UpToSlots h4 := u.trans (Heap.UpToSlots.of_keeps k4)
        cases b with
        | false => exact ih h4 fl4 u4 (hno rfl)
        | true =>
          refine codeAny_handlers_suite_as (HandSPX.lands_againZ fl4 fun h5 fl5 up5 => ?_)
          obtain ⟨J5, ⟨o5, v5, f1, f2, f3⟩, _⟩ := at_ fl5 (u4.trans up5)
          obtain ⟨c, rfl, w5⟩ := hyes rfl
          have T5 : Inv X pins σ' (upd H' a (exq a c d)) { s' with heap := h5 } := inv_track J5 na no0 nL noC noP (exq_ok f1 f2.1 f2.2 f3)
          refine store_ok (X := X.suite a (X.pn ++ pins)) (v := .ref a) (inv_in (a := a) T5) hN hi (.inl hl) rfl (fun s6 S6 => ?_) (.inr hl)
          refine wpAny_mono ((hsu a (X.pn ++ pins)).run [] s6 _ _ _ S6 (w5 a na)) (fun f s7 hsp => ?_) fun _ _ z => False.elim z
          have off : ∀ {σ7 : L2.St} {H7 : Hp} {Q : Shared → Prop}, Inv (X.suite a (X.pn ++ pins)) [] σ7 H7 s7 → (∀ s8, Inv X pins (σ7.set i none) H7 s8 → Q s8) →
              wpAny (model X.prog X.w) X.A (do bindName X.env n .none; unbindBehindTheSuite X.env n pos') (fun _ s8 => Q s8) X.xe s7 := fun {σ7 H7 Q} S7 hq => gone_ok (inv_out S7 ok) hN hi hl hq
          cases f with
          | next => obtain ⟨σ7, H7, S7, q7⟩ := hsp; exact off S7 fun s8 J8 => ⟨_, _, J8, q7⟩
          | brk => obtain ⟨σ7, H7, S7, q7⟩ := hsp; exact off S7 fun s8 J8 => ⟨_, _, J8, q7⟩
          | cont => obtain ⟨σ7, H7, S7, q7⟩ := hsp; exact off S7 fun s8 J8 => ⟨_, _, J8, q7⟩
          | ret v => obtain ⟨v7, σ7, H7, S7, r7, q7⟩ := hsp; exact off S7 fun s8 J8 => ⟨_, _, _, J8, r7, q7⟩
      | @only t cs b₀ su ts pos' hds2 l2 ht hsu r ih =>
        intro h fl u wish
        obtain ⟨b, hb1, hyes, hno⟩ := wish
        obtain ⟨J2, ⟨oe, vs, e1, e2, e3⟩, nL⟩ := at_ fl u
        refine wpAny_handleBy_cons (codeAny_handlers_test ?_) (by intro q; cases q)
        have LT : PySem.W.Looks (model X.prog X.w) h (typeOf (.ref a)) cls := fun A Q E s k q => wpAny_typeOf_ref (k _ _ e1) (by rw [e2.1]; exact q)
        refine ht a (X.pn ++ pins) [] σ' H' { s' with heap := h } cls b _ _ (inv_in J2) LT hb1 fun h4 k4 => ?_
        have fl4 := fly_keeps fl k4
        have u4 : sI.heap.UpToSlots h4 := u.trans (Heap.UpToSlots.of_keeps k4)
        cases b with
        | false => exact ih h4 fl4 u4 (hno rfl)
        | true =>
          refine codeAny_handlers_suite (HandSPX.lands_againZ fl4 fun h5 fl5 up5 => ?_)
          obtain ⟨J5, _, _⟩ := at_ fl5 (u4.trans up5)
          refine wpAny_mono ((hsu a (X.pn ++ pins)).run [] _ σ' H' _ (inv_in (a := a) J5) (hyes rfl)) (fun f s7 hsp => ?_) fun _ _ z => False.elim z
          cases f with
          | next => obtain ⟨σ7, H7, S7, q7⟩ := hsp; exact ⟨_, _, inv_out S7 ok, q7⟩
          | brk => obtain ⟨σ7, H7, S7, q7⟩ := hsp; exact ⟨_, _, inv_out S7 ok, q7⟩
          | cont => obtain ⟨σ7, H7, S7, q7⟩ := hsp; exact ⟨_, _, inv_out S7 ok, q7⟩
          | ret v => obtain ⟨v7, σ7, H7, S7, r7, q7⟩ := hsp; exact ⟨_, _, _, inv_out S7 ok, r7, q7⟩
    exact go hh h3 fl3 (up.trans up3) wish
  · cases f with
    | next => obtain ⟨σ', H', J', q⟩ := hsp; exact wpAny_execs_nil ⟨σ', H', J'.ofTry ok, q⟩
    | brk => obtain ⟨σ', H', J', q⟩ := hsp; exact ⟨σ', H', J'.ofTry ok, q⟩
    | cont => obtain ⟨σ', H', J', q⟩ := hsp; exact ⟨σ', H', J'.ofTry ok, q⟩
    | ret u => obtain ⟨v, σ', H', J', r, q⟩ := hsp; exact ⟨v, σ', H', J'.ofTry ok, r, q⟩
end
end DL
/-! try, over data. -/
namespace DL
open PySem PySem.Spec PyProof.Rows L2
variable {gf gj : Bool}
/-- a clause: which classes it takes, its name's place, its suite -/
abbrev Hd := (Str → Option Bool) × Option Nat × Stm
def suiteD (oi : Option Nat) (h : Stm) (C : Str) (fs : List (Str × D)) : Stm := fun ρ S => match oi with
  | some i => match h (ρ.set i (some (.exc C fs))) S with
    | .nx ρ S => .nx (ρ.set i none) S
    | .bk ρ S => .bk (ρ.set i none) S
    | .ct ρ S => .ct (ρ.set i none) S
    | .rt d S => .rt d S
    | _ => .stuck
  | none => match h ρ S with
    | .ex _ _ _ _ => .stuck
    | r => r
def tryD : List Hd → Str → List (Str × D) → Stm
  | [], C, fs => fun ρ S => .ex C fs ρ S
  | (sub, oi, h) :: r, C, fs => fun ρ S => match sub C with
    | some true => suiteD oi h C fs ρ S
    | some false => tryD r C fs ρ S
    | none => .stuck
def sTry (g : Stm) (hs : List Hd) : Stm := fun ρ S => match g ρ S with
  | .ex C fs ρ S => tryD hs C fs ρ S
  | r => r
/-- which of the module's error classes a clause takes -/
def ExmM (K : PySem.W.Frag) (mg : Str → Option Value) (cs : List Value) (sub : Str → Option Bool) : Prop := ∀ C b c, sub C = some b → mg C = some (.ref c) → PySem.W.exmAny K (.ref c) cs = some b
inductive ClD (X : Cx) : List ExceptHandler → List Cl → List Hd → Prop
  | nil : ClD X [] [] []
  | as {t : Expr} {cs : List Value} {n : Str} {i : Nat} {b₀ : Stmt} {su : List Stmt} {h : Stm} {pos : Pos} {hds : List ExceptHandler} {l : List Cl} {r : List Hd} {sub : Str → Option Bool} (ht : TestX X t cs) (hm : ExmM X.K X.mg cs sub) (hi : X.N[i]? = some n) (hl : X.env.kindOf n = some .local)
      (hs : ∀ a pn, DSs (X.suite a pn) W0 (b₀ :: su) h) (rest : ClD X hds l r) : ClD X (.ExceptHandler (some t) (some n) (b₀ :: su) pos :: hds) ((cs, some i, tDS X.K X.mg W0 h) :: l) ((sub, some i, h) :: r)
  | only {t : Expr} {cs : List Value} {b₀ : Stmt} {su : List Stmt} {h : Stm} {pos : Pos} {hds : List ExceptHandler} {l : List Cl} {r : List Hd} {sub : Str → Option Bool} (ht : TestX X t cs) (hm : ExmM X.K X.mg cs sub)
      (hs : ∀ a pn, DSs (X.suite a pn) W0 (b₀ :: su) h) (rest : ClD X hds l r) : ClD X (.ExceptHandler (some t) none (b₀ :: su) pos :: hds) ((cs, none, tDS X.K X.mg W0 h) :: l) ((sub, none, h) :: r)
theorem ClD.ok {X : Cx} {hds : List ExceptHandler} {l : List Cl} {r : List Hd} (h : ClD X hds l r) : ClsOk X hds l := by
  induction h with
  | nil => exact .nil
  | as ht hm hi hl hs rest ih => exact .as ht hi hl hs ih
  | only ht hm hs rest ih => exact .only ht hs ih
theorem Slots.unset {K mg F A} {σ : L2.St} {ρ : Env'} (s : Slots K mg F A σ ρ) (i : Nat) : Slots K mg F A (σ.set i none) (ρ.set i none) := by
  refine ⟨by rw [List.length_set, List.length_set]; exact s.1, fun j d e => ?_⟩
  by_cases hij : i = j
  · subst hij
    by_cases hl : i < ρ.length
    · rw [List.getElem?_set_self hl] at e; cases e
    · rw [List.getElem?_eq_none (by simpa using hl)] at e; cases e
  · rw [List.getElem?_set_ne hij] at e
    obtain ⟨v, h1, h2⟩ := s.2 j d e
    exact ⟨v, by rw [List.getElem?_set_ne hij]; exact h1, h2⟩
section
variable {K : PySem.W.Frag} {mg : Str → Option Value} {F : Hp} {A : List Addr} {P : Hp} {W : WX} {oi : Option Nat} {h : Stm} {C : Str}
theorem enter_ent {Dn : Ends} {d : Option Addr} {c : Addr} {σ : L2.St} {H : Hp} {ρ : Env'} {S : Store} {fs : List (Str × D)} (rp : Rep K mg F A S P H) (s : Slots K mg F A σ ρ) (hc : mg C = some (.ref c)) (e : ExAt K mg F A d fs) (q : (suiteD oi h C fs ρ S).post K mg F A P W Dn) :
    enter oi (tDS K mg W0 h) Dn (.ref c) d σ H := by
  cases oi with
  | none =>
    refine ⟨F, A, P, ρ, S, rp, s, ?_⟩
    unfold suiteD at q
    dsimp only at q
    cases e1 : h ρ S with
    | ex C' fs' ρ' S' => rw [e1] at q; exact q.elim
    | stuck => rw [e1] at q; exact q.elim
    | _ => rw [e1] at q; exact q
  | some i =>
    refine ⟨c, rfl, fun a ha => ?_⟩
    obtain ⟨x, r2⟩ := rp.frz (o := exq a c d) ha
    have dv : Dat K mg (upd F a (exq a c d)) A (.ref a) (.exc C fs) := by
      rcases e with ⟨dd, vs, rfl, h1, h2⟩ | ⟨rfl, rfl⟩
      · exact .exc hc upd_same (x.f _ _ h1) (h2.mono x)
      · exact .exc0 hc upd_same
    refine ⟨_, A, P, _, S, r2, (s.mono x).set dv i, ?_⟩
    have q := Res.ext x q
    unfold suiteD at q
    dsimp only at q
    cases e1 : h (ρ.set i (some (.exc C fs))) S with
    | ex C' fs' ρ' S' => rw [e1] at q; exact q.elim
    | stuck => rw [e1] at q; exact q.elim
    | rt v S' => rw [e1] at q; exact q
    | nx ρ' S' => rw [e1] at q; exact fun σ' H' F' A' y r z => q _ _ _ _ y r (z.unset i)
    | bk ρ' S' => rw [e1] at q; exact fun σ' H' F' A' y r z => q _ _ _ _ y r (z.unset i)
    | ct ρ' S' => rw [e1] at q; exact fun σ' H' F' A' y r z => q _ _ _ _ y r (z.unset i)
end
section
variable {X : Cx} {W : WX} {k : Nat} {hds : List ExceptHandler} {l : List Cl} {r : List Hd} {g : Stm} {body : List Stmt} {h₀ : ExceptHandler} {pos : Pos}
theorem walk_ent (hk : ClD X hds l r) {Dn : Ends} {C : Str} {fs : List (Str × D)} {ρ : Env'} {S : Store} {F : Hp} {A : List Addr} {P H : Hp} {c : Addr} {d : Option Addr} {σ : L2.St} (rp : Rep X.K X.mg F A S P H) (s : Slots X.K X.mg F A σ ρ) (hc : X.mg C = some (.ref c)) (ea : ExAt X.K X.mg F A d fs)
    (q : (tryD r C fs ρ S).post X.K X.mg F A P W Dn) : wCl X.K W Dn l (.ref c) d σ H := by
  induction hk with
  | nil => exact q c d σ H F A (Ext.refl _ _) rp s hc ea
  | @as t cs n i b₀ su h pos' hds2 l2 r2 sub ht hm hi hl hs rest ih =>
    unfold tryD at q
    cases e2 : sub C with
    | none => rw [e2] at q; exact q.elim
    | some b =>
      rw [e2] at q
      refine ⟨b, hm C b c e2 hc, fun hb => ?_, fun hb => ?_⟩
      · subst hb; exact enter_ent rp s hc ea q
      · subst hb; exact ih q
  | @only t cs b₀ su h pos' hds2 l2 r2 sub ht hm hs rest ih =>
    unfold tryD at q
    cases e2 : sub C with
    | none => rw [e2] at q; exact q.elim
    | some b =>
      rw [e2] at q
      refine ⟨b, hm C b c e2 hc, fun hb => ?_, fun hb => ?_⟩
      · subst hb; exact enter_ent rp s hc ea q
      · subst hb; exact ih q
theorem try_ent (hk : ClD X hds l r) : ∀ D σ H, tDS X.K X.mg W (sTry g r) D σ H → tDS X.K X.mg (wCl X.K W D l) g D σ H := fun D σ H ⟨F, A, P, ρ, S, rp, s, q⟩ => by
  refine ⟨F, A, P, ρ, S, rp, s, ?_⟩
  unfold sTry at q
  cases e1 : g ρ S with
  | ex C fs ρ1 S1 =>
    rw [e1] at q
    exact fun c d σ' H' F' A' x r1 s1 hc ea => walk_ent hk r1 s1 hc ea (Res.ext x q)
  | _ => rw [e1] at q; exact q
/-- the body's context -/
theorem Bod.tr (B : Bod gf X W k) {W' : WX} {pn : List (Addr × Obj)} {xe : Value → Shared → Prop} (tk : Takes (X.tr pn xe) W') (po : PassesOwn (model X.prog X.w) X.A X.env xe) : Bod gf (X.tr pn xe) W' k :=
  ⟨B.calm, B.nd, B.room, B.gd, B.sy, tk, po⟩
theorem ds_try (B : Bod gf X W k) (hs : X.stack = X.env :: X.outer) (hf : X.env.frame = some X.env.locals) (hex : X.ex = []) (hk : ClD X (h₀ :: hds) l r)
    (hb : ∀ (W' : WX) (pn : List (Addr × Obj)) (xe : Value → Shared → Prop), Bod gf (X.tr pn xe) W' k → DSs (X.tr pn xe) W' body g) : DS X W (.Try body (h₀ :: hds) [] [] pos) (sTry g r) :=
  PS.imp (ps_tryX (tb := fun W' => tDS X.K X.mg W' g) hs hf B.nd hex B.tk (fun W' pn xe tk po => hb W' pn xe (B.tr tk po)) hk.ok) (try_ent hk)
end
end DL
/-! isinstance with errors and with tuples of classes; an error's fields. -/
namespace DL
open PySem PySem.Spec PyProof.Rows L2
variable {gf gj : Bool}
/-- what an error class says of its objects -/
structure ErC (K : PySem.W.Frag) (c : Addr) : Prop where
  cl : (PySem.W.clsIn K c).isSome = true
  ga : PySem.W.findIn K (.ref c) "__getattribute__" = some (some (.builtin "BaseException.__getattribute__"))
  gg : PySem.W.findIn K (.ref c) "__getattr__" = some none
  be : PySem.W.subIn K (.ref c) (.type "BaseException") = some true
  ha : PySem.W.findIn K (.ref c) "__class__" = some (some (.builtin "object.__class__"))
  hn : PySem.W.specialIn K (.builtin "object.__class__") "__get__" = some (some (.builtin "getset_descriptor.__get__"))
  tk : PySem.W.takesIn K (.builtin "object.__class__") = some true
  mo : PySem.W.mroIn K c (.type "object") = some true
  hd : PySem.W.hasDictIn K c = true
/-- an error object, and its dict -/
def IsX (H : Hp) (a c : Addr) (fs : List (Str × V)) : Prop := (∃ dd, H a = some (exq a c (some dd)) ∧ H dd = some (.xd fs)) ∨ (H a = some (exq a c none) ∧ fs = [])
/-- a value's class, errors too -/
inductive TyE (K : PySem.W.Frag) (H : Hp) : V → Value → Prop
  | base {x : V} {t : Value} (h : TyX K H x t) : TyE K H x t
  | exc {a c : Addr} {fs : List (Str × V)} (e : IsX H a c fs) (k : ErC K c) : TyE K H (.ref a) (.ref c)
section
variable {X : Cx} {pins : List (Addr × Obj)} {σ : L2.St} {H : Hp} {s : Shared} {a c : Addr} {fs : List (Str × V)}
theorem isx_at (I : Inv X pins σ H s) (h : IsX H a c fs) : ∃ ox od, PySem.W.InstAt s.heap a ox c od ∧ ((∃ (o : Obj) (mA : Str → Option Value), od = some o ∧ (∀ f, PySem.W.lookIn f o = some (mA f)) ∧ ∀ f, RelO (fs.lookup f) (mA f)) ∨ (od = none ∧ fs = [])) := by
  have nc : ∀ {oe : Obj} {vs : Array Value}, oe.data = .fields vs → PySem.W.notCls oe = true := fun e => by unfold PySem.W.notCls; rw [e] <;> rfl
  rcases h with ⟨dd, h1, h2⟩ | ⟨h1, rfl⟩
  · obtain ⟨⟨oe, vs, e1, e2, e3, e4⟩, _⟩ := (show ObjOk X.prog X.w H s.heap a (exq a c (some dd)) from I.hok a _ h1)
    obtain ⟨mA, hns, hr⟩ := (show ObjOk X.prog X.w H s.heap dd (.xd fs) from I.hok dd _ h2)
    obtain ⟨od, ho, hl⟩ := lookIn_ns hns
    exact ⟨oe, some od, ⟨e1, e2, nc e4, by rw [e3]; exact ho⟩, .inl ⟨od, mA, rfl, hl, hr⟩⟩
  · obtain ⟨⟨oe, vs, e1, e2, e3, e4⟩, _⟩ := (show ObjOk X.prog X.w H s.heap a (exq a c none) from I.hok a _ h1)
    exact ⟨oe, none, ⟨e1, e2, nc e4, by rw [e3]; trivial⟩, .inr ⟨rfl, rfl⟩⟩
theorem kit_ofE {x : V} {u t : Value} (I : Inv X pins σ H s) (rx : RelV x u) (ty : TyE X.K H x t) : ∃ P : Heap → Prop, PySem.W.KitX X.K u t P ∧ P s.heap ∧ u ≠ .builtin "__main__.__loader__#opaque" := by
  cases ty with
  | base h => exact kit_of I rx h
  | @exc a c fs e k =>
    cases (show u = Value.ref a from rx)
    obtain ⟨ox, od, J, _⟩ := isx_at I e
    exact ⟨_, PySem.W.kitx_exc k.cl k.ga k.gg k.be k.ha k.hn k.tk k.mo, J, fun z => nomatch z⟩
/-- isinstance(x, c); isinstance(x, (c, ..)) -/
def rIsA (K : PySem.W.Frag) : List V → Hp → VK → Prop := fun xs H Q => ∃ (x c : V) (t u : Value) (b : Bool), xs = [x, c] ∧ ClsV c u ∧ TyE K H x t ∧ PySem.W.kitOne K t u = some b ∧ Q (.bl b) H
def rIsAT (K : PySem.W.Frag) : List V → Hp → VK → Prop := fun xs H Q => ∃ (x : V) (tp : Addr) (cs : List V) (t : Value) (us : List Value) (b : Bool), xs = [x, .ref tp] ∧ SqT K H tp cs ∧ Paired ClsV cs us ∧ TyE K H x t ∧ PySem.W.kitAny K t us = some b ∧ Q (.bl b) H
theorem call_isA : CallR X (.builtin "isinstance") (rIsA X.K) := by
  rintro pins s σ H _ us Q I r ⟨x, c, t, u, b, rfl, k, ty, e, q⟩
  obtain ⟨u1, u2, rfl, r1, r2⟩ := vals2 r
  obtain rfl := k.eq r2
  obtain ⟨P, Z, p, hx⟩ := kit_ofE I r1 ty
  exact PySem.W.kia_one Z I.kIn p e hx fun tk => ⟨.bl b, H, I.tok tk, rfl, q⟩
theorem call_isAT : CallR X (.builtin "isinstance") (rIsAT X.K) := by
  rintro pins s σ H _ us Q I r ⟨x, tp, cs, t, ws, b, rfl, hT, k, ty, e, q⟩
  obtain ⟨u1, u2, rfl, r1, r2⟩ := vals2 r
  cases (show u2 = Value.ref tp from r2)
  obtain ⟨P, Z, p, hx⟩ := kit_ofE I r1 ty
  obtain ⟨its, rv, ht, _⟩ := I.tuple hT
  obtain ⟨⟨oc, od, dt, sl⟩, h1, h2, n, h3⟩ := ht
  obtain rfl := ClsV.all k rv
  simp only at h2 h3
  subst h2 h3
  exact PySem.W.kia_tup Z I.kIn p h1 e hx fun tk => ⟨.bl b, H, I.tok tk, rfl, q⟩
end
/-- the classes of the module, as they are asked for -/
structure IsaM (K : PySem.W.Frag) (mg : Str → Option Value) (cs : List Str) (sub : Str → Str → Option Bool) (subE : Str → Str → Option Bool) (subB : Str → String → Option Bool) : Prop where
  isi : IsiM K mg cs sub
  ec : ∀ C A b, subE C A = some b → ∀ c a, mg C = some (.ref c) → mg A = some (.ref a) → ErC K c ∧ PySem.W.kitOne K (.ref c) (.ref a) = some b
  eb : ∀ C n b, subB C n = some b → ∀ c, mg C = some (.ref c) → ErC K c ∧ PySem.W.kitOne K (.ref c) (.type n) = some b
/-- what kind of value it is -/
inductive Kd where
  | e (C : Str) | o (C : Str) | t (n : String)
def kdOf (S : Store) : D → Option Kd
  | .exc C _ => some (.e C)
  | d => match clsOf S d with
    | some C => some (.o C)
    | none => (tyName S d).map .t
section
variable (cs : List Str) (sub subE : Str → Str → Option Bool) (subB : Str → String → Option Bool)
def isiK : Kd → D → Option Bool
  | .e C, .cls A => subE C A
  | .e C, .ty n => subB C n
  | .o C, .cls A => sub C A
  | .t n, .cls A => if n ∈ tyNames ∧ A ∈ cs then some false else none
  | .t m, .ty n => isiT m n
  | _, _ => none
def isC : D → Bool
  | .cls _ | .ty _ => true
  | _ => false
def isiL (k : Kd) : List D → Option Bool
  | [] => some false
  | c :: r => match isiK cs sub subE subB k c with
    | some true => if r.all isC then some true else none
    | some false => isiL k r
    | none => none
def gIsiA : List D → Store → Option D := fun xs S => match xs with
  | [x, .tup (c :: r)] => (kdOf S x).bind fun k => (isiL cs sub subE subB k (c :: r)).map .bl
  | [x, c] => (kdOf S x).bind fun k => (isiK cs sub subE subB k c).map .bl
  | _ => none
end
section
variable {K : PySem.W.Frag} {mg : Str → Option Value} {F : Hp} {A : List Addr} {P H : Hp} {S : Store} {cs : List Str} {sub subE : Str → Str → Option Bool} {subB : Str → String → Option Bool}
theorem exc_isx (r : Rep K mg F A S P H) {v : V} {C : Str} {fs : List (Str × D)} (h : Dat K mg F A v (.exc C fs)) : ∃ a c vs, v = .ref a ∧ mg C = some (.ref c) ∧ IsX H a c vs ∧ DatsF K mg F A vs fs := by
  cases h with
  | exc h1 h2 h3 h4 => exact ⟨_, _, _, rfl, h1, .inl ⟨_, r.le _ _ h2, r.le _ _ h3⟩, h4⟩
  | exc0 h1 h2 => exact ⟨_, _, [], rfl, h1, .inr ⟨r.le _ _ h2, rfl⟩, .nil⟩
def KdV (K : PySem.W.Frag) (mg : Str → Option Value) (H : Hp) (v : V) : Kd → Value → Prop
  | .e C, t => ∃ a c vs, v = .ref a ∧ mg C = some (.ref c) ∧ IsX H a c vs ∧ t = .ref c
  | .o C, t => ∃ a c dx vs, v = .ref a ∧ mg C = some (.ref c) ∧ H a = some (.ins c dx vs) ∧ t = .ref c
  | .t n, t => TyX K H v (.type n) ∧ t = .type n
theorem kd_at (r : Rep K mg F A S P H) {v : V} {d : D} {k : Kd} (h : Dat K mg F A v d) (e : kdOf S d = some k) : ∃ t, KdV K mg H v k t := by
  by_cases hx : ∃ C fs, d = .exc C fs
  · obtain ⟨C, fs, rfl⟩ := hx
    cases e
    obtain ⟨a, c0, vs, rfl, m1, g1, _⟩ := exc_isx r h
    exact ⟨_, a, c0, vs, rfl, m1, g1, rfl⟩
  · have e : (match clsOf S d with
      | some C => some (.o C)
      | none => (tyName S d).map .t) = some k := by
      cases d <;> first | exact e | exact absurd ⟨_, _, rfl⟩ hx
    split at e
    · rename_i C' e1
      cases e
      unfold clsOf at e1
      rw [Option.map_eq_some_iff] at e1
      obtain ⟨⟨C2, fs⟩, e3, e4⟩ := e1
      cases e4
      obtain ⟨a, c, dx, vs, rfl, m1, g1, g2⟩ := ins_at r h e3
      exact ⟨_, a, c, dx, vs, rfl, m1, g1, rfl⟩
    · rw [Option.map_eq_some_iff] at e
      obtain ⟨n, e1, rfl⟩ := e
      exact ⟨_, tyX_at r h e1, rfl⟩
/-- one question -/
theorem isiK_at (M : IsaM K mg cs sub subE subB) {v vc : V} {t : Value} {k : Kd} {c : D} {b : Bool} (h : KdV K mg H v k t) (hc : Dat K mg F A vc c) (e : isiK cs sub subE subB k c = some b) : TyE K H v t ∧ ∃ u, ClsV vc u ∧ PySem.W.kitOne K t u = some b := by
  cases k with
  | e C =>
    obtain ⟨a, c0, vs, rfl, m1, g1, rfl⟩ := h
    cases hc with
    | cls hA => obtain ⟨k1, k2⟩ := M.ec _ _ _ e _ _ m1 hA; exact ⟨.exc g1 k1, _, .own _, k2⟩
    | ty => obtain ⟨k1, k2⟩ := M.eb _ _ _ e _ m1; exact ⟨.exc g1 k1, _, .ty _, k2⟩
    | _ => cases e
  | o C =>
    obtain ⟨a, c0, dx, vs, rfl, m1, g1, rfl⟩ := h
    cases hc with
    | cls hA => obtain ⟨k1, k2, k3⟩ := M.isi.own _ _ _ e _ _ m1 hA; exact ⟨.base (.base (.ins g1 k1 k2.ha k2.hn k2.htk k2.hm)), _, .own _, k3⟩
    | _ => cases e
  | t n =>
    obtain ⟨ty, rfl⟩ := h
    cases hc with
    | @cls a' A' hA =>
      simp only [isiK] at e
      split at e
      · rename_i hn
        cases e
        exact ⟨.base ty, _, .own _, M.isi.blt A' hn.2 _ hA n hn.1⟩
      · cases e
    | ty => exact ⟨.base ty, _, .ty _, kit_ty (isiT_kit e)⟩
    | _ => cases e
theorem clsv_all : ∀ {ds : List D} {vs : List V}, Dats K mg F A vs ds → ds.all isC = true → ∃ us, Paired ClsV vs us
  | _, _, .nil, _ => ⟨[], .nil⟩
  | _, _, .cons h r, e => by
    rw [List.all_cons, Bool.and_eq_true] at e
    obtain ⟨us, p⟩ := clsv_all r e.2
    cases h with
    | cls _ => exact ⟨_, .cons (.own _) p⟩
    | ty => exact ⟨_, .cons (.ty _) p⟩
    | _ => simp [isC] at e
theorem isiL_at (M : IsaM K mg cs sub subE subB) {v : V} {t : Value} {k : Kd} {b : Bool} (h : KdV K mg H v k t) : ∀ {ds : List D} {vs : List V}, Dats K mg F A vs ds → isiL cs sub subE subB k ds = some b → (ds ≠ [] → TyE K H v t) ∧ ∃ us, Paired ClsV vs us ∧ PySem.W.kitAny K t us = some b
  | _, _, .nil, e => by cases e; exact ⟨fun z => absurd rfl z, [], .nil, rfl⟩
  | _, _, .cons hc r, e => by
    unfold isiL at e
    split at e
    · rename_i e1
      obtain ⟨ty, u, k1, k2⟩ := isiK_at M h hc e1
      split at e
      · rename_i ha
        cases e
        obtain ⟨us, p⟩ := clsv_all r ha
        exact ⟨fun _ => ty, u :: us, .cons k1 p, by unfold PySem.W.kitAny; rw [k2]⟩
      · cases e
    · rename_i e1
      obtain ⟨ty, u, k1, k2⟩ := isiK_at M h hc e1
      obtain ⟨_, us, p, q⟩ := isiL_at M h r e
      exact ⟨fun _ => ty, u :: us, .cons k1 p, by unfold PySem.W.kitAny; rw [k2]; exact q⟩
    · cases e
theorem isiA_ent (M : IsaM K mg cs sub subE subB) : CallE K mg (fun xs H Q => rIsA K xs H Q ∨ rIsAT K xs H Q) (gIsiA cs sub subE subB) := by
  intro F A P S H xs dx d Q rp hx e k
  unfold gIsiA at e
  split at e
  · rename_i x c r
    obtain ⟨kd, e1, e⟩ := Option.bind_eq_some_iff.mp e
    rw [Option.map_eq_some_iff] at e
    obtain ⟨b, e2, rfl⟩ := e
    cases hx with
    | cons h1 h2 =>
      cases h2 with
      | cons h3 h4 =>
        cases h4
        obtain ⟨t, kv⟩ := kd_at rp h1 e1
        obtain ⟨a, vs, rfl, g1, g2⟩ := tup_at rp h3
        obtain ⟨ty, us, p, q⟩ := isiL_at M kv g2 e2
        exact .inr ⟨_, _, _, _, us, b, rfl, g1, p, ty (by simp), q, okE.now k rp .bl⟩
  · rename_i x c hn
    obtain ⟨kd, e1, e⟩ := Option.bind_eq_some_iff.mp e
    rw [Option.map_eq_some_iff] at e
    obtain ⟨b, e2, rfl⟩ := e
    cases hx with
    | cons h1 h2 =>
      cases h2 with
      | cons h3 h4 =>
        cases h4
        obtain ⟨t, kv⟩ := kd_at rp h1 e1
        obtain ⟨ty, u, k1, k2⟩ := isiK_at M kv h3 e2
        exact .inl ⟨_, _, _, _, b, rfl, k1, ty, k2, okE.now k rp .bl⟩
  · cases e
end
/-! ### e.f, e an error -/
/-- the classes of which errors' fields of the name are read -/
def XfM (K : PySem.W.Frag) (mg : Str → Option Value) (f : Str) (cs : List Str) : Prop := ∀ C ∈ cs, ∀ c, mg C = some (.ref c) → ErC K c ∧ PySem.W.findIn K (.ref c) f = some none
def eXf (cs : List Str) (f : Str) (g : Ev D) : Ev D := fun ρ S => (g ρ S).bind fun d S => match d with
  | .exc C fs => if C ∈ cs then ofO (fs.lookup f) S else .stuck
  | _ => .stuck
/-- o.f of an own object or of an error -/
def eFldX (ce cs : List Str) (f : Str) (g : Ev D) : Ev D := fun ρ S => (g ρ S).bind fun d S => match d with
  | .exc C fs => if C ∈ ce then ofO (fs.lookup f) S else .stuck
  | d => match insOf S d with
    | some (C', fs) => if C' ∈ cs then ofO (fs.lookup f) S else .stuck
    | none => .stuck
section
variable {X : Cx} {W : WX} {e : Expr} {g : Ev D} {cs : List Str} {f : Str} {pos : Pos} {te : TE}
def tXfA (K : PySem.W.Frag) (f : Str) (te : TE) : TE := fun σ H Q => te σ H fun x H1 => ∃ a c fs v, x = .ref a ∧ IsX H1 a c fs ∧ ErC K c ∧ PySem.W.findIn K (.ref c) f = some none ∧ fs.lookup f = some v ∧ Q v H1
theorem pe_xfA (h : PE X e te) (hb : attributeBase e f X.env (eval e X.env) = eval e X.env := by rfl) : PE X (.Attribute e f pos) (tXfA X.K f te) := by
  refine ⟨fun pins s σ H Q I w => attr_of hb (thn (h.run pins s σ H _ I w) ?_)⟩
  rintro u s1 ⟨x, H1, I1, rx, a, c, fs, v, rfl, hx, ec, hno, l, q⟩
  obtain rfl : u = Value.ref a := rx
  obtain ⟨ox, od, J, ⟨o, mA, rfl, hl, hr⟩ | ⟨rfl, rfl⟩⟩ := isx_at I1 hx
  · obtain ⟨u, hu, ru⟩ := RelO.some_of (v := v) (o := mA f) (by rw [← l]; exact hr f)
    exact HandSPX.exc_get I1.kIn J ec.ga ec.gg ec.be (PySem.W.findObj_own ec.hd hno rfl (by rw [hl, hu])) (handed_of ru) ⟨v, H1, I1.tok _, ru, q⟩
  · cases l
theorem de_xf (c : XfM X.K X.mg f cs) (h : DE X W e g) (hb : attributeBase e f X.env (eval e X.env) = eval e X.env := by rfl) : DE X W (.Attribute e f pos) (eXf cs f g) :=
  PE.imp (pe_xfA h hb) fun σ H Q ⟨F, A, P, ρ, S, rp, s, q⟩ => tD.seq rp s q fun d S1 v H1 F1 A1 x1 r1 s1 d1 h1 => by
    split at h1
    · rename_i C fs
      split at h1
      · rename_i hC
        obtain ⟨a, c0, vs, rfl, m1, g1, g2⟩ := exc_isx r1 d1
        obtain ⟨z, e2, h4⟩ := ofO_post h1
        rcases g2.lookup f with ⟨_, e3⟩ | ⟨u, d2, e3, e4, h5⟩
        · rw [e3] at e2; cases e2
        · rw [e4] at e2; cases e2
          exact ⟨a, c0, vs, u, rfl, g1, (c _ hC _ m1).1, (c _ hC _ m1).2, e3, h4 _ _ _ _ x1 r1 h5⟩
      · exact h1.elim
    · exact h1.elim
end
end DL
/-! The facts of error classes put together. -/
namespace DL
open PySem PySem.Spec PyProof.Rows L2
/-- tables over classes -/
def tb0 {α : Type} : Str → Option α := fun _ => none
def tb1 {α : Type} (C : Str) (b : α) (r : Str → Option α) : Str → Option α := fun D => if D = C then some b else r D
def tt0 {α β : Type} : Str → β → Option α := fun _ _ => none
def tt1 {α β : Type} [DecidableEq β] (C : Str) (A : β) (b : α) (r : Str → β → Option α) : Str → β → Option α := fun D E => if D = C ∧ E = A then some b else r D E
section
variable {K : PySem.W.Frag} {mg : Str → Option Value} {cs : List Value} {sub : Str → Option Bool} {C A f n : Str} {c a : Addr} {b : Bool} {ss : Str → Str → Option Bool} {sb : Str → String → Option Bool} {t : String} {ls : List Str}
theorem exmM_nil : ExmM K mg cs tb0 := fun _ _ _ h => by cases h
theorem exmM_cons (h : mg C = some (.ref c)) (e : PySem.W.exmAny K (.ref c) cs = some b) (r : ExmM K mg cs sub) : ExmM K mg cs (tb1 C b sub) := fun D b' c' h1 h2 => by
  unfold tb1 at h1
  split at h1
  · rename_i hD
    subst hD; cases h1
    rw [h] at h2; cases h2
    exact e
  · exact r D b' c' h1 h2
def EcM (K : PySem.W.Frag) (mg : Str → Option Value) (subE : Str → Str → Option Bool) : Prop := ∀ C A b, subE C A = some b → ∀ c a, mg C = some (.ref c) → mg A = some (.ref a) → ErC K c ∧ PySem.W.kitOne K (.ref c) (.ref a) = some b
def EbM (K : PySem.W.Frag) (mg : Str → Option Value) (subB : Str → String → Option Bool) : Prop := ∀ C n b, subB C n = some b → ∀ c, mg C = some (.ref c) → ErC K c ∧ PySem.W.kitOne K (.ref c) (.type n) = some b
theorem ecM_nil : EcM K mg tt0 := fun _ _ _ h => by cases h
theorem ecM_cons (h : mg C = some (.ref c)) (h' : mg A = some (.ref a)) (k : ErC K c) (e : PySem.W.kitOne K (.ref c) (.ref a) = some b) (r : EcM K mg ss) : EcM K mg (tt1 C A b ss) := fun D B b' h1 c' a' h2 h3 => by
  unfold tt1 at h1
  split at h1
  · rename_i hD
    obtain ⟨rfl, rfl⟩ := hD
    cases h1
    rw [h] at h2; cases h2
    rw [h'] at h3; cases h3
    exact ⟨k, e⟩
  · exact r D B b' h1 c' a' h2 h3
theorem ebM_nil : EbM K mg tt0 := fun _ _ _ h => by cases h
theorem ebM_cons (h : mg C = some (.ref c)) (k : ErC K c) (e : PySem.W.kitOne K (.ref c) (.type t) = some b) (r : EbM K mg sb) : EbM K mg (tt1 C t b sb) := fun D B b' h1 c' h2 => by
  unfold tt1 at h1
  split at h1
  · rename_i hD
    obtain ⟨rfl, rfl⟩ := hD
    cases h1
    rw [h] at h2; cases h2
    exact ⟨k, e⟩
  · exact r D B b' h1 c' h2
theorem isiM_nil : IsiM K mg [] (fun _ _ => none) := ⟨fun _ h => (by cases h), fun _ _ _ h => (by cases h)⟩
theorem isaM_mk {sub : Str → Str → Option Bool} {subE : Str → Str → Option Bool} {subB : Str → String → Option Bool} (I : IsiM K mg ls sub) (E : EcM K mg subE) (B : EbM K mg subB) : IsaM K mg ls sub subE subB := ⟨I, E, B⟩
theorem xfM_nil : XfM K mg f [] := fun _ h => by cases h
theorem xfM_cons (h : mg C = some (.ref c)) (k : ErC K c) (e : PySem.W.findIn K (.ref c) f = some none) (r : XfM K mg f ls) : XfM K mg f (C :: ls) := fun D hD c' h2 => by
  rcases List.mem_cons.mp hD with rfl | hD
  · rw [h] at h2; cases h2
    exact ⟨k, e⟩
  · exact r D hD c' h2
theorem erC_mk (cl : PySem.W.isClsIn K c = true) (ga : PySem.W.findIn K (.ref c) "__getattribute__" = some (some (.builtin "BaseException.__getattribute__"))) (gg : PySem.W.findIn K (.ref c) "__getattr__" = some none) (be : PySem.W.subIn K (.ref c) (.type "BaseException") = some true)
    (ha : PySem.W.findIn K (.ref c) "__class__" = some (some (.builtin "object.__class__"))) (hn : PySem.W.specialIn K (.builtin "object.__class__") "__get__" = some (some (.builtin "getset_descriptor.__get__"))) (tk : PySem.W.takesIn K (.builtin "object.__class__") = some true)
    (mo : PySem.W.mroIn K c (.type "object") = some true) (hd : PySem.W.hasDictIn K c = true) : ErC K c := ⟨cl, ga, gg, be, ha, hn, tk, mo, hd⟩
theorem taker_of (h : PySem.W.findIn K (.ref c) f = some none) : PySem.W.takerIn K c f = some none := by unfold PySem.W.takerIn; rw [h]; rfl
end
/-! the bases that the module's errors have -/
abbrev bmV : List Value := [.type "ValueError", .type "Exception", .type "BaseException", .type "object"]
abbrev bmO : List Value := [.type "OverflowError", .type "ArithmeticError", .type "Exception", .type "BaseException", .type "object"]
abbrev bmL : List Value := [.type "LookupError", .type "Exception", .type "BaseException", .type "object"]
abbrev bmR : List Value := [.type "RuntimeError", .type "Exception", .type "BaseException", .type "object"]
theorem fbV : ExcBaseFacts "ValueError" "ValueError.__new__" "ValueError.__init__" bmV := PySem.F.excBase_ValueError
theorem fbO : ExcBaseFacts "OverflowError" "OverflowError.__new__" "OverflowError.__init__" bmO := PySem.F.excBase_OverflowError
theorem fbL : ExcBaseFacts "LookupError" "LookupError.__new__" "LookupError.__init__" bmL := PySem.F.excBase_LookupError
theorem fbR : ExcBaseFacts "RuntimeError" "RuntimeError.__new__" "RuntimeError.__init__" bmR := PySem.F.excBase_RuntimeError
theorem sfV : StoreFacts "ValueError" bmV "object.__setattr__" "object" := PySem.F.store_ValueError
theorem sfO : StoreFacts "OverflowError" bmO "object.__setattr__" "object" := PySem.F.store_OverflowError
theorem sfL : StoreFacts "LookupError" bmL "object.__setattr__" "object" := PySem.F.store_LookupError
theorem sfR : StoreFacts "RuntimeError" bmR "object.__setattr__" "object" := PySem.F.store_RuntimeError
theorem boot_ValueError : bootBuiltins "ValueError" = some (.type "ValueError") := PyProof.Rows.Boot.«ValueError»
theorem boot_OverflowError : bootBuiltins "OverflowError" = some (.type "OverflowError") := PyProof.Rows.Boot.«OverflowError»
theorem boot_LookupError : bootBuiltins "LookupError" = some (.type "LookupError") := PyProof.Rows.Boot.«LookupError»
theorem boot_RuntimeError : bootBuiltins "RuntimeError" = some (.type "RuntimeError") := PyProof.Rows.Boot.«RuntimeError»
end DL
/-! not o (by o's own __len__), a.upper(), a class method by keywords. -/
namespace DL
open PySem PySem.Spec PyProof.Rows L2
variable {gf gj : Bool}
section
variable {prog : Program} {w : World} {A : Around} {E : Value → Shared → Prop} {s : Shared} {K : PySem.W.Frag} {x C f : Addr} {ox : Obj} {od : Option Obj} {Q : Bool → Shared → Prop}
/-- the truth of an object that tells its length itself -/
theorem truthy_len (kin : K.In s.heap) (I : PySem.W.InstAt s.heap x ox C od) (hb : PySem.W.findIn K (.ref C) "__bool__" = some none) (hs : PySem.W.findIn K (.ref C) "__len__" = some (some (.ref f))) (hf : PySem.W.isFn K (.ref f) = true)
    (h : wpAny (model prog w) A.in1 (call (.ref f) [.ref x]) (PySem.W.LenBack fun v s' => ∃ n t, v = .int n t ∧ Q (n != 0) s') E s) : wpAny (model prog w) A (truthy (.ref x)) Q E s := by
  unfold truthy
  refine wpAny_bind (m := callSpecial? (.ref x) (Str.ofString "__bool__")) (wpAny_bind (wpAny_bind (I.type.here ((PySem.W.looks_findIn kin hb).here (wpAny_pure ?_)))))
  refine wpAny_bind (wpAny_bind (I.type.here ((PySem.W.looks_findIn kin hs).here ?_)))
  have main : wpAny (model prog w) A (runValue (.builtin "len" ⟨[.ref x], []⟩)) (fun r s' => ∃ n t, r = .int n t ∧ Q (n != 0) s') E s := by
    refine wpAny_runValue (codeAny_builtin entry_len ?_)
    rw [Around.under_plainId plain_len _]
    unfold Builtin.«len»
    refine wpAny_bind (m := oneArg "len" _) (wpAny_pure ?_)
    refine wpAny_bind (m := callSpecial? (.ref x) (Str.ofString "__len__")) (PySem.W.special_fn kin I hs (beq_iff_eq.mp hf) (wpAny_mono h (fun r s' hr => ?_) fun _ _ y => y))
    cases r <;> first | exact hr.elim | skip
    rename_i n u
    obtain ⟨⟨h0, h1⟩, hq⟩ := hr
    refine wpAny_bind (wpAny_holding (wpAny_pure (wpAny_bind (wpAny_letGo ?_))))
    show wpAny _ _ (if n < 0 then _ else _) _ _ _
    rw [if_neg (by omega)]
    show wpAny _ _ (if n ≥ 2 ^ 63 then _ else _) _ _ _
    rw [if_neg (by omega)]
    refine wpAny_bind (wpAny_mkInt (wpAny_pure ?_))
    obtain ⟨m, t, e, q⟩ := hq
    cases e
    exact ⟨_, _, rfl, q⟩
  show wpAny _ _ (runValue _ >>= _) _ _ _
  refine wpAny_bind (wpAny_mono main (fun r s' ⟨n, t, e, q⟩ => ?_) fun _ _ z => z)
  subst e
  exact wpAny_pure q
end

def NoBl (K : PySem.W.Frag) (mg : Str → Option Value) (own : Str → Option Fn) : Prop := ∀ C mm, own C = some mm → ∀ c, mg C = some (.ref c) → PySem.W.findIn K (.ref c) "__bool__" = some none
/-- not o, o an own object or not -/
def eNotU (own : Str → Option Fn) (f : Ev D) : Ev D := fun ρ S => (f ρ S).bind fun d S => match own1 own S d with
  | some mm => (noExc (mm [d] S)).bind fun r S => match r with
    | .int n => if 0 ≤ n ∧ n < 2 ^ 63 then .ok (.bl (!(n != 0))) S else .stuck
    | _ => .stuck
  | none => (ofO (truB S d) S).bind fun b S => .ok (.bl (!b)) S
section
variable {X : Cx} {W : WX} {k j : Nat} {a e o : Expr} {es : List Expr} {f : Ev D} {fa : Ev (List D)} {pos apos p : Pos} {own : Str → Option Fn} {x m C : Str} {kws : List Keyword}
theorem de_notU (B : Bod gf X W k) (hw : OwnM X.prog X.w X.K X.mg X.base "__len__" j own) (hb : NoBl X.K X.mg own) (hj : j + 1 ≤ k) (ha : DE X W a f) : DE X W (.UnaryOp .Not a pos) (eNotU own f) := by
  refine ⟨fun pins s σ H Q I h => PyProof.Rows.UnaryOp_ (thn (ha.run pins s σ H (fun x H1 => (∃ b, TruV X.K x H1 b ∧ Q (.bl (!b)) H1) ∨ rLenO X.K X.mg own [x] H1 fun v H' => ∃ n, v = .int n ∧ Q (.bl (!(n != 0))) H') I ?_) ?_)⟩
  · obtain ⟨F, A, P, ρ, S, rp, sl, q⟩ := h
    refine tD.seq rp sl q fun d S1 v H1 F1 A1 x1 r1 s1 d1 h1 => ?_
    have h1 := post_okE x1 h1
    split at h1
    · rename_i mm e1
      refine .inr ⟨_, mm, rfl, own1_at r1 d1 e1, F1, A1, P, _, S1, r1, .cons d1 .nil, noExc_post (Out.post_mono (Out.post_bind h1) (fun d S2 z v H2 F2 A2 x4 r4 d4 => ?_) fun _ _ _ z => z)⟩
      split at z
      · rename_i n
        split at z
        · rename_i hn
          cases d4
          exact ⟨n, rfl, hn.1, hn.2, n, rfl, z _ _ _ _ x4 r4 .bl⟩
        · exact z.elim
      · exact z.elim
    · obtain ⟨b, e2, h3⟩ := ofO_post (Out.post_bind h1)
      exact .inl ⟨b, tru_at r1 d1 e2, okE.now h3 r1 .bl⟩
  · rintro u s1 ⟨y, H1, I1, ry, q | q⟩
    · obtain ⟨b, e1, q⟩ := q
      exact PyProof.Rows.not_of (thn (tru_ok pins s1 σ H1 y u (fun c H2 => Q (.bl (!c)) H2) I1 ry ⟨b, e1, q⟩) fun c s2 ⟨H2, I2, q2⟩ => ⟨.bl (!c), H2, I2, rfl, q2⟩)
    · obtain ⟨z, mm, e1, ⟨a, c0, dx, fs, C, rfl, hc, hown, ea⟩, q⟩ := q
      cases e1
      cases (show u = Value.ref a from ry)
      obtain ⟨hcl, g, hM, F⟩ := hw C mm hown
      have hM := hM c0 hc
      obtain ⟨od, J⟩ := ins_inst I1 ea
      refine PyProof.Rows.not_of (truthy_len I1.kIn J (hb C mm hown c0 hc) hM.at_ hM.fn (wpAny_mono (run_in1 (us := [.ref a]) (vs := [.ref a]) (E' := X.xe) F ((B.room.mono hj).in1) I1.env0.in1 I1 (.cons rfl .nil) q) (fun w s' z => ?_) fun _ _ z => z))
      obtain ⟨v, H', I', rv, n, rfl, h0, h1, m2, e2, q2⟩ := z
      cases e2
      obtain ⟨t, rfl⟩ := rv
      exact ⟨⟨h0, h1⟩, n, _, rfl, .bl (!(n != 0)), H', I'.tok _, rfl, q2⟩
/-- a.upper() -/
def eUpper (f : Ev D) : Ev D := fun ρ S => (f ρ S).bind fun x S => match x with
  | .str z => if z.length ≤ 5592405 then .ok (.str (Txt.upper z)) S else .stuck
  | _ => .stuck
theorem de_upper (ho : DE X W o f) (hbase : attributeBase o "upper" X.env (eval o X.env) = eval o X.env := by rfl) (hline : (apos.endLine == pos.line) = true := by rfl) : DE X W (.Call (.Attribute o "upper" apos) [] [] pos) (eUpper f) :=
  PE.imp (pe_upper ho (hbase := hbase) (hline := hline)) fun σ H Q ⟨F, A, P, ρ, S, rp, s, q⟩ => by
    refine tD.seq rp s q fun d S1 v H1 F1 A1 x1 r1 s1 d1 h1 => ?_
    split at h1
    · rename_i z
      split at h1
      · rename_i hl
        cases d1
        exact ⟨⟨_, rfl⟩, z, rfl, rfl, hl, h1 _ _ _ _ x1 r1 .str⟩
      · exact h1.elim
    · exact h1.elim
/-! ### one argument ahead, the others by name -/
def KwB1 (fd : FuncData) (ps : List Str) : Prop := ∀ (s : Shared) (u : Value) (us : List Value), us.length = ps.tail.length → BindsTo s fd ⟨[u], ps.tail.zip us⟩ (ps.zip (u :: us))
theorem kwb1_of {K : PySem.W.Frag} {x qual : Str} {st : Stmt} {f : Addr} {fd : FuncData} {ps : List Str} (F : Fun K x qual st f fd)
    (h : ∀ (kV doc pm : Value) (an : Option Addr) (cdv ct : Value) (u : Value) (us : List Value), us.length = ps.tail.length → bindArgs (PySem.W.fnOf x qual (defArgs st) (defBody st) (defScope st) .none kV doc pm an cdv ct) ⟨[u], ps.tail.zip us⟩ = pure (ps.zip (u :: us))) : KwB1 fd ps := by
  obtain ⟨oc, od, kV, doc, pm, an, cdv, ct, osl, rfl, _, _⟩ := F.ex
  exact fun s u us hl => .of_eq (h kV doc pm an cdv ct u us hl)
def FnK (P : Program) (w : World) (K : PySem.W.Frag) (mg : Str → Option Value) (base : Heap) (k : Nat) (f : Addr) (ps : List Str) (mm : Fn) : Prop :=
  ∀ (A : Around) (outer : List Env) (s : Shared) (H : Hp) (u : Value) (us : List Value) (vs : List V) (Q : VK) (E : XK), Room k A → Env0 P w K mg base A outer s H → Vals vs (u :: us) → us.length = ps.tail.length → spV K mg mm vs H Q E →
    codeAny (model P w) A (.call (.ref f) ⟨[u], ps.tail.zip us⟩) (CR (L2.CX P w) outer P w H s Q E) s
theorem fnk_of {P : Program} {w : World} {K : PySem.W.Frag} {mg : Str → Option Value} {base : Heap} {k : Nat} {f : Addr} {fd : FuncData} {p0 : Str} {ps : List Str} {m : Fn} (F : FnG false P w K mg base k f fd (p0 :: ps) (spD K mg (p0 :: ps).length m)) (kb : KwB1 fd (p0 :: ps)) : FnK P w K mg base k f (p0 :: ps) (mN (p0 :: ps).length m) := by
  intro A outer s H u us vs Q E hr e0 r hl hs
  obtain ⟨F', A', P', ds, S, rp, dv, q⟩ := hs
  unfold mN at q
  split at q
  · rename_i hn
    exact F.run A outer s H ⟨[u], (p0 :: ps).tail.zip us⟩ (u :: us) vs Q E hr (fun z => nomatch z) e0 (kb s u us hl) r ⟨F', A', P', ds, S, rp, dv, hn, q⟩
  · exact q.elim
theorem run_k {A : Around} {pins : List (Addr × Obj)} {σ : L2.St} {H : Hp} {s : Shared} {Q : VK} {f : Addr} {ps : List Str} {mm : Fn} {u : Value} {us : List Value} {vs : List V} (tk : Takes X W) (F : FnK X.prog X.w X.K X.mg X.base j f ps mm) (hr : Room j A) (e0 : Env0 X.prog X.w X.K X.mg X.base A X.stack s H)
    (I : Inv X pins σ H s) (r : Vals vs (u :: us)) (hl : us.length = ps.tail.length) (h : spV X.K X.mg mm vs H Q (WE W σ)) : codeAny (model X.prog X.w) A (.call (.ref f) ⟨[u], ps.tail.zip us⟩) (fun r s' => match r with
      | .ok (.ret u) => EP X pins σ Q u s'
      | .ok _ => False
      | .error e => X.xe e s') s := by
  refine codeAny_mono (F A X.stack s H u us vs Q (WE W σ) hr e0 r hl h) fun r s' hq => ?_
  cases r with
  | error e => exact passAt tk σ pins H s e s' I hq
  | ok fl =>
    cases fl with
    | ret u => exact I.after hq
    | next => exact hq
    | brk => exact hq
    | cont => exact hq
/-- C.m(a=.., ..), m a class method -/
theorem de_cmethK {pl : Sem Bool} {gg : Addr} {mm : Fn} {ps : List Str} {n : Nat} [ar : Ar fa n] (B : Bod gf X W k) (hc : CMetT X.K X.mg C m gg) (F : FnK X.prog X.w X.K X.mg X.base j gg ps mm) (hj : j ≤ k) (ho : DE X W o f) (ha : DK X W kws fa) (hn : n = ps.tail.length := by rfl)
    (hks : (backToKw pos (keywordEach kws X.env)).filterMap (·.1) = ps.tail := by rfl) (hall : (backToKw pos (keywordEach kws X.env)).all (·.1.isSome) = true := by rfl) (hpl : ((backTo pos (starEach [] X.env)).any (·.1) || (backToKw pos (keywordEach kws X.env)).any (·.1.isNone)) = false := by rfl)
    (ht : eval (.Call (.Attribute o m apos) [] kws pos) X.env = (do
      let ov ← eval o X.env
      standAt apos.atName
      let (f, first) ← holding [ov] (getMethod ov m pl)
      callWith pos f first (backTo pos (starEach [] X.env)) (backToKw pos (keywordEach kws X.env))) := by rfl) : DE X W (.Call (.Attribute o m apos) [] kws pos) (eCMeth C mm f fa) := by
  refine ⟨fun pins s σ H Q I w => PySem.W.methodCall_KW (pl := pl) (thn (ho.run pins s σ H (fun x H1 => ∃ c, x = .ref c ∧ X.mg C = some (.ref c) ∧ tDA X.K X.mg W fa σ H1 fun vs H2 => vs.length = n ∧ spV X.K X.mg mm (.ref c :: vs) H2 Q (WE W σ)) I ?_) ?_) ht⟩
  · obtain ⟨F1, A, P, ρ, S, rp, sl, q⟩ := w
    refine tD.seq rp sl q fun d S1 v H1 F1 A1 x1 r1 s1 d1 h1 => ?_
    split at h1
    · rename_i C'
      split at h1
      · rename_i hC
        subst hC
        cases d1 with
        | cls hm =>
          refine ⟨_, rfl, hm, F1, A1, P, ρ, S1, r1, s1, ?_⟩
          have h1 := Out.post_bind (post_okE x1 h1)
          cases e1 : fa ρ S1 with
          | stuck => rw [e1] at h1; exact h1.elim
          | exc C fs S2 => rw [e1] at h1; exact h1
          | ok ds S2 =>
            rw [e1] at h1
            exact fun ws H2 F2 A2 x2 r2 d2 => ⟨d2.length.trans (ar.len _ _ _ _ e1), F2, A2, P, _, S2, r2, .cons (.cls hm) d2, post_okE x2 h1⟩
      · exact h1.elim
    · exact h1.elim
  · rintro u s1 ⟨x, H1, I1, rx, c, rfl, hC, q⟩
    cases (show u = Value.ref c from rx)
    obtain ⟨mc, p, r, cm⟩ := hc.at_ c hC
    refine ClX.getmethcm_ok I1 r cm fun s2 I2 => ?_
    refine PySem.W.callWith_of hpl (PySem.W.keeps_M (K := X.K) (q := s1.heap.objs.size) (self := .ref c) cm.fi) (PyProof.Rows.evalArgs_kw2_nil hall (thn (ha.run pos _ s2 σ H1 _ I2 q) ?_))
    rintro us s3 ⟨vs, H2, I3, rv, hl, q2⟩
    refine ⟨⟨ClX.pin_at I3, I3.kIn⟩, ?_⟩
    rw [hks]
    have hul : us.length = ps.tail.length := by rw [← rv.length, hl, hn]
    have z : wpAny (model X.prog X.w) X.A (call (.ref s1.heap.objs.size) [] (ps.tail.zip us)) (EP X ((s1.heap.objs.size, PySem.W.methodObj (.ref gg) (.ref c)) :: pins) σ Q) X.xe s3 :=
      wpAny_call (PySem.W.method_call (ClX.pin_at I3) (run_k (u := .ref c) (us := us) (vs := .ref c :: vs) B.tk F (B.room.mono hj) I3.env0 I3 (.cons rfl rv) hul q2))
    exact thn z fun _ _ y => ClX.unpinE y
end
theorem noBl_nil {K : PySem.W.Frag} {mg : Str → Option Value} : NoBl K mg none' := fun _ _ h => by cases h
theorem noBl_more {K : PySem.W.Frag} {mg : Str → Option Value} {C : Str} {c : Addr} {mm : Fn} {own : Str → Option Fn} (h : mg C = some (.ref c)) (n : PySem.W.findIn K (.ref c) "__bool__" = some none) (r : NoBl K mg own) : NoBl K mg (more C mm own) := fun D m2 e c' h2 => by
  unfold more at e
  split at e
  · rename_i hD
    subst hD; rw [h] at h2; cases h2; exact n
  · exact r D m2 e c' h2
end DL
/-! a dict beside texts: in; list(x) into the store; constants of a class -/
namespace PySem.SeqAt
open AutoSeq1 (wpAny_loadPart')
open MeetsSeq MeetsSeq2 MeetsSeq3 SeqRoads2 MeetsSeq
theorem dl_str_declines_dict (b : Str) (u : Tok) (l : Addr) (c : Value) (es : Array DictEntry) (n : Nat) (dd : Option Addr) (sl : Array (Option Value)) :
    Meets (Builtin.«str.__eq__» ⟨[.str b u, .ref l], []⟩) (fun _ R s => s.heap.get? l = some { cls := c, dict := dd, data := .dict es n, slots := sl } ∧ R (.ok (.ret .notImplemented)) s) :=
  .of_wp fun prog w A R s h => by obtain ⟨hp, g, d, tk, os⟩ := s; obtain ⟨hl, h⟩ := h; wp_walk using wpAny_loadPart' hl, wpAny_load hl; exact ⟨_, rfl, h⟩
theorem dl_dict_declines_str (b : Str) (u : Tok) (l : Addr) (es : Array DictEntry) (n : Nat) (dd : Option Addr) (sl : Array (Option Value)) :
    Meets (Builtin.«dict.__eq__» ⟨[.ref l, .str b u], []⟩) (fun _ R s => s.heap.get? l = some { cls := .type "dict", dict := dd, data := .dict es n, slots := sl } ∧ R (.ok (.ret .notImplemented)) s) :=
  .of_wp fun prog w A R s h => by
    obtain ⟨hl, h⟩ := h
    show wpAny _ _ (Builtin.Dict.dictSlotArgs "__eq__" ⟨[.ref l, .str b u], []⟩ >>= _) _ _ s
    refine wpAny_bind ?_
    unfold Builtin.Dict.dictSlotArgs
    refine wpAny_bind (wpAny_notOrdered_dict ⟨_, hl, rfl⟩ ?_)
    show wpAny _ _ (pure (Value.ref l, Value.str b u)) _ _ s
    refine wpAny_pure ?_
    refine wpAny_bind (wpAny_isInstance (T := "str") (typeIs_str s b u) F.sub_str_dict ?_)
    simp only [Bool.not_false, if_true]
    exact wpAny_bind (wpAny_rule (wpAny_pure ⟨_, rfl, h⟩))
theorem dl_RcAt_str_dict {A : Around} {s : Shared} {l : Addr} {es : Array DictEntry} {n : Nat} {dd : Option Addr} {sl : Array (Option Value)} (b : Str) (u : Tok)
    (ho : s.heap.get? l = some { cls := .type "dict", dict := dd, data := .dict es n, slots := sl }) (hu : A.units < cLine) : RcAt A s (.str b u) (.ref l) false := fun prog w E Q h =>
  rc_eq_decline_or (k := false) (typeIs_str s b u) ⟨_, ho, rfl⟩ (by decide) F.sub_dict_str F.slot_str_eq F.slot_dict_eq_refl
    (fun _ hq => call_meets F.slot_str_eq (typeIs_str s b u) F.entry_str_eq (F.args_str_eq_2 _ _) (dl_str_declines_dict b u l (.type "dict") es n dd sl) ⟨ho, hq⟩)
    (fun _ hq => call_meets F.slot_dict_eq_refl ⟨_, ho, rfl⟩ F.entry_dict_eq (F.args_dict_eq_2 _ _) (dl_dict_declines_str b u l es n dd sl) ⟨ho, hq⟩)
    (fun _ hq => wpAny_of_eq (rfl : isSame (.str b u) (.ref l) = pure false) hq) (.inr hu) h
theorem dl_EqAt_str_dict {A : Around} {s : Shared} {l : Addr} {es : Array DictEntry} {n : Nat} {dd : Option Addr} {sl : Array (Option Value)} (b : Str) (u : Tok)
    (ho : s.heap.get? l = some { cls := .type "dict", dict := dd, data := .dict es n, slots := sl }) (hu : A.units < cLine) : EqAt A s (.str b u) (.ref l) false := fun prog w E Q h => by
  unfold eqBool
  refine wpAny_holding ?_
  refine wpAny_ite_split (fun hab => absurd (eq_of_beq hab) nofun) (fun _ => ?_)
  exact wpAny_bind (dl_RcAt_str_dict b u ho hu prog w E _ (wpAny_truthy_bool h))
end PySem.SeqAt

namespace DL
open PySem PySem.Spec PyProof.Rows L2
variable {gf gj : Bool}
/-- a dict in a list of texts -/
def rInDs (K : PySem.W.Frag) (n : Bool) : R2 := fun x y H Q => ∃ a kvs p xs, x = .ref a ∧ y = .ref p ∧ Rd H a (.dK kvs) ∧ SqL K H p xs ∧ (∀ z ∈ xs, ∃ w, z = .str w) ∧ Q (.bl n) H
theorem dk_raw {P : Program} {w : World} {H : Hp} {h : Heap} {a : Addr} {kvs : List (Key × V)} (ok : HOk P w H h) (e : Rd H a (.dK kvs)) : ∃ es n dd sl, h.get? a = some { cls := .type "dict", dict := dd, data := .dict es n, slots := sl } := by
  obtain ⟨_, _, vs, _, o, es, n, ho, ⟨hc, hd, hs⟩, hdat, _⟩ := dk_rd ok e
  obtain ⟨c, d, dt, sl⟩ := o
  simp only at hc hd hs hdat
  subst hc hd hs hdat
  exact ⟨es, n, none, #[], ho⟩
theorem strs_eqAt {A : Around} {s : Shared} {a : Addr} {es : Array DictEntry} {n : Nat} {dd : Option Addr} {sl : Array (Option Value)} (ho : s.heap.get? a = some { cls := .type "dict", dict := dd, data := .dict es n, slots := sl }) (hu : A.units < cLine) :
    ∀ {xs : List V} {us : List Value}, Vals xs us → (∀ z ∈ xs, ∃ w, z = V.str w) → ∀ u ∈ us, SeqAt.EqAt A s u (.ref a) false
  | _, _, .nil, _ => fun u hu => by cases hu
  | x :: xs, u :: us, .cons r t, f => fun u' hu' => by
    rcases List.mem_cons.mp hu' with rfl | h
    · obtain ⟨w, rfl⟩ := f x List.mem_cons_self
      obtain ⟨t', rfl⟩ := r
      exact SeqAt.dl_EqAt_str_dict _ _ ho hu
    · exact strs_eqAt ho hu t (fun z hz => f z (List.mem_cons_of_mem _ hz)) u' h
section
variable {X : Cx}
theorem op_inDs (hu : X.A.units + 64 < cLine) : OpR X (compareOp .In) (rInDs X.K false) := by
  intro pins s σ H x y v u Q I rx ry h
  obtain ⟨a, kvs, p, xs, rfl, rfl, h1, h2, h3, q⟩ := h
  cases (show v = Value.ref a from rx)
  cases (show u = Value.ref p from ry)
  obtain ⟨es, n, dd, sl, ho⟩ := dk_raw I.hok h1
  obtain ⟨its, r, pl, hz⟩ := I.list h2
  have hu1 : X.A.in1.units < cLine := by have : X.A.in1.units = X.A.units + 1 := rfl; omega
  refine SeqAt.in_listAt (A := X.A) (fun _ => false) pl.isList (fun w hw => strs_eqAt ho hu1 r h3 w (by simpa using hw)) ⟨.bl false, H, I, ?_, q⟩
  show Value.bool _ = Value.bool false
  simp
theorem op_notInDs (hu : X.A.units + 64 < cLine) : OpR X (compareOp .NotIn) (rInDs X.K true) := by
  intro pins s σ H x y v u Q I rx ry h
  obtain ⟨a, kvs, p, xs, rfl, rfl, h1, h2, h3, q⟩ := h
  cases (show v = Value.ref a from rx)
  cases (show u = Value.ref p from ry)
  obtain ⟨es, n, dd, sl, ho⟩ := dk_raw I.hok h1
  obtain ⟨its, r, pl, hz⟩ := I.list h2
  have hu1 : X.A.in1.units < cLine := by have : X.A.in1.units = X.A.units + 1 := rfl; omega
  refine SeqAt.notIn_listAt (A := X.A) (fun _ => false) pl.isList (fun w hw => strs_eqAt ho hu1 r h3 w (by simpa using hw)) ⟨.bl true, H, I, ?_, q⟩
  show Value.bool _ = Value.bool true
  simp
end
def isStr : D → Bool
  | .str _ => true
  | _ => false
/-- a dict in a list of texts -/
def dictIn (x y : D) (S : Store) : Bool := match itemsK S x, itemsR S y with
  | some _, some ys => ys.all isStr
  | _, _ => false
def gInD (x y : D) (S : Store) : Option D := if dictIn x y S then some (.bl false) else gIn x y S
def gNotInD (x y : D) (S : Store) : Option D := if dictIn x y S then some (.bl true) else gNotIn x y S
theorem strs_at {K mg F A} : ∀ {vs : List V} {ds : List D}, Dats K mg F A vs ds → ds.all isStr = true → ∀ z ∈ vs, ∃ w, z = V.str w
  | _, _, .nil, _ => fun z hz => by cases hz
  | _, _, .cons h r, e => fun z hz => by
    rw [List.all_cons, Bool.and_eq_true] at e
    rcases List.mem_cons.mp hz with rfl | hz
    · cases h <;> simp [isStr] at e
      exact ⟨_, rfl⟩
    · exact strs_at r e.2 z hz
theorem dictIn_at {K mg F A P H S x y dx dy} (rp : Rep K mg F A S P H) (hx : Dat K mg F A x dx) (hy : Dat K mg F A y dy) (e : dictIn dx dy S = true) :
    ∃ a kvs p xs, x = .ref a ∧ y = .ref p ∧ Rd H a (.dK kvs) ∧ SqL K H p xs ∧ (∀ z ∈ xs, ∃ w, z = V.str w) := by
  unfold dictIn at e
  split at e
  · rename_i ks ys e1 e2
    obtain ⟨a, kvs, rfl, h1, h2⟩ := itemsK_at rp hx e1
    obtain ⟨p, xs, rfl, h3, h4⟩ := itemsR_at rp hy e2
    exact ⟨a, kvs, p, xs, rfl, rfl, h1, h3, strs_at h4 e⟩
  · cases e
theorem inD_ent {K mg} {r : R2} (h : OpE K mg r gIn) : OpE K mg (fun x y H Q => r x y H Q ∨ rInDs K false x y H Q) gInD := by
  intro F A P S H x y dx dy d Q rp hx hy e k
  unfold gInD at e
  split at e
  · rename_i hd
    cases e
    obtain ⟨a, kvs, p, xs, h1, h2, h3, h4, h5⟩ := dictIn_at rp hx hy hd
    exact .inr ⟨a, kvs, p, xs, h1, h2, h3, h4, h5, okE.now k rp .bl⟩
  · exact .inl (h _ _ _ _ _ _ _ _ _ _ _ rp hx hy e k)
theorem notInD_ent {K mg} {r : R2} (h : OpE K mg r gNotIn) : OpE K mg (fun x y H Q => r x y H Q ∨ rInDs K true x y H Q) gNotInD := by
  intro F A P S H x y dx dy d Q rp hx hy e k
  unfold gNotInD at e
  split at e
  · rename_i hd
    cases e
    obtain ⟨a, kvs, p, xs, h1, h2, h3, h4, h5⟩ := dictIn_at rp hx hy hd
    exact .inr ⟨a, kvs, p, xs, h1, h2, h3, h4, h5, okE.now k rp .bl⟩
  · exact .inl (h _ _ _ _ _ _ _ _ _ _ _ rp hx hy e k)
/-- list(x) that goes into the store -/
def eListR (f : Ev (List D)) : Ev D := fun ρ S => (f ρ S).bind fun x S => match x with
  | [x] => match itemsS S x with
    | some ys => if ys.length ≤ 16777216 then .ok (.ref S.length) (S ++ [.lst ys]) else .stuck
    | none => .stuck
  | _ => .stuck
/-- C.f of a class is the constant d -/
def CcM (K : PySem.W.Frag) (mg : Str → Option Value) (C f : Str) (d : D) : Prop := ∃ c mc v u, mg C = some (.ref c) ∧ ClX.CRead K c mc ∧ ClX.CVal K c mc f v u ∧ ∀ F A, Dat K mg F A v d
theorem ccM_int {K mg C f c mc i t} (hm : mg C = some (.ref c)) (rd : PySem.W.readsIn K c mc = true) (ga : PySem.W.specialIn K (.ref c) "__getattribute__" = some (some (.builtin "type.__getattribute__")))
    (a : PySem.W.findCls K (.ref c) mc f = some (.val (.int i t))) : CcM K mg C f (.int i) := ⟨c, mc, .int i, _, hm, ⟨rd, ga⟩, ⟨a, _, rfl⟩, fun _ _ => .int⟩
section
variable {X : Cx} {W : WX} {pos p : Pos} {f : Str} {es : List Expr} {e : Expr} {fa : Ev (List D)} {x C : Str} {d : D}
theorem de_ccon (hc : CcM X.K X.mg C f d) (hg : Gl X C) (hdb : (C == ("__debug__" : Str)) = false := by decide)
    (hb : attributeBase (.Name C p) f X.env (eval (.Name C p) X.env) = eval (.Name C p) X.env := by rfl) : DE X W (.Attribute (.Name C p) f pos) (eC d) := by
  obtain ⟨c, mc, v, u, hm, r, cv, q⟩ := hc
  exact PE.imp (ClX.pe_cval (pe_glob hg hm (v := .ref c) rfl hdb) hb) fun σ H Q ⟨F, A, P, ρ, S, rp, s, h⟩ => ⟨c, mc, v, u, rfl, r, cv, okE.now h rp (q F A)⟩
theorem de_listR (hg : Gl X x) (hm : X.mg x = none) (hv : bootBuiltins x = some (.type "list")) (ha : DA X W (e :: es) fa) (hn : x ≠ "__name__" := by decide) (hdb : (x == ("__debug__" : Str)) = false := by decide)
    (he : starEach (e :: es) X.env = (false, eval e X.env) :: starEach es X.env := by rfl) (hpl : (backTo pos (starEach es X.env)).any (·.1) = false := by rfl) : DE X W (.Call (.Name x p) (e :: es) [] pos) (eListR fa) :=
  PE.imp (pe_callTy call_list_of hg hm hv ha hn hdb he hpl) fun σ H Q ⟨F, A, P, ρ, S, r, s, h⟩ => by
    refine tDA.seq r s h fun ds S1 vs H1 F1 A1 x1 r1 s1 d1 h1 => ?_
    split at h1
    · rename_i z
      cases d1 with
      | cons g1 g2 =>
        cases g2
        split at h1
        · rename_i ys e1
          split at h1
          · rename_i hl
            obtain ⟨a, ws, rfl, h2, h3⟩ := itemsS_at r1 g1 e1
            refine ⟨a, ws, rfl, h2, fun p hp => ?_⟩
            have hF : F1 p = none := r1.le.free hp
            have e : (A1 ++ [p])[A1.length]? = some p := by simp
            obtain ⟨x2, r2⟩ := r1.alloc (o := .lst ws) (so := .lst ys) hp ⟨p, ws, e, hF, upd_same, h3.mono ⟨Same.refl _, [p], rfl⟩⟩
            exact h1 _ _ _ _ (x1.trans x2) r2 (.ref (by rw [← r1.len]; exact e))
          · exact h1.elim
        · exact h1.elim
    · exact h1.elim
end
end DL
/-! own o[i] and o + p that may raise; own methods by keywords -/
namespace DL
open PySem PySem.Spec PyProof.Rows L2
variable {gf gj : Bool}
def rOwn2W (K : PySem.W.Frag) (mg : Str → Option Value) (own : Str → Option Fn) (Wx : XK) : R2 := fun x y H Q => ∃ mm, IsOwn1 mg own H x mm ∧ spV K mg mm [x, y] H Q Wx
def eBinW (own : Str → Option Fn) (g : D → D → Store → Option D) (f h : Ev D) : Ev D := fun ρ S => (f ρ S).bind fun x S => (h ρ S).bind fun y S => match own1 own S x with
  | some mm => mm [x, y] S
  | none => ofO (g x y S) S
def rOwn2SW (K : PySem.W.Frag) (mg : Str → Option Value) (own : Str → Option Fn) (Wx : XK) : R2 := fun x y H Q => ∃ mm a b c dx dy fs gs C, x = .ref a ∧ y = .ref b ∧ mg C = some (.ref c) ∧ own C = some mm ∧ H a = some (.ins c dx fs) ∧ H b = some (.ins c dy gs) ∧ spV K mg mm [x, y] H Q Wx
def eBinSW (own : Str → Option Fn) (g : D → D → Store → Option D) (f h : Ev D) : Ev D := fun ρ S => (f ρ S).bind fun x S => (h ρ S).bind fun y S => match own1 own S x with
  | some mm => if clsOf S x = clsOf S y then mm [x, y] S else .stuck
  | none => ofO (g x y S) S
def OwnKM (P : Program) (w : World) (K : PySem.W.Frag) (mg : Str → Option Value) (base : Heap) (m : Str) (j : Nat) (ps : List Str) (own : Str → Option Fn) : Prop :=
  ∀ C mm, own C = some mm → ClsT K mg C ∧ ∃ f, MethT K mg C m f ∧ FnK P w K mg base j f ps mm
section
variable {X : Cx} {W : WX} {k j : Nat} {a b e o : Expr} {f h fo : Ev D} {fa : Ev (List D)} {pos apos : Pos} {own : Str → Option Fn} {r : R2} {g : D → D → Store → Option D} {kws : List Keyword} {m : Str}
theorem run_in1W {pins : List (Addr × Obj)} {σ : L2.St} {H : Hp} {s : Shared} {Q : VK} {us : List Value} {vs : List V} {A : Around} {f : Addr} {sp : Sp} (tk : Takes X W) (F : FnR X.prog X.w X.K X.mg X.base (L2.CX X.prog X.w) j f sp) (hr : Room j A) (e0 : Env0 X.prog X.w X.K X.mg X.base A X.stack s H) (I : Inv X pins σ H s) (r : Vals vs us) (h : sp vs H Q (WE W σ)) :
    wpAny (model X.prog X.w) A (call (.ref f) us) (EP X pins σ Q) X.xe s := wpAny_call (run_at' tk F hr e0 I r h)
theorem binW_ent (he : OpE X.K X.mg r g) : ∀ σ H Q, tD X.K X.mg W (eBinW own g f h) σ H Q → tOp (fun x y H Q => r x y H Q ∨ rOwn2W X.K X.mg own (WE W σ) x y H Q) (tD X.K X.mg W f) (tD X.K X.mg W h) σ H Q := fun σ H Q ⟨F, A, P, ρ, S, rp, s, q⟩ => by
  refine tD.seq rp s q fun d S1 v H1 F1 A1 x1 r1 s1 d1 h1 => ?_
  have h1 := post_okE x1 h1
  refine tD.seq r1 s1 h1 fun d2 S2 v2 H2 F2 A2 x2 r2 s2 d2' h2 => ?_
  have h2 := post_okE x2 h2
  split at h2
  · rename_i mm e1
    exact .inr ⟨mm, own1_at r2 (d1.mono x2) e1, F2, A2, P, _, S2, r2, .cons (d1.mono x2) (.cons d2' .nil), h2⟩
  · obtain ⟨z, e, h3⟩ := ofO_post h2
    exact .inl (he _ _ _ _ _ _ _ _ _ _ _ r2 (d1.mono x2) d2' e h3)
theorem ix_ownW (B : Bod gf X W k) (hw : IxM X.prog X.w X.K X.mg X.base j own) (hj : j + 1 ≤ k) {value slice : Expr} (hsl : ∀ v u, subscripted slice true v u = runValue (.builtin "lifetime.subscript" ⟨[v, u], []⟩))
    {pins : List (Addr × Obj)} {s : Shared} {σ : L2.St} {H : Hp} {x y : V} {v u : Value} {Q : VK} (I : Inv X pins σ H s) (rx : RelV x v) (ry : RelV y u) (hq : rOwn2W X.K X.mg own (WE W σ) x y H Q) : wpAny (model X.prog X.w) X.A (subscriptTail value slice v u) (EP X pins σ Q) X.xe s := by
  obtain ⟨mm, ⟨a, c0, dx, fs, C, rfl, hc, hown, ea⟩, q⟩ := hq
  cases (show v = Value.ref a from rx)
  obtain ⟨hcl, f, hM, hfi, F⟩ := hw C mm hown
  have hM := hM c0 hc
  obtain ⟨od, J⟩ := ins_inst I ea
  obtain ⟨m0, fr⟩ := I.fr
  exact PySem.W.sub_K fr I.ok.mod.kin J hM.at_ hfi hM.fn (run_in1W (us := [.ref a, u]) (vs := [.ref a, y]) B.tk F ((B.room.mono hj).in1) I.env0.in1 I (.cons rfl (.cons ry .nil)) q) (hsl _ _)
theorem de_ixW (B : Bod gf X W k) (hw : IxM X.prog X.w X.K X.mg X.base j own) (hj : j + 1 ≤ k) (ha : DE X W a f) (hb : DE X W b h) (hs : PlainIx b) (hsl : ∀ v u, subscripted b true v u = runValue (.builtin "lifetime.subscript" ⟨[v, u], []⟩)) : DE X W (.Subscript a b pos) (eBinW own gIx f h) := by
  refine ⟨fun pins s σ H Q I w => PyProof.Rows.Subscript_ (binT ha hb I (binW_ent ixG_ent σ H Q w) ?_)⟩
  rintro v u s2 x y H2 I2 rx ry (q | q)
  · exact ix_seq a b pins s2 σ H2 x y v u Q I2 rx ry q (hs _ _)
  · exact ix_ownW B hw hj hsl I2 rx ry q
theorem binSW_ent (he : OpE X.K X.mg r g) : ∀ σ H Q, tD X.K X.mg W (eBinSW own g f h) σ H Q → tOp (fun x y H Q => r x y H Q ∨ rOwn2SW X.K X.mg own (WE W σ) x y H Q) (tD X.K X.mg W f) (tD X.K X.mg W h) σ H Q := fun σ H Q ⟨F, A, P, ρ, S, rp, s, q⟩ => by
  refine tD.seq rp s q fun d S1 v H1 F1 A1 x1 r1 s1 d1 h1 => ?_
  have h1 := post_okE x1 h1
  refine tD.seq r1 s1 h1 fun d2 S2 v2 H2 F2 A2 x2 r2 s2 d2' h2 => ?_
  have h2 := post_okE x2 h2
  split at h2
  · rename_i mm e1
    split at h2
    · rename_i e2
      obtain ⟨a, b, c, dx, dy, fs, gs, C, g1, g2, g3, g4, g5, g6⟩ := clsOf_at r2 (d1.mono x2) d2' e1 e2
      exact .inr ⟨mm, a, b, c, dx, dy, fs, gs, C, g1, g2, g3, g4, g5, g6, F2, A2, P, _, S2, r2, .cons (d1.mono x2) (.cons d2' .nil), h2⟩
    · exact h2.elim
  · obtain ⟨z, e, h3⟩ := ofO_post h2
    exact .inl (he _ _ _ _ _ _ _ _ _ _ _ r2 (d1.mono x2) d2' e h3)
theorem de_addW (B : Bod gf X W k) (hw : AddM X.prog X.w X.K X.mg X.base "__add__" j own) (hj : j ≤ k) (ha : DE X W a f) (hb : DE X W b h) : DE X W (.BinOp a .Add b pos) (eBinSW own gAdd f h) := by
  refine ⟨fun pins s σ H Q I w => wpAny_BinOp (binT ha hb I (binSW_ent addG_ent σ H Q w) ?_)⟩
  rintro v u s2 x y H2 I2 rx ry (q | ⟨mm, a, b, c0, dx, dy, fs, gs, C, rfl, rfl, hc, hown, ea, eb, q⟩)
  · exact op_addG pins s2 σ H2 x y v u Q I2 rx ry q
  · cases (show v = Value.ref a from rx)
    cases (show u = Value.ref b from ry)
    obtain ⟨hcl, hsf, f, hM, F⟩ := hw C mm hown
    have hM := hM c0 hc
    obtain ⟨od, J⟩ := ins_inst I2 ea
    obtain ⟨od2, J2⟩ := ins_inst I2 eb
    obtain ⟨m0, fr⟩ := I2.fr
    refine PySem.W.binop_K (op := .Add) fr I2.ok.mod.kin J J2.type (hsf c0 hc) hM.at_ hM.fn (wpAny_mono (run_in1W (us := [.ref a, .ref b]) (vs := [.ref a, .ref b]) B.tk F (B.room.mono hj) I2.env0 I2 (.cons rfl (.cons rfl .nil)) q) (fun w s' z => ?_) fun _ _ z => z)
    obtain ⟨v, H', I', rv, q2⟩ := z
    exact SlX.cmpback rv ⟨v, H', I', rv, q2⟩
/-- o.m(a=.., ..) -/
theorem de_methK {pl : Sem Bool} {ps : List Str} {n : Nat} [ar : Ar fa n] (B : Bod gf X W k) (hw : OwnKM X.prog X.w X.K X.mg X.base m j ps own) (hj : j ≤ k) (ho : DE X W o fo) (ha : DK X W kws fa) (hn : n = ps.tail.length := by rfl)
    (hks : (backToKw pos (keywordEach kws X.env)).filterMap (·.1) = ps.tail := by rfl) (hall : (backToKw pos (keywordEach kws X.env)).all (·.1.isSome) = true := by rfl) (hpl : ((backTo pos (starEach [] X.env)).any (·.1) || (backToKw pos (keywordEach kws X.env)).any (·.1.isNone)) = false := by rfl)
    (ht : eval (.Call (.Attribute o m apos) [] kws pos) X.env = (do
      let ov ← eval o X.env
      standAt apos.atName
      let (f, first) ← holding [ov] (getMethod ov m pl)
      callWith pos f first (backTo pos (starEach [] X.env)) (backToKw pos (keywordEach kws X.env))) := by rfl) : DE X W (.Call (.Attribute o m apos) [] kws pos) (eMeth m own fo fa) := by
  refine ⟨fun pins s σ H Q I w => PySem.W.methodCall_KW (pl := pl) (thn (ho.run pins s σ H (fun x H1 => ∃ mm, IsOwn X.mg own m H1 x mm ∧ tDA X.K X.mg W fa σ H1 fun vs H2 => vs.length = n ∧ spV X.K X.mg mm (x :: vs) H2 Q (WE W σ)) I ?_) ?_) ht⟩
  · obtain ⟨F1, A, P, ρ, S, rp, sl, q⟩ := w
    refine tD.seq rp sl q fun d S1 v H1 F1 A1 x1 r1 s1 d1 h1 => ?_
    split at h1
    · rename_i mm e1
      refine ⟨mm, own_at r1 d1 e1, F1, A1, P, ρ, S1, r1, s1, ?_⟩
      have h1 := Out.post_bind (post_okE x1 h1)
      cases e2 : fa ρ S1 with
      | stuck => rw [e2] at h1; exact h1.elim
      | exc C fs S2 => rw [e2] at h1; exact h1
      | ok ds S2 =>
        rw [e2] at h1
        exact fun ws H2 F2 A2 x2 r2 d2 => ⟨d2.length.trans (ar.len _ _ _ _ e2), F2, A2, P, _, S2, r2, .cons (d1.mono x2) d2, post_okE x2 h1⟩
    · exact h1.elim
  · rintro u s1 ⟨x, H1, I1, rx, mm, ⟨a, c0, dx, fs, C, rfl, hc, hown, ea, l⟩, q⟩
    cases (show u = Value.ref a from rx)
    obtain ⟨hcl, f, hM, F⟩ := hw C mm hown
    have hM := hM c0 hc
    refine getmeth_ok I1 ea (hcl c0 hc) hM l (PySem.W.callWith_of (first := [.ref a]) hpl (PySem.W.keeps_K (K := X.K) hM.kp) (PyProof.Rows.evalArgs_kw2_nil hall (thn (ha.run pos pins s1 σ H1 _ I1 q) ?_)))
    rintro us s3 ⟨vs, H2, I3, rv, hl, q2⟩
    refine ⟨I3.kIn, ?_⟩
    rw [hks]
    have hul : us.length = ps.tail.length := by rw [← rv.length, hl, hn]
    exact wpAny_call (run_k (u := .ref a) (us := us) (vs := .ref a :: vs) B.tk F (B.room.mono hj) I3.env0 I3 (.cons rfl rv) hul q2)
end
section
variable {P : Program} {w : World} {K : PySem.W.Frag} {mg : Str → Option Value} {base : Heap} {j k : Nat} {g : Addr} {m C : Str} {ps : List Str} {mm : Fn} {own : Str → Option Fn}
theorem FnK.mono (F : FnK P w K mg base k g ps mm) (hk : k ≤ j) : FnK P w K mg base j g ps mm := fun A outer s H u us vs Q E hr => F A outer s H u us vs Q E (hr.mono hk)
theorem ownKM_nil : OwnKM P w K mg base m j ps none' := fun _ _ h => by cases h
theorem ownKM_more (c1 : ClsT K mg C) (h : MethT K mg C m g) (F : FnK P w K mg base k g ps mm) (hk : k ≤ j) (r : OwnKM P w K mg base m j ps own) : OwnKM P w K mg base m j ps (more C mm own) := fun D m2 e => by
  unfold more at e
  split at e
  · rename_i hD
    subst hD; cases e
    exact ⟨c1, g, h, F.mono hk⟩
  · exact r D m2 e
end
end DL
/-! for i, x in enumerate(tuple) -/
namespace PySem
open Sem (wp)
set_option maxHeartbeats 1000000 in
theorem dl_enum_new {v : Value} {o : Obj} {H : Heap → Prop} (B : Begins v o H) :
    Meets (Builtin.«enumerate.__new__» ⟨[.type "enumerate", v], []⟩) (fun _ R s => H s.heap ∧
      R (.ok (.ret (.ref (s.heap.push o).objs.size))) { s with heap := (s.heap.push o).push { cls := .type "enumerate", data := .fields #[.none, .bool false, .ref s.heap.objs.size, rawInt 0, .none, .none] } }) :=
  .of_wp fun prog w A R s h => by
    obtain ⟨hp, g, d, tk, os⟩ := s; obtain ⟨h1, h⟩ := h
    have hsub := sub_enumerate
    have q1 : ∀ {A' : Around} {E : Value → Shared → Prop} {Q : Value → Shared → Prop}, Q (.ref hp.objs.size) ⟨hp.push o, g, d, tk, os⟩ → wpAny (model prog w) A' (pyIter v) Q E ⟨hp, g, d, tk, os⟩ :=
      fun q => B.iter prog w _ _ ⟨hp, g, d, tk, os⟩ _ h1 q
    wp_walk using q1
    refine wpAny_stack_any fun st => wpAny_pure ?_
    split
    · rename_i c _ _ _ _ _
      cases (c == Value.type "enumerate")
      · wp_walk using q1
        exact ⟨_, rfl, h⟩
      · wp_walk using q1
        exact ⟨_, rfl, h⟩
    · wp_walk using q1
      exact ⟨_, rfl, h⟩
section
variable {prog : Program} {w : World} {A : Around} {E : Value → Shared → Prop} {s : Shared}
theorem dl_enum_begins {v : Value} {o : Obj} {H : Heap → Prop} {Q : Value → Shared → Prop} (B : Begins v o H) (h1 : H s.heap)
    (h : ∀ h', IsEnum h' (s.heap.objs.size + 1) s.heap.objs.size 0 .none → h'.get? s.heap.objs.size = some o → h'.objs.size = s.heap.objs.size + 2 →
      (∀ b o, s.heap.get? b = some o → h'.get? b = some o) → Q (.ref (s.heap.objs.size + 1)) { s with heap := h' }) :
    wpAny (model prog w) A (call (.type "enumerate") [v]) Q E s := by
  refine callType_new F.called_enumerate (by decide) (F.typeCall_enumerate_1 _) (F.newCall_enumerate_1 _) (fun obj => F.args_object_init_2 obj _) F.entry_enumerate_new
    (dl_enum_new B) ⟨h1, ?_⟩
  have hz : (s.heap.push o).objs.size = s.heap.objs.size + 1 := Heap.size_push ..
  show _ ∧ _
  rw [hz]
  have he : IsEnum ((s.heap.push o).push { cls := .type "enumerate", data := .fields #[.none, .bool false, .ref s.heap.objs.size, rawInt 0, .none, .none] }) (s.heap.objs.size + 1) s.heap.objs.size 0 .none := by
    have := Heap.get?_push_size (s.heap.push o) (o := { cls := .type "enumerate", data := .fields #[.none, .bool false, .ref s.heap.objs.size, rawInt 0, .none, .none] }) rfl
    rw [hz] at this; exact this
  refine ⟨⟨_, he, rfl⟩, h _ he (Heap.get?_push_of_some _ (Heap.get?_push_size _ B.free)) (by rw [Heap.size_push, hz]) fun b o x => Heap.get?_push_of_some _ (Heap.get?_push_of_some _ x)⟩
theorem dl_pyNext_enumT_end {e it t : Addr} {i : Nat} {items : Array Value} {c : Int} {old : Value} {Q : Option Value → Shared → Prop} (hh : A.handled = none) (he : IsEnum s.heap e it c old) (hit : s.heap.IsTupleIter it t i) (ht : s.heap.IsTuple t items) (hx : items[i]? = none)
    (hQ : ∀ h', Heap.ExtBut it s.heap h' → Q none { s with heap := h' }) : wpAny (model prog w) A (pyNext (.ref e)) Q E s := by
  have hT : s.TypeIs (.ref e) "enumerate" := ⟨_, he, rfl⟩
  unfold pyNext
  refine wpAny_bind (wpAny_attempt (wpAny_callSpecial?_slot (name := Str.ofString "__next__") hT F.slot_enumerate_next
    (wpAny_call_entry F.slot_enumerate_next hT F.entry_enumerate_next ?_ (F.args_enumerate_next_1 _))))
  show wpAny _ _ (field (.ref e) 2 >>= _) _ _ _
  refine wpAny_bind (wpAny_field he rfl (x := .ref it) rfl ?_)
  refine wpAny_bind (wpAny_nextOf_tuple_end (A := A.in1) (show A.in1.handled = none from hh) hit ht hx fun h' x he' hx' => ?_)
  obtain ⟨o, ho, hc⟩ := hx'
  refine wpAny_bind (wpAny_isInstance (T := "StopIteration") (b := true) ⟨o, ho, hc⟩ isSubtype_stop ?_)
  exact wpAny_pure (hQ _ he')
end
end PySem
namespace DL
open PySem PySem.Spec PyProof.Rows L2
variable {gf gj : Bool}
/-- the tuple at a, each item in a new pair -/
def Itet (K : PySem.W.Frag) (a : Addr) : It :=
  ⟨fun i H => ∃ (xs : List V) (x : V), SqT K H a xs ∧ xs[i]? = some x, fun i H v H' => ∃ T x, v = .ref T ∧ H T = none ∧ H' = upd H T (.tup [.int (i : Nat), x]) ∧ ∀ xs, SqT K H a xs → xs[i]? = some x, fun i H => ∃ xs : List V, SqT K H a xs ∧ xs.length ≤ i⟩
theorem apart {h : Heap} {e it a : Addr} {old : Value} {c : Int} {items : Array Value} {i : Nat} (he : IsEnum h e it c old) (hi : h.IsTupleIter it a i) (p : IsTup h a items) : a ≠ it ∧ e ≠ a := by
  obtain ⟨o, ho, hc, _⟩ := hi
  obtain ⟨o2, ho2, hc2, _⟩ := p
  have he : h.get? e = some _ := he
  refine ⟨fun z => ?_, fun z => ?_⟩
  · rw [z, ho] at ho2; cases ho2; rw [hc] at hc2; injection hc2 with z; exact absurd z (by decide)
  · rw [z, ho2] at he; cases he; injection hc2 with z; exact absurd z (by decide)
theorem turn_enumT {P : Program} {w : World} {K : PySem.W.Frag} {elts : List Expr} {kk : Nat} {tpos : Pos} (a e it : Addr) :
    Turn P w K (.Tuple elts kk tpos) (Itet K a) [e, it] e (fun i h => (∃ old, IsEnum h e it ((i : Nat) : Int) old) ∧ h.IsTupleIter it a i ∧ e ≠ it) where
  mem := by simp
  obj := fun i h st b hb => by
    obtain ⟨⟨old, he⟩, ⟨o, ho, hc, hd⟩, _⟩ := st
    have e' : b = e ∨ b = it := by simpa using hb
    rcases e' with z | z
    · rw [z]; exact ⟨_, he, fun v q => nomatch q⟩
    · rw [z]; exact ⟨o, ho, fun v q => by rw [hd] at q; cases q⟩
  keep := fun i h h' st k => let ⟨⟨old, he⟩, hi, hne⟩ := st; ⟨⟨old, k e (by simp) _ he⟩, hi.at fun o q => k it (by simp) o q, hne⟩
  item := by
    intro X hP hw hK hc i pins s σ H E I hf st hg
    subst hP hw hK
    obtain ⟨⟨old, he⟩, hit, hne⟩ := st
    obtain ⟨xs, x, hq, hx⟩ := hg
    obtain ⟨its, rv, p, hz⟩ := I.tuple hq
    obtain ⟨u, hu, ru⟩ := rv.get hx
    have hel : e < s.heap.objs.size := Heap.lt_size he
    have hil : it < s.heap.objs.size := by obtain ⟨_, q, _⟩ := hit; exact Heap.lt_size q
    obtain ⟨hai, hea⟩ := apart he hit p
    refine wpAny_pyNext_enum_itemD (Draws.tuple (A := X.A.in1) (show X.A.in1.handled = none from I.ok.hd hc) it a hai its.toArray) he ⟨hit, p⟩ (by have := (List.getElem?_eq_some_iff.mp hu).1; simpa using this) hne (by simp; exact ⟨hne, hea⟩) fun y h' tk hPy ho hit' hT hsz hk => ?_
    obtain rfl : u = y := by
      have e1 : its.toArray[i]? = some y := hPy
      rw [List.getElem?_toArray, hu] at e1
      cases e1; rfl
    refine ⟨_, rfl, wpAny_letOwnedTupleGo_enum (s := { s with heap := h', toks := tk + 1 }) ho fun h'' he' sb => ?_⟩
    have hT2 : h''.get? s.heap.objs.size = some { cls := .type "tuple", data := .seq #[.int i tk, u] } := (sb.2 _ (Nat.ne_of_gt hel)).trans hT
    have new : ObjOk X.prog X.w (upd H s.heap.objs.size (.tup [.int (i : Nat), x])) h'' s.heap.objs.size (.tup [.int (i : Nat), x]) :=
      ⟨by show 2 ≤ sizeLine; decide, [.int i tk, u], .cons ⟨_, rfl⟩ (.cons ru .nil), ⟨_, hT2, rfl, _, rfl⟩⟩
    have I1 : Inv X pins σ (upd H s.heap.objs.size (.tup [.int (i : Nat), x])) { s with heap := h'', toks := tk + 1 } :=
      I.turnedNew (ch := [e, it]) (fun b ob hb q => (sb.2 b (fun z => hb (by simp [z]))).trans (hk b ob (fun z => hb (by simp [z])) (fun z => hb (by simp [z])) q)) hf (Nat.le_refl _) new
    refine ⟨.ref s.heap.objs.size, _, I1, rfl, ⟨_, x, rfl, I.hok.fresh (Nat.le_refl _), rfl, fun ys hy => by rw [I.tuple_inj hy hq]; exact hx⟩, ⟨⟨u, ?_⟩, hit'.1.at fun o q => (sb.2 it (Ne.symm hne)).trans q, hne⟩, fun b hb => ?_⟩
    · have e1 : ((i + 1 : Nat) : Int) = (i : Int) + 1 := by omega
      rw [e1]; exact he'
    · have hb' : b < s.heap.objs.size := by
        have e' : b = e ∨ b = it := by simpa using hb
        rcases e' with z | z
        · rw [z]; exact hel
        · rw [z]; exact hil
      rw [upd_ne (Nat.ne_of_lt hb')]
      exact (hf b hb).1
  done := by
    intro X hP hw hK hc i pins s σ H E I hf st hg
    subst hP hw hK
    obtain ⟨⟨old, he⟩, hit, hne⟩ := st
    obtain ⟨xs, hq, hx⟩ := hg
    obtain ⟨its, rv, p, hz⟩ := I.tuple hq
    obtain ⟨f0, f1, f2, f3, f4, f5⟩ := hf it (by simp)
    have hl := rv.length
    exact dl_pyNext_enumT_end (I.ok.hd hc) he hit p (by simp; omega) fun h' eb => ⟨rfl, I.turned (t' := s.toks) (fun b o hb q => eb b o hb q) f0 f1 f3 f4 f5⟩
  self := fun A i s Q E st h => let ⟨⟨_, he⟩, _⟩ := st; wpAny_pyIter_enum he h
def iEnumT (K : PySem.W.Frag) (ta : TA) : TI := fun σ H R => ta σ H fun vs H1 => ∃ a xs, vs = [.ref a] ∧ SqT K H1 a xs ∧ R (Itet K a) H1
theorem pi_enumT {X : Cx} {e : Expr} {ta : TA} {p pos tpos : Pos} {elts : List Expr} {kk : Nat} (hg : Gl X "enumerate") (hm : X.mg "enumerate" = none) (ha : PA X [e] ta) (hs : starEach [e] X.env = [(false, eval e X.env)] := by rfl) :
    PI X (.Tuple elts kk tpos) (.Call (.Name "enumerate" p) [e] [] pos) (iEnumT X.K ta) := by
  refine ⟨fun pins s σ H R I h => ?_⟩
  refine Call_ (ld_blt I hg hm boot_enumerate (PyProof.Rows.callWith_type1 (thn (ha.run pos pins s σ H _ I h) fun us s1 ⟨vs, H1, I1, r1, q1⟩ => ?_) hs rfl))
  obtain ⟨a, xs, ex, hq, q⟩ := q1
  subst ex
  cases r1 with
  | cons r rr =>
    cases rr
    cases r
    obtain ⟨its, rv, p', hz⟩ := I1.tuple hq
    refine dl_enum_begins (begins_tuple a its.toArray) p' fun h' he hit hsz hk => wpAny_pyIter_enum he ?_
    have I2 : Inv X pins σ H1 { s1 with heap := h' } := I1.kept (t' := s1.toks) hk
    refine ⟨s1.heap.objs.size + 1, [s1.heap.objs.size + 1, s1.heap.objs.size], _, _, H1, rfl, I2, turn_enumT a (s1.heap.objs.size + 1) s1.heap.objs.size, ⟨⟨.none, he⟩, ⟨_, hit, rfl, rfl⟩, Nat.succ_ne_self _⟩, fun b hb => ?_, q⟩
    have e' : b = s1.heap.objs.size + 1 ∨ b = s1.heap.objs.size := by simpa using hb
    have hle : s1.heap.objs.size ≤ b := by
      rcases e' with z | z
      · rw [z]; exact Nat.le_add_right _ _
      · rw [z]; exact Nat.le_refl _
    exact I1.fpOk hle (I1.hok.fresh hle)
theorem itet_ok {K mg F A a} {vs : List V} {ds : List D} (h : SqT K F a vs) (r : Dats K mg F A vs ds) : ItOk K mg (Itet K a) F A (enumD ds) where
  go := fun F' A' P S H i x rp hi => ⟨vs, vs[i]'(by rw [r.length, ← enumD_len]; exact hi), sqt_mono (x.f.trans rp.le) h, by simp⟩
  yld := fun F' A' P S H i y H' d x rp hy hd => by
    obtain ⟨T, z, rfl, hT, rfl, hz⟩ := hy
    have e := hz vs (sqt_mono (x.f.trans rp.le) h)
    obtain ⟨w, e1, rfl⟩ := enumD_get hd
    obtain ⟨v, e2, e3⟩ := r.get e1
    rw [e] at e2; cases e2
    obtain ⟨x2, r2⟩ := rp.frz (o := .tup [.int (i : Nat), z]) hT
    exact ⟨_, x2, r2, .tup (SqT.of upd_same) (.cons .int (.cons ((e3.mono x).mono x2) .nil))⟩
  stop := fun F' A' P S H i x rp hi => ⟨vs, sqt_mono (x.f.trans rp.le) h, by rw [r.length, ← enumD_len]; exact hi⟩
/-- for i, x in enumerate(tuple) -/
def iEnumTD (f : Ev D) : Ev (List D) := fun ρ S => (f ρ S).bind fun d S => match d with
  | .tup xs => .ok (enumD xs) S
  | _ => .stuck
theorem di_enumT {X : Cx} {W : WX} {e : Expr} {f : Ev D} {p pos tpos : Pos} {elts : List Expr} {kk : Nat} (ha : DE X W e f) (hg : Gl X "enumerate") (hm : X.mg "enumerate" = none) (hs : starEach [e] X.env = [(false, eval e X.env)] := by rfl) : DI X W (.Tuple elts kk tpos) (.Call (.Name "enumerate" p) [e] [] pos) (iEnumTD f) :=
  PI.imp (pi_enumT hg hm (pa_cons ha pa_nil hs) hs) fun σ H R ⟨F, A, P, ρ, S, rp, s, q⟩ =>
    tD.seq rp s q fun d S1 v H1 F1 A1 x1 r1 s1 d1 h1 => by
      split at h1
      · cases d1 with
        | tup h2 h3 => exact ⟨_, _, rfl, sqt_mono r1.le h2, h1 _ _ _ _ x1 r1 (itet_ok h2 h3)⟩
      · exact h1.elim
end DL
/-! xs.pop(i) of a list of the store -/
namespace DL
open PySem PySem.Spec PyProof.Rows L2
variable {gf gj : Bool}
def gPop : GM := fun x ys S => match x, ys with
  | .ref n, [.int i] => match S[n]? with
    | some (.lst xs) => if 0 ≤ i ∧ i < xs.length ∧ xs.length ≤ 16777216 then match xs[i.toNat]? with
      | some y => some (y, S.set n (.lst (xs.eraseIdx i.toNat)))
      | none => none
      else none
    | _ => none
  | _, _ => none
theorem Dats.erase {K mg F A} : ∀ {vs : List V} {ds : List D} {i : Nat}, Dats K mg F A vs ds → Dats K mg F A (vs.eraseIdx i) (ds.eraseIdx i)
  | _, _, _, .nil => .nil
  | _, _, 0, .cons _ r => r
  | _, _, _ + 1, .cons h r => .cons h (Dats.erase r)
theorem pop_ent {K mg} : MtE K mg rPopAt gPop := by
  intro F A P S H x xs dx ds d S' Q rp hx hxs e k
  unfold gPop at e
  split at e
  · rename_i n i
    split at e
    · rename_i ys e1
      split at e
      · rename_i hl
        obtain ⟨l0, l1, l2⟩ := hl
        split at e
        · rename_i y e3
          cases e
          obtain ⟨a, vs, rfl, h1, h2, h3, h4⟩ := ref_lst rp hx e1
          cases hxs with
          | cons h5 h6 =>
            cases h6
            cases h5
            obtain ⟨v, e4, e5⟩ := h4.get e3
            have hvl := h4.length
            refine ⟨a, vs, i, i.toNat, v, rfl, rfl, h3, by omega, by omega, ?_, e4, okE.now k (rp.put h1 h2 ⟨a, _, h1, h2, upd_same, h4.erase⟩) e5⟩
            have z : seqIndex? i vs.length = some i.toNat := by
              unfold seqIndex?
              have n0 : ¬ i < 0 := by omega
              have n1 : i < (vs.length : Int) := by omega
              simp only [if_neg n0, l0, n1, decide_true, Bool.and_self, if_true]
            exact z
        · cases e
      · cases e
    · cases e
  · cases e
end DL
namespace DL
open PySem PySem.Spec PyProof.Rows L2
/-- a, b = x, y -/
def sPar (i j : Nat) (fa : Ev (List D)) : Stm := fun ρ S => (fa ρ S).res ρ fun ds S => match ds with
  | [d, e] => .nx ((ρ.set i (some d)).set j (some e)) S
  | _ => .stuck
theorem ds_par {X : Cx} {W : WX} {i j : Nat} {x y : Str} {a b : Expr} {fa : Ev (List D)} {px py pt pos : Pos} {kt k2 : Nat} {pt2 : Pos} (hc : X.calm = true) (hN : X.N.Nodup) (hi : X.N[i]? = some x) (hj : X.N[j]? = some y) (ha : DA X W [a, b] fa)
    (hij : i ≠ j := by decide) (hx : X.env.scope.names.lookup x = some .local := by rfl) (hy : X.env.scope.names.lookup y = some .local := by rfl)
    (hw : swappedStores [.Tuple [.Name x px, .Name y py] kt pt] (.Tuple [a, b] k2 pt2) X.env = pure (some [x, y]) := by rfl)
    (hs : swapsWithSole [.Tuple [.Name x px, .Name y py] kt pt] (.Tuple [a, b] k2 pt2) pos.line X.env = pure false := by rfl) :
    DS X W (.Assign [.Tuple [.Name x px, .Name y py] kt pt] (.Tuple [a, b] k2 pt2) pos) (sPar i j fa) := PS.imp (ps_par hc hN hi hj hij hx hy ha hw hs) fun D σ H ⟨F, A, P, ρ, S, rp, s, q⟩ => by
  refine ⟨F, A, P, ρ, S, rp, s, res_post s q fun ds S1 h1 vs H' F' A' x r dv => ?_⟩
  split at h1
  · cases dv with
    | cons g1 g2 =>
      cases g2 with
      | cons g3 g4 =>
        cases g4
        exact ⟨_, _, rfl, h1 _ _ _ _ x r (((s.mono x).set g1 i).set g3 j)⟩
  · exact h1.elim
end DL
/-! errors as values: C(e, ..), C(k=e, ..), C() -/
namespace PySem
namespace HandSPX
open PySem.W PySem.Calls PyProof.Rows
section
variable {M : Model} {A : Around} {E : Value → Shared → Prop} {h : Heap} {g : Array GenState} {d : Drawn} {t : Nat} {os : OsState}
variable {nm q : Str} {C N : Addr} {bs bm bmB : List Value} {hdct : Bool} {sn : List Str} {sub : List Value} {ab : Bool} {col : Option Bool} {dd : Option Addr} {k0 k1 k2 k3 k5 : Option Value} {B newId initId : String}
theorem dlk_check_new (F : ExcBaseFacts B newId initId bmB) (hT : ∀ X : String, bm.contains (.type X) = bmB.contains (.type X)) {kw : List (Str × Value)} {Q : Unit → Shared → Prop}
    (hC : h.get? C = some (excClassObj nm q C N bs bm hdct sn sub ab col dd k0 k1 k2 k3 k5 newId)) (hq : Q () ⟨h, g, d, t, os⟩) : wpAny M A (checkBuiltinCall newId ⟨[.ref C], kw⟩) Q E ⟨h, g, d, t, os⟩ := by
  have hcont : (Value.ref C :: bm).contains (.type B) = true := by rw [List.contains_cons, hT, F.hasB, Bool.or_true]
  have hstar := F.noStar
  simp only [checkBuiltinCall, F.newKind, F.newSplit, F.newRow]
  repeat (first | refine wpAny_loadPart_at hC ?_ | (refine wpAny_isSubtype_exc hC ?_; rw [hcont]) | refine wpAny_staticBase_exc hC ?_ | refine wpAny_madeBy_exc hC ?_ | simp only [bne_self_eq_false, Bool.false_eq_true, if_false] | wp_step)
  exact hq
end
section
variable {prog : Program} {w : World} {A : Around} {E : Value → Shared → Prop} {R : Result → Shared → Prop} {h : Heap} {g : Array GenState} {d : Drawn} {t : Nat} {os : OsState}
variable {nm q : Str} {C N : Addr} {bs bm bmB : List Value} {hdct : Bool} {sn : List Str} {sub : List Value} {ab : Bool} {col : Option Bool} {dd : Option Addr} {k0 k1 k2 k3 k5 : Option Value} {B newId initId : String} {kw : List (Str × Value)}
theorem dlk_new (F : ExcBaseFacts B newId initId bmB) (hT : ∀ X : String, bm.contains (.type X) = bmB.contains (.type X))
    (hC : h.get? C = some (excClassObj nm q C N bs bm hdct sn sub ab col dd k0 k1 k2 k3 k5 newId))
    (hq : R (.ok (.ret (.ref (h.objs.size + 1)))) ⟨(h.push { cls := .type "tuple", data := .seq ([] : List Value).toArray }).push
      { cls := .ref C, data := .fields #[.ref h.objs.size, .none, .none, .none, .bool false, .none] }, g, d, t, os⟩) :
    codeAny (model prog w) A (.builtin newId ⟨[.ref C], kw⟩) R ⟨h, g, d, t, os⟩ := by
  have hends := F.ends
  have hcB : (Value.ref C :: bm).contains (.type B) = true := by rw [List.contains_cons, hT, F.hasB, Bool.or_true]
  have hcA : (Value.ref C :: bm).contains (.type "AttributeError") = false := by rw [List.contains_cons, hT, F.noAttr]; rfl
  have hcN : (Value.ref C :: bm).contains (.type "NameError") = false := by rw [List.contains_cons, hT, F.noName]; rfl
  have hrest : ([] : List Value).length ≤ sizeLine := Nat.zero_le _
  refine codeAny_builtinAt F.entry ?_
  unfold Builtin.«BaseException.__new__»
  refine wpAt_bind ?_
  show wpAt _ _ _ (stack >>= _) _ _ _
  refine wpAt_bind (wpAt_stack fun p below => wpAt_of_wpAny ?_)
  wp_walk
  refine wpAt_of_wpAny ?_
  rw [F.owner]
  repeat (first | with_reducible refine wpAny_madeHere_exc F.canon hC ?_ | with_reducible refine wpAny_loadPart_at hC ?_ | (with_reducible refine wpAny_isSubtype_exc hC ?_; first | rw [hcB] | rw [hcA] | rw [hcN]) | wp_step)
  show R _ _
  rw [Heap.size_push]
  exact hq
theorem dlk_type_call (F : ExcBaseFacts B newId initId bmB) (hT : ∀ X : String, bm.contains (.type X) = bmB.contains (.type X)) {fI : Addr} {Q : Fin → Shared → Prop}
    (hC : h.get? C = some (excClassObj nm q C N bs bm hdct sn sub ab col dd k0 k1 k2 k3 k5 newId))
    (hi : W.Looks (model prog w) h (typeLookup (.ref C) "__init__") (some (.ref fI))) (hb : ∀ self, W.Looks (model prog w) h (bindSpecial (.ref fI) self) (.ref fI, [self]))
    (hq : codeAny (model prog w) A (.call (.ref fI) ⟨[.ref (h.objs.size + 1)], kw⟩)
      (fun r s' => match r with | .ok (.ret v) => v = .none ∧ Q (.done (.ret (.ref (h.objs.size + 1)))) s' | .ok _ => False | .error e => E e s')
      ⟨(h.push (W.kdv_tup [])).push (excO C h.objs.size), g, d, t, os⟩) :
    wpAny (model prog w) A (Builtin.«type.__call__» ⟨[.ref C], kw⟩) Q E ⟨h, g, d, t, os⟩ := by
  repeat (first | with_reducible refine wpAny_loadPart_at hC ?_ | with_reducible refine wpAny_madeBy_exc hC ?_ | wp_step)
  refine codeAny_call_builtin_code (Code.quiet_builtin _ F.quiet) (dlk_check_new F hT hC ?_)
  refine dlk_new F hT hC ?_
  show wpAny _ _ _ _ _ _
  have k : ∀ b o, h.get? b = some o → ((h.push (W.kdv_tup [])).push (excO C h.objs.size)).get? b = some o := fun b o e => Heap.get?_push_of_some _ (Heap.get?_push_of_some _ e)
  have hC₁ := k _ _ hC
  have hget : ((h.push (W.kdv_tup [])).push (excO C h.objs.size)).get? (h.objs.size + 1) = some (excO C h.objs.size) := by heap_get
  have hcC : (Value.ref C :: bm).contains (.ref C) = true := by simp
  have i1 := hi.keeps k
  have b1 := (hb (.ref (h.objs.size + 1))).keeps k
  unfold isInstance
  repeat (first | with_reducible refine wpAny_loadPart_at hget ?_ | (with_reducible refine wpAny_isSubtype_exc hC₁ ?_; rw [hcC]) | wp_step)
  show wpAny _ _ (typeLookup (.ref C) _) _ _ _
  refine i1.at ?_
  refine wpAny_holding (wpAny_bind (b1.at ?_))
  refine wpAny_bind (wpAny_call (codeAny_mono hq fun r s' z => ?_))
  rcases r with e | (v | _ | _ | _) <;> first | exact z | exact z.elim | skip
  obtain ⟨rfl, z⟩ := z
  first
    | exact wpAny_pure (wpAny_pure z)
    | (wp_walk; exact z)
theorem dlk_check_call {M : Model} {Q : Unit → Shared → Prop} (hC : h.get? C = some (excClassObj nm q C N bs bm hdct sn sub ab col dd k0 k1 k2 k3 k5 newId))
    (hq : Q () ⟨h, g, d, t, os⟩) : wpAny M A (checkBuiltinCall "type.__call__" ⟨[.ref C], kw⟩) Q E ⟨h, g, d, t, os⟩ := by
  have f3 := tc_sub
  have hT : (⟨h, g, d, t, os⟩ : Shared).TypeIs (.ref C) "type" := ⟨_, hC, rfl⟩
  simp only [checkBuiltinCall, tc_kind, tc_split]
  repeat (any_goals (first | assumption | with_reducible refine wpAny_loadPart_at hC ?_ | with_reducible refine wpAny_onRaise ?_ | with_reducible refine wpAny_map ?_ | wp_step))
theorem dlk_call (F : ExcBaseFacts B newId initId bmB) (hT : ∀ X : String, bm.contains (.type X) = bmB.contains (.type X)) {fI : Addr}
    (hC : h.get? C = some (excClassObj nm q C N bs bm hdct sn sub ab col dd k0 k1 k2 k3 k5 newId))
    (hi : W.Looks (model prog w) h (typeLookup (.ref C) "__init__") (some (.ref fI))) (hb : ∀ self, W.Looks (model prog w) h (bindSpecial (.ref fI) self) (.ref fI, [self]))
    (hq : codeAny (model prog w) (A.under (.builtin "type.__call__" ⟨[.ref C], kw⟩)) (.call (.ref fI) ⟨[.ref (h.objs.size + 1)], kw⟩) (W.InitBack (h.objs.size + 1) R)
      ⟨(h.push (W.kdv_tup [])).push (excO C h.objs.size), g, d, t, os⟩) :
    codeAny (model prog w) A (.call (.ref C) ⟨[], kw⟩) R ⟨h, g, d, t, os⟩ := by
  have f1 := tc_lookup
  have f2 := tc_bind (.ref C)
  have hTy : (⟨h, g, d, t, os⟩ : Shared).TypeIs (.ref C) "type" := ⟨_, hC, rfl⟩
  refine codeAny_of_tree ?_
  show wpAny _ _ (callAny (.ref C) _) _ _ _
  repeat (any_goals (first | assumption | with_reducible refine wpAny_loadPart_at hC ?_ | wp_step))
  refine ⟨rfl, ?_⟩
  refine codeAny_call_builtin_at (Code.quiet_builtin _ (by decide +kernel)) entry_typeCall (dlk_check_call hC (dlk_type_call F hT hC hi hb ?_))
  refine codeAny_mono hq fun r s' z => ?_
  rcases r with e | (v | _ | _ | _) <;> exact z
end
end HandSPX
end PySem
namespace DL
open PySem PySem.Spec PyProof.Rows L2
variable {gf gj : Bool}
def sel {α : Type} : List Nat → List α → List α
  | [], _ => []
  | i :: o, xs => match xs[i]? with
    | some x => x :: sel o xs
    | none => sel o xs
theorem Vals.selv : ∀ {o : List Nat} {vs : List V} {us : List Value}, Vals vs us → Vals (sel o vs) (sel o us)
  | [], _, _, _ => .nil
  | i :: o, vs, us, h => by
    unfold sel
    cases e : vs[i]? with
    | none =>
      have : us[i]? = none := by
        rw [List.getElem?_eq_none_iff] at e ⊢
        rw [← h.length]; exact e
      rw [this]
      exact Vals.selv h
    | some v =>
      obtain ⟨u, h1, h2⟩ := h.get e
      rw [h1]
      exact .cons h2 (Vals.selv h)
theorem Dats.seld {K mg F A} : ∀ {o : List Nat} {vs : List V} {ds : List D}, Dats K mg F A vs ds → Dats K mg F A (sel o vs) (sel o ds)
  | [], _, _, _ => .nil
  | i :: o, vs, ds, h => by
    unfold sel
    cases e : ds[i]? with
    | none =>
      have : vs[i]? = none := by
        rw [List.getElem?_eq_none_iff] at e ⊢
        rw [h.length]; exact e
      rw [this]
      exact Dats.seld h
    | some d =>
      obtain ⟨v, h1, h2⟩ := h.get e
      rw [h1]
      exact .cons h2 (Dats.seld h)
theorem sel_len {α : Type} : ∀ {o : List Nat} {xs : List α}, (o.all fun i => decide (i < xs.length)) = true → (sel o xs).length = o.length
  | [], _, _ => rfl
  | i :: o, xs, h => by
    rw [List.all_cons, Bool.and_eq_true] at h
    have hi := of_decide_eq_true h.1
    unfold sel
    rw [List.getElem?_eq_getElem hi]
    show (sel o xs).length + 1 = _
    rw [sel_len h.2]
    rfl
/-- keyword arguments ks, bound as the parameters' order o says -/
def KwX (fd : FuncData) (ps ks : List Str) (o : List Nat) : Prop := ∀ (s : Shared) (u : Value) (us : List Value), us.length = ks.length → BindsTo s fd ⟨[u], ks.zip us⟩ (ps.zip (u :: sel o us))
def tMkXK (C : Addr) (fs ks : List Str) (o : List Nat) (ta : TA) : L2.St → Hp → XK → Prop := fun σ H Q => ta σ H fun vs H1 => vs.length = ks.length ∧ ∀ d, H1 d = none → Q (.ref C) (some d) (upd H1 d (.xd (fs.zip (sel o vs)).reverse))
section
variable {X : Cx} {W : WX} {k : Nat} {C f : Addr} {fd : FuncData} {nid B iid : String} {bm : List Value} {fs ks ps : List Str} {o : List Nat} {x : Str} {ta : TA} {p pos : Pos} {kws : List Keyword}
theorem pmk_xK (FB : ExcBaseFacts B nid iid bm) (T : XC X.K nid bm C) (iC : PySem.W.findIn X.K (.ref C) "__init__" = some (some (.ref f))) (tI : PySem.W.typeIn X.K (.ref f) = some (.type "function")) (F1 : FnOk X.prog X.w X.K X.mg X.base (L2.CX X.prog X.w) 1 f fd ps (spX C fs)) (kb : KwX fd ps ks o)
    (ho : o.length = fs.length) (hoo : (o.all fun i => decide (i < ks.length)) = true) (hr : Room 2 X.A)
    (hg : Gl X x) (hm : X.mg x = some (.ref C)) (ha : PK X kws ta) (hdb : (x == ("__debug__" : Str)) = false := by decide)
    (hks : (backToKw pos (keywordEach kws X.env)).filterMap (·.1) = ks := by rfl) (hall : (backToKw pos (keywordEach kws X.env)).all (·.1.isSome) = true := by rfl) (hpl : ((backTo pos (starEach [] X.env)).any (·.1) || (backToKw pos (keywordEach kws X.env)).any (·.1.isNone)) = false := by rfl) :
    PMk X (.Call (.Name x p) [] kws pos) (tMkXK C fs ks o ta) := by
  intro pins s σ H Q I h
  refine wpAny_Call_Name_kw (ld_glob I hg hm ?_ hdb)
  refine PySem.W.callWith_of (first := []) hpl (PySem.W.keeps_K (K := X.K) T.kp) (PyProof.Rows.evalArgs_kw2_nil hall (thn (ha.run pos pins s σ H _ I h) ?_))
  rintro us s1 ⟨vs, H1, I1, rv, hl, q1⟩
  refine ⟨I1.kIn, ?_⟩
  rw [hks]
  show wpAny _ _ (call (.ref C) [] (ks.zip us)) _ _ _
  obtain ⟨nm, N, qn, bs, mro, hdct, sn, sub, ab, col, dd, k0, k1, k2, k3, k5, hC, hT⟩ := PySem.W.excInit_of I1.kIn T.ini
  obtain ⟨hp, g, dr, tk, os⟩ := s1
  have na : H1 (hp.objs.size + 1) = none := I1.hok.fresh (Nat.le_succ _)
  have kk : ∀ b o, hp.get? b = some o → ((hp.push (PySem.W.kdv_tup [])).push (PySem.HandSPX.excO C hp.objs.size)).get? b = some o := fun b o z => Heap.get?_push_of_some _ (Heap.get?_push_of_some _ z)
  have hx : ((hp.push (PySem.W.kdv_tup [])).push (PySem.HandSPX.excO C hp.objs.size)).get? (hp.objs.size + 1) = some (PySem.HandSPX.excO C hp.objs.size) := by heap_get
  have I2 : Inv X pins σ (upd H1 (hp.objs.size + 1) (exo (hp.objs.size + 1) C none)) ⟨(hp.push (PySem.W.kdv_tup [])).push (PySem.HandSPX.excO C hp.objs.size), g, dr, tk, os⟩ :=
    I1.laid (t' := tk) (o := exo (hp.objs.size + 1) C none) kk (Nat.le_succ _) (exo_ok hx)
  have hul : us.length = ks.length := by rw [← rv.length, hl]
  have hsl : (sel o vs).length = fs.length := by rw [sel_len (by rw [hl]; exact hoo), ho]
  refine wpAny_call (PySem.HandSPX.dlk_call FB hT hC (PySem.W.looks_findIn I1.kIn iC) (fun self => PySem.W.bind_fn I1.kIn self tI)
    (codeAny_mono (F1.run _ X.stack _ _ ⟨[Value.ref (hp.objs.size + 1)], ks.zip us⟩ (Value.ref (hp.objs.size + 1) :: sel o us) (V.ref (hp.objs.size + 1) :: sel o vs) (fun v H2 => v = .non ∧ ∃ d, H1 d = none ∧ d ≠ hp.objs.size + 1 ∧ H2 = upd (upd (upd H1 (hp.objs.size + 1) (exo (hp.objs.size + 1) C none)) (hp.objs.size + 1) (exo (hp.objs.size + 1) C (some d))) d (exd d (fs.zip (sel o vs)).reverse)) (fun _ _ _ => False)
      (hr.make C [] (ks.zip us)) (I2.env0.make C [] (ks.zip us)) (kb _ _ _ hul) (.cons rfl (Vals.selv rv)) ⟨_, sel o vs, rfl, hsl, upd_same, fun d hd ne => ⟨rfl, d, by rw [upd_ne ne] at hd; exact hd, ne, rfl⟩⟩) fun r s' hq => ?_))
  cases r with
  | error er => obtain ⟨_, _, _, _, _, _, _, _, _, _, _, _, z⟩ := hq; exact z.elim
  | ok fl =>
    cases fl with
    | ret u =>
      obtain ⟨v, H2, os2, bare2, un2, hok2, ru, ev, d, hd, ne, e2⟩ := hq
      subst ev
      obtain ⟨h2, g2, dr2, t2, os'⟩ := s'
      have e3 : upd (del H2 (hp.objs.size + 1)) d (.xd (fs.zip (sel o vs)).reverse) = upd H1 d (.xd (fs.zip (sel o vs)).reverse) := by
        funext b
        by_cases z1 : b = d
        · rw [z1, upd_same, upd_same]
        · rw [upd_ne z1, upd_ne z1, e2]
          by_cases z2 : b = hp.objs.size + 1
          · rw [z2, del_same, na]
          · rw [del_ne z2, upd_ne z1, upd_ne z2, upd_ne z2]
      refine ⟨ru, mk_end (fs := (fs.zip (sel o vs)).reverse) (raises_own T.be T.ty) I1 (Nat.le_succ _) kk un2 hok2 os2 bare2 (by rw [e2, upd_ne (Ne.symm ne), upd_same]) (by rw [e2, upd_same]) hd ?_⟩
      rw [e3]
      exact q1 d hd
    | next => exact hq.elim
    | brk => exact hq.elim
    | cont => exact hq.elim
/-- an error that was made, as a value -/
theorem pe_mk {e : Expr} {t : L2.St → Hp → XK → Prop} (hex : X.ex = []) (he : PMk X e t) : PE X e (fun σ H Q => t σ H fun cls d H' => ∃ c, cls = .ref c ∧ ∀ a, H' a = none → Q (.ref a) (upd H' a (exq a c d))) := by
  refine ⟨fun pins s σ H Q I h => wpAny_mono (he pins s σ H _ I h) (fun u s1 hu => ?_) fun _ _ x => x⟩
  obtain ⟨a, oe, vs, sI, H', cls, d, rfl, J, kp, hne, ha, hz, hd, h1, na, os, ag, r, c, rfl, q⟩ := hu
  have J2 : Inv X pins σ H' s1 := J.landed (B := sI.heap) (fun b o e _ => e) kp (Heap.UpToSlots.of_keeps kp) os ag
  have no0 : X.s_0.heap.get? a = none := by
    cases e : X.s_0.heap.get? a with
    | none => rfl
    | some o =>
      obtain ⟨o', q⟩ := J.base.there a o e (by rw [hex]; simp)
      rw [hne] at q; cases q
  have noL : a ≠ X.env.locals := fun z => by
    obtain ⟨m, hm, _⟩ := J.loc
    obtain ⟨o, es, ep, q, _⟩ := hm
    rw [← z, hne] at q; cases q
  have noC : ∀ x c, X.env.cells.lookup x = some c → c ≠ a := fun x c e z => by
    obtain ⟨v, o, q, _⟩ := J.cell x c e
    rw [z, hne] at q; cases q
  have noP : ∀ p ∈ X.pn ++ pins, p.1 ≠ a := fun p hp z => by
    have q := (J.pin p hp).1
    rw [z, hne] at q; cases q
  exact ⟨.ref a, _, inv_track J2 na no0 noL noC noP (exq_ok ha hz.1 hz.2 hd), rfl, q a na⟩
end
section
variable {P : Program} {w : World} {K : PySem.W.Frag} {mg : Str → Option Value} {base : Heap} {C f : Addr} {fd : FuncData} {st : Stmt} {qual nid B : String} {self p1 p2 : Str} {bm : List Value} {k : Nat}
theorem ini_1ok (SF : StoreFacts B bm "object.__setattr__" "object") (T : XC K nid bm C) (h1 : PySem.W.takerIn K C p1 = some none) {q1 q2 q3 q4 : Pos} (F : Fun K "__init__" qual st f fd) (S : FnScope [self, p1] [self, p1] (defScope st)) 
    (hB : defBody st = [.Assign [.Attribute (.Name self q1) p1 q2] (.Name p1 q3) q4]) (hdb : (self == ("__debug__" : Str)) = false) (hdb1 : (p1 == ("__debug__" : Str)) = false) (hcd : (self == ("__classdict__" : Str)) = false) (hcd1 : (p1 == ("__classdict__" : Str)) = false) (hk : (defScope st).kind = .function)
    (v0 : Vis (defScope st) self) (v1 : Vis (defScope st) p1) : FnOk P w K mg base (L2.CX P w) 1 f fd [self, p1] (spX C [p1]) := by
  refine (F.okX S (fun vs H Q E ⟨a, ys, e, hl, _⟩ => by rw [e, List.length_cons, hl]; rfl) fun cdv A outer s H vs Q E hr hs => ?_)
  rw [hB]
  refine ⟨_, pss_one (ps_put SF T h1 (pe_var (i := 0) rfl v0 hdb hcd) (pe_var (i := 1) rfl v1 hdb1 hcd1)), ?_⟩
  obtain ⟨a, ys, rfl, hl, ea, q⟩ := hs
  match ys, hl with
  | [y], _ => exact ⟨y, rfl, .ref a, rfl, a, rfl, .inl ⟨ea, fun dx n ne => q dx n ne⟩⟩
theorem ini_2ok (SF : StoreFacts B bm "object.__setattr__" "object") (T : XC K nid bm C) (h1 : PySem.W.takerIn K C p1 = some none) (h2 : PySem.W.takerIn K C p2 = some none) {q1 q2 q3 q4 r1 r2 r3 r4 : Pos} (F : Fun K "__init__" qual st f fd) (S : FnScope [self, p1, p2] [self, p1, p2] (defScope st)) 
    (hB : defBody st = [.Assign [.Attribute (.Name self q1) p1 q2] (.Name p1 q3) q4, .Assign [.Attribute (.Name self r1) p2 r2] (.Name p2 r3) r4]) (hdb : (self == ("__debug__" : Str)) = false) (hdb1 : (p1 == ("__debug__" : Str)) = false) (hdb2 : (p2 == ("__debug__" : Str)) = false) (hcd : (self == ("__classdict__" : Str)) = false)
    (hcd1 : (p1 == ("__classdict__" : Str)) = false) (hcd2 : (p2 == ("__classdict__" : Str)) = false) (v0 : Vis (defScope st) self) (v1 : Vis (defScope st) p1) (v2 : Vis (defScope st) p2) : FnOk P w K mg base (L2.CX P w) 1 f fd [self, p1, p2] (spX C [p1, p2]) := by
  refine (F.okX S (fun vs H Q E ⟨a, ys, e, hl, _⟩ => by rw [e, List.length_cons, hl]; rfl) fun cdv A outer s H vs Q E hr hs => ?_)
  rw [hB]
  refine ⟨_, pss_cons (ps_put SF T h1 (pe_var (i := 0) rfl v0 hdb hcd) (pe_var (i := 1) rfl v1 hdb1 hcd1)) (pss_one (ps_put SF T h2 (pe_var (i := 0) rfl v0 hdb hcd) (pe_var (i := 2) rfl v2 hdb2 hcd2))), ?_⟩
  obtain ⟨a, ys, rfl, hl, ea, q⟩ := hs
  match ys, hl with
  | [y, z], _ =>
    refine ⟨y, rfl, .ref a, rfl, a, rfl, .inl ⟨ea, fun dx n ne => ?_⟩⟩
    refine ⟨z, rfl, .ref a, rfl, a, rfl, .inr ⟨dx, [(p1, y)], by rw [upd_ne (Ne.symm ne), upd_same], upd_same, by show 1 ≤ 900; decide, ?_⟩⟩
    rw [upd_upd]
    exact q dx n ne
theorem kwx_of {x qual : String} {ps ks : List Str} {o : List Nat} (F : Fun K x qual st f fd)
    (h : ∀ (kV doc pm : Value) (an : Option Addr) (cdv ct : Value) (u : Value) (us : List Value), us.length = ks.length → bindArgs (PySem.W.fnOf x qual (defArgs st) (defBody st) (defScope st) .none kV doc pm an cdv ct) ⟨[u], ks.zip us⟩ = pure (ps.zip (u :: sel o us))) : KwX fd ps ks o := by
  obtain ⟨oc, od, kV, doc, pm, an, cdv, ct, osl, rfl, _, _⟩ := F.ex
  exact fun s u us hl => .of_eq (h kV doc pm an cdv ct u us hl)
end
/-- an own error made by keywords -/
structure ErrKM (P : Program) (w : World) (K : PySem.W.Frag) (mg : Str → Option Value) (base : Heap) (C : Str) (fs ks : List Str) (o : List Nat) : Prop where
  ex : ∃ c f fd ps B nid iid bm, mg C = some (.ref c) ∧ ExcBaseFacts B nid iid bm ∧ XC K nid bm c ∧ PySem.W.findIn K (.ref c) "__init__" = some (some (.ref f)) ∧ PySem.W.typeIn K (.ref f) = some (.type "function") ∧ FnOk P w K mg base (L2.CX P w) 1 f fd ps (spX c fs) ∧ KwX fd ps ks o
def eMkX (C : Str) (fs : List Str) (fa : Ev (List D)) : Ev D := fun ρ S => (fa ρ S).bind fun ds S => if ds.length = fs.length ∧ ds.length ≤ 1000 then .ok (.exc C (fs.zip ds).reverse) S else .stuck
def eMkXK (C : Str) (fs ks : List Str) (o : List Nat) (fa : Ev (List D)) : Ev D := fun ρ S => (fa ρ S).bind fun ds S => if ds.length = ks.length then .ok (.exc C (fs.zip (sel o ds)).reverse) S else .stuck
def eMkX0 (C : Str) : Ev D := fun ρ S => .ok (.exc C []) S
section
variable {X : Cx} {W : WX} {k : Nat} {fs ks : List Str} {o : List Nat} {C : Str} {fa : Ev (List D)} {p pos : Pos} {kws : List Keyword} {e : Expr} {es : List Expr}
theorem de_mkX (B : Bod gf X W k) (h : ErrM X.prog X.w X.K X.mg X.base C fs) (hk : 2 ≤ k) (hg : Gl X C) (ha : DA X W (e :: es) fa) (hex : X.ex = [] := by rfl) (hdb : (C == ("__debug__" : Str)) = false := by decide) (he : starEach (e :: es) X.env = (false, eval e X.env) :: starEach es X.env := by rfl)
    (hpl : (backTo pos (starEach es X.env)).any (·.1) = false := by rfl) : DE X W (.Call (.Name C p) (e :: es) [] pos) (eMkX C fs fa) := by
  obtain ⟨c, f, B', nid, iid, bm, hc, FB, T, iC, tI, F1⟩ := h.ex
  refine PE.imp (pe_mk hex (pmk_x FB T iC tI F1 (B.room.mono hk) hg hc ha hdb he hpl)) fun σ H Q ⟨F, A, P, ρ, S, rp, s, q⟩ => ?_
  refine tDA.seq rp s q fun ds S1 vs H1 F1 A1 x1 r1 s1 dv h1 => ?_
  split at h1
  · rename_i hl
    refine ⟨dv.length.trans hl.1, by rw [dv.length]; exact hl.2, fun d hd => ⟨c, rfl, fun a ha => ?_⟩⟩
    obtain ⟨x2, r2⟩ := r1.frz (o := .xd (fs.zip vs).reverse) hd
    obtain ⟨x3, r3⟩ := r2.frz (o := exq a c (some d)) ha
    have hda : d ≠ a := fun z => by rw [← z, upd_same] at ha; cases ha
    exact h1 _ _ _ _ ((x1.trans x2).trans x3) r3 (.exc hc upd_same (by rw [upd_ne hda, upd_same]) ((DatsF.zipR dv).mono (x2.trans x3)))
  · exact h1.elim
theorem de_mkXK {n : Nat} (B : Bod gf X W k) (h : ErrKM X.prog X.w X.K X.mg X.base C fs ks o) (hk : 2 ≤ k) (hg : Gl X C) (ha : DK X W kws fa) (ho : o.length = fs.length := by rfl) (hoo : (o.all fun i => decide (i < ks.length)) = true := by rfl) (hex : X.ex = [] := by rfl) (hdb : (C == ("__debug__" : Str)) = false := by decide)
    (hks : (backToKw pos (keywordEach kws X.env)).filterMap (·.1) = ks := by rfl) (hall : (backToKw pos (keywordEach kws X.env)).all (·.1.isSome) = true := by rfl) (hpl : ((backTo pos (starEach [] X.env)).any (·.1) || (backToKw pos (keywordEach kws X.env)).any (·.1.isNone)) = false := by rfl) : DE X W (.Call (.Name C p) [] kws pos) (eMkXK C fs ks o fa) := by
  obtain ⟨c, f, fd, ps, B', nid, iid, bm, hc, FB, T, iC, tI, F1, kb⟩ := h.ex
  refine PE.imp (pe_mk hex (pmk_xK FB T iC tI F1 kb ho hoo (B.room.mono hk) hg hc ha hdb hks hall hpl)) fun σ H Q ⟨F, A, P, ρ, S, rp, s, q⟩ => ?_
  refine tDA.seq rp s q fun ds S1 vs H1 F1 A1 x1 r1 s1 dv h1 => ?_
  split at h1
  · rename_i hl
    refine ⟨dv.length.trans hl, fun d hd => ⟨c, rfl, fun a ha => ?_⟩⟩
    obtain ⟨x2, r2⟩ := r1.frz (o := .xd (fs.zip (sel o vs)).reverse) hd
    obtain ⟨x3, r3⟩ := r2.frz (o := exq a c (some d)) ha
    have hda : d ≠ a := fun z => by rw [← z, upd_same] at ha; cases ha
    exact h1 _ _ _ _ ((x1.trans x2).trans x3) r3 (.exc hc upd_same (by rw [upd_ne hda, upd_same]) ((DatsF.zipR (Dats.seld dv)).mono (x2.trans x3)))
  · exact h1.elim
theorem de_mkX0 (h : ErrM0 X.K X.mg C) (hg : Gl X C) (hex : X.ex = [] := by rfl) (hdb : (C == ("__debug__" : Str)) = false := by decide) : DE X W (.Call (.Name C p) [] [] pos) (eMkX0 C) := by
  obtain ⟨c, B', nid, iid, bm, hc, FB, q, kp, be, ty⟩ := h.ex
  refine PE.imp (pe_mk hex (pmk_0 FB q hc kp (raises_own be ty) hg hdb)) fun σ H Q ⟨F, A, P, ρ, S, rp, s, h1⟩ => ⟨c, rfl, fun a ha => ?_⟩
  obtain ⟨x3, r3⟩ := rp.frz (o := exq a c none) ha
  exact h1 _ _ _ _ x3 r3 (.exc0 hc upd_same)
end
end DL
/-! str of a whole number -/
namespace DL
open PySem PySem.Spec PyProof.Rows L2
def gStrI : List D → Store → Option D := fun xs S => match xs with
  | [.int i] => if i.natAbs.log2 < 1920 then some (.str (toString i)) else none
  | _ => none
theorem strI_ent {K mg} : CallE K mg (fun xs H Q => ∃ i, xs = [.int i] ∧ i.natAbs.log2 < 1920 ∧ Q (.str (toString i)) H) gStrI := by
  intro F A P S H xs dx d Q rp hx e k
  unfold gStrI at e
  split at e
  · rename_i i
    split at e
    · rename_i hl
      cases e
      cases hx with
      | cons h1 h2 =>
        cases h2
        cases h1
        exact ⟨i, rfl, hl, okE.now k rp .str⟩
    · cases e
  · cases e
end DL
/-! sum(lists, start list) -/
namespace PySem
open Sem (wp)
section
variable {prog : Program} {w : World} {A : Around} {R : Result → Shared → Prop}
theorem dl_sum_loop (h0 : Heap) (p S I : Addr) (items : Array Value) (ys : Nat → List Value) (hI : h0.get? I = none) (hS : h0.get? S = none) (hIS : I ≠ S) (hp : h0.IsList p items)
    (hel : ∀ j (hj : j < items.size), ∃ a n, items[j] = .ref a ∧ h0.get? a = some { cls := .type "list", data := .seq (ys j).toArray n }) :
    ∀ (k i : Nat) (s : Shared) (tot : Addr) (zs : List Value) (c : Nat) (hh : A.handled = none), items.size - i = k → i ≤ items.size → (∀ b o, h0.get? b = some o → s.heap.get? b = some o) → s.heap.IsListIter I p i →
      s.heap.get? S = some { cls := .type "list", dict := none, data := .seq #[.ref tot] c, slots := #[] } → (∃ n, s.heap.get? tot = some { cls := .type "list", data := .seq zs.toArray n }) → tot ≠ I → tot ≠ S → zs.length + ((List.range k).map fun j => (ys (i + j)).length).sum ≤ sizeLine →
      (∀ s' l, (∀ b o, h0.get? b = some o → s'.heap.get? b = some o) → s'.gens = s.gens → s'.os = s.os → (l = tot ∧ k = 0 ∨ s.heap.objs.size ≤ l) → (∃ n, s'.heap.get? l = some { cls := .type "list", data := .seq (zs ++ ((List.range k).map fun j => ys (i + j)).flatten).toArray n }) → R (.ok (.ret (.ref l))) s') →
      codeAny (model prog w) A (.builtin "sum.loop" ⟨[.ref I, .ref S, rawInt 2, rawInt 0], []⟩) R s := by
  intro k
  induction k with
  | zero =>
    intro i s tot zs c hh hk hi hkeep hit hSo ht hne1 hne2 hb hR
    refine codeAny_builtin F.entry_sum_loop ?_
    rw [Around.under_plainId F.plain_sum_loop _]
    show wpAny _ A.in1 (seqItems? (.ref S) >>= _) _ _ s
    refine wpAny_bind (wpAny_seqItems hSo rfl ?_)
    show wpAny _ A.in1 (tryCatch (pyNext (.ref I)) _ >>= _) _ _ s
    have hpl : s.heap.IsList p items := let ⟨o, ho, r⟩ := hp; ⟨o, hkeep _ _ ho, r⟩
    refine wpAny_bind (wpAny_tryCatch (wpAny_pyNext_list_end (A := A.in1) (show A.in1.handled = none from hh) hit hpl (by simp; omega) fun h' he => ?_))
    refine wpAny_pure (hR _ tot (fun b o e => ?_) rfl rfl (.inl ⟨rfl, rfl⟩) ?_)
    · exact he b o (fun z => by rw [z, hI] at e; cases e) (hkeep b o e)
    · obtain ⟨n, ht⟩ := ht
      refine ⟨n, ?_⟩
      rw [show zs ++ ((List.range 0).map fun j => ys (i + j)).flatten = zs by simp]
      exact he _ _ hne1 ht
  | succ k ih =>
    intro i s tot zs c hh hk hi hkeep hit hSo ht hne1 hne2 hb hR
    have hlt : i < items.size := by omega
    refine codeAny_builtin F.entry_sum_loop ?_
    rw [Around.under_plainId F.plain_sum_loop _]
    show wpAny _ A.in1 (seqItems? (.ref S) >>= _) _ _ s
    refine wpAny_bind (wpAny_seqItems hSo rfl ?_)
    show wpAny _ A.in1 (tryCatch (pyNext (.ref I)) _ >>= _) _ _ s
    have hpl : s.heap.IsList p items := let ⟨o, ho, r⟩ := hp; ⟨o, hkeep _ _ ho, r⟩
    refine wpAny_bind (wpAny_tryCatch (wpAny_pyNext_list_item (A := A.in1) hit hpl (x := items[i]) (by simp [hlt]) fun h' hit' hsb => ?_))
    obtain ⟨a, n, ea, hga⟩ := hel i hlt
    obtain ⟨nt, ht⟩ := ht
    rw [ea]
    have haI : a ≠ I := fun z => by rw [z, hI] at hga; cases hga
    have ht' := (hsb.2 _ hne1).trans ht
    have ha' := (hsb.2 _ haI).trans (hkeep _ _ hga)
    have hS' := (hsb.2 _ (Ne.symm hIS)).trans hSo
    have hlen : zs.length + (ys i).length + ((List.range k).map fun j => (ys (i + 1 + j)).length).sum ≤ sizeLine := by
      rw [List.range_succ_eq_map, List.map_cons, List.sum_cons, List.map_map] at hb
      have e : (fun j => (ys (i + j)).length) ∘ Nat.succ = fun j => (ys (i + 1 + j)).length := by funext j; simp [Nat.succ_eq_add_one]; congr 2; omega
      rw [e] at hb
      simp only [Nat.add_zero] at hb
      omega
    show wpAny _ A.in1 ((holding [Value.ref a] (binaryOp .Add (.ref tot) (.ref a))).attempt >>= _) _ _ _
    refine wpAny_bind (wpAny_attempt (wpAny_holding (PySem.P.add_list (s := { s with heap := h' }) ht' ha' ?_ (by simp; omega))))
    have hIsz : I < h'.objs.size := by obtain ⟨o, ho, _⟩ := hit'; exact Heap.lt_size ho
    have hSsz : S < h'.objs.size := Heap.lt_size hS'
    have hS2 : (h'.push { cls := .type "list", data := .seq (zs.toArray ++ (ys i).toArray) }).get? S = _ := Heap.get?_push_of_some _ hS'
    have hN2 : (h'.push { cls := .type "list", data := .seq (zs.toArray ++ (ys i).toArray) }).get? h'.objs.size = some { cls := .type "list", data := .seq (zs.toArray ++ (ys i).toArray) } := Heap.get?_push_size _ rfl
    have hN3 : (h'.push { cls := .type "list", data := .seq (zs.toArray ++ (ys i).toArray) }).get? h'.objs.size = some { cls := .type "list", data := .seq (zs ++ ys i).toArray } := by rw [hN2]; simp
    have hit2 : (h'.push { cls := .type "list", data := .seq (zs.toArray ++ (ys i).toArray) }).IsListIter I p (i + 1) := let ⟨o, ho, r⟩ := hit'; ⟨o, Heap.get?_push_of_some _ ho, r⟩
    have hk2 : ∀ b o, h0.get? b = some o → (h'.push { cls := .type "list", data := .seq (zs.toArray ++ (ys i).toArray) }).get? b = some o := fun b o e => Heap.get?_push_of_some _ ((hsb.2 b (fun z => by rw [z, hI] at e; cases e)).trans (hkeep b o e))
    have hsz2 : h'.objs.size = s.heap.objs.size := hsb.1
    show wpAny _ A.in1 (updateSeq S (fun _ => #[Value.ref h'.objs.size]) >>= _) _ _ _
    refine wpAny_bind (wpAny_updateSeq hS2 rfl ?_)
    have hS3 := Heap.get?_update_self (Obj.mapSeq fun _ => #[Value.ref h'.objs.size]) hS2 rfl
    refine wpAny_bind (wpAny_letGo ?_)
    have nS : ∀ {b : Addr}, b ≠ S → S ≠ b := fun h z => h z.symm
    refine wpAny_bind (wpAny_updateSeq hS3 rfl (wpAny_pure ⟨plainId_quiet F.plain_sum_loop _, ih (i + 1) _ h'.objs.size (zs ++ ys i) _ hh (by omega) hlt (fun b o e => ?_) ?_ (Heap.get?_update_self _ hS3 rfl) ?_ (Nat.ne_of_gt hIsz) (Nat.ne_of_gt hSsz) (by rw [List.length_append]; exact hlen) (fun s' l q1 q2 q3 q4 q5 => ?_)⟩))
    · have hbS : b ≠ S := fun z => by rw [z, hS] at e; cases e
      exact (Heap.get?_update_other _ _ (nS hbS)).trans ((Heap.get?_update_other _ _ (nS hbS)).trans (hk2 b o e))
    · obtain ⟨o, ho, r⟩ := hit2
      exact ⟨o, (Heap.get?_update_other _ _ (nS hIS)).trans ((Heap.get?_update_other _ _ (nS hIS)).trans ho), r⟩
    · exact ⟨_, (Heap.get?_update_other _ _ (nS (Nat.ne_of_gt hSsz))).trans ((Heap.get?_update_other _ _ (nS (Nat.ne_of_gt hSsz))).trans hN3)⟩
    · refine hR s' l q1 q2 q3 ?_ ?_
      · rcases q4 with ⟨rfl, _⟩ | q4
        · exact .inr (Nat.le_of_eq hsz2.symm)
        · refine .inr (Nat.le_trans (Nat.le_trans (Nat.le_of_eq hsz2.symm) ?_) q4)
          show h'.objs.size ≤ (Heap.update (Heap.update (h'.push _) S _) S _).objs.size
          simp only [Heap.size_update, Heap.size_push]
          exact Nat.le_succ _
      · obtain ⟨n, q5⟩ := q5
        refine ⟨n, ?_⟩
        rw [List.range_succ_eq_map, List.map_cons, List.flatten_cons, List.map_map]
        have e : (fun j => ys (i + j)) ∘ Nat.succ = fun j => ys (i + 1 + j) := by funext j; show ys (i + (j + 1)) = _; congr 1; omega
        rw [e, Nat.add_zero, ← List.append_assoc]
        exact q5
theorem dl_args_sum2 (a b : Value) : argsOk "sum" ⟨[a, b], []⟩ := by unfold argsOk; kernel_rfl
theorem dl_call_sum {E : Value → Shared → Prop} {s : Shared} {Q : Value → Shared → Prop} {p q : Addr} {items : Array Value} {ys : Nat → List Value} {zs : List Value} {nq : Nat} (hh : A.handled = none) (hp : s.heap.IsList p items)
    (hel : ∀ j (hj : j < items.size), ∃ a n, items[j] = .ref a ∧ s.heap.get? a = some { cls := .type "list", data := .seq (ys j).toArray n })
    (hq : s.heap.get? q = some { cls := .type "list", data := .seq zs.toArray nq }) (hpos : 0 < items.size) (hb : zs.length + ((List.range items.size).map fun j => (ys j).length).sum ≤ sizeLine)
    (h : ∀ s' l, (∀ b o, s.heap.get? b = some o → s'.heap.get? b = some o) → s'.gens = s.gens → s'.os = s.os → s.heap.objs.size ≤ l → (∃ n, s'.heap.get? l = some { cls := .type "list", data := .seq (zs ++ ((List.range items.size).map ys).flatten).toArray n }) → Q (.ref l) s') :
    wpAny (model prog w) A (call (.builtin "sum") [.ref p, .ref q]) Q E s := by
  refine call_function_tree F.kind_sum F.plain_sum F.entry_sum (dl_args_sum2 _ _) ?_
  unfold Builtin.«sum»
  simp only [List.length_cons, List.length_nil]
  rw [if_neg (by decide)]
  refine wpAny_bind (wpAny_of_eq (show Builtin.Builtins.bindParams "sum" ["start"] 0 ⟨[.ref q], []⟩ = pure [some (.ref q)] from rfl) ?_)
  refine wpAny_bind (wpAny_pyIter_list hp ?_)
  refine wpAny_bind (wpAny_pure ?_)
  have hqT : ∀ {o : Obj}, (⟨s.heap.push o, s.gens, s.drawn, s.toks, s.os⟩ : Shared).TypeIs (.ref q) "list" := fun {o} => ⟨_, Heap.get?_push_of_some _ hq, rfl⟩
  simp only [List.forIn_cons, List.forIn_nil]
  refine wpAny_bind (wpAny_bind (wpAny_bind (wpAny_isInstance (T := "list") (b := false) hqT F.sub_list_str ?_)))
  simp only [Bool.false_eq_true, if_false]
  refine wpAny_pure (wpAny_bind (wpAny_bind (wpAny_isInstance (T := "list") (b := false) hqT F.sub_list_bytes ?_)))
  simp only [Bool.false_eq_true, if_false]
  refine wpAny_pure (wpAny_bind (wpAny_bind (wpAny_isInstance (T := "list") (b := false) hqT F.sub_list_bytearray ?_)))
  simp only [Bool.false_eq_true, if_false]
  refine wpAny_pure (wpAny_pure ?_)
  refine wpAny_bind (wpAny_newObj_type ?_)
  have hIne : s.heap.get? s.heap.objs.size = none := Heap.get?_none_of_le (Nat.le_refl _)
  have hSne : s.heap.get? (s.heap.objs.size + 1) = none := Heap.get?_none_of_le (Nat.le_succ _)
  have hsz1 : (s.heap.push { cls := .type "list_iterator", data := .fields #[Value.ref p, Value.int 0 0] }).objs.size = s.heap.objs.size + 1 := Heap.size_push ..
  have hql := Heap.lt_size hq
  show wpAny _ A.in1 (again (Code.builtin "sum.loop" ⟨[.ref s.heap.objs.size, .ref (s.heap.push { cls := .type "list_iterator", data := .fields #[Value.ref p, Value.int 0 0] }).objs.size, rawInt 2, rawInt 0], []⟩)) _ _ _
  rw [hsz1]
  refine wpAny_pure ⟨plainId_quiet F.plain_sum_loop _, dl_sum_loop s.heap p (s.heap.objs.size + 1) s.heap.objs.size items ys hIne hSne (Nat.ne_of_lt (Nat.lt_succ_self _)) hp hel items.size 0 _ q zs 0 hh (Nat.sub_zero _) (Nat.zero_le _)
    (fun b o e => Heap.get?_push_of_some _ (Heap.get?_push_of_some _ e)) ?_ ?_ ⟨nq, Heap.get?_push_of_some _ (Heap.get?_push_of_some _ hq)⟩ (Nat.ne_of_lt hql) (Nat.ne_of_lt (Nat.lt_succ_of_lt hql)) ?_ fun s' l q1 q2 q3 q4 q5 => ?_⟩
  · exact ⟨_, Heap.get?_push_of_some _ (Heap.get?_push_size _ rfl), rfl, rfl⟩
  · have := Heap.get?_push_size (s.heap.push { cls := .type "list_iterator", data := .fields #[Value.ref p, Value.int 0 0] }) (o := { cls := .type "list", data := .seq #[Value.ref q] }) rfl
    rw [hsz1] at this
    exact this
  · simpa using hb
  · have e : (fun j => ys (0 + j)) = ys := by funext j; rw [Nat.zero_add]
    rw [e] at q5
    refine h s' l q1 q2 q3 ?_ q5
    rcases q4 with ⟨_, z⟩ | q4
    · omega
    · refine Nat.le_trans ?_ q4
      show s.heap.objs.size ≤ ((s.heap.push _).push _).objs.size
      simp only [Heap.size_push]
      omega
end
end PySem
/-! sum(lists, start list): the rule -/
namespace DL
open PySem PySem.Spec PyProof.Rows L2
def rSumL (K : PySem.W.Frag) : List V → Hp → VK → Prop := fun xs H Q => ∃ p q rows zs, xs = [.ref p, .ref q] ∧ SqL K H p ((rows : List (Addr × List V)).map fun r => V.ref r.1) ∧ (∀ r ∈ rows, H r.1 = some (.lst r.2)) ∧ H q = some (.lst zs) ∧ rows ≠ [] ∧
  (zs ++ (rows.map (·.2)).flatten).length ≤ sizeLine ∧ ∀ l, H l = none → Q (.ref l) (upd H l (.lst (zs ++ (rows.map (·.2)).flatten)))
theorem vals_refs : ∀ {rows : List (Addr × List V)} {us : List Value}, Vals (rows.map fun r => V.ref r.1) us → us = rows.map fun r => Value.ref r.1
  | [], _, .nil => rfl
  | r :: rows, _, .cons h t => by
    cases (show _ = Value.ref r.1 from h)
    rw [vals_refs t]; rfl
theorem vals_flat {rows : List (Addr × List V)} {ys : Nat → List Value} (h : ∀ j (hj : j < rows.length), Vals rows[j].2 (ys j)) : Vals ((rows.map (·.2)).flatten) (((List.range rows.length).map ys).flatten) := by
  induction rows generalizing ys with
  | nil => exact .nil
  | cons r rows ih =>
    rw [List.length_cons, List.range_succ_eq_map, List.map_cons, List.map_cons, List.flatten_cons, List.flatten_cons, List.map_map]
    exact (h 0 (Nat.succ_pos _)).append (ih (ys := ys ∘ Nat.succ) fun j hj => h (j + 1) (Nat.succ_lt_succ hj))
theorem call_sumL {X : Cx} (hc : X.calm = true) : CallR X (.builtin "sum") (rSumL X.K) := by
  intro pins s σ H xs us Q I r h
  obtain ⟨p, q, rows, zs, rfl, hp, hrows, hq, hne, hb, k⟩ := h
  obtain ⟨u1, u2, rfl, r1, r2⟩ : ∃ u1 u2, us = [u1, u2] ∧ RelV (.ref p) u1 ∧ RelV (.ref q) u2 := by
    cases r with
    | cons a t =>
      cases t with
      | cons b t =>
        cases t
        exact ⟨_, _, rfl, a, b⟩
  cases (show u1 = Value.ref p from r1)
  cases (show u2 = Value.ref q from r2)
  obtain ⟨its, rv, pl, hz⟩ := I.list hp
  have hits := vals_refs rv
  subst hits
  obtain ⟨zq, zits, nq, rq, hlq, eq⟩ := I.lstM hq
  have ex : ∀ j : Nat, ∃ ys : List Value, ∀ (hj : j < rows.length), Vals rows[j].2 ys ∧ ∃ n, s.heap.get? rows[j].1 = some { cls := .type "list", data := .seq ys.toArray n } := fun j => by
    by_cases hj : j < rows.length
    · obtain ⟨z, its, n, r, hl, e⟩ := I.lstM (hrows rows[j] (List.getElem_mem hj))
      exact ⟨its, fun _ => ⟨r, n, e⟩⟩
    · exact ⟨[], fun h => absurd h hj⟩
  obtain ⟨ys, hys⟩ := Classical.axiomOfChoice ex
  have hsize : (rows.map fun r => Value.ref r.1).toArray.size = rows.length := by simp
  have vf := vals_flat fun j hj => (hys j hj).1
  have vall := rq.append vf
  refine dl_call_sum (A := X.A) (I.ok.hd hc) pl.isList (ys := ys) (fun j hj => ?_) eq (by rw [hsize]; cases rows with | nil => exact absurd rfl hne | cons _ _ => exact Nat.succ_pos _) ?_ fun s' l q1 q2 q3 q4 q5 => ?_
  · have hj' : j < rows.length := by rw [hsize] at hj; exact hj
    obtain ⟨n, e⟩ := (hys j hj').2
    exact ⟨rows[j].1, n, by simp, e⟩
  · rw [hsize]
    have e := vall.length
    rw [e, List.length_append, List.length_flatten, List.map_map] at hb
    exact hb
  · rw [hsize] at q5
    obtain ⟨n, q5⟩ := q5
    have J2 : Inv X pins σ H s' := I.landed (B := s.heap) (fun b o e _ => e) q1 (Heap.UpToSlots.of_keeps q1) q3 (by rw [q2]; exact I.bare)
    have na : H l = none := I.hok.fresh q4
    have nl : s.heap.get? l = none := Heap.get?_none_of_le q4
    refine ⟨.ref l, _, inv_track (o := .lst (zs ++ (rows.map (·.2)).flatten)) J2 na ?_ (fun z => ?_) (fun x c e z => ?_) (fun p hp z => ?_) (show ObjOk X.prog X.w _ s'.heap l (.lst (zs ++ (rows.map (·.2)).flatten)) from ⟨hb, _, n, vall, q5⟩), rfl, k l na⟩
    · exact Heap.get?_none_of_le (Nat.le_trans I.sz q4)
    · have := I.lt
      rw [← z] at this
      exact absurd (Nat.lt_of_lt_of_le this q4) (Nat.lt_irrefl _)
    · obtain ⟨v, o, q, _⟩ := I.cell x c e
      rw [z, nl] at q; cases q
    · have q := (I.pin p hp).1
      rw [z, nl] at q; cases q
end DL
/-! sum(lists, start list) on data -/
namespace DL
open PySem PySem.Spec PyProof.Rows L2
def listsOf : List D → Option (List (List D))
  | [] => some []
  | .list xs :: r => (listsOf r).map (xs :: ·)
  | _ => none
def gSumL : List D → Store → Option D := fun xs S => match xs with
  | [.list rows, .list zs] => match listsOf rows with
    | some yss => if yss ≠ [] ∧ (zs ++ yss.flatten).length ≤ 16777216 then some (.list (zs ++ yss.flatten)) else none
    | none => none
  | _ => none
theorem lists_at {K mg F A} : ∀ {ds : List D} {vs : List V} {yss : List (List D)}, Dats K mg F A vs ds → listsOf ds = some yss →
    ∃ rows : List (Addr × List V), vs = rows.map (fun r => V.ref r.1) ∧ rows.length = yss.length ∧ (∀ r ∈ rows, F r.1 = some (.lst r.2)) ∧ Dats K mg F A ((rows.map (·.2)).flatten) yss.flatten
  | [], _, _, .nil, e => by
    simp [listsOf] at e
    subst e
    exact ⟨[], rfl, rfl, fun r h => (by cases h), Dats.nil⟩
  | d :: ds, _, yss, .cons h t, e => by
    cases h with
    | list h1 h2 =>
      simp only [listsOf, Option.map_eq_some_iff] at e
      obtain ⟨y2, e1, rfl⟩ := e
      obtain ⟨rows, rfl, hl, hF, hD⟩ := lists_at t e1
      rename_i a ws xs
      refine ⟨(a, ws) :: rows, rfl, by rw [List.length_cons, hl]; rfl, fun r hr => ?_, ?_⟩
      · rcases List.mem_cons.mp hr with rfl | hr
        · exact h1
        · exact hF r hr
      · exact h2.append hD
    | _ => simp only [listsOf] at e; cases e
theorem sumL_ent {K mg} : CallE K mg (rSumL K) gSumL := by
  intro F A P S H xs dx d Q rp hx e k
  unfold gSumL at e
  split at e
  · rename_i rows zs
    split at e
    · rename_i yss e1
      split at e
      · rename_i hc
        cases e
        cases hx with
        | cons h1 h2 =>
          cases h2 with
          | cons h3 h4 =>
            cases h4
            cases h1 with
            | list g1 g2 =>
              cases h3 with
              | list g3 g4 =>
                obtain ⟨rws, rfl, hl, hF, hD⟩ := lists_at g2 e1
                have hall := g4.append hD
                refine ⟨_, _, rws, _, rfl, SqL.of (rp.le _ _ g1), fun r hr => rp.le _ _ (hF r hr), rp.le _ _ g3, fun z => ?_, by rw [hall.length]; exact len_le hc.2, fun l hl2 => ?_⟩
                · rw [z] at hl
                  exact hc.1 (List.eq_nil_of_length_eq_zero hl.symm)
                · obtain ⟨x2, r2⟩ := rp.frz (o := .lst _) hl2
                  exact k _ _ _ _ x2 r2 (.list upd_same (hall.mono x2))
      · cases e
    · cases e
  · cases e
theorem boot_sum : bootBuiltins "sum" = some (.builtin "sum") := by decide +kernel
end DL
/-! the head by a Hook: facts as Bool functions of a part of the heap, defs as values -/
namespace HB
open PySem PySem.Spec PyProof.Rows L2 He
/-- a def: where it stands, its names, parameters, body, scope -/
structure FnO where
  ad : PySem.W.Frag → Addr
  name : Str
  qual : Str
  params : Arguments
  body : List Stmt
  scope : Scope
abbrev FnV' : Type := Option (Str × Str × Arguments × FuncBody × Scope × Addr × List (Str × Addr) × Addr)
def fnObs (K : PySem.W.Frag) (a : Addr) : FnV' := match K.lookup a with
  | some ⟨_, _, .func fd, _⟩ => some (fd.name, fd.qualname, fd.params, fd.body, fd.scope, fd.globals, fd.closure, fd.builtins)
  | _ => none
def FnO.val (d : FnO) : FnV' := some (d.name, d.qual, d.params, .stmts d.body, d.scope, mainGlobals, [], builtinsNs)
def isNone : Value → Bool
  | .none => true
  | _ => false
/-- no defaults, the code object stands -/
def codeB (K : PySem.W.Frag) (d : FnO) : Bool := match K.lookup (d.ad K) with
  | some ⟨_, _, .func fd, _⟩ => PySem.W.codeIn K fd.code d.qual && isNone fd.defaults
  | _ => false
theorem fnO_ok {K : PySem.W.Frag} {d : FnO} (e : fnObs K (d.ad K) = d.val) (c : codeB K d = true) :
    ∃ oc od osl kV doc pm an cdv ct, K.lookup (d.ad K) = some ⟨oc, od, .func (PySem.W.fnOf d.name d.qual d.params d.body d.scope .none kV doc pm an cdv ct), osl⟩ ∧ PySem.W.codeIn K cdv d.qual = true := by
  unfold codeB at c
  unfold fnObs at e
  cases q : K.lookup (d.ad K) with
  | none => rw [q] at c; cases c
  | some o =>
    obtain ⟨oc, od, dt, osl⟩ := o
    rw [q] at c e
    cases dt with
    | func fd =>
      obtain ⟨n1, n2, n3, n4, n5, n6, n7, n8, n9, n10, n11, n12, n13, n14, n15⟩ := fd
      have e2 : (some (n1, n2, n3, n4, n5, n6, n7, n15) : FnV') = some (d.name, d.qual, d.params, .stmts d.body, d.scope, mainGlobals, [], builtinsNs) := e
      simp only [Option.some.injEq, Prod.mk.injEq] at e2
      obtain ⟨h1, h2, h3, h4, h5, h6, h7, h8⟩ := e2
      subst h1 h2 h3 h4 h5 h6 h7 h8
      obtain ⟨c1, c2⟩ := ba (show (PySem.W.codeIn K n13 d.qual && isNone n8) = true from c)
      cases n8 with
      | none => exact ⟨oc, od, osl, n9, n10, n11, n12, n13, n14, rfl, c1⟩
      | _ => cases c2
    | _ => cases c
abbrev Al : Type := Bool × List FnV'
def obsK (ex : List (List (PySem.W.Frag → Bool))) (fn : List FnO) (K : PySem.W.Frag) : Al := ((ex.all fun l => l.all fun f => f K) && fn.all (codeB K), fn.map fun d => fnObs K (d.ad K))
def valK (fn : List FnO) : Al := (true, fn.map FnO.val)
def Says (ex : List (List (PySem.W.Frag → Bool))) (fn : List FnO) (K : PySem.W.Frag) : Prop := obsK ex fn K = valK fn
/-- what is reached from the module's names -/
def reach (g : Addr → Option Obj) : Nat → Nat → List Addr → List Addr → List Addr
  | 0, _, _, acc => acc
  | _ + 1, _, [], acc => acc
  | f + 1, seen, a :: r, acc => match Nat.beq (Nat.land (Nat.shiftRight seen a) 1) 1 with
    | true => reach g f seen r acc
    | false => match g a with
      | some o => HandSHeadRun.frNat (Nat.lor seen (Nat.shiftLeft 1 a)) fun seen => reach g f seen (refsO o ++ r) (a :: acc)
      | none => reach g f seen r acc
def asR (g : Addr → Option Obj) (n : Nat) : List Addr := cStatics :: reach g n 0 [mainGlobals] []
def obsR (n : Nat) (ex : List (List (PySem.W.Frag → Bool))) (fn : List FnO) (g : Addr → Option Obj) : Al := obsK ex fn (frG g (asR g n))
def hook (n : Nat) (ex : List (List (PySem.W.Frag → Bool))) (fn : List FnO) : PySem.W.Hook where
  α := Al
  obs := fun s => obsR n ex fn s.heap.get?
  val := fun _ => valK fn
  says := fun _ h => ∃ K : PySem.W.Frag, K.In h ∧ Says ex fn K
  of := fun _ _ e => ⟨_, frG_in, e⟩
  keeps := fun _ _ _ ⟨K, hK, c⟩ k => ⟨K, PySem.W.Frag.In.keeps hK k, c⟩
theorem obs_eq {n : Nat} {ex : List (List (PySem.W.Frag → Bool))} {fn : List FnO} {g : Addr → Option Obj} {s : Shared} (h : ∀ a, g a = s.heap.get? a) : obsR n ex fn g = (hook n ex fn).obs s := by
  have e : g = s.heap.get? := funext h
  rw [e] <;> rfl
section
variable {ex : List (List (PySem.W.Frag → Bool))} {fn : List FnO} {K : PySem.W.Frag}
theorem Says.part (c : Says ex fn K) (j : Nat) {l : List (PySem.W.Frag → Bool)} (hl : ex[j]? = some l := by rfl) : (l.all fun f => f K) = true := by
  have c1 := (ba (show ((ex.all fun l => l.all fun f => f K) && fn.all (codeB K)) = true from congrArg (fun z : Al => z.1) c)).1
  exact List.all_eq_true.mp c1 l (List.mem_of_getElem? hl)
theorem fx {l : List (PySem.W.Frag → Bool)} (c : (l.all fun f => f K) = true) (i : Nat) {f : PySem.W.Frag → Bool} (h : l[i]? = some f := by rfl) : f K = true := List.all_eq_true.mp c f (List.mem_of_getElem? h)
theorem Says.def_ (c : Says ex fn K) (i : Nat) {d : FnO} (h : fn[i]? = some d := by rfl) : ∃ oc od osl kV doc pm an cdv ct, K.lookup (d.ad K) = some ⟨oc, od, .func (PySem.W.fnOf d.name d.qual d.params d.body d.scope .none kV doc pm an cdv ct), osl⟩ ∧ PySem.W.codeIn K cdv d.qual = true := by
  have c2 := (ba (show ((ex.all fun l => l.all fun f => f K) && fn.all (codeB K)) = true from congrArg (fun z : Al => z.1) c)).2
  have e : fn.map (fun d => fnObs K (d.ad K)) = fn.map FnO.val := congrArg (fun z : Al => z.2) c
  have e2 : (fn.map fun d => fnObs K (d.ad K))[i]? = (fn.map FnO.val)[i]? := by rw [e]
  rw [List.getElem?_map, List.getElem?_map, h] at e2
  exact fnO_ok (Option.some.inj e2) (List.all_eq_true.mp c2 d (List.mem_of_getElem? h))
end
/-! ### checks -/
def eqB (a b : Option Bool) : Bool := decide (a = b)
theorem eqB_ok {a b : Option Bool} (h : eqB a b = true) : a = b := of_decide_eq_true h
def eqV (a b : Option Value) : Bool := decide (a = b)
theorem eqV_ok {a b : Option Value} (h : eqV a b = true) : a = b := of_decide_eq_true h
def intB (a : Option (Option Value)) (i : Int) : Bool := match a with
  | some (some (.int j _)) => decide (j = i)
  | _ => false
theorem intB_ok {a : Option (Option Value)} {i : Int} (h : intB a i = true) : ∃ t, a = some (some (.int i t)) := by
  unfold intB at h
  split at h
  · have := of_decide_eq_true h; subst this; exact ⟨_, rfl⟩
  · cases h
def strB (a : Option (Option Value)) (x : Str) : Bool := match a with
  | some (some (.str y _)) => decide (y = x)
  | _ => false
theorem strB_ok {a : Option (Option Value)} {x : Str} (h : strB a x = true) : ∃ t, a = some (some (.str x t)) := by
  unfold strB at h
  split at h
  · have := of_decide_eq_true h; subst this; exact ⟨_, rfl⟩
  · cases h
/-- the function of a property, of a class method -/
def recA (K : PySem.W.Frag) (p : Addr) (T : String) : Addr := match PySem.W.recIn K p T with
  | some (.ref f :: _) => f
  | _ => 0
def recB (K : PySem.W.Frag) (p : Addr) (T : String) : Bool := match PySem.W.recIn K p T with
  | some (.ref _ :: _) => true
  | _ => false
theorem recB_ok {K : PySem.W.Frag} {p : Addr} {T : String} (h : recB K p T = true) : ∃ rs, PySem.W.recIn K p T = some (.ref (recA K p T) :: rs) := by
  unfold recB at h
  unfold recA
  split at h
  · rename_i f rs e; rw [e]; exact ⟨rs, rfl⟩
  · cases h
def cmA (K : PySem.W.Frag) (C : Addr) (m : Str) : Addr := match PySem.W.findCls K (.ref C) (.type "type") m with
  | some (.get (.builtin _) (.ref p) .none (.ref _)) => p
  | _ => 0
def cmB (K : PySem.W.Frag) (C : Addr) (m : Str) : Bool := match PySem.W.findCls K (.ref C) (.type "type") m with
  | some (.get (.builtin b) (.ref _) .none (.ref c)) => decide (b = "classmethod.__get__") && decide (c = C)
  | _ => false
theorem cmB_ok {K : PySem.W.Frag} {C : Addr} {m : Str} (h : cmB K C m = true) : PySem.W.findCls K (.ref C) (.type "type") m = some (.get (.builtin "classmethod.__get__") (.ref (cmA K C m)) .none (.ref C)) := by
  unfold cmB at h
  unfold cmA
  split at h
  · rename_i b p c e
    obtain ⟨h1, h2⟩ := ba h
    have h1 := of_decide_eq_true h1
    have h2 := of_decide_eq_true h2
    subst h1 h2
    rw [e]
  · cases h
end HB
namespace DL
open PySem PySem.Spec PyProof.Rows L2
/-- the goal that such a head leaves -/
theorem law_endH {gf : Bool} {l : PySem.W.OpenLaw} {n k : Nat} {q : Program} {loose : List Str} {XP : (Str → Option Value) → Heap → Prop} {YP : World → Heap → Prop} {d : DefRec} {x : Str} {m : Fn}
    (hn : l.most = some n) (hn2 : n ≤ sizeLine) (hdf : d.params.defaults = []) (hr : Room k callerA) (himp : importsNone q = true)
    (F : ∀ (w : World) (mg : Str → Option Value) (fa : Addr) (h : Heap), YP w h → h.Ns mainGlobals mg → mg d.name = some (.ref fa) →
      ∃ K : PySem.W.Frag, K.In h ∧ ∃ fd : FuncData, (∀ (s : Shared) (u : Value), BindsTo s fd ⟨[u], []⟩ [(x, u)]) ∧
        ∀ base : Heap, K.In base → base.Ns mainGlobals mg → (∃ mm, base.Ns sysModules mm) → FnG gf l.prog w K mg base k fa fd [x] (spD K mg 1 m))
    (hm : Good n m) : PySem.W.WalkO q loose XP YP l.row.toRowW d [] (fun f vs => PySem.call f vs) := by
  refine Att.attach_call hn hdf fun w s0 s1 mg mb fa o pm cd doc a vs ns G Y ho hd hcd hmg hobj hints hlen hg => ?_
  obtain ⟨K, KX, fd, hb, hF⟩ := F w mg fa _ Y G.T.g hmg
  obtain ⟨mm, h1, _⟩ := (G.T.seer himp).mods
  exact law_run KX G.T.g G.T.b G.T.builtins G.T.nolimit ⟨mm, h1⟩ hg hobj hints (Nat.le_trans hlen hn2) hr hF hb (hm ns hlen)
end DL
namespace HB
open PySem PySem.Spec PyProof.Rows L2 He
def cvB (a : Option PySem.W.CFound) (i : Int) : Bool := match a with
  | some (.val (.int j _)) => decide (j = i)
  | _ => false
theorem cvB_ok {a : Option PySem.W.CFound} {i : Int} (h : cvB a i = true) : ∃ t, a = some (.val (.int i t)) := by
  unfold cvB at h
  split at h
  · have := of_decide_eq_true h; subst this; exact ⟨_, rfl⟩
  · cases h
end HB
/-! dict comprehensions -/
namespace DL
open PySem PySem.Spec PyProof.Rows L2
variable {gf gj : Bool}
def dcD (g : Tg) (tt : Ev Bool) (tk tv : Ev D) (ρ : Env') : List D → List (Key × D) → Store → Out (List (Key × D))
  | [], acc, S => .ok acc S
  | d :: ds, acc, S => match g d ρ with
    | none => .stuck
    | some ρ1 => (noExc (tt ρ1 S)).bind fun b S => if b then (noExc (tk ρ1 S)).bind fun k S => (noExc (tv ρ1 S)).bind fun v S => match keyOf k with
        | some kk => dcD g tt tk tv ρ ds (putD acc kk v) S
        | none => .stuck
      else dcD g tt tk tv ρ ds acc S
def eDc (it : Ev (List D)) (g : Tg) (tt : Ev Bool) (tk tv : Ev D) (vs : List Nat) : Ev D := fun ρ S => (it ρ S).bind fun ds S => if ds.length ≤ 16777216 then (dcD g tt tk tv (wipeD ρ vs) ds [] S).bind fun ys S => .ok (.dict ys) S else .stuck
theorem noExc_post' {α β : Type} {o : Out α} {k : α → Store → Out β} {ok : β → Store → Prop} {ex ex'} (h : ((noExc o).bind k).post ok ex) (hk : ∀ a S, (k a S).post ok ex → (k a S).post ok ex') : ((noExc o).bind k).post ok ex' := by
  cases o with
  | ok a S => exact hk a S h
  | exc C fs S => exact h.elim
  | stuck => exact h.elim
theorem dcD_noexc {g tt tk tv ρ} : ∀ {ds : List D} {acc : List (Key × D)} {S : Store} {ok : List (Key × D) → Store → Prop} {ex ex'}, (dcD g tt tk tv ρ ds acc S).post ok ex → (dcD g tt tk tv ρ ds acc S).post ok ex' := by
  intro ds
  induction ds with
  | nil => intro acc S ok ex ex' h; exact h
  | cons d ds ih =>
    intro acc S ok ex ex' h
    unfold dcD at h ⊢
    cases e : g d ρ with
    | none => rw [e] at h; exact h.elim
    | some ρ1 =>
      rw [e] at h
      dsimp only at h ⊢
      refine noExc_post' h fun b S h => ?_
      cases b with
      | false => exact ih (ex := ex) h
      | true =>
        refine noExc_post' (show ((noExc (tk ρ1 S)).bind _ : Out (List (Key × D))).post ok ex from h) fun k S h => ?_
        refine noExc_post' h fun v S h => ?_
        cases e2 : keyOf k with
        | none => rw [e2] at h; exact h.elim
        | some kk => rw [e2] at h; exact ih (ex := ex) h
theorem length_putD (kvs : List (Key × D)) (k : Key) (v : D) : (putD kvs k v).length ≤ kvs.length + 1 := by
  unfold putD
  split
  · rw [List.length_map]; omega
  · rw [List.length_append]; exact Nat.le_refl _
section
variable {X : Cx} {W : WX}
theorem dc_ent {it : Ev (List D)} {ts : Ts} {tt : Ev Bool} {tk tv : Ev D} {vs : List Nat} (hv : ∀ i ∈ ts.slots, i ∈ vs) : ∀ σ H Q, tD X.K X.mg W (eDc it ts.g tt tk tv vs) σ H Q → tDc (tDI X.K X.mg W it) (ts.tg X.K) (tDT X.K X.mg W0 tt) (tD X.K X.mg W0 tk) (tD X.K X.mg W0 tv) vs σ H (fun v H1 => ∃ p u, v = .ref p ∧ H1 p = some u ∧ Mut (some u) ∧ ∀ od, Q v (upd H1 p (.frz od u))) :=
  fun σ H Q ⟨F, A, P, ρ, S, rp, s, q⟩ => by
    refine ⟨F, A, P, ρ, S, rp, s, Out.post_mono (Out.post_bind q) (fun ds S1 h1 J H1 F1 A1 x1 r1 io p hp => ?_) fun _ _ _ z => z⟩
    split at h1
    · rename_i hl
      have hP : P p = none := r1.pr.free hp
      have h1 := dcD_noexc (ex' := noEx) (Out.post_bind h1)
      refine ⟨fun i m H => m = ds.length - i ∧ i ≤ ds.length ∧ ∃ F2 A2 S2 av ad, Ext F1 A1 F2 A2 ∧ Rep X.K X.mg F2 A2 S2 (upd P p (.dK av)) H ∧ DatsK X.K X.mg F2 A2 av ad ∧ av.length ≤ i ∧ (dcD ts.g tt tk tv (wipeD ρ vs) (ds.drop i) ad S2).post (fun ys S' => okE X.K X.mg F2 A2 P Q (.dict ys) S') noEx,
        ⟨ds.length, by simp, Nat.zero_le _, F1, A1, S1, [], [], Ext.refl _ _, r1.priv hp, .nil, Nat.le_refl _, by simpa using Out.post_mono h1 (fun ys S' z => okE.ext x1 z) fun _ _ _ z => z⟩, ?_⟩
      rintro i m H2 ⟨rfl, hi, F2, A2, S2, av, ad, x2, r2, da, hal, h2⟩
      by_cases hlt : i < ds.length
      · rw [List.drop_eq_getElem_cons hlt] at h2
        have hd : ds[i]? = some ds[i] := by simp [hlt]
        refine .inr ⟨io.go _ _ _ _ _ i x2 r2 hlt, fun H => i + 1 ≤ ds.length ∧ ∃ F2 A2 S2 av ad, Ext F1 A1 F2 A2 ∧ Rep X.K X.mg F2 A2 S2 (upd P p (.dK av)) H ∧ DatsK X.K X.mg F2 A2 av ad ∧ av.length ≤ i + 1 ∧ (dcD ts.g tt tk tv (wipeD ρ vs) (ds.drop (i + 1)) ad S2).post (fun ys S' => okE X.K X.mg F2 A2 P Q (.dict ys) S') noEx,
          fun H' n => ⟨ds.length - (i + 1), by omega, rfl, n⟩, fun y H3 hy => ?_⟩
        obtain ⟨F3, x3, r3, dv⟩ := io.yld _ _ _ _ _ i y H3 _ x2 r2 hy hd
        have h2 := Out.post_mono h2 (fun ys S' z => okE.ext x3 z) fun _ _ _ z => z
        unfold dcD at h2
        cases e : ts.g ds[i] (wipeD ρ vs) with
        | none => rw [e] at h2; exact h2.elim
        | some ρ3 =>
          rw [e] at h2
          dsimp only at h2
          refine ts_run r3 hv dv (((s.mono x1).mono x2).mono x3 |>.wipe vs) e fun σ4 s4 ag => ⟨?_, ?_⟩
          · have z := ag.wipe.symm
            have zz : L2.wipe (L2.wipe σ vs) vs = L2.wipe σ vs := by
              refine (Agree.wipe ⟨wipe_length _ _, fun i hi => wipe_get hi⟩)
            rw [z, zz]
          · refine ⟨F3, A2, _, ρ3, S2, r3, s4, Out.post_mono (noExc_post (ex' := exE X.K X.mg F3 A2 (upd P p (.dK av)) fun c d H' => W0 c d σ4 H') (Out.post_bind h2)) (fun b S5 h5 H5 F5 A5 x5 r5 => ?_) fun _ _ _ z => z⟩
            cases b with
            | false =>
              rw [if_neg (by decide)] at h5
              refine iteF ?_
              exact ⟨hlt, F5, A5, S5, av, ad, ((x2.trans x3).trans x5), r5, (da.mono x3).mono x5, Nat.le_succ_of_le hal, Out.post_mono h5 (fun ys S' z => okE.ext x5 z) fun _ _ _ z => z⟩
            | true =>
              rw [if_pos rfl] at h5
              refine iteT ?_
              refine ⟨F5, A5, _, ρ3, S5, r5, s4.mono x5, Out.post_mono (noExc_post (ex' := exE X.K X.mg F5 A5 (upd P p (.dK av)) fun c d H' => W0 c d σ4 H') (Out.post_bind h5)) (fun y6 S6 h6 v6 H6 F6 A6 x6 r6 d6 => ?_) fun _ _ _ z => z⟩
              refine ⟨F6, A6, _, ρ3, S6, r6, (s4.mono x5).mono x6, Out.post_mono (noExc_post (ex' := exE X.K X.mg F6 A6 (upd P p (.dK av)) fun c d H' => W0 c d σ4 H') (Out.post_bind h6)) (fun y7 S7 h7 v7 H7 F7 A7 x7 r7 d7 => ?_) fun _ _ _ z => z⟩
              cases ek : keyOf y6 with
              | none => rw [ek] at h7; exact h7.elim
              | some kk =>
                rw [ek] at h7
                dsimp only at h7
                have lz := length_putD ad kk y7
                have da7 := ((((da.mono x3).mono x5).mono x6).mono x7).put (k := kk) d7
                have e1 := da.length
                have e2 := da7.length
                refine ⟨av, kk, keyOf_at d6 ek, r7.pr p _ upd_same, Nat.lt_of_le_of_lt hal (Nat.lt_of_lt_of_le hlt (len_le hl)), hlt, F7, A7, S7, putK av kk v7, putD ad kk y7, ((((x2.trans x3).trans x5).trans x6).trans x7), r7.privUpd, da7, by omega, ?_⟩
                exact Out.post_mono h7 (fun ys S' z => okE.ext ((x5.trans x6).trans x7) z) fun _ _ _ z => z
      · have e : i = ds.length := by omega
        subst e
        rw [List.drop_length] at h2
        refine .inl ⟨io.stop _ _ _ _ _ _ x2 r2 (Nat.le_refl _), ?_⟩
        refine ⟨p, _, rfl, r2.pr p _ upd_same, trivial, fun od => ?_⟩
        obtain ⟨x3, r3⟩ := (r2.privUpd (o' := .frz od (.dK av))).privFrz hP
        have h2 : okE X.K X.mg F2 A2 P Q (.dict ad) S2 := h2
        exact h2 _ _ _ _ x3 r3 (.dict upd_same (da.mono x3))
    · exact h1.elim
variable {kx vx tg iter : Expr} {ifs : List Expr} {scope : Scope} {pos : Pos} {it : Ev (List D)} {tt : Ev Bool} {tk tv : Ev D} {k : Nat}
theorem de_dc (B : Bod gf X W k) (ts : Ts) (own : List (Str × Nat)) (hi : DI X W tg iter it) (ok : blkC X.N X.env.scope scope own = true)
    (hg : ∀ (s : Shared) (H : Hp) (C : Addr) (cl : List (Str × Addr)) (fp : List Addr), Bod gf (X.blk s H scope (compEnvC scope cl C X.env) fp) W0 k → PG (X.blk s H scope (compEnvC scope cl C X.env) fp) tg (ts.tg X.K))
    (ht : ∀ (s : Shared) (H : Hp) (C : Addr) (cl : List (Str × Addr)) (fp : List Addr), Bod gf (X.blk s H scope (compEnvC scope cl C X.env) fp) W0 k → PTs (X.blk s H scope (compEnvC scope cl C X.env) fp) ifs (tDT X.K X.mg W0 tt))
    (hk : ∀ (s : Shared) (H : Hp) (C : Addr) (cl : List (Str × Addr)) (fp : List Addr), Bod gf (X.blk s H scope (compEnvC scope cl C X.env) fp) W0 k → DE (X.blk s H scope (compEnvC scope cl C X.env) fp) W0 kx tk)
    (he : ∀ (s : Shared) (H : Hp) (C : Addr) (cl : List (Str × Addr)) (fp : List Addr), Bod gf (X.blk s H scope (compEnvC scope cl C X.env) fp) W0 k → DE (X.blk s H scope (compEnvC scope cl C X.env) fp) W0 vx tv)
    (hv : ∀ i ∈ ts.slots, i ∈ own.map (·.2) := by decide) (hs : ∀ x, foldedSetIterable iter X.env x = pure x := by intro _; rfl) : DE X W (.DictComp kx vx [⟨tg, iter, ifs, 0⟩] scope pos) (eDc it ts.g tt tk tv (own.map (·.2))) :=
  PE.imp (pe_frzE (pe_dc B.calm B.nd hi (blkOk_by ok) (fun s H C cl fp => hg s H C cl fp (B.blk ..)) (fun s H C cl fp => ht s H C cl fp (B.blk ..)) (fun s H C cl fp => hk s H C cl fp (B.blk ..)) (fun s H C cl fp => he s H C cl fp (B.blk ..)) hs)) (dc_ent hv)
end
end DL
/-! texts in order -/
namespace DL
open PySem PySem.Spec PyProof.Rows L2
theorem ltCps_eq : ∀ a b : List Nat, ltCps a b = decide (a < b)
  | [], [] => by simp [ltCps]
  | [], b :: bs => by simp [ltCps]
  | a :: as, [] => by simp [ltCps]
  | a :: as, b :: bs => by
    unfold ltCps
    rw [ltCps_eq as bs]
    by_cases h : a < b
    · simp [h, List.cons_lt_cons_iff]
    · by_cases h2 : a = b
      · subst h2; simp [List.cons_lt_cons_iff]
      · simp [h, h2, List.cons_lt_cons_iff]
def leS (a b : Str) : Bool := !ltS b a
theorem leS_total (a b : Str) : (leS a b || leS b a) = true := by
  unfold leS ltS
  by_cases h : b.cps.toList < a.cps.toList
  · have := List.lt_asymm h
    simp [h, this]
  · simp [h]
theorem leS_trans (a b c : Str) (h : leS a b = true) (k : leS b c = true) : leS a c = true := by
  unfold leS ltS at *
  simp only [Bool.not_eq_true', decide_eq_false_iff_not] at *
  exact List.le_trans (l₁ := a.cps.toList) (l₂ := b.cps.toList) (l₃ := c.cps.toList) h k
theorem leS_anti (a b : Str) (h : leS a b = true) (k : leS b a = true) : a = b := by
  unfold leS ltS at *
  simp only [Bool.not_eq_true', decide_eq_false_iff_not] at *
  have := List.le_antisymm (as := a.cps.toList) (bs := b.cps.toList) h k
  obtain ⟨⟨x⟩⟩ := a
  obtain ⟨⟨y⟩⟩ := b
  simp only at this
  rw [this]
theorem rising_pw : ∀ (x : Str) (r : List Str), risingS x r = true → (∀ y ∈ r, leS x y = true) ∧ r.Pairwise fun a b => leS a b = true
  | x, [], _ => ⟨fun y h => by simp at h, .nil⟩
  | x, z :: r, h => by
    simp only [risingS, Bool.and_eq_true] at h
    obtain ⟨h1, h2⟩ := h
    have h1 : leS x z = true := by unfold leS ltS; rw [← ltCps_eq]; exact h1
    obtain ⟨i1, i2⟩ := rising_pw z r h2
    refine ⟨fun y hy => ?_, .cons i1 i2⟩
    rcases List.mem_cons.mp hy with rfl | hy
    · exact h1
    · exact leS_trans _ _ _ h1 (i1 y hy)
theorem sortedS_pw {l : List Str} (h : sortedS l = true) : l.Pairwise fun a b => leS a b = true := by
  cases l with
  | nil => exact .nil
  | cons x r => obtain ⟨a, b⟩ := rising_pw x r h; exact .cons a b
theorem pw_eq : ∀ {l m : List Str}, l.Perm m → (l.Pairwise fun a b => leS a b = true) → (m.Pairwise fun a b => leS a b = true) → l = m
  | [], m, p, _, _ => by rw [List.nil_perm.mp p]
  | a :: l, [], p, _, _ => by simp at p
  | a :: l, b :: m, p, .cons h1 h2, .cons k1 k2 => by
    have ab : a = b := by
      have m1 := p.mem_iff.mp List.mem_cons_self
      have m2 := p.mem_iff.mpr (List.mem_cons_self (a := b) (l := m))
      rcases List.mem_cons.mp m1 with e | e
      · exact e
      · rcases List.mem_cons.mp m2 with e2 | e2
        · exact e2.symm
        · exact leS_anti _ _ (h1 b e2) (k1 a e)
    subst ab
    rw [pw_eq (List.Perm.cons_inv p) h2 k2]
/-- texts, ascending -/
def srt (l : List Str) : List Str := l.mergeSort leS
theorem srt_perm (l : List Str) : (srt l).Perm l := List.mergeSort_perm l leS
theorem srt_pw (l : List Str) : (srt l).Pairwise fun a b => leS a b = true := List.pairwise_mergeSort (le := leS) (fun a b c => leS_trans a b c) leS_total l
theorem srt_eq {l ys : List Str} (p : ys.Perm l) (h : sortedS ys = true) : ys = srt l := pw_eq (p.trans (srt_perm l).symm) (sortedS_pw h) (srt_pw l)
end DL
/-! dicts: d[k], d.get(k, x), sorted(d), list(d), tuple(d), dict(d), dict(pairs), max(i, j) -/
namespace DL
open PySem PySem.Spec PyProof.Rows L2
variable {gf gj : Bool}
/-! d[k] -/
def gIxK (x y : D) (S : Store) : Option D := match itemsK S x, keyOf y with
  | some kvs, some k => valD kvs k
  | _, _ => none
theorem dget_at {K mg F A P H S x y dx dy kvs k} (rp : Rep K mg F A S P H) (hx : Dat K mg F A x dx) (hy : Dat K mg F A y dy) (e1 : itemsK S dx = some kvs) (e2 : keyOf dy = some k) :
    ∃ a vs, x = .ref a ∧ y = kV k ∧ Rd H a (.dK vs) ∧ DatsK K mg F A vs kvs := by
  obtain ⟨a, vs, rfl, h1, h2⟩ := itemsK_at rp hx e1
  exact ⟨a, vs, rfl, keyOf_at hy e2, h1, h2⟩
section
variable {X : Cx} {W : WX} {o i e f : Expr} {fo fi ff : Ev D} {pos apos cpos : Pos} {k : Nat}
theorem de_ixK (B : Bod gf X W k) (ho : DE X W o fo) (hi : DE X W i fi) (hs : NoSl i) : DE X W (.Subscript o i pos) (eBin gIxK fo fi) :=
  PE.imp (pe_dget (by have := B.hu; omega) ho hi hs) fun σ H Q ⟨F, A, P, ρ, S, rp, s, q⟩ => by
    refine tD.seq rp s q fun d S1 v H1 F1 A1 x1 r1 s1 d1 h1 => ?_
    have h1 := post_okE x1 h1
    refine tD.seq r1 s1 h1 fun d2 S2 v2 H2 F2 A2 x2 r2 s2 d2' h2 => ?_
    have h2 := post_okE x2 h2
    unfold gIxK at h2
    cases e1 : itemsK S2 d with
    | none => simp only [e1] at h2; exact h2.elim
    | some kvs =>
      cases e2 : keyOf d2 with
      | none => simp only [e1, e2] at h2; exact h2.elim
      | some key =>
        simp only [e1, e2] at h2
        obtain ⟨a, vs, rfl, rfl, h3, h4⟩ := dget_at r2 (d1.mono x2) d2' e1 e2
        rcases h4.val (k := key) with ⟨z1, z2⟩ | ⟨v3, d3, z1, z2, z3⟩
        · rw [z2] at h2; exact h2.elim
        · rw [z2] at h2
          exact ⟨a, v3, rfl, .inl ⟨vs, key, h3, rfl, z1.symm⟩, okE.now h2 r2 z3⟩
/-- d.get(k, x) -/
def eGet2 (fo fi ff : Ev D) : Ev D := fun ρ S => (fo ρ S).bind fun o S => if (itemsK S o).isSome then (fi ρ S).bind fun y S => (ff ρ S).bind fun z S => match itemsK S o, keyOf y with
    | some kvs, some k => .ok ((valD kvs k).getD z) S
    | _, _ => .stuck
  else .stuck
theorem de_get2 (B : Bod gf X W k) (ho : DE X W o fo) (hi : DE X W e fi) (hf : DE X W f ff) (m : M2 X o "get" apos e f cpos := by exact ⟨rfl, rfl, rfl, rfl⟩) : DE X W (.Call (.Attribute o "get" apos) [e, f] [] cpos) (eGet2 fo fi ff) :=
  PE.imp (pe_dget2 (by have := B.hu; omega) ho hi hf m) fun σ H Q ⟨F, A, P, ρ, S, rp, s, q⟩ => by
    refine tD.seq rp s q fun d S1 v H1 F1 A1 x1 r1 s1 d1 h1 => ?_
    split at h1
    · rename_i hk
      obtain ⟨kv1, e0⟩ := Option.isSome_iff_exists.mp hk
      obtain ⟨a, vs0, rfl, h3, h4⟩ := itemsK_at r1 d1 e0
      have isd : IsD H1 a := .inl ⟨_, h3⟩
      refine ⟨a, rfl, isd, ?_⟩
      have h1 := post_okE x1 h1
      refine tD.seq r1 s1 h1 fun d2 S2 v2 H2 F2 A2 x2 r2 s2 d2' h2 => ?_
      have h2 := post_okE x2 h2
      refine tD.seq r2 s2 h2 fun d3 S3 v3 H3 F3 A3 x3 r3 s3 d3' h3 => ?_
      have h3 := post_okE x3 h3
      cases e1 : itemsK S3 d with
      | none => rw [e1] at h3; exact h3.elim
      | some kvs =>
        cases e2 : keyOf d2 with
        | none => rw [e1, e2] at h3; exact h3.elim
        | some key =>
          rw [e1, e2] at h3
          dsimp only at h3
          obtain ⟨b, vs, eb, rfl, h5, h6⟩ := dget_at r3 ((d1.mono x2).mono x3) (d2'.mono x3) e1 e2
          cases eb
          rcases h6.val (k := key) with ⟨z1, z2⟩ | ⟨v4, d4, z1, z2, z3⟩
          · rw [z2] at h3
            exact ⟨none, .inl ⟨vs, key, h5, rfl, z1.symm⟩, okE.now h3 r3 d3'⟩
          · rw [z2] at h3
            exact ⟨some v4, .inl ⟨vs, key, h5, rfl, z1.symm⟩, okE.now h3 r3 z3⟩
    · exact h1.elim
end
/-! list(d), tuple(d), sorted(..) -/
def keyD : Key → D
  | .inl i => .int i
  | .inr x => .str x
theorem dats_keys {K mg F A} : ∀ {vs : List (Key × V)} {ds : List (Key × D)}, DatsK K mg F A vs ds → Dats K mg F A (vs.map fun kv => kV kv.1) (ds.map fun kv => keyD kv.1)
  | _, _, .nil => .nil
  | _, _, .cons (k := k) _ h => by
    refine .cons ?_ (dats_keys h)
    cases k with
    | inl i => exact .int
    | inr x => exact .str
def rListK : List V → Hp → VK → Prop := fun xs H Q => ∃ (a : Addr) (kvs : List (Key × V)), xs = [.ref a] ∧ Rd H a (.dK kvs) ∧ ∀ p, H p = none → Q (.ref p) (upd H p (.lst (kvs.map fun kv => kV kv.1)))
def gListK : List D → Store → Option D := fun xs S => match xs with
  | [x] => (itemsK S x).map fun kvs => .list (kvs.map fun kv => keyD kv.1)
  | _ => none
theorem listK_ent {K mg} : CallE K mg rListK gListK := by
  intro F A P S H xs dx d Q rp hx e k
  unfold gListK at e
  split at e
  · rename_i x
    cases hx with
    | cons h1 h2 =>
      cases h2
      rw [Option.map_eq_some_iff] at e
      obtain ⟨kvs, e, rfl⟩ := e
      obtain ⟨a, vs, rfl, h3, h4⟩ := itemsK_at rp h1 e
      refine ⟨a, vs, rfl, h3, fun p hp => ?_⟩
      obtain ⟨x2, r2⟩ := rp.frz (o := .lst (vs.map fun kv => kV kv.1)) hp
      exact k _ _ _ _ x2 r2 (.list upd_same ((dats_keys h4).mono x2))
  · cases e
theorem code_tuple_new_dict {P : Program} {w : World} {A : Around} {s : Shared} {E : Value → Shared → Prop} {d : Addr} {kvs : List (Key × Value)} {ep : Nat} {Q₁ : Value → Shared → Prop} (lo : (d == sysModules) = false) (hh : A.handled = none) (hd : s.heap.DictAt (mixKind P w) d kvs ep) (hlen : kvs.length ≤ sizeLine)
    (h : ∀ (h' : Heap) (tk : Nat) (acc : Array Value), (∀ b o, s.heap.get? b = some o → h'.get? b = some o) → ItemsOf (fun i v => ∃ k x, kvs[i]? = some (k, x) ∧ (mixKind P w).is k v = true) acc kvs.length →
      Q₁ (.ref h'.objs.size) { s with heap := h'.push { cls := .type "tuple", data := .seq acc }, toks := tk }) :
    codeAny (model P w) A (.call (.builtin "tuple.__new__") ⟨[.type "tuple", .ref d], []⟩) (wants Q₁ E) s := by
  refine codeAny_of_tree ?_
  show wpAny _ A.in1 (do checkBuiltinCall "tuple.__new__" ⟨[.type "tuple", .ref d], []⟩; again (.builtin "tuple.__new__" ⟨[.type "tuple", .ref d], []⟩)) _ _ s
  refine wpAny_bind (wpAny_of_eq (F.newCall_tuple_1 _) (wpAny_pure ⟨plainId_quiet F.plain_tuple_new _, codeAny_builtin F.entry_tuple_new ?_⟩))
  rw [Around.under_plainId F.plain_tuple_new _]
  have hsub := sub_tuple_self
  have hinit := init_tuple_lookup
  have hmh := madeHere_tuple
  have hTI : s.TypeIs (.ref d) "dict" := hd.dictOf.typeIs
  have hh1 : A.in1.handled = none := hh
  have hc : ∀ {R : List Value → Shared → Prop} {E' : Value → Shared → Prop}, (∀ (h' : Heap) (tk : Nat) (acc : Array Value), (∀ b o, s.heap.get? b = some o → h'.get? b = some o) → ItemsOf (fun i v => ∃ k x, kvs[i]? = some (k, x) ∧ (mixKind P w).is k v = true) acc kvs.length → R acc.toList { s with heap := h', toks := tk }) → wpAny (model P w) A.in1 (collect (.ref d)) R E' s :=
    fun hR => PySem.W.kdu_collect (A := A.in1) (PySem.W.kdl_dict (knd := mixKind P w) (kvs := kvs) (ep := ep) lo) hh1 hd hlen hR
  wp_walk using wpAny_typeOf hTI, hc
  intro h' tk acc hk hacc
  show wpAny _ _ (Builtin.Tuple.tupleExact acc.toList.toArray >>= fun v => ret v) _ _ _
  unfold Builtin.Tuple.tupleExact
  refine wpAny_bind (wpAny_newObj_type ?_ (by show acc.toList.toArray.size ≤ sizeLine; simp only [Array.toArray_toList]; rw [hacc.1]; exact hlen))
  refine wpAny_pure ?_
  have e : acc.toList.toArray = acc := by simp
  rw [e]
  exact h h' tk acc hk hacc
theorem call_tuple_dict {P : Program} {w : World} {A : Around} {s : Shared} {E : Value → Shared → Prop} {d : Addr} {kvs : List (Key × Value)} {ep : Nat} {Q : Value → Shared → Prop} (lo : (d == sysModules) = false) (hh : A.handled = none) (hd : s.heap.DictAt (mixKind P w) d kvs ep) (hlen : kvs.length ≤ sizeLine)
    (hQ : ∀ (h' : Heap) (tk : Nat) (acc : Array Value), (∀ b o, s.heap.get? b = some o → h'.get? b = some o) → ItemsOf (fun i v => ∃ k x, kvs[i]? = some (k, x) ∧ (mixKind P w).is k v = true) acc kvs.length →
      Q (.ref h'.objs.size) { s with heap := h'.push { cls := .type "tuple", data := .seq acc }, toks := tk }) :
    wpAny (model P w) A (call (.type "tuple") [.ref d]) Q E s := by
  refine callType_codes (Q₁ := fun obj s₁ => s₁.TypeIs obj "tuple" ∧ Q obj s₁) F.called_tuple (F.typeCall_tuple_1 _) F.entry_object_init
    (code_tuple_new_dict (A := A.in1) lo hh hd hlen fun h' tk acc hk hacc => ⟨⟨_, Heap.get?_push_size _ rfl, rfl⟩, hQ h' tk acc hk hacc⟩) fun obj s₁ h₁ => ?_
  exact ⟨h₁.1, F.args_object_init_2 obj _, object_init_meets F.called_tuple.init.lookup F.called_tuple.made (by decide) P w A.in1 _ s₁ ⟨h₁.1, rfl, h₁.2⟩⟩
def rTupK : List V → Hp → VK → Prop := fun xs H Q => ∃ (a : Addr) (kvs : List (Key × V)), xs = [.ref a] ∧ Rd H a (.dK kvs) ∧ ∀ p, H p = none → Q (.ref p) (upd H p (.tup (kvs.map fun kv => kV kv.1)))
theorem call_tupleD {X : Cx} (hcalm : X.calm = true) : CallR X (.type "tuple") rTupK := by
  intro pins s σ H xs us Q I r q
  obtain ⟨a, kvs, ex, hd, q⟩ := q
  subst ex
  obtain ⟨u, eu, rx⟩ := vals1 r
  subst eu
  cases rx
  obtain ⟨z, lo, vs, rel, dd⟩ := dk_rd I.hok hd
  obtain ⟨ep, hat⟩ := dd.dictAt
  have ek : (kvs.map fun kv => kV kv.1) = vs.map fun p => kV p.1 := by
    have e := congrArg (List.map kV) rel.keys
    rw [List.map_map, List.map_map] at e
    exact e
  refine call_tuple_dict (kvs := vs) (ep := ep) lo (I.ok.hd hcalm) hat (by rw [← rel.length]; exact z) fun h' tk acc hk hacc => ?_
  have hv : Vals (vs.map fun p => kV p.1) acc.toList := keys_at (by rw [Array.length_toList]; exact hacc.1) fun j v e => hacc.2 j v (by rw [← Array.getElem?_toList]; exact e)
  have I1 : Inv X pins σ H { s with heap := h', toks := tk } := I.kept hk
  have I2 : Inv X pins σ (upd H h'.objs.size (.tup (kvs.map fun kv => kV kv.1))) { s with heap := h'.push { cls := .type "tuple", data := .seq acc }, toks := tk } :=
    I1.laid (t' := tk) (fun b o e => Heap.get?_push_of_some _ e) (Nat.le_refl _) (show ObjOk X.prog X.w _ _ _ (.tup (kvs.map fun kv => kV kv.1)) from ⟨by rw [List.length_map]; exact z, acc.toList, by rw [ek]; exact hv, by rw [Array.toArray_toList]; exact IsTup.new _ _⟩)
  exact ⟨.ref h'.objs.size, _, I2, rfl, q _ (I1.hok.fresh (Nat.le_refl _))⟩
def gTupK : List D → Store → Option D := fun xs S => match xs with
  | [x] => (itemsK S x).map fun kvs => .tup (kvs.map fun kv => keyD kv.1)
  | _ => none
theorem tupK_ent {K mg} : CallE K mg rTupK gTupK := by
  intro F A P S H xs dx d Q rp hx e k
  unfold gTupK at e
  split at e
  · rename_i x
    cases hx with
    | cons h1 h2 =>
      cases h2
      rw [Option.map_eq_some_iff] at e
      obtain ⟨kvs, e, rfl⟩ := e
      obtain ⟨a, vs, rfl, h3, h4⟩ := itemsK_at rp h1 e
      refine ⟨a, vs, rfl, h3, fun p hp => ?_⟩
      obtain ⟨x2, r2⟩ := rp.frz (o := .tup (vs.map fun kv => kV kv.1)) hp
      exact k _ _ _ _ x2 r2 (.tup (SqT.of upd_same) ((dats_keys h4).mono x2))
  · cases e
end DL
/-! sorted, dict(d), dict(pairs), max, [a, *b] -/
namespace DL
open PySem PySem.Spec PyProof.Rows L2
variable {gf gj : Bool}
def strKeys : List (Key × D) → Option (List Str)
  | [] => some []
  | (.inr x, _) :: r => (strKeys r).map (x :: ·)
  | _ => none
def rSortK : List V → Hp → VK → Prop := fun xs H Q => ∃ (a : Addr) (kvs : List (Key × V)) (ks : List Str), xs = [.ref a] ∧ Rd H a (.dK kvs) ∧ kvs.map (·.1) = ks.map Sum.inr ∧ ks.length < 64 ∧
    ∀ ys p, ys.Perm ks → sortedS ys = true → H p = none → Q (.ref p) (upd H p (.lst (ys.map V.str)))
def gSortK : List D → Store → Option D := fun xs S => match xs with
  | [x] => match itemsK S x with
    | some kvs => match strKeys kvs with
      | some ks => if ks.length < 64 then some (.list ((srt ks).map .str)) else none
      | none => none
    | none => none
  | _ => none
theorem strKeys_at {K mg F A} : ∀ {vs : List (Key × V)} {ds : List (Key × D)} {ks : List Str}, DatsK K mg F A vs ds → strKeys ds = some ks → vs.map (·.1) = ks.map Sum.inr
  | _, _, _, .nil, e => by simp [strKeys] at e; subst e; rfl
  | _, _, ks, .cons (k := k) _ h, e => by
    cases k with
    | inl i => simp [strKeys] at e
    | inr x =>
      simp only [strKeys, Option.map_eq_some_iff] at e
      obtain ⟨r, e1, rfl⟩ := e
      rw [List.map_cons, strKeys_at h e1]
      rfl
theorem dats_strs {K mg F A} : ∀ (zs : List Str), Dats K mg F A (zs.map V.str) (zs.map D.str)
  | [] => .nil
  | _ :: r => .cons .str (dats_strs r)
theorem sortK_ent {K mg} : CallE K mg rSortK gSortK := by
  intro F A P S H xs dx d Q rp hx e k
  unfold gSortK at e
  split at e
  · rename_i x
    cases hx with
    | cons h1 h2 =>
      cases h2
      split at e
      · rename_i kvs e1
        split at e
        · rename_i ks e2
          split at e
          · rename_i hl
            cases e
            obtain ⟨a, vs, rfl, h3, h4⟩ := itemsK_at rp h1 e1
            refine ⟨a, vs, ks, rfl, h3, strKeys_at h4 e2, hl, fun ys p hp hs hH => ?_⟩
            obtain rfl := srt_eq hp hs
            obtain ⟨x2, r2⟩ := rp.frz (o := .lst ((srt ks).map V.str)) hH
            exact k _ _ _ _ x2 r2 (.list upd_same (dats_strs _))
          · cases e
        · cases e
      · cases e
  · cases e
/-- sorted(xs) of texts -/
def gSortS : List D → Store → Option D := fun xs S => match xs with
  | [x] => match itemsR S x with
    | some ds => match strsOf ds with
      | some ks => if ks.length < 64 then some (.list ((srt ks).map .str)) else none
      | none => none
    | none => none
  | _ => none
theorem sortS_ent {K mg} : CallE K mg (rSortedS K) gSortS := by
  intro F A P S H xs dx d Q rp hx e k
  unfold gSortS at e
  split at e
  · rename_i x
    cases hx with
    | cons h1 h2 =>
      cases h2
      split at e
      · rename_i ds e1
        split at e
        · rename_i ks e2
          split at e
          · rename_i hl
            cases e
            obtain ⟨a, vs, rfl, h3, h4⟩ := itemsR_at rp h1 e1
            obtain rfl := strsOf_at h4 e2
            refine ⟨a, ks, rfl, h3, hl, fun ys p hp hs hH => ?_⟩
            obtain rfl := srt_eq hp hs
            obtain ⟨x2, r2⟩ := rp.frz (o := .lst ((srt ks).map V.str)) hH
            exact k _ _ _ _ x2 r2 (.list upd_same (dats_strs _))
          · cases e
        · cases e
      · cases e
  · cases e
/-- sorted of a dict or a list of texts -/
def gSorted : List D → Store → Option D := fun xs S => match gSortK xs S with
  | some d => some d
  | none => gSortS xs S
theorem sorted_ent {K mg} : CallE K mg (fun xs H Q => rSortK xs H Q ∨ rSortedS K xs H Q) gSorted := by
  intro F A P S H xs dx d Q rp hx e k
  unfold gSorted at e
  split at e
  · rename_i d' e1; cases e; exact .inl (sortK_ent _ _ _ _ _ _ _ _ _ rp hx e1 k)
  · exact .inr (sortS_ent _ _ _ _ _ _ _ _ _ rp hx e k)
theorem boot_sorted : bootBuiltins "sorted" = some (.builtin "sorted") := by decide +kernel
theorem boot_max : bootBuiltins "max" = some (.builtin "max") := by decide +kernel
theorem boot_min : bootBuiltins "min" = some (.builtin "min") := by decide +kernel
/-- max(i, j), min(i, j) -/
def gMax2 : List D → Store → Option D := fun xs S => match xs with
  | [.int i, .int j] => some (.int (if j > i then j else i))
  | _ => none
theorem max2_ent {K mg} : CallE K mg (fun xs H Q => ∃ i j, xs = [.int i, .int j] ∧ Q (.int (if j > i then j else i)) H) gMax2 := by
  intro F A P S H xs dx d Q rp hx e k
  unfold gMax2 at e
  split at e
  · cases e
    cases hx with
    | cons h1 h2 =>
      cases h2 with
      | cons h3 h4 => cases h4; cases h1; cases h3; exact ⟨_, _, rfl, okE.now k rp .int⟩
  · cases e
def gMin2 : List D → Store → Option D := fun xs S => match xs with
  | [.int i, .int j] => some (.int (if j < i then j else i))
  | _ => none
theorem min2_ent {K mg} : CallE K mg (fun xs H Q => ∃ i j, xs = [.int i, .int j] ∧ Q (.int (if j < i then j else i)) H) gMin2 := by
  intro F A P S H xs dx d Q rp hx e k
  unfold gMin2 at e
  split at e
  · cases e
    cases hx with
    | cons h1 h2 =>
      cases h2 with
      | cons h3 h4 => cases h4; cases h1; cases h3; exact ⟨_, _, rfl, okE.now k rp .int⟩
  · cases e
/-! dict(d): a copy; frozen, or into the store -/
section
variable {X : Cx} {W : WX} {e : Expr} {es : List Expr} {f : Ev D} {fs : Ev (List D)} {p pos : Pos} {k : Nat}
def eDictC (f : Ev (List D)) : Ev D := fun ρ S => (f ρ S).bind fun xs S => match xs with
  | [x] => match itemsK S x with
    | some kvs => .ok (.dict kvs) S
    | none => .stuck
  | _ => .stuck
def eDictCR (f : Ev (List D)) : Ev D := fun ρ S => (f ρ S).bind fun xs S => match xs with
  | [x] => match itemsK S x with
    | some kvs => .ok (.ref S.length) (S ++ [.dict kvs])
    | none => .stuck
  | _ => .stuck
end
end DL
/-! dict(d), dict(pairs), [.., *b], loops over dicts -/
namespace DL
open PySem PySem.Spec PyProof.Rows L2
variable {gf gj : Bool}
section
variable {X : Cx} {W : WX} {e : Expr} {es : List Expr} {f : Ev D} {fs : Ev (List D)} {p pos : Pos} {x : Str} {k : Nat}
theorem boot_dict' : bootBuiltins "dict" = some (.type "dict") := by decide +kernel
/-- dict(d), frozen -/
theorem de_dictC {fs : Ev (List D)} (hg : Gl X x) (hm : X.mg x = none) (hv : bootBuiltins x = some (.type "dict")) (ha : DA X W (e :: es) fs) (hn : x ≠ "__name__" := by decide) (hdb : (x == ("__debug__" : Str)) = false := by decide)
    (he : starEach (e :: es) X.env = (false, eval e X.env) :: starEach es X.env := by rfl) (hpl : (backTo pos (starEach es X.env)).any (·.1) = false := by rfl) : DE X W (.Call (.Name x p) (e :: es) [] pos) (eDictC fs) :=
  PE.imp (pe_frzE (pe_callTy call_dictD hg hm hv ha hn hdb he hpl)) fun σ H Q ⟨F, A, P, ρ, S, r, s, h⟩ => by
    refine tDA.seq r s h fun ds S1 vs H1 F1 A1 x1 r1 s1 d1 h1 => ?_
    split at h1
    · rename_i z
      cases d1 with
      | cons g1 g2 =>
        cases g2
        split at h1
        · rename_i kvs e1
          obtain ⟨a, ws, rfl, h2, h3⟩ := itemsK_at r1 g1 e1
          refine ⟨a, ws, rfl, h2, fun p hp => ⟨p, _, rfl, upd_same, trivial, fun od => ?_⟩⟩
          rw [upd_upd]
          obtain ⟨x2, r2⟩ := r1.frz (o := .frz od (.dK ws)) hp
          exact h1 _ _ _ _ (x1.trans x2) r2 (.dict upd_same (h3.mono x2))
        · exact h1.elim
    · exact h1.elim
/-- dict(d), into the store -/
theorem de_dictCR {fs : Ev (List D)} (hg : Gl X x) (hm : X.mg x = none) (hv : bootBuiltins x = some (.type "dict")) (ha : DA X W (e :: es) fs) (hn : x ≠ "__name__" := by decide) (hdb : (x == ("__debug__" : Str)) = false := by decide)
    (he : starEach (e :: es) X.env = (false, eval e X.env) :: starEach es X.env := by rfl) (hpl : (backTo pos (starEach es X.env)).any (·.1) = false := by rfl) : DE X W (.Call (.Name x p) (e :: es) [] pos) (eDictCR fs) :=
  PE.imp (pe_callTy call_dictD hg hm hv ha hn hdb he hpl) fun σ H Q ⟨F, A, P, ρ, S, r, s, h⟩ => by
    refine tDA.seq r s h fun ds S1 vs H1 F1 A1 x1 r1 s1 d1 h1 => ?_
    split at h1
    · rename_i z
      cases d1 with
      | cons g1 g2 =>
        cases g2
        split at h1
        · rename_i kvs e1
          obtain ⟨a, ws, rfl, h2, h3⟩ := itemsK_at r1 g1 e1
          refine ⟨a, ws, rfl, h2, fun p hp => ?_⟩
          have hF : F1 p = none := r1.le.free hp
          have e : (A1 ++ [p])[A1.length]? = some p := by simp
          obtain ⟨x2, r2⟩ := r1.alloc (o := .dK ws) (so := .dict kvs) hp ⟨p, ws, e, hF, upd_same, h3.mono ⟨Same.refl _, [p], rfl⟩⟩
          exact h1 _ _ _ _ (x1.trans x2) r2 (.ref (by rw [← r1.len]; exact e))
        · exact h1.elim
    · exact h1.elim
/-- dict(pairs) -/
def pairsD : List D → Option (List (Key × D))
  | [] => some []
  | .tup [k, v] :: r => match keyOf k, pairsD r with
    | some kk, some rs => some ((kk, v) :: rs)
    | _, _ => none
  | _ => none
def eDictP (f : Ev (List D)) : Ev D := fun ρ S => (f ρ S).bind fun xs S => match xs with
  | [x] => match itemsR S x with
    | some ds => match pairsD ds with
      | some kvs => .ok (.dict (mergeD [] kvs)) S
      | none => .stuck
    | none => .stuck
  | _ => .stuck
theorem pairsD_at {K : PySem.W.Frag} {mg : Str → Option Value} {F : Hp} {A : List Addr} {S : Store} {P H : Hp} (rp : Rep K mg F A S P H) : ∀ {vs : List V} {ds : List D} {kvs : List (Key × D)}, Dats K mg F A vs ds → pairsD ds = some kvs →
    ∃ (ps : List Addr) (ks : List (Key × V)), vs = ps.map V.ref ∧ Paired (fun p kv => SqT K H p [kV kv.1, kv.2]) ps ks ∧ DatsK K mg F A ks kvs := by
  intro vs ds
  induction ds generalizing vs with
  | nil =>
    intro kvs h e
    cases h
    simp only [pairsD, Option.some.injEq] at e
    subst e
    exact ⟨[], [], rfl, .nil, .nil⟩
  | cons d ds ih =>
    intro kvs h e
    cases h with
    | cons h1 h2 =>
      unfold pairsD at e
      split at e
      · cases ‹_ :: _ = ([] : List D)›
      · rename_i k v r he
        cases he
        split at e
        · rename_i kk rs e1 e2
          cases e
          obtain ⟨ps, ks, rfl, i2, i3⟩ := ih h2 e2
          cases h1 with
          | tup g1 g2 =>
            cases g2 with
            | cons k1 g3 =>
              cases g3 with
              | cons v1 g4 =>
                cases g4
                have ek := keyOf_at k1 e1
                subst ek
                exact ⟨_ :: ps, (kk, _) :: ks, rfl, .cons (sqt_mono rp.le g1) i2, .cons v1 i3⟩
        · cases e
      · cases e
theorem de_dictP (B : Bod gf X W k) {fs : Ev (List D)} (hg : Gl X x) (hm : X.mg x = none) (hv : bootBuiltins x = some (.type "dict")) (ha : DA X W (e :: es) fs) (hn : x ≠ "__name__" := by decide) (hdb : (x == ("__debug__" : Str)) = false := by decide)
    (he : starEach (e :: es) X.env = (false, eval e X.env) :: starEach es X.env := by rfl) (hpl : (backTo pos (starEach es X.env)).any (·.1) = false := by rfl) : DE X W (.Call (.Name x p) (e :: es) [] pos) (eDictP fs) :=
  PE.imp (pe_frzE (pe_callTy (call_dictP B.calm) hg hm hv ha hn hdb he hpl)) fun σ H Q ⟨F, A, P, ρ, S, r, s, h⟩ => by
    refine tDA.seq r s h fun ds S1 vs H1 F1 A1 x1 r1 s1 d1 h1 => ?_
    split at h1
    · rename_i z
      cases d1 with
      | cons g1 g2 =>
        cases g2
        split at h1
        · rename_i ys e1
          split at h1
          · rename_i kvs e2
            obtain ⟨a, ws, rfl, h2, h3⟩ := itemsR_at r1 g1 e1
            obtain ⟨ps, ks, rfl, h4, h5⟩ := pairsD_at r1 h3 e2
            refine ⟨a, ps, ks, rfl, h2, h4, fun p hp => ⟨p, _, rfl, upd_same, trivial, fun od => ?_⟩⟩
            rw [upd_upd]
            obtain ⟨x2, r2⟩ := r1.frz (o := .frz od (.dK (mergeK [] ks))) hp
            exact h1 _ _ _ _ (x1.trans x2) r2 (.dict upd_same ((merge_dats h5 .nil).mono x2))
          · exact h1.elim
        · exact h1.elim
    · exact h1.elim
/-- *e ahead of others in a list of expressions -/
def aStarC (f : Ev D) (g : Ev (List D)) : Ev (List D) := fun ρ S => (f ρ S).bind fun d S => match itemsS S d with
  | some xs => (g ρ S).bind fun ds S => .ok (xs ++ ds) S
  | none => .stuck
theorem da_star (he : DE X W e f) (hr : DA X W es fs) (hs : starEach (.Starred e p :: es) X.env = (true, eval e X.env) :: starEach es X.env := by rfl) : DA X W (.Starred e p :: es) (aStarC f fs) :=
  PA.imp (StX.pa_star he hr hs) fun σ H Q ⟨F, A, P, ρ, S, r, s, h⟩ => by
    refine tD.seq r s h fun d S1 v H1 F1 A1 x1 r1 s1 d1 h1 => ?_
    split at h1
    · rename_i xs e1
      obtain ⟨a, vs, rfl, h2, h3⟩ := itemsS_at r1 d1 e1
      refine ⟨a, vs, rfl, h2.symm, ?_⟩
      have h1 := post_okA x1 h1
      refine tDA.seq r1 s1 h1 fun ds S2 ws H2 F2 A2 x2 r2 s2 d2 h2 => ?_
      exact h2 _ _ _ _ x2 r2 ((h3.mono x2).append d2)
    · exact h1.elim
end
/-! for k in d, for k, v in d.items(): d frozen -/
def iKeysD (f : Ev D) : Ev (List D) := fun ρ S => (f ρ S).bind fun d S => match d with
  | .dict kvs => .ok (kvs.map fun kv => keyD kv.1) S
  | _ => .stuck
def iItemsD (f : Ev D) : Ev (List D) := fun ρ S => (f ρ S).bind fun d S => match d with
  | .dict kvs => .ok (kvs.map fun kv => D.tup [keyD kv.1, kv.2]) S
  | _ => .stuck
theorem keyD_dat {K : PySem.W.Frag} {mg : Str → Option Value} {F : Hp} {A : List Addr} (k : Key) : Dat K mg F A (kV k) (keyD k) := by
  cases k with
  | inl i => exact .int
  | inr x => exact .str
theorem DatsK.getk {K mg F A} : ∀ {vs : List (Key × V)} {ds : List (Key × D)} {i : Nat} {k : Key} {d : D}, DatsK K mg F A vs ds → ds[i]? = some (k, d) → ∃ v, vs[i]? = some (k, v) ∧ Dat K mg F A v d
  | _, _, _, _, _, .nil, e => by simp at e
  | _, _, 0, _, _, .cons h _, e => by simp at e; obtain ⟨rfl, rfl⟩ := e; exact ⟨_, rfl, h⟩
  | _, _, i + 1, _, _, .cons _ r, e => by
    obtain ⟨v, h1, h2⟩ := DatsK.getk (i := i) r (by simpa using e)
    exact ⟨v, by simpa using h1, h2⟩
theorem itk_ok {K : PySem.W.Frag} {mg : Str → Option Value} {F : Hp} {A : List Addr} {a : Addr} {o : Obj} {vs : List (Key × V)} {ds : List (Key × D)} (h : F a = some (.frz o (.dK vs))) (r : DatsK K mg F A vs ds) : ItOk K mg (Itk a o vs) F A (ds.map fun kv => keyD kv.1) where
  go := fun F' A' P S H i x rp hi => ⟨rp.le _ _ (x.f _ _ h), by rw [r.length]; simpa using hi⟩
  yld := fun F' A' P S H i y H' d x rp hy hd => by
    obtain ⟨rfl, k, v, e, rfl⟩ := hy
    rw [List.getElem?_map] at hd
    cases e2 : ds[i]? with
    | none => rw [e2] at hd; cases hd
    | some kd =>
      obtain ⟨k2, d2⟩ := kd
      rw [e2] at hd
      cases hd
      obtain ⟨v2, e3, _⟩ := r.getk e2
      rw [e] at e3; cases e3
      exact ⟨F', Ext.refl _ _, rp, keyD_dat k⟩
  stop := fun F' A' P S H i x rp hi => ⟨rp.le _ _ (x.f _ _ h), by rw [r.length]; simpa using hi⟩
theorem iti_ok {K : PySem.W.Frag} {mg : Str → Option Value} {F : Hp} {A : List Addr} {a : Addr} {o : Obj} {vs : List (Key × V)} {ds : List (Key × D)} (h : F a = some (.frz o (.dK vs))) (r : DatsK K mg F A vs ds) : ItOk K mg (Iti a o vs) F A (ds.map fun kv => D.tup [keyD kv.1, kv.2]) where
  go := fun F' A' P S H i x rp hi => ⟨rp.le _ _ (x.f _ _ h), by rw [r.length]; simpa using hi⟩
  yld := fun F' A' P S H i y H' d x rp hy hd => by
    obtain ⟨T, k, v, e, rfl, hT, rfl⟩ := hy
    rw [List.getElem?_map] at hd
    cases e2 : ds[i]? with
    | none => rw [e2] at hd; cases hd
    | some kd =>
      obtain ⟨k2, d2⟩ := kd
      rw [e2] at hd
      cases hd
      obtain ⟨v2, e3, e4⟩ := r.getk e2
      rw [e] at e3; cases e3
      obtain ⟨x2, r2⟩ := rp.frz (o := .tup [kV k, v]) hT
      exact ⟨_, x2, r2, .tup (SqT.of upd_same) (.cons (keyD_dat k) (.cons ((e4.mono x).mono x2) .nil))⟩
  stop := fun F' A' P S H i x rp hi => ⟨rp.le _ _ (x.f _ _ h), by rw [r.length]; simpa using hi⟩
section
variable {X : Cx} {W : WX} {tg e : Expr} {f : Ev D} {apos cpos tpos : Pos} {elts : List Expr} {kk : Nat}
theorem di_keys (he : DE X W e f) : DI X W tg e (iKeysD f) :=
  PI.imp (pi_keys he) fun σ H R ⟨F, A, P, ρ, S, rp, s, q⟩ =>
    tD.seq rp s q fun d S1 v H1 F1 A1 x1 r1 s1 d1 h1 => by
      split at h1
      · cases d1 with
        | dict h2 h3 => exact ⟨_, _, rfl, .inl ⟨_, r1.le _ _ h2, h1 _ _ _ _ x1 r1 (itk_ok h2 h3)⟩⟩
      · exact h1.elim
theorem di_items (he : DE X W e f) (hbase : attributeBase e "items" X.env (eval e X.env) = eval e X.env := by rfl) (hline : (apos.endLine == cpos.line) = true := by rfl) :
    DI X W (.Tuple elts kk tpos) (.Call (.Attribute e "items" apos) [] [] cpos) (iItemsD f) :=
  PI.imp (pi_items he hbase hline) fun σ H R ⟨F, A, P, ρ, S, rp, s, q⟩ =>
    tD.seq rp s q fun d S1 v H1 F1 A1 x1 r1 s1 d1 h1 => by
      split at h1
      · cases d1 with
        | dict h2 h3 => exact ⟨_, _, _, rfl, r1.le _ _ h2, h1 _ _ _ _ x1 r1 (iti_ok h2 h3)⟩
      · exact h1.elim
end
end DL
/-! list(text); defs with *args and **kw, called without keywords -/
namespace DL
open PySem PySem.Spec PyProof.Rows L2
variable {gf gj : Bool}
def signs (z : Str) : List Str := z.cps.toList.map fun c => ⟨#[c]⟩
def rListS : List V → Hp → VK → Prop := fun xs H Q => ∃ z : Str, xs = [.str z] ∧ z.length ≤ sizeLine ∧ ∀ p, H p = none → Q (.ref p) (upd H p (.lst ((signs z).map V.str)))
theorem signs_at {x : Str} {acc : Array Value} (h : ItemsOf (SignAt x) acc x.cps.size) : Vals ((signs x).map V.str) acc.toList := by
  unfold signs
  rw [List.map_map]
  refine vals_of_at (by rw [List.length_map, Array.length_toList, Array.length_toList]; exact h.1.symm) fun j v u e1 e2 => ?_
  obtain ⟨c, t, e3, rfl⟩ := h.2 j u (by rw [← Array.getElem?_toList]; exact e2)
  rw [List.getElem?_map, Array.getElem?_toList, e3] at e1
  cases e1
  exact ⟨t, rfl⟩
theorem call_listS {X : Cx} (hc : X.calm = true) : CallR X (.type "list") rListS := by
  intro pins s σ H xs us Q I r h
  obtain ⟨z, rfl, hz, q⟩ := h
  obtain ⟨u, rfl, rx⟩ := vals1 r
  obtain ⟨t, rfl⟩ := rx
  refine call_list_str (I.ok.hd hc) z t (fun h' tk acc c' kp e hacc => ?_) hz
  refine ⟨.ref s.heap.objs.size, _, I.laid (t' := tk) kp (Nat.le_refl _) (show ObjOk X.prog X.w _ h' _ (.lst ((signs z).map V.str)) from ⟨?_, acc.toList, c', signs_at hacc, by rw [Array.toArray_toList]; exact e⟩), rfl, q _ (I.hok.fresh (Nat.le_refl _))⟩
  unfold signs
  rw [List.length_map, List.length_map, Array.length_toList]
  exact hz
def gListS : List D → Store → Option D := fun xs _ => match xs with
  | [.str z] => if z.length ≤ 16777216 then some (.list ((signs z).map .str)) else none
  | _ => none
theorem listS_ent {K mg} : CallE K mg rListS gListS := by
  intro F A P S H xs dx d Q rp hx e k
  unfold gListS at e
  split at e
  · split at e
    · rename_i hl
      cases e
      cases hx with
      | cons h1 h2 =>
        cases h2; cases h1
        refine ⟨_, rfl, len_le hl, fun p hp => ?_⟩
        obtain ⟨x2, r2⟩ := rp.frz (o := .lst ((signs _).map V.str)) hp
        exact k _ _ _ _ x2 r2 (.list upd_same (dats_strs _))
    · cases e
  · cases e
theorem call_listU {X : Cx} (hc : X.calm = true) : CallR X (.type "list") (fun xs H Q => (∃ p ys, xs = [.ref p] ∧ (SqL X.K H p ys ∨ SqT X.K H p ys) ∧ ∀ l, H l = none → Q (.ref l) (upd H l (.lst ys))) ∨ (rListS xs H Q ∨ rListK xs H Q)) :=
  CallR.or call_list_of (CallR.or (call_listS hc) (call_listD hc))
/-- list of a list, a tuple, a text, a dict -/
def gListU : List D → Store → Option D := fun x S => match gList x S with
  | some d => some d
  | none => match gListS x S with
    | some d => some d
    | none => gListK x S
theorem listU_ent {K mg} : CallE K mg (fun xs H Q => (∃ p ys, xs = [.ref p] ∧ (SqL K H p ys ∨ SqT K H p ys) ∧ ∀ l, H l = none → Q (.ref l) (upd H l (.lst ys))) ∨ (rListS xs H Q ∨ rListK xs H Q)) gListU := CallE.or listG_ent (CallE.or listS_ent listK_ent)
theorem call_tupleU {X : Cx} (hc : X.calm = true) : CallR X (.type "tuple") (fun xs H Q => (∃ p ys, xs = [.ref p] ∧ ((SqL X.K H p ys ∧ ∀ l, H l = none → Q (.ref l) (upd H l (.tup ys))) ∨ (SqT X.K H p ys ∧ Q (.ref p) H))) ∨ rTupK xs H Q) := CallR.or call_tuple_of (call_tupleD hc)
/-- tuple of a list, a tuple, a dict -/
def gTupleU : List D → Store → Option D := fun x S => match gTuple x S with
  | some d => some d
  | none => gTupK x S
theorem tupleU_ent {K mg} : CallE K mg (fun xs H Q => (∃ p ys, xs = [.ref p] ∧ ((SqL K H p ys ∧ ∀ l, H l = none → Q (.ref l) (upd H l (.tup ys))) ∨ (SqT K H p ys ∧ Q (.ref p) H))) ∨ rTupK xs H Q) gTupleU := CallE.or tupleG_ent tupK_ent
/-- list(text), a + b of lists: into the store -/
def eListSR (f : Ev (List D)) : Ev D := fun ρ S => (f ρ S).bind fun xs S => match xs with
  | [.str z] => if z.length ≤ 16777216 then .ok (.ref S.length) (S ++ [.lst ((signs z).map .str)]) else .stuck
  | _ => .stuck
section
variable {X : Cx} {W : WX} {e a b : Expr} {es : List Expr} {f g : Ev D} {fs : Ev (List D)} {p pos : Pos} {x : Str} {k : Nat}
theorem de_listSR (B : Bod gf X W k) (hg : Gl X x) (hm : X.mg x = none) (hv : bootBuiltins x = some (.type "list")) (ha : DA X W (e :: es) fs) (hn : x ≠ "__name__" := by decide) (hdb : (x == ("__debug__" : Str)) = false := by decide)
    (he : starEach (e :: es) X.env = (false, eval e X.env) :: starEach es X.env := by rfl) (hpl : (backTo pos (starEach es X.env)).any (·.1) = false := by rfl) : DE X W (.Call (.Name x p) (e :: es) [] pos) (eListSR fs) :=
  PE.imp (pe_callTy (call_listS B.calm) hg hm hv ha hn hdb he hpl) fun σ H Q ⟨F, A, P, ρ, S, r, s, h⟩ => by
    refine tDA.seq r s h fun ds S1 vs H1 F1 A1 x1 r1 s1 d1 h1 => ?_
    split at h1
    · split at h1
      · rename_i z hl
        cases d1 with
        | cons g1 g2 =>
          cases g2; cases g1
          refine ⟨_, rfl, len_le hl, fun p hp => ?_⟩
          have hF : F1 p = none := r1.le.free hp
          have e : (A1 ++ [p])[A1.length]? = some p := by simp
          obtain ⟨x2, r2⟩ := r1.alloc (o := .lst ((signs z).map V.str)) (so := .lst ((signs z).map .str)) hp ⟨p, _, e, hF, upd_same, dats_strs _⟩
          exact h1 _ _ _ _ (x1.trans x2) r2 (.ref (by rw [← r1.len]; exact e))
      · exact h1.elim
    · exact h1.elim
end
def eAddR (f h : Ev D) : Ev D := fun ρ S => (f ρ S).bind fun x S => (h ρ S).bind fun y S => match itemsL S x, itemsL S y with
  | some xs, some ys => if xs.length + ys.length ≤ 16777216 then .ok (.ref S.length) (S ++ [.lst (xs ++ ys)]) else .stuck
  | _, _ => .stuck
theorem de_addR {X : Cx} {W : WX} {a b : Expr} {f h : Ev D} {pos : Pos} (ha : DE X W a f) (hb : DE X W b h) : DE X W (.BinOp a .Add b pos) (eAddR f h) :=
  PE.imp (pe_op op_cat ha hb) fun σ H Q ⟨F, A, P, ρ, S, rp, s, q⟩ => by
    refine tD.seq rp s q fun d S1 v H1 F1 A1 x1 r1 s1 d1 h1 => ?_
    have h1 := post_okE x1 h1
    refine tD.seq r1 s1 h1 fun d2 S2 v2 H2 F2 A2 x2 r2 s2 d2' h2 => ?_
    have h2 := post_okE x2 h2
    split at h2
    · rename_i xs ys e1 e2
      split at h2
      · rename_i hl
        obtain ⟨a, vs, rfl, g1, g2⟩ := itemsL_at r2 (d1.mono x2) e1
        obtain ⟨b, ws, rfl, g3, g4⟩ := itemsL_at r2 d2' e2
        refine ⟨a, b, vs, ws, rfl, rfl, g1, g3, by rw [g2.length, g4.length]; exact len_le hl, fun p hp => ?_⟩
        have hF : F2 p = none := r2.le.free hp
        have e : (A2 ++ [p])[A2.length]? = some p := by simp
        obtain ⟨x3, r3⟩ := r2.alloc (o := .lst (vs ++ ws)) (so := .lst (xs ++ ys)) hp ⟨p, _, e, hF, upd_same, (g2.append g4).mono ⟨Same.refl _, [p], rfl⟩⟩
        exact h2 _ _ _ _ x3 r3 (.ref (by rw [← r2.len]; exact e))
      · exact h2.elim
    · exact h2.elim
/-! ### def f(a, .., *v, **d), called without keywords; d goes into the store -/
def mSK (j : Nat) (m : Fn) : Fn := fun ds S => if j ≤ ds.length ∧ ds.length ≤ 16777216 then m (ds.take j ++ [.tup (ds.drop j), .ref S.length]) (S ++ [.dict []]) else .stuck
theorem fnm_starkw {P : Program} {w : World} {K : PySem.W.Frag} {mg : Str → Option Value} {base : Heap} {k : Nat} {f : Addr} {name qual : Str} {params : Arguments} {body : List Stmt} {scope : Scope} {dV kV doc pm cdv ct oc : Value} {an od : Option Addr}
    {osl : Array (Option Value)} {N ps : List Str} {pv pd : Str} {g : Stm} (sy : ∃ mm, base.Ns sysModules mm) (lk : K.lookup f = some ⟨oc, od, .func (PySem.W.fnOf name qual params body scope dV kV doc pm an cdv ct), osl⟩) (hcd : PySem.W.codeIn K cdv qual = true) (S : FnScope N (ps ++ [pv, pd]) scope) (hn : (ps ++ [pv, pd]).length ≤ N.length)
    (hbi : ∀ us rest : List Value, us.length = ps.length → bindArgs (PySem.W.fnOf name qual params body scope dV kV doc pm an cdv ct) ⟨us ++ rest, []⟩ =
      (newTuple rest >>= fun t => (alloc ({ cls := .type "dict", data := .dict #[] } : Obj) : Sem Addr) >>= fun d => pure (ps.zip us ++ [(pv, t), (pd, Value.ref d)])))
    (hb : ∀ (cdv : Value) (A : Around) (outer : List Env) (s : Shared) (H : Hp) (E : XK), Bod false (cxOf (L2.CX P w) P w K mg base N qual scope f cdv A outer s H E) (fun cls d _ H => E cls d H) k →
      DSs (cxOf (L2.CX P w) P w K mg base N qual scope f cdv A outer s H E) (fun cls d _ H => E cls d H) body g) : FnM P w K mg base (k + 1) f (mSK ps.length (fnD N.length g)) := by
  have main := StX.fn_starkw (CX := L2.CX P w) (sp := spD K mg (ps.length + 2) (fnD N.length g)) lk hcd S StX.cxUp hbi (k := k) (fun A outer s H vs Q E hr ⟨F', A', P', ds, S', rp, dv, hl, q⟩ => by
    refine ⟨_, hb cdv A outer s H E ⟨rfl, S.nd, hr, (fun z => nomatch z), sy, takes_of rfl rfl rfl rfl, passes_of rfl⟩, F', A', P', _, S', rp, start_slots dv (by rw [dv.length, hl]; simpa using hn), ?_⟩
    unfold fnD at q
    cases e : g (ds.map some ++ List.replicate (N.length - ds.length) none) S' with
    | nx ρ S2 => rw [e] at q; exact fun σ' H' F2 A2 x r s => q _ _ _ _ x r .non
    | rt d S2 => rw [e] at q; exact q
    | ex C fs ρ S2 => rw [e] at q; exact fun c d σ' H' F2 A2 x r s m z => q c d H' F2 A2 x r m z
    | bk ρ S2 => rw [e] at q; exact q.elim
    | ct ρ S2 => rw [e] at q; exact q.elim
    | stuck => rw [e] at q; exact q.elim)
  refine main.imp fun vs H Q E ⟨F, A, P', ds, S', rp, dv, q⟩ => ?_
  unfold mSK at q
  split at q
  · rename_i hl
    have hl2 := dv.length
    refine ⟨vs.take ps.length, vs.drop ps.length, (List.take_append_drop _ _).symm, by rw [List.length_take]; omega, by rw [List.length_drop]; exact len_le (by omega), fun p d hp hd hne => ?_⟩
    obtain ⟨x2, r2⟩ := rp.frz (o := .tup (vs.drop ps.length)) hp
    have hd2 : (upd H p (.tup (vs.drop ps.length))) d = none := by rw [upd_ne hne]; exact hd
    have hF : (upd F p (.tup (vs.drop ps.length))) d = none := r2.le.free hd2
    have e : (A ++ [d])[A.length]? = some d := by simp
    obtain ⟨x3, r3⟩ := r2.alloc (o := .dK []) (so := .dict []) hd2 ⟨d, [], e, hF, upd_same, .nil⟩
    have x23 := x2.trans x3
    refine ⟨_, _, P', _, _, r3, ((dv.take _).mono x23).append (.cons (.tup (SqT.of (x3.f _ _ upd_same)) ((dv.drop _).mono x23)) (.cons (.ref (by rw [← rp.len]; exact e)) .nil)), by rw [List.length_append, List.length_take]; simp; omega, post_okE x23 q⟩
  · exact q.elim
theorem bind_starkw1 {B : List Value → Sem (List (Str × Value))} {p1 pv pd : Str} (h0 : ∀ a, B [a] = (newTuple [] >>= fun t => (alloc ({ cls := .type "dict", data := .dict #[] } : Obj) : Sem Addr) >>= fun d => pure [(p1, a), (pv, t), (pd, Value.ref d)]))
    (h1 : ∀ a r rs, B (a :: r :: rs) = (newTuple (r :: rs) >>= fun t => (alloc ({ cls := .type "dict", data := .dict #[] } : Obj) : Sem Addr) >>= fun d => pure [(p1, a), (pv, t), (pd, Value.ref d)])) :
    ∀ us rest : List Value, us.length = [p1].length → B (us ++ rest) = (newTuple rest >>= fun t => (alloc ({ cls := .type "dict", data := .dict #[] } : Obj) : Sem Addr) >>= fun d => pure ([p1].zip us ++ [(pv, t), (pd, Value.ref d)]))
  | [a], [], _ => h0 a
  | [a], r :: rs, _ => h1 a r rs
end DL
/-! f(); o.m(a=..) of a def with a star parameter -/
namespace DL
open PySem PySem.Spec PyProof.Rows L2
variable {gf gj : Bool}
section
variable {X : Cx} {W : WX} {k j : Nat} {x : Str} {ps : List Str} {f : Addr} {fd : FuncData} {m : Fn} {p pos : Pos}
theorem de_call0 (B : Bod gf X W k) (c : FnD gj X.prog X.w X.K X.mg X.base x ps j f fd m) (hj : j ≤ k) (hg : Gl X x) (hn : ps.length = 0 := by rfl) (hdb : (x == ("__debug__" : Str)) = false := by decide) (hgf : gj = true → gf = true := by decide) : DE X W (.Call (.Name x p) [] [] pos) (eFn m aNil) := by
  refine ⟨fun pins s σ H Q I h => wpAny_Call_Name_kw (ld_glob I hg c.mg ?_ hdb)⟩
  have b := c.b s [] I.kIn (by rw [hn]; rfl)
  have q : spD X.K X.mg ps.length m [] H Q (WE W σ) := by
    obtain ⟨F, A, P, ρ, S, r, sl, q⟩ := h
    exact ⟨F, A, P, [], S, r, .nil, hn.symm, Out.post_mono q (fun _ _ z => z) fun _ _ _ z => z⟩
  exact PySem.W.callWith_K0 I.kIn c.kp (wpAny_call (run_g (vs := []) (us := []) B c.fn hgf hj b I .nil q))
end
/-- a def with a star parameter, its first argument ahead, the others by name -/
theorem fnk_star {P : Program} {w : World} {K : PySem.W.Frag} {mg : Str → Option Value} {base : Heap} {k : Nat} {f : Addr} {name qual : Str} {params : Arguments} {body : List Stmt} {scope : Scope} {dV kV doc pm cdv ct oc : Value} {an od : Option Addr}
    {osl : Array (Option Value)} {N ps : List Str} {pv : Str} {g : Stm} (sy : ∃ mm, base.Ns sysModules mm) (lk : K.lookup f = some ⟨oc, od, .func (PySem.W.fnOf name qual params body scope dV kV doc pm an cdv ct), osl⟩) (hcd : PySem.W.codeIn K cdv qual = true) (S : FnScope N (ps ++ [pv]) scope) (hn : (ps ++ [pv]).length ≤ N.length) (h1 : 1 ≤ ps.length)
    (hbi : ∀ (u : Value) (us : List Value), us.length = ps.tail.length → bindArgs (PySem.W.fnOf name qual params body scope dV kV doc pm an cdv ct) ⟨[u], ps.tail.zip us⟩ = (newTuple [] >>= fun t => pure (ps.zip (u :: us) ++ [(pv, t)])))
    (hb : ∀ (cdv : Value) (A : Around) (outer : List Env) (s : Shared) (H : Hp) (E : XK), Bod false (cxOf (L2.CX P w) P w K mg base N qual scope f cdv A outer s H E) (fun cls d _ H => E cls d H) k →
      DSs (cxOf (L2.CX P w) P w K mg base N qual scope f cdv A outer s H E) (fun cls d _ H => E cls d H) body g) : FnK P w K mg base (k + 1) f ps (mS ps.length (fnD N.length g)) := by
  intro A outer s H u us vs Q E hr e0 r hl hs
  obtain ⟨F, Aa, P', ds, S', rp, dv, q⟩ := hs
  have hln : vs.length = ps.length := by rw [r.length, List.length_cons, hl, List.length_tail]; omega
  have hld : ds.length = ps.length := by rw [← dv.length]; exact hln
  have hlu : (u :: us).length = ps.length := by rw [← r.length]; exact hln
  unfold mS at q
  split at q
  · rename_i hl2
    have e1 : ds.take ps.length = ds := List.take_of_length_le (by omega)
    have e2 : ds.drop ps.length = [] := List.drop_eq_nil_of_le (by omega)
    rw [e1, e2] at q
    have hnn : H s.heap.objs.size = Option.none := e0.hok.fresh (Nat.le_refl _)
    refine StX.run_bnd (CX := L2.CX P w) lk hcd S hr e0 (G := fun xs H2 => ∃ p, H p = Option.none ∧ xs = vs ++ [V.ref p] ∧ H2 = upd H p (.tup [])) (fun A' Ex Q' h => ?_) fun s2 H2 xs ⟨p, hp, ex, eH⟩ hr' => ?_
    · rw [hbi u us hl]
      refine wpAny_bind (wpAny_newTuple (wpAny_pure ?_) (by decide))
      have new : ObjOk P w (upd H s.heap.objs.size (.tup [])) (s.heap.push ({ cls := .type "tuple", data := .seq ([] : List Value).toArray } : Obj)) s.heap.objs.size (.tup []) := ⟨by decide, [], .nil, ⟨_, Heap.get?_push_size _ rfl, rfl, _, rfl⟩⟩
      have un := StX.un_laid (fs := frs outer) (s := s) (o := ({ cls := .type "tuple", data := .seq ([] : List Value).toArray } : Obj)) (u := .tup []) hnn
      have z := h _ _ (vs ++ [V.ref s.heap.objs.size]) ((u :: us) ++ [Value.ref s.heap.objs.size]) (StX.env0_laid e0 new) un rfl (fun e s' => StX.cxUp outer s H _ _ E e s' un (fun b o q => Heap.get?_push_of_some _ q) rfl) (r.append (.cons rfl .nil))
        (by rw [List.length_append, List.length_append, hln] <;> rfl) ⟨_, hnn, rfl, rfl⟩
      rw [List.zip_append hlu.symm] at z
      exact z
    · subst ex eH
      obtain ⟨x2, r2⟩ := rp.frz (o := .tup []) hp
      refine ⟨_, hb cdv A outer s2 _ E ⟨rfl, S.nd, hr', (fun z => nomatch z), sy, takes_of rfl rfl rfl rfl, passes_of rfl⟩, _, Aa, P', _, S', r2, start_slots ((dv.mono x2).append (.cons (.tup (SqT.of upd_same) .nil) .nil)) (by rw [List.length_append, hln]; simpa using hn), ?_⟩
      have q := post_okE x2 q
      unfold fnD at q
      cases e : g ((ds ++ [D.tup []]).map some ++ List.replicate (N.length - (ds ++ [D.tup []]).length) none) S' with
      | nx ρ S2 => rw [e] at q; exact fun σ' H' F2 A2 x r s => q _ _ _ _ x r .non
      | rt d S2 => rw [e] at q; exact q
      | ex C fs ρ S2 => rw [e] at q; exact fun c d σ' H' F2 A2 x r s m z => q c d H' F2 A2 x r m z
      | bk ρ S2 => rw [e] at q; exact q.elim
      | ct ρ S2 => rw [e] at q; exact q.elim
      | stuck => rw [e] at q; exact q.elim
  · exact q.elim
theorem Bod.hu64 {X : Cx} {W : WX} {k : Nat} (B : Bod gf X W k) : X.A.units + 64 < cLine := by have := B.hu; omega
theorem Bod.hu1 {X : Cx} {W : WX} {k : Nat} (B : Bod gf X W k) : X.A.units + 1 < cLine := by have := B.hu; omega
end DL
/-! a, b = a list -/
namespace DL
open PySem PySem.Spec PyProof.Rows L2
def gnLst (n : Nat) (h : Tgs) : Tg := fun d ρ => match d with
  | .list ds => if ds.length = n then h ds ρ else none
  | _ => none
theorem dg_lst {X : Cx} {es : List Expr} {pos : Pos} {h : Tgs} {k n : Nat} (hc : X.calm = true) (h1 : PGs X es (tDGs X.K X.mg h)) (hn : (assignEach es X.env).length = n := by rfl) (hst : (assignEach es X.env).findIdx? (·.1) = none := by rfl) : PG X (.Tuple es k pos) (tDG X.K X.mg (gnLst n h)) := by
  refine PG.imp (pg_lst hc h1 hn hst) fun v σ H Q ⟨F, A, P, ρ, S, d, rp, s, dv, ρ', e, k⟩ => ?_
  unfold gnLst at e
  split at e
  · split at e
    · rename_i hl
      obtain ⟨a, vs, rfl, h1, h2⟩ := itemsR_at rp dv (show itemsR S (.list _) = some _ from rfl)
      exact ⟨a, vs, rfl, h1, h2.length.trans hl, F, A, P, ρ, S, _, rp, s, h2, _, e, k⟩
    · cases e
  · cases e
end DL
/-! del d[k]; a.f, a.g = ..; a.m() of a built-in type's method -/
namespace DL
open PySem PySem.Spec PyProof.Rows L2
variable {gf gj : Bool}
def dropD (kvs : List (Key × D)) (k : Key) : List (Key × D) := kvs.filter fun kv => decide (kv.1 ≠ k)
theorem DatsK.drop {K mg F A} {k : Key} : ∀ {vs : List (Key × V)} {ds : List (Key × D)}, DatsK K mg F A vs ds → DatsK K mg F A (dropK vs k) (dropD ds k)
  | _, _, .nil => .nil
  | (j, v) :: vs, (_, d) :: ds, .cons h r => by
    unfold dropK dropD
    rw [List.filter_cons, List.filter_cons]
    dsimp only
    split
    · exact .cons h (DatsK.drop r)
    · exact DatsK.drop r
def delIx (o i : D) (S : Store) : Option Store := match o with
  | .ref n => match S[n]?, keyOf i with
    | some (.dict kvs), some k => if (valD kvs k).isSome = true then some (S.set n (.dict (dropD kvs k))) else none
    | _, _ => none
  | _ => none
/-- del o[i] -/
def sDelK (fo fi : Ev D) : Stm := fun ρ S => (fo ρ S).res ρ fun o S => (fi ρ S).res ρ fun i S => match delIx o i S with
  | some S => .nx ρ S
  | none => .stuck
section
variable {X : Cx} {W : WX} {o i value : Expr} {fo fi fv : Ev D} {pos tpos : Pos}
theorem ds_delK (ho : DE X W o fo) (hi : DE X W i fi) : DS X W (.Delete [.Subscript o i tpos] pos) (sDelK fo fi) :=
  PS.imp (ps_ddel ho hi) fun D σ H ⟨F, A, P, ρ, S, rp, s, q⟩ => by
    unfold sDelK at q
    cases e1 : fo ρ S with
    | stuck => rw [e1] at q; exact q.elim
    | exc C fs S1 => rw [e1] at q; exact ⟨F, A, P, ρ, S, rp, s, by rw [e1]; exact fun c d H' F' A' x r m z => q c d σ H' F' A' x r (s.mono x) m z⟩
    | ok v S1 =>
      rw [e1] at q
      refine tD.out rp s e1 fun vv H1 F1 A1 x1 r1 s1 d1 => ?_
      have q : ((fi ρ S1).res ρ fun i S => match delIx v i S with | some S => .nx ρ S | none => .stuck).post X.K X.mg F A P W D := q
      cases e2 : fi ρ S1 with
      | stuck => rw [e2] at q; exact q.elim
      | exc C fs S2 => rw [e2] at q; exact ⟨F1, A1, P, ρ, S1, r1, s1, by rw [e2]; exact fun c d H' F' A' x r m z => q c d σ H' F' A' (x1.trans x) r (s1.mono x) m z⟩
      | ok ii S2 =>
        rw [e2] at q
        refine tD.out r1 s1 e2 fun v2 H2 F2 A2 x2 r2 s2 d2 => ?_
        have q : ((match delIx v ii S2 with | some S => Res.nx ρ S | none => .stuck) : Res).post X.K X.mg F A P W D := q
        cases e3 : delIx v ii S2 with
        | none => rw [e3] at q; exact q.elim
        | some S3 =>
          rw [e3] at q
          unfold delIx at e3
          split at e3
          · rename_i n1
            split at e3
            · rename_i kvs k e4 e5
              split at e3
              · rename_i hv
                cases e3
                obtain ⟨a, vs, rfl, h1, h2, h3, h4⟩ := ref_dict r2 (d1.mono x2) e4
                refine ⟨a, vs, k, rfl, h3, keyOf_at d2 e5, ?_, ?_⟩
                · rcases h4.val (k := k) with ⟨_, e6⟩ | ⟨u, d, e6, _, _⟩
                  · rw [e6] at hv; cases hv
                  · rw [e6]; rfl
                · exact q _ _ _ _ (x1.trans x2) (r2.put h1 h2 ⟨a, _, h1, h2, upd_same, h4.drop⟩) s2
              · cases e3
            · cases e3
          · cases e3
/-! o.f = .. as a target -/
def gFldT (K : PySem.W.Frag) (ta : TE) (f : Str) : TG := fun v σ H Q => ta σ H fun x H1 => ∃ a C dx fs, x = .ref a ∧ H1 a = some (.ins C dx fs) ∧ Cls K C ∧ NoAttr K C f ∧ fs.length < 1000 ∧ Q σ (upd H1 a (.ins C dx (putF f v fs)))
theorem pg_fldT {ta : TE} {f : Str} (ho : PE X o ta) : PG X (.Attribute o f pos) (gFldT X.K ta f) := by
  refine ⟨fun pins s σ H v u Q I r h => ?_⟩
  rw [assign_Attribute]
  refine wpAny_bind (wpAny_holding (thn (ho.run pins s σ H _ I h) fun ov s1 ⟨x, H1, I1, rx, a, C, dx, fs, ex, ea, c, n, l, q⟩ => ?_))
  subst ex
  obtain rfl : ov = Value.ref a := rx
  refine wpAny_bind (wpAny_standAt (wpAny_bind (wpAny_holding ?_)))
  exact setattr_ok I1 ea c n l r fun s3 I3 => wpAny_release ⟨σ, _, I3, q⟩
/-- o.f, o.g = a pair -/
def sFld2 (cs1 : List Str) (f1 : Str) (cs2 : List Str) (f2 : Str) (fo1 fo2 fv : Ev D) : Stm := fun ρ S => (fv ρ S).res ρ fun v S => match v with
  | .tup [d1, d2] => match fo1 ρ S with
    | .ok o1 S => match fldSet cs1 f1 o1 d1 S with
      | some S => match fo2 ρ S with
        | .ok o2 S => match fldSet cs2 f2 o2 d2 S with
          | some S => .nx ρ S
          | none => .stuck
        | _ => .stuck
      | none => .stuck
    | _ => .stuck
  | _ => .stuck
theorem fldSet_at {K mg F A P H} {S S' : Store} {cs : List Str} {f : Str} {o d : D} {v w : V} (c : FldM K mg f cs) (r : Rep K mg F A S P H) (ho : Dat K mg F A v o) (hd : Dat K mg F A w d) (e : fldSet cs f o d S = some S') :
    ∃ a C dx fs, v = .ref a ∧ H a = some (.ins C dx fs) ∧ Cls K C ∧ NoAttr K C f ∧ fs.length < 1000 ∧ Rep K mg F A S' P (upd H a (.ins C dx (putF f w fs))) := by
  unfold fldSet at e
  split at e
  · rename_i n1
    split at e
    · rename_i C' fs e4
      split at e
      · rename_i hC
        obtain ⟨hC, hl⟩ := hC
        cases e
        cases ho with
        | ref hA =>
          obtain ⟨b, c0, dx, vs, e4', e5, m1, e6, e7⟩ := r.so _ _ e4
          rw [hA] at e4'; cases e4'
          exact ⟨_, c0, dx, vs, rfl, e6, (c _ hC).1 c0 m1, (c _ hC).2 c0 m1, by rw [e7.length]; exact hl, r.put hA e5 ⟨_, c0, dx, _, hA, e5, m1, upd_same, e7.put hd f⟩⟩
      · cases e
    · cases e
  · cases e
theorem ds_fld2 {o2 : Expr} {fo1 fo2 : Ev D} {cs1 cs2 : List Str} {f1 f2 : Str} {p1 p2 pt : Pos} {kt : Nat} (hc : X.calm = true) (c1 : FldM X.K X.mg f1 cs1) (c2 : FldM X.K X.mg f2 cs2) (ho1 : DE X W o fo1) (ho2 : DE X W o2 fo2) (hv : DE X W value fv)
    (hs : swapsWithSole [.Tuple [.Attribute o f1 p1, .Attribute o2 f2 p2] kt pt] value pos.line X.env = pure false := by rfl) (hw : swappedStores [.Tuple [.Attribute o f1 p1, .Attribute o2 f2 p2] kt pt] value X.env = pure none := by rfl)
    (h1 : (assignEach [.Tuple [.Attribute o f1 p1, .Attribute o2 f2 p2] kt pt] X.env).map (·.2) = [assign (.Tuple [.Attribute o f1 p1, .Attribute o2 f2 p2] kt pt) X.env] := by rfl) :
    DS X W (.Assign [.Tuple [.Attribute o f1 p1, .Attribute o2 f2 p2] kt pt] value pos) (sFld2 cs1 f1 cs2 f2 fo1 fo2 fv) :=
  PS.imp (ps_asg hv (pg_tup (n := 2) hc (pgs_cons (pg_fldT ho1) (pgs_cons (pg_fldT ho2) pgs_nil))) hs hw h1) fun D σ H ⟨F, A, P, ρ, S, rp, s, q⟩ => by
    unfold sFld2 at q
    cases e1 : fv ρ S with
    | stuck => rw [e1] at q; exact q.elim
    | exc C fs S1 => rw [e1] at q; exact ⟨F, A, P, ρ, S, rp, s, by rw [e1]; exact fun c d H' F' A' x r m z => q c d σ H' F' A' x r (s.mono x) m z⟩
    | ok v S1 =>
      rw [e1] at q
      refine tD.out rp s e1 fun vv H1 F1 A1 x1 r1 s1 d1 => ?_
      dsimp only [Out.res] at q
      split at q
      · rename_i a1 a2
        obtain ⟨at_, ws, rfl, ht, hd⟩ := tup_at r1 d1
        cases hd with
        | cons q1 hd =>
          cases hd with
          | cons q2 hd =>
            cases hd
            refine ⟨_, _, rfl, ht, rfl, _, _, rfl, ?_⟩
            split at q
            · rename_i o1 S2 e2
              refine tD.out r1 s1 e2 fun v2 H2 F2 A2 x2 r2 s2 d2 => ?_
              split at q
              · rename_i S3 e3
                obtain ⟨b, C, dx, fs, e4, e5, e6, e7, e8, r3⟩ := fldSet_at c1 r2 d2 (q1.mono x2) e3
                refine ⟨b, C, dx, fs, e4, e5, e6, e7, e8, _, _, rfl, ?_⟩
                split at q
                · rename_i o2 S4 e9
                  refine tD.out r3 s2 e9 fun v3 H3 F3 A3 x3 r4 s3 d3 => ?_
                  split at q
                  · rename_i S5 e10
                    obtain ⟨b, C, dx, fs, e11, e12, e13, e14, e15, r5⟩ := fldSet_at c2 r4 d3 (q2.mono (x2.trans x3)) e10
                    exact ⟨b, C, dx, fs, e11, e12, e13, e14, e15, rfl, q _ _ _ _ ((x1.trans x2).trans x3) r5 s3⟩
                  · exact q.elim
                · exact q.elim
              · exact q.elim
            · exact q.elim
      · exact q.elim
end
/-! a.pop() -/
def gPop0 : GM := fun x ys S => match x, ys with
  | .ref n, [] => match S[n]? with
    | some (.lst xs) => match xs[xs.length - 1]? with
      | some y => some (y, S.set n (.lst xs.dropLast))
      | none => none
    | _ => none
  | _, _ => none
theorem Dats.dropLast {K mg F A} : ∀ {vs : List V} {ds : List D}, Dats K mg F A vs ds → Dats K mg F A vs.dropLast ds.dropLast
  | _, _, .nil => .nil
  | _, _, .cons h .nil => .nil
  | _, _, .cons h (.cons h2 r) => by
    rw [List.dropLast_cons_cons, List.dropLast_cons_cons]
    exact .cons h (Dats.dropLast (.cons h2 r))
theorem pop0_ent {K mg} : MtE K mg rPop gPop0 := by
  intro F A P S H x xs dx ds d S' Q rp hx hxs e k
  unfold gPop0 at e
  split at e
  · rename_i n
    split at e
    · rename_i ys e1
      split at e
      · rename_i y e3
        cases e
        obtain ⟨a, vs, rfl, h1, h2, h3, h4⟩ := ref_lst rp hx e1
        cases hxs
        obtain ⟨v, e4, e5⟩ := h4.get e3
        refine ⟨a, vs, v, rfl, rfl, h3, by rw [h4.length]; exact e4, okE.now k (rp.put h1 h2 ⟨a, _, h1, h2, upd_same, h4.dropLast⟩) e5⟩
      · cases e
    · cases e
  · cases e
section
variable {X : Cx} {W : WX} {o : Expr} {f : Ev D} {name : Str} {apos cpos : Pos} {T id : String} {r : V → List V → Hp → VK → Prop} {g : GM}
theorem de_mtN (pa : PlainAttrs T) (slot : Slot T name id) (hty : typeOf (.builtin id) = pure (.type "method_descriptor")) (hm : MtR X id r) (hg : MtE X.K X.mg r g) (ho : DE X W o f)
    (hbase : attributeBase o name X.env (eval o X.env) = eval o X.env := by rfl) (hline : (apos.endLine == cpos.line) = true := by rfl) :
    DE X W (.Call (.Attribute o name apos) [] [] cpos) (eMt T g f aNil) := PE.imp (pe_bm0 pa slot hty hm ho hbase hline) (mt_ent0 hg)
end
end DL
/-! d.update(d2) -/
namespace DL
open PySem PySem.Spec PyProof.Rows L2
def rUpdD : V → List V → Hp → VK → Prop := fun x vs H Q => ∃ (a b : Addr) (kvs more : List (Key × V)), x = .ref a ∧ vs = [.ref b] ∧ a ≠ b ∧ H a = some (.dK kvs) ∧ Rd H b (.dK more) ∧ kvs.length + more.length ≤ sizeLine ∧ Q .non (upd H a (.dK (mergeK kvs more)))
theorem mtd_update {X : Cx} : MtR X "dict.update" rUpdD := by
  intro pins s σ H x vs v us Q I rx rv h
  obtain ⟨a, b, kvs, more, ex, ev, hne, e, eb, hl, q⟩ := h
  subst ex ev
  obtain rfl : v = Value.ref a := rx
  obtain ⟨u, eu, ru⟩ := vals1 rv
  subst eu
  obtain rfl : u = Value.ref b := ru
  obtain ⟨z, hd, ws, rel, dd⟩ := dk_of I.hok e
  obtain ⟨z2, hd2, ws2, rel2, dd2⟩ := dk_rd I.hok eb
  refine call_meetsIn PySem.F.slot_dict_update dd.typeIs PySem.F.entry_dict_update (PySem.F.args_dict_update_2 _ _) (meets_dict_update (mixKind X.prog X.w) a b hne hd2) ⟨ws, ws2, dd, dd2, by rw [← rel.length, ← rel2.length]; exact hl, fun h' dd' _ hs => ?_⟩
  have he : ∃ q, h'.get? a = some q := let ⟨q, _, _, hq, _⟩ := dd'; ⟨q, hq⟩
  have rm := KV.merge rel2 rel
  have hlen : (mergeK kvs more).length ≤ sizeLine := by
    rw [rm.length]
    exact Nat.le_trans (merged_length_le _ _) (by rw [← rel.length, ← rel2.length]; exact hl)
  exact ⟨.non, _, d_write (t' := s.toks) I (by rw [e]; exact True.intro) hs he (dk_new hlen hd rm dd'), rfl, q⟩
def notRef (n : Nat) : D → Bool
  | .ref m => m != n
  | _ => true
def gUpdate : GM := fun x ys S => match x, ys with
  | .ref n, [y] => match S[n]?, itemsK S y with
    | some (.dict kvs), some more => if notRef n y = true ∧ kvs.length + more.length ≤ 16777216 then some (.non, S.set n (.dict (mergeD kvs more))) else none
    | _, _ => none
  | _, _ => none
theorem update_ent {K mg} : MtE K mg rUpdD gUpdate := by
  intro F A P S H x xs dx ds d S' Q rp hx hxs e k
  unfold gUpdate at e
  split at e
  · rename_i n y
    split at e
    · rename_i kvs more e1 e2
      split at e
      · rename_i hc
        cases e
        obtain ⟨a, vs, rfl, h1, h2, h3, h4⟩ := ref_dict rp hx e1
        cases hxs with
        | cons h5 h6 =>
          cases h6
          obtain ⟨b, ws, rfl, g2, g3⟩ := itemsK_at rp h5 e2
          have hne : a ≠ b := by
            intro eab
            subst eab
            cases h5 with
            | ref q =>
              have z := hc.1
              unfold notRef at z
              simp only [bne_iff_ne] at z
              exact z (nd_ix rp.nd q h1)
            | dict q _ => rw [h2] at q; cases q
            | _ => simp [itemsK] at e2
          refine ⟨a, b, vs, ws, rfl, rfl, hne, h3, g2, by rw [h4.length, g3.length, sizeLine_eq]; exact hc.2, okE.now k (rp.put h1 h2 ⟨a, _, h1, h2, upd_same, merge_dats g3 h4⟩) .non⟩
      · cases e
    · cases e
  · cases e
end DL
/-! {**a, **b} -/
namespace PySem
open Sem (wp)
section
variable {prog : Program} {w : World} {K : Type} [DecidableEq K] {knd : KeyKind prog w K} {A : Around} {E : Value → Shared → Prop} {s : Shared}
theorem dl_put_pairs {d : Addr} {kvs : List (K × Value)} {k : K} {key v : Value} {Q : Unit → Shared → Prop} (hkey : knd.is k key = true) (hm : s.heap.DictOf knd d kvs)
    (hQ : ∀ h', h'.DictOf knd d (stored kvs k v) → Heap.SameBut d s.heap h' → Q () { s with heap := h' })
    (hsz : kvs.length ≤ sizeLine) :
    wpAny (model prog w) A (dictPut d (knd.hash k) key v) Q E s := by
  obtain ⟨o, es, ep, ho, hc, hd, hk, hp, hn⟩ := hm
  have hes : es.size ≤ sizeLine := by have e1 := hp.length; have e2 : es.toList.length = es.size := by simp
                                      omega
  unfold dictPut
  refine wpAny_bind (wpAny_dictFind_of hkey ho hd hk ?_)
  have hidx : (es.findIdx? fun e => knd.is k e.key) = kvs.findIdx? fun kv => decide (kv.1 = k) := by
    rw [← hp.findIdx k]; obtain ⟨l⟩ := es; simp
  cases hi : es.findIdx? fun e => knd.is k e.key with
  | some i =>
    refine (wpAny_updateDict ho hd (hQ _ ⟨_, _, ep, Heap.get?_update_self _ ho (Obj.isFreed_of_dict (Obj.data_mapDict hd _)),
      hc.mapDict _, Obj.data_mapDict hd _, hk.modify _ _, ?_, ?_⟩ (Heap.SameBut.update ..)))
    · rw [stored, if_pos (any_of_findIdx_some (hidx ▸ hi))]
      have hl : (es.toList.findIdx? fun e => knd.is k e.key) = some i := by rw [← hi]; obtain ⟨l⟩ := es; simp
      have := hp.modify hn hl v
      obtain ⟨l⟩ := es
      simpa using this
    · rw [stored, if_pos (any_of_findIdx_some (hidx ▸ hi)), keys_map_store]; exact hn
  | none =>
    have hnot : k ∉ kvs.map (·.1) := not_mem_of_findIdx_none (hidx ▸ hi)
    have hany : ¬ (kvs.any fun kv => decide (kv.1 = k)) = true := by
      rw [List.any_eq_true]; rintro ⟨kv, hkv, he⟩
      exact hnot (List.mem_map.mpr ⟨kv, hkv, of_decide_eq_true he⟩)
    refine ((wpAny_updateDictKeys (hz := hes) ho hd (hQ _ ⟨_, _, ep + 1, Heap.get?_update_self _ ho (Obj.isFreed_of_dict (Obj.data_mapDictKeys hd _)),
      hc.mapDictKeys _, Obj.data_mapDictKeys hd _, hk.push hkey _, ?_, ?_⟩ (Heap.SameBut.update ..))))
    · rw [stored, if_neg hany]
      have := hp.append hkey (knd.hash k) v
      obtain ⟨l⟩ := es
      simpa using this
    · rw [stored, if_neg hany, List.map_append, List.nodup_append]
      refine ⟨hn, by simp, ?_⟩
      intro a ha b hb
      simp only [List.map_cons, List.map_nil, List.mem_singleton] at hb
      subst hb
      exact fun e => hnot (e ▸ ha)
theorem dl_mergeMapping {d o : Addr} {kvs more : List (K × Value)} {Q : Unit → Shared → Prop} (hdo : d ≠ o) (hoS : (o == sysModules) = false) (hnr : ∀ k v, knd.is k v = true → ∀ a, v ≠ .ref a)
    (hd : s.heap.DictOf knd d kvs) (ho : s.heap.DictOf knd o more)
    (hQ : ∀ h', h'.DictOf knd d (merged kvs more) → h'.DictOf knd o more → Heap.SameBut d s.heap h' → Q () { s with heap := h' })
    (hsz : kvs.length + more.length ≤ sizeLine) :
    wpAny (model prog w) A (mergeMapping d (.ref o) false) Q E s := by
  have hty := ho.typeIs
  obtain ⟨od, esd, epd, hod, hcd, hdd, hkd, hpd, hnd⟩ := id hd
  obtain ⟨oo, eso, epo, hoo, hco, hdo', hko, hpo, hno⟩ := id ho
  unfold mergeMapping
  refine wpAny_bind (wpAny_isInstance hty isSubtype_dict_dict ?_)
  simp only [if_true]
  refine wpAny_bind (wpAny_specialOf hty F.slot_dict_iter.lookup ?_)
  refine wpAny_bind (wpAny_pure ?_)
  simp only [beq_self_eq_true]
  rw [if_neg (by rw [hoS]; exact Bool.false_ne_true)]
  have hlen : more.length = eso.size := by rw [← hpo.length]; simp
  refine wpAny_bind (wpAny_dictEntries hod hdd ?_)
  have main : wpAny (model prog w) A (do
      let es ← dictEntries o
      let epoch ← dictEpoch o
      forIn (List.range es.size) PUnit.unit fun i (_ : PUnit) => (do
        let l ← dictEntries o
        match l[i]? with
        | some e => do
          holding [e.key, e.val] (dictPut d e.hash e.key e.val)
          let ep ← dictEpoch o
          if (ep != epoch) = true then do
            (unsupported "dict.changed-during-merge" : Sem PUnit)
            pure (ForInStep.yield PUnit.unit)
          else pure (ForInStep.yield PUnit.unit)
        | _ => do
          (unsupported "dict.changed-during-merge" : Sem PUnit)
          pure (ForInStep.yield PUnit.unit) : Sem (ForInStep PUnit))
      pure ()) Q E s := by
    refine wpAny_bind (wpAny_dictEntries hoo hdo' ?_)
    refine wpAny_bind (wpAny_dictEpoch hoo hdo' ?_)
    refine wpAny_bind ?_
    rw [List.range_eq_range']
    refine wpAny_forIn_list _
      (fun rest _ s' => ∃ h' i, s' = { s with heap := h' } ∧ rest = List.range' i (eso.size - i) ∧ i ≤ eso.size ∧ h'.DictOf knd d (merged kvs (more.take i)) ∧ h'.get? o = some oo ∧ Heap.SameBut d s.heap h')
      _ ?_ ?_ _ _ ⟨s.heap, 0, rfl, by simp, Nat.zero_le _, by simpa [merged] using hd, hoo, Heap.SameBut.refl _ _⟩
    · rintro x rest b s' ⟨h', i, rfl, hr, hi, hd', hoo', hs'⟩
      have hlt : i < eso.size := by
        rcases Nat.lt_or_ge i eso.size with h | h
        · exact h
        · rw [Nat.sub_eq_zero_of_le h] at hr; simp at hr
      obtain ⟨rfl, hrest⟩ : x = i ∧ rest = List.range' (i + 1) (eso.size - (i + 1)) := by
        have e : eso.size - i = (eso.size - (i + 1)) + 1 := by omega
        rw [e, List.range'_succ] at hr
        injection hr with h1 h2
        exact ⟨h1, h2⟩
      refine wpAny_bind (wpAny_dictEntries hoo' hdo' ?_)
      rw [Array.getElem?_eq_getElem hlt]
      obtain ⟨kv, hkv⟩ : ∃ kv, more[x]? = some kv := ⟨more[x]'(by rw [hlen]; exact hlt), List.getElem?_eq_getElem _⟩
      obtain ⟨k, v⟩ := kv
      obtain ⟨hkey, hval⟩ := hpo.get? (e := eso[x]) (by simp [hlt]) hkv
      obtain ⟨k', hkey', hhash⟩ := hko eso[x] (Array.getElem_mem hlt)
      obtain rfl : k' = k := knd.inj _ _ _ hkey' hkey
      show wpAny _ _ (holding [eso[x].key, eso[x].val] (dictPut d eso[x].hash eso[x].key eso[x].val) >>= _) _ _ _
      rw [hhash, hval]
      have hmx : (merged kvs (more.take x)).length ≤ sizeLine := by
        have e1 := merged_length_le kvs (more.take x)
        have e2 : (more.take x).length ≤ more.length := by rw [List.length_take]; omega
        omega
      refine wpAny_bind (wpAny_holding (dl_put_pairs (hsz := hmx) hkey hd' fun h'' hd'' hs'' => ?_))
      have hoo'' : h''.get? o = some oo := (hs''.2 o (Ne.symm hdo)).trans hoo'
      refine wpAny_bind (wpAny_dictEpoch hoo'' hdo' ?_)
      rw [if_neg (by simp)]
      exact wpAny_pure ⟨h'', x + 1, rfl, hrest, hlt, by rw [merged_take_succ kvs more x (k', v) hkv]; exact hd'', hoo'', hs'.trans hs''⟩
    · rintro b s' ⟨h', i, rfl, hr, hi, hd', hoo', hs'⟩
      have hin : i = eso.size := by
        rcases Nat.lt_or_ge i eso.size with h | h
        · have e : eso.size - i = (eso.size - (i + 1)) + 1 := by omega
          rw [e, List.range'_succ] at hr; exact nomatch hr
        · exact Nat.le_antisymm hi h
      refine wpAny_pure (hQ h' ?_ ⟨oo, eso, epo, hoo', hco, hdo', hko, hpo, hno⟩ hs')
      rw [hin, ← hlen, List.take_length] at hd'; exact hd'
  split
  · refine wpAny_bind (wpAny_dictEntries hoo hdo' ?_)
    refine wpAny_bind ?_
    refine wpAny_mono (Q := fun _ s' => s' = s) ?_ (fun _ s' e => by subst e; exact main) fun _ _ e => e
    rw [← Array.forIn_toList]
    refine wpAny_forIn_list _ (fun rest _ s' => s' = s ∧ ∀ e ∈ rest, e ∈ eso.toList) _ ?_ (fun b s' ⟨h, _⟩ => h) _ _ ⟨rfl, fun e he => he⟩
    rintro e rest b s' ⟨rfl, hr⟩
    obtain ⟨k, hkey, _⟩ := hko e (Array.mem_toList_iff.mp (hr e (by simp)))
    have nr := hnr k e.key hkey
    split
    · rename_i a he
      exact absurd he (nr a)
    · exact wpAny_pure ⟨rfl, fun e he => hr e (by simp [he])⟩
  · exact main
theorem dl_display2 {e1 e2 : Expr} {env : Env} {pos : Pos} : eval (.Dict [none, none] [e1, e2] pos) env = (do
    standAt pos
    dictDisplay [(none, do let x ← eval e1 env; standAt pos; pure x), (none, do let x ← eval e2 env; standAt pos; pure x)]) := rfl
theorem dl_two {m1 m2 : Sem Value} {Q : Value → Shared → Prop}
    (h : wpAny (model prog w) A m1 (fun v1 s1 => ∀ E' : Value → Shared → Prop, wpAny (model prog w) A (mergeMapping s.heap.objs.size v1 false) (fun _ s2 => wpAny (model prog w) A m2 (fun v2 s3 => ∀ E' : Value → Shared → Prop, wpAny (model prog w) A (mergeMapping s.heap.objs.size v2 false) (fun _ s4 => Q (.ref s.heap.objs.size) s4) E' s3) E s2) E' s1) E { s with heap := s.heap.push { cls := .type "dict", data := .dict #[] } }) :
    wpAny (model prog w) A (dictDisplay [(none, m1), (none, m2)]) Q E s := by
  unfold dictDisplay
  dsimp only
  rw [List.forIn_cons]
  refine wpAny_bind (wpAny_bind ?_)
  simp only [List.isEmpty_nil, if_true]
  refine wpAny_bind (wpAny_pure ?_)
  refine wpAny_bind (wpAny_alloc ?_)
  refine wpAny_bind (wpAny_holding (wpAny_mono h (fun v1 s1 h1 => ?_) fun _ _ e => e))
  refine wpAny_bind (wpAny_onRaise (wpAny_tryCatch (wpAny_onRaise (wpAny_holding (wpAny_mono (h1 _) (fun _ s2 h2 => ?_) fun _ _ e => e)))))
  refine wpAny_pure ?_
  dsimp only
  rw [List.forIn_cons]
  refine wpAny_bind ?_
  dsimp only
  simp only [List.isEmpty_nil, if_true]
  refine wpAny_bind (wpAny_pure ?_)
  refine wpAny_bind (wpAny_pure ?_)
  refine wpAny_bind (wpAny_holding (wpAny_mono h2 (fun v2 s3 h3 => ?_) fun _ _ e => e))
  refine wpAny_bind (wpAny_onRaise (wpAny_tryCatch (wpAny_onRaise (wpAny_holding (wpAny_mono (h3 _) (fun _ s4 h4 => ?_) fun _ _ e => e)))))
  refine wpAny_pure ?_
  dsimp only
  rw [List.forIn_nil]
  refine wpAny_pure ?_
  dsimp only
  simp only [List.isEmpty_nil, if_true]
  refine wpAny_bind (wpAny_pure ?_)
  exact wpAny_pure h4
end
end PySem
namespace DL
open PySem PySem.Spec PyProof.Rows L2
def tUnp2 (t1 t2 : TE) : TE := fun σ H Q => ∀ d, H d = none → t1 σ (upd H d (.dK [])) fun v1 H1 => ∃ (a : Addr) (acc k1 : List (Key × V)), v1 = .ref a ∧ d ≠ a ∧ H1 d = some (.dK acc) ∧ Rd H1 a (.dK k1) ∧ acc.length + k1.length ≤ sizeLine ∧
  t2 σ (upd H1 d (.dK (mergeK acc k1))) fun v2 H2 => ∃ (b : Addr) (acc2 k2 : List (Key × V)), v2 = .ref b ∧ d ≠ b ∧ H2 d = some (.dK acc2) ∧ Rd H2 b (.dK k2) ∧ acc2.length + k2.length ≤ sizeLine ∧ Q (.ref d) (upd H2 d (.dK (mergeK acc2 k2)))
theorem mergeMapping_at {X : Cx} {pins : List (Addr × Obj)} {s : Shared} {σ : L2.St} {H : Hp} {d a : Addr} {acc k1 : List (Key × V)} {Q : Unit → Shared → Prop} {E' : Value → Shared → Prop} (I : Inv X pins σ H s) (hne : d ≠ a) (hd : H d = some (.dK acc)) (ha : Rd H a (.dK k1)) (hl : acc.length + k1.length ≤ sizeLine)
    (h : ∀ s', Inv X pins σ (upd H d (.dK (mergeK acc k1))) s' → Q () s') : wpAny (model X.prog X.w) X.A (mergeMapping d (.ref a) false) Q E' s := by
  obtain ⟨z, hds, ws, rel, dd⟩ := dk_of I.hok hd
  obtain ⟨z2, has, ws2, rel2, dd2⟩ := dk_rd I.hok ha
  refine dl_mergeMapping (knd := mixKind X.prog X.w) hne has (fun k v hk b e => ?_) dd dd2 (fun h' dd' _ hs => ?_) (by rw [← rel.length, ← rel2.length]; exact hl)
  · subst e
    rcases keyIs_shape (k := k) hk with ⟨_, _, _, q⟩ | ⟨_, _, _, q⟩ <;> cases q
  · have he : ∃ q, h'.get? d = some q := let ⟨q, _, _, hq, _⟩ := dd'; ⟨q, hq⟩
    have rm := KV.merge rel2 rel
    have hlen : (mergeK acc k1).length ≤ sizeLine := by
      rw [rm.length]
      exact Nat.le_trans (merged_length_le _ _) (by rw [← rel.length, ← rel2.length]; exact hl)
    exact h _ (d_write (t' := s.toks) I (by rw [hd]; exact True.intro) hs he (dk_new hlen hds rm dd'))
theorem pe_unp2 {X : Cx} {e1 e2 : Expr} {t1 t2 : TE} {pos : Pos} (h1 : PE X e1 t1) (h2 : PE X e2 t2) : PE X (.Dict [none, none] [e1, e2] pos) (tUnp2 t1 t2) := by
  refine ⟨fun pins s σ H Q I h => ?_⟩
  rw [dl_display2]
  have hfr := I.hok.fresh (Nat.le_refl s.heap.objs.size)
  refine wpAny_bind (wpAny_standAt (dl_two ?_))
  have I0 := I.laid (a := s.heap.objs.size) (o := .dK []) (t' := s.toks) (fun _ _ q => Heap.get?_push_of_some _ q) (Nat.le_refl _) (dk_empty s.heap I.big)
  refine wpAny_bind (thn (h1.run pins _ σ _ _ I0 (h _ hfr)) fun u1 s1 ⟨v1, H1, I1, r1, a, acc, k1, ex, hne, hd, ha, hl, q1⟩ => wpAny_bind (wpAny_standAt (wpAny_pure fun E' => ?_)))
  subst ex
  obtain rfl : u1 = Value.ref a := r1
  refine mergeMapping_at I1 hne hd ha hl fun s2 I2 => ?_
  refine wpAny_bind (thn (h2.run pins _ σ _ _ I2 q1) fun u2 s3 ⟨v2, H2, I3, r2, b, acc2, k2, ex, hne2, hd2, hb, hl2, q2⟩ => wpAny_bind (wpAny_standAt (wpAny_pure fun E' => ?_)))
  subst ex
  obtain rfl : u2 = Value.ref b := r2
  exact mergeMapping_at I3 hne2 hd2 hb hl2 fun s4 I4 => ⟨V.ref _, _, I4, rfl, q2⟩
/-- {**a, **b}, into the store -/
def mergeIx (n : Nat) (d : D) (S : Store) : Option Store := match S[n]?, itemsK S d with
  | some (.dict acc), some k => if notRef n d = true ∧ acc.length + k.length ≤ 16777216 then some (S.set n (.dict (mergeD acc k))) else none
  | _, _ => none
def eUnp2R (f g : Ev D) : Ev D := fun ρ S => (f ρ (S ++ [.dict []])).bind fun d1 S1 => match mergeIx S.length d1 S1 with
  | some S1 => (g ρ S1).bind fun d2 S2 => match mergeIx S.length d2 S2 with
    | some S2 => .ok (.ref S.length) S2
    | none => .stuck
  | none => .stuck
theorem mergeIx_at {K mg F A P H} {S S' : Store} {n : Nat} {p : Addr} {d : D} {v : V} (r : Rep K mg F A S P H) (hn : A[n]? = some p) (hd : Dat K mg F A v d) (e : mergeIx n d S = some S') :
    ∃ (a : Addr) (acc k : List (Key × V)), v = .ref a ∧ p ≠ a ∧ H p = some (.dK acc) ∧ Rd H a (.dK k) ∧ acc.length + k.length ≤ sizeLine ∧ Rep K mg F A S' P (upd H p (.dK (mergeK acc k))) := by
  unfold mergeIx at e
  split at e
  · rename_i acc k e1 e2
    split at e
    · rename_i hc
      cases e
      obtain ⟨p', vs, g0, h1, h2, h3, h4⟩ := ref_dict r (.ref hn) e1
      cases g0
      obtain ⟨b, ws, rfl, g2, g3⟩ := itemsK_at r hd e2
      have hne : p ≠ b := by
        intro eab
        subst eab
        cases hd with
        | ref q =>
          have z := hc.1
          unfold notRef at z
          simp only [bne_iff_ne] at z
          exact z (nd_ix r.nd q hn)
        | dict q _ => rw [h2] at q; cases q
        | _ => simp [itemsK] at e2
      exact ⟨b, vs, ws, rfl, hne, h3, g2, by rw [h4.length, g3.length, sizeLine_eq]; exact hc.2, r.put h1 h2 ⟨p, _, h1, h2, upd_same, merge_dats g3 h4⟩⟩
    · cases e
  · cases e
theorem de_unp2R {X : Cx} {W : WX} {e1 e2 : Expr} {f g : Ev D} {pos : Pos} (h1 : DE X W e1 f) (h2 : DE X W e2 g) : DE X W (.Dict [none, none] [e1, e2] pos) (eUnp2R f g) :=
  PE.imp (pe_unp2 h1 h2) fun σ H Q ⟨F, A, P, ρ, S, r, s, h⟩ p hp => by
    have hF : F p = none := r.le.free hp
    have e : (A ++ [p])[A.length]? = some p := by simp
    obtain ⟨x0, r0⟩ := r.alloc (o := .dK []) (so := .dict []) hp ⟨p, [], e, hF, upd_same, .nil⟩
    have en : (A ++ [p])[S.length]? = some p := by rw [← r.len]; exact e
    have s0 := s.mono x0
    unfold eUnp2R at h
    have h := post_okE x0 h
    refine tD.seq r0 s0 h fun d1 S1 v1 H1 F1 A1 x1 r1 s1 g1 k1 => ?_
    split at k1
    · rename_i S2 e1
      obtain ⟨a, acc, ks, rfl, c1, c2, c3, c4, r2⟩ := mergeIx_at r1 (x1.at en) g1 e1
      refine ⟨a, acc, ks, rfl, c1, c2, c3, c4, ?_⟩
      have k1 := post_okE x1 k1
      refine tD.seq r2 s1 k1 fun d2 S3 v2 H2 F2 A2 x2 r3 s2 g2 k2 => ?_
      split at k2
      · rename_i S4 e2
        obtain ⟨b, acc2, ks2, rfl, b1, b2, b3, b4, r4⟩ := mergeIx_at r3 (x2.at (x1.at en)) g2 e2
        exact ⟨b, acc2, ks2, rfl, b1, b2, b3, b4, k2 _ _ _ _ x2 r4 (.ref (x2.at (x1.at en)))⟩
      · exact k2.elim
    · exact k1.elim
end DL
/-! == of dicts with texts or ints as keys -/
namespace DL
open PySem PySem.Spec PyProof.Rows L2
def HitsV (K : PySem.W.Frag) (H : Hp) (ls : List (Key × V)) : List (Key × V) → Bool → Prop
  | [], b => b = true
  | (k, v) :: r, b => (valV ls k = none ∧ b = false) ∨ ∃ (u : V) (p q : PyData) (b' : Bool), valV ls k = some u ∧ Dp K H v p ∧ Dp K H u q ∧ SeqAt.shaped p = true ∧ SeqAt.shaped q = true ∧ p.depth ≤ 32 ∧ HitsV K H ls r b' ∧ b = (PyData.eqv p q && b')
theorem hitsV_run {X : Cx} {pins : List (Addr × Obj)} {s : Shared} {σ : L2.St} {H : Hp} (I : Inv X pins σ H s) {A : Around} (hu : A.units + 32 < cLine) {ls : List (Key × V)} {vb : List (Key × Value)} (rb : KV ls vb) :
    ∀ {ks : List (Key × V)} {va : List (Key × Value)} {b : Bool}, KV ks va → HitsV X.K H ls ks b → PySem.W.KeqHits A s vb va b := by
  intro ks va b ra
  unfold KV at ra
  induction ra generalizing b with
  | nil => intro h; rw [show b = true from h]; exact .nil
  | @cons p q ps qs h t ih =>
    intro hv
    obtain ⟨k, v⟩ := p
    obtain ⟨k', w⟩ := q
    obtain ⟨h1, h2⟩ := h
    have h1 : k = k' := h1
    subst h1
    rcases hv with ⟨hn, rfl⟩ | ⟨u, p, q, b', e1, e2, e3, e4, e5, e6, e7, rfl⟩
    · refine .miss ?_
      have := rb.val k
      rw [hn] at this
      cases hz : valueAt vb k with
      | none => rfl
      | some y => rw [hz] at this; exact this.elim
    · have rr : RelO (some u) (valueAt vb k) := by rw [← e1]; exact rb.val k
      obtain ⟨y, hy, ry⟩ := rr.some_of
      obtain ⟨as, r1⟩ := Dp.reads I p v w e2 h2
      obtain ⟨bs, r2⟩ := Dp.reads I q u y e3 ry
      refine .hit hy (SeqAt.eqAt_reads p q A s w y as bs r1 r2 (SeqAt.canLay_of_shaped e4) (SeqAt.canLay_of_shaped e5) ?_) (ih e7)
      have := Nat.min_le_left p.depth q.depth
      omega
def rEqK (K : PySem.W.Frag) (n : Bool) : R2 := fun x y H Q => ∃ (a b : Addr) (ks ls : List (Key × V)) (c : Bool), x = .ref a ∧ y = .ref b ∧ Rd H a (.dK ks) ∧ Rd H b (.dK ls) ∧ (ks.length = ls.length → HitsV K H ls ks c) ∧ Q (.bl (n != (ks.length == ls.length && c))) H
theorem op_eqK {X : Cx} (hu : X.A.units + 64 < cLine) : OpR X (compareOp .Eq) (rEqK X.K false) := by
  intro pins s σ H x y v u Q I rx ry h
  obtain ⟨a, b, ks, ls, c, ex, ey, ea, eb, hh, q⟩ := h
  subst ex ey
  obtain rfl : v = Value.ref a := rx
  obtain rfl : u = Value.ref b := ry
  obtain ⟨_, ya, va, ra, da⟩ := dk_rd I.hok ea
  obtain ⟨_, yb, vb, rb, db⟩ := dk_rd I.hok eb
  refine PySem.W.keq_eq (knd := mixKind X.prog X.w) (r := c) ya yb da db (by omega) (fun hl => hitsV_run I (by show X.A.units + 1 + 32 < cLine; omega) rb ra (hh (by rw [ra.length, rb.length]; exact hl))) ⟨.bl _, H, I, ?_, q⟩
  rw [ra.length, rb.length]
  show Value.bool _ = Value.bool _
  simp
theorem op_neK {X : Cx} (hu : X.A.units + 64 < cLine) : OpR X (compareOp .NotEq) (rEqK X.K true) := by
  intro pins s σ H x y v u Q I rx ry h
  obtain ⟨a, b, ks, ls, c, ex, ey, ea, eb, hh, q⟩ := h
  subst ex ey
  obtain rfl : v = Value.ref a := rx
  obtain rfl : u = Value.ref b := ry
  obtain ⟨_, ya, va, ra, da⟩ := dk_rd I.hok ea
  obtain ⟨_, yb, vb, rb, db⟩ := dk_rd I.hok eb
  refine PySem.W.keq_ne (knd := mixKind X.prog X.w) (r := c) ya yb da db (by omega) (fun hl => hitsV_run I (by show X.A.units + 1 + 32 < cLine; omega) rb ra (hh (by rw [ra.length, rb.length]; exact hl))) ⟨.bl _, H, I, ?_, q⟩
  rw [ra.length, rb.length]
  show Value.bool _ = Value.bool _
  simp
def eqKD (ls : List (Key × D)) : List (Key × D) → Option Bool
  | [] => some true
  | (k, d) :: r => match valD ls k with
    | none => some false
    | some e => match toPy d, toPy e, eqKD ls r with
      | some p, some q, some b => if SeqAt.shaped p = true ∧ SeqAt.shaped q = true ∧ p.depth ≤ 32 then some (PyData.eqv p q && b) else none
      | _, _, _ => none
def eqK (x y : D) (S : Store) : Option Bool := match itemsK S x, itemsK S y with
  | some ks, some ls => if ks.length = ls.length then eqKD ls ks else some false
  | _, _ => none
def gEqK (x y : D) (S : Store) : Option D := (eqK x y S).map .bl
def gNeK (x y : D) (S : Store) : Option D := (eqK x y S).map fun b => .bl (!b)
theorem eqKD_at {K : PySem.W.Frag} {mg : Str → Option Value} {F : Hp} {A : List Addr} {H : Hp} (le : Same F H) {ls : List (Key × V)} {ls' : List (Key × D)} (hl : DatsK K mg F A ls ls') : ∀ {ks : List (Key × V)} {ks' : List (Key × D)} {b : Bool}, DatsK K mg F A ks ks' → eqKD ls' ks' = some b → HitsV K H ls ks b
  | _, _, b, .nil, e => by
    simp only [eqKD, Option.some.injEq] at e
    exact e.symm
  | (k, v) :: r, (_, d) :: r', b, .cons h t, e => by
    unfold eqKD at e
    rcases hl.val (k := k) with ⟨e1, e2⟩ | ⟨u, d2, e1, e2, e3⟩
    · rw [e2] at e
      cases e
      exact .inl ⟨e1, rfl⟩
    · rw [e2] at e
      dsimp only at e
      split at e
      · rename_i p q b' g1 g2 g3
        split at e
        · rename_i hc
          cases e
          exact .inr ⟨u, p, q, b', e1, dp_of le h g1, dp_of le e3 g2, hc.1, hc.2.1, hc.2.2, eqKD_at le hl t g3, rfl⟩
        · cases e
      · cases e
theorem eqK_at {K mg F A P H S} {x y : V} {dx dy : D} {b : Bool} (rp : Rep K mg F A S P H) (hx : Dat K mg F A x dx) (hy : Dat K mg F A y dy) (e : eqK dx dy S = some b) :
    ∃ (a c : Addr) (ks ls : List (Key × V)) (cc : Bool), x = .ref a ∧ y = .ref c ∧ Rd H a (.dK ks) ∧ Rd H c (.dK ls) ∧ (ks.length = ls.length → HitsV K H ls ks cc) ∧ (ks.length == ls.length && cc) = b := by
  unfold eqK at e
  split at e
  · rename_i ks' ls' e1 e2
    obtain ⟨a, ks, rfl, h1, h2⟩ := itemsK_at rp hx e1
    obtain ⟨c, ls, rfl, h3, h4⟩ := itemsK_at rp hy e2
    split at e
    · rename_i hl
      refine ⟨a, c, ks, ls, b, rfl, rfl, h1, h3, fun _ => eqKD_at rp.le h4 h2 e, ?_⟩
      rw [h2.length, h4.length, hl]
      simp
    · rename_i hl
      cases e
      refine ⟨a, c, ks, ls, true, rfl, rfl, h1, h3, fun h => absurd (by rw [← h2.length, ← h4.length]; exact h) hl, ?_⟩
      rw [h2.length, h4.length]
      simp [hl]
  · cases e
theorem eqK_ent {K mg} : OpE K mg (rEqK K false) gEqK := by
  intro F A P S H x y dx dy d Q rp hx hy e k
  unfold gEqK at e
  rw [Option.map_eq_some_iff] at e
  obtain ⟨b, e, rfl⟩ := e
  obtain ⟨a, c, ks, ls, cc, rfl, rfl, h1, h2, h3, rfl⟩ := eqK_at rp hx hy e
  exact ⟨a, c, ks, ls, cc, rfl, rfl, h1, h2, h3, by rw [Bool.false_bne]; exact okE.now k rp .bl⟩
theorem neK_ent {K mg} : OpE K mg (rEqK K true) gNeK := by
  intro F A P S H x y dx dy d Q rp hx hy e k
  unfold gNeK at e
  rw [Option.map_eq_some_iff] at e
  obtain ⟨b, e, rfl⟩ := e
  obtain ⟨a, c, ks, ls, cc, rfl, rfl, h1, h2, h3, rfl⟩ := eqK_at rp hx hy e
  exact ⟨a, c, ks, ls, cc, rfl, rfl, h1, h2, h3, by rw [Bool.true_bne]; exact okE.now k rp .bl⟩
end DL
/-! o.f, f a constant of o's class -/
namespace DL
open PySem PySem.Spec PyProof.Rows L2
def IcM (K : PySem.W.Frag) (mg : Str → Option Value) (f : Str) (cs : List Str) (d : D) : Prop := ∀ C ∈ cs, ClsT K mg C ∧ ∀ c, mg C = some (.ref c) → ∃ v u, Con K c f v u ∧ ∀ F A, Dat K mg F A v d
def eIcn (cs : List Str) (f : Str) (d : D) (g : Ev D) : Ev D := fun ρ S => (g ρ S).bind fun o S => match insOf S o with
  | some (C', fs) => if C' ∈ cs ∧ fs.lookup f = none then .ok d S else .stuck
  | none => .stuck
theorem de_icn {X : Cx} {W : WX} {e : Expr} {g : Ev D} {cs : List Str} {f : Str} {d : D} {pos : Pos} (c : IcM X.K X.mg f cs d) (h : DE X W e g) (hb : attributeBase e f X.env (eval e X.env) = eval e X.env := by rfl) : DE X W (.Attribute e f pos) (eIcn cs f d g) :=
  PE.imp (pe_con h hb) fun σ H Q ⟨F, A, P, ρ, S, rp, s, q⟩ => by
    refine tD.seq rp s q fun d0 S1 v H1 F1 A1 x1 r1 s1 d1 h1 => ?_
    split at h1
    · rename_i C' fs e1
      split at h1
      · rename_i hC
        obtain ⟨a, c0, dx, vs, rfl, m1, h2, h3⟩ := ins_at r1 d1 e1
        obtain ⟨v, u, hcon, hdat⟩ := (c _ hC.1).2 c0 m1
        rcases h3.lookup f with ⟨e3, _⟩ | ⟨u2, d2, e3, e4, h5⟩
        · exact ⟨a, c0, dx, vs, v, u, rfl, h2, (c _ hC.1).1 c0 m1, hcon, e3, h1 _ _ _ _ x1 r1 (hdat F1 A1)⟩
        · rw [e4] at hC; cases hC.2
      · exact h1.elim
    · exact h1.elim
theorem icM_str {K : PySem.W.Frag} {mg : Str → Option Value} {f C : Str} {c : Addr} {z : Str} {t : Tok} (hc : mg C = some (.ref c)) (ct : ClsT K mg C) (a : PySem.W.findIn K (.ref c) f = some (some (.str z t))) (g : PySem.W.specialIn K (.str z t) "__get__" = some none) (cp : PySem.W.copiedNames.contains f = false := by decide +kernel) : IcM K mg f [C] (.str z) := fun C' hC => by
  rw [List.mem_singleton.mp hC]
  refine ⟨ct, fun c' hc' => ?_⟩
  rw [hc] at hc'
  cases hc'
  exact ⟨.str z, .str z t, ⟨a, ⟨t, rfl⟩, g, cp⟩, fun _ _ => .str⟩
theorem str_noget {K : PySem.W.Frag} {z : Str} {t : Tok} : PySem.W.specialIn K (.str z t) "__get__" = some none := by rfl
end DL
/-! t != (), t any tuple -/
namespace DL
open PySem PySem.Spec PyProof.Rows L2
def rNeT0 (K : PySem.W.Frag) : R2 := fun x y H Q => ∃ (a c : Addr) (xs : List V), x = .ref a ∧ y = .ref c ∧ SqT K H a xs ∧ SqT K H c [] ∧ Q (.bl (!xs.isEmpty)) H
theorem op_neT0 {X : Cx} (hu : X.A.units + 64 < cLine) : OpR X (compareOp .NotEq) (rNeT0 X.K) := by
  intro pins s σ H x y v u Q I rx ry h
  obtain ⟨a, c, xs, ex, ey, ha, hb, q⟩ := h
  subst ex ey
  cases (show v = Value.ref a from rx)
  cases (show u = Value.ref c from ry)
  obtain ⟨us, r1, p1, _⟩ := I.tuple ha
  obtain ⟨ws, r2, p2, _⟩ := I.tuple hb
  have e2 : ws = [] := List.eq_nil_of_length_eq_zero (by rw [← r2.length]; rfl)
  subst e2
  refine SeqAt.RcNeAt.tuples (e := fun _ => true) p1 p2 (by omega) (fun j h1 h2 => absurd h2 (by simp)) _ _ _ _ ⟨.bl _, H, I, ?_, q⟩
  have hl := r1.length
  show Value.bool _ = Value.bool _
  cases xs with
  | nil =>
    have : us = [] := List.eq_nil_of_length_eq_zero (by rw [← hl]; rfl)
    subst this
    rfl
  | cons y ys =>
    cases us with
    | nil => simp at hl
    | cons w ws => simp
def gNeT0 (x y : D) (S : Store) : Option D := match x, y with
  | .tup xs, .tup [] => some (.bl (!xs.isEmpty))
  | _, _ => none
theorem neT0_ent {K mg} : OpE K mg (rNeT0 K) gNeT0 := by
  intro F A P S H x y dx dy d Q rp hx hy e k
  unfold gNeT0 at e
  split at e
  · rename_i xs
    cases e
    obtain ⟨a, vs, rfl, h1, h2⟩ := tup_at rp hx
    obtain ⟨c, ws, rfl, h3, h4⟩ := tup_at rp hy
    cases h4
    refine ⟨a, c, vs, rfl, rfl, h1, h3, okE.now k rp ?_⟩
    have : vs.isEmpty = xs.isEmpty := by
      have hl := h2.length
      cases vs with
      | nil => cases xs with
        | nil => rfl
        | cons _ _ => simp at hl
      | cons _ _ => cases xs with
        | nil => simp at hl
        | cons _ _ => rfl
    rw [this]
    exact .bl
  · cases e
end DL
/-! == and != where the right side is an own object and the left one declines. -/
namespace PySem.W
open PySem PySem.Calls PyProof.Rows Builtin
section
variable {prog : Program} {w : World} {A : Around} {E : Value → Shared → Prop} {s : Shared} {K : Frag} {x C L f : Addr} {h₀ : Heap} {m : Str → Option Value} {ox : Obj} {od : Option Obj} {a : Value} {Ta id : String}
theorem int_dec (op : CmpOp) (v : Value) (hv : (∃ b, v = .bool b) ∨ ∃ i t, v = .int i t) (l : Addr) (c : Value) (dd : Option Addr) (sl : Array (Option Value)) (hop : op = .Eq ∨ op = .NotEq) :
    Meets ((if op = .Eq then Builtin.«int.__eq__» else Builtin.«int.__ne__») ⟨[v, .ref l], []⟩) (fun _ R s => s.heap.get? l = some { cls := c, dict := dd, data := .plain, slots := sl } ∧ R (.ok (.ret .notImplemented)) s) :=
  .of_wp fun prog w A R s h => by
    obtain ⟨hp, g, d, tk, os⟩ := s; obtain ⟨hl, h⟩ := h
    rcases hop with rfl | rfl <;> rcases hv with ⟨b, rfl⟩ | ⟨i, t, rfl⟩
    · rw [if_pos rfl]; wp_walk using AutoSeq1.wpAny_loadPart' hl, wpAny_load hl; exact ⟨_, rfl, h⟩
    · rw [if_pos rfl]; wp_walk using AutoSeq1.wpAny_loadPart' hl, wpAny_load hl; exact ⟨_, rfl, h⟩
    · rw [if_neg (by decide)]; wp_walk using AutoSeq1.wpAny_loadPart' hl, wpAny_load hl; exact ⟨_, rfl, h⟩
    · rw [if_neg (by decide)]; wp_walk using AutoSeq1.wpAny_loadPart' hl, wpAny_load hl; exact ⟨_, rfl, h⟩
theorem str_dec (op : CmpOp) (y : Str) (t : Tok) (l : Addr) (c : Value) (dd : Option Addr) (sl : Array (Option Value)) (hop : op = .Eq ∨ op = .NotEq) :
    Meets ((if op = .Eq then Builtin.«str.__eq__» else Builtin.«str.__ne__») ⟨[.str y t, .ref l], []⟩) (fun _ R s => s.heap.get? l = some { cls := c, dict := dd, data := .plain, slots := sl } ∧ R (.ok (.ret .notImplemented)) s) :=
  .of_wp fun prog w A R s h => by
    obtain ⟨hp, g, d, tk, os⟩ := s; obtain ⟨hl, h⟩ := h
    rcases hop with rfl | rfl
    · rw [if_pos rfl]; wp_walk using AutoSeq1.wpAny_loadPart' hl, wpAny_load hl; exact ⟨_, rfl, h⟩
    · rw [if_neg (by decide)]; wp_walk using AutoSeq1.wpAny_loadPart' hl, wpAny_load hl; exact ⟨_, rfl, h⟩

/-- what is no tuple beside one -/
theorem tup_dec {l : Addr} {b : Value} {Q : Value → Shared → Prop} (op : CmpOp) (hop : op = .Eq ∨ op = .NotEq) 
    (hi : Looks (model prog w) s.heap (isInstance b (.type "tuple")) false) (T : s.TypeIs (.ref l) "tuple") (h : Q .notImplemented s) :
    wpAny (model prog w) A (call (.builtin (if op = .Eq then "tuple.__eq__" else "tuple.__ne__")) [.ref l, b]) Q E s := by
  rcases hop with rfl | rfl
  · rw [if_pos rfl]
    refine wpAny_call_entry F.slot_tuple_eq T F.entry_tuple_eq ?_ (F.args_tuple_eq_2 _ _)
    show wpAny _ _ (slotArgs "__eq__" 1 ⟨[.ref l, b], []⟩ >>= _) _ _ _
    refine wpAny_bind (wpAny_of_eq (a := ((Value.ref l : Value), [b])) (by first | rfl | (simp only [slotArgs]; rfl)) ?_)
    refine wpAny_bind (hi.here ?_)
    simp only [Bool.not_false, if_true]
    exact wpAny_bind (wpAny_pure (wpAny_pure ⟨_, rfl, h⟩))
  · rw [if_neg (by decide)]
    refine wpAny_call_entry F.slot_tuple_ne T F.entry_tuple_ne ?_ (F.args_tuple_ne_2 _ _)
    show wpAny _ _ (slotArgs "__ne__" 1 ⟨[.ref l, b], []⟩ >>= _) _ _ _
    refine wpAny_bind (wpAny_of_eq (a := ((Value.ref l : Value), [b])) (by first | rfl | (simp only [slotArgs]; rfl)) ?_)
    refine wpAny_bind (hi.here ?_)
    simp only [Bool.not_false, if_true]
    exact wpAny_bind (wpAny_pure (wpAny_pure ⟨_, rfl, h⟩))
theorem dict_dec {l : Addr} {b : Value} {Q : Value → Shared → Prop} (op : CmpOp) (hop : op = .Eq ∨ op = .NotEq) 
    (hi : Looks (model prog w) s.heap (isInstance b (.type "dict")) false) (T : s.TypeIs (.ref l) "dict") (h : Q .notImplemented s) :
    wpAny (model prog w) A (call (.builtin (if op = .Eq then "dict.__eq__" else "dict.__ne__")) [.ref l, b]) Q E s := by
  rcases hop with rfl | rfl
  · rw [if_pos rfl]
    refine wpAny_call_entry F.slot_dict_eq T F.entry_dict_eq ?_ (F.args_dict_eq_2 _ _)
    show wpAny _ _ (Builtin.Dict.dictSlotArgs "__eq__" ⟨[.ref l, b], []⟩ >>= _) _ _ _
    refine wpAny_bind ?_
    unfold Builtin.Dict.dictSlotArgs
    refine wpAny_bind (wpAny_notOrdered_dict T ?_)
    show wpAny _ _ (pure (Value.ref l, b)) _ _ s
    refine wpAny_pure ?_
    refine wpAny_bind (hi.here ?_)
    simp only [Bool.not_false, if_true]
    exact wpAny_bind (wpAny_rule (wpAny_bind (wpAny_pure (wpAny_pure ⟨_, rfl, h⟩))))
  · rw [if_neg (by decide)]
    refine wpAny_call_entry F.slot_dict_ne T F.entry_dict_ne ?_ (F.args_dict_ne_2 _ _)
    show wpAny _ _ (Builtin.Dict.dictSlotArgs "__ne__" ⟨[.ref l, b], []⟩ >>= _) _ _ _
    refine wpAny_bind ?_
    unfold Builtin.Dict.dictSlotArgs
    refine wpAny_bind (wpAny_notOrdered_dict T ?_)
    show wpAny _ _ (pure (Value.ref l, b)) _ _ s
    refine wpAny_pure ?_
    refine wpAny_bind (hi.here ?_)
    simp only [Bool.not_false, if_true]
    exact wpAny_bind (wpAny_rule (wpAny_bind (wpAny_pure (wpAny_pure ⟨_, rfl, h⟩))))
def refNames : List String := ["NoneType", "bool", "int", "str", "tuple", "dict"]
def cmpId (op : CmpOp) (n : String) : String := match n, op with
  | "NoneType", .Eq => "NoneType.__eq__"
  | "NoneType", _ => "NoneType.__ne__"
  | "bool", .Eq => "int.__eq__"
  | "bool", _ => "int.__ne__"
  | "int", .Eq => "int.__eq__"
  | "int", _ => "int.__ne__"
  | "str", .Eq => "str.__eq__"
  | "str", _ => "str.__ne__"
  | "tuple", .Eq => "tuple.__eq__"
  | "tuple", _ => "tuple.__ne__"
  | _, .Eq => "dict.__eq__"
  | _, _ => "dict.__ne__"
/-- what a value of such a type is -/
def ShapeOf (s : Shared) (a : Value) (n : String) : Prop := (n = "NoneType" ∧ a = .none) ∨ (n = "bool" ∧ ∃ b, a = .bool b) ∨ (n = "int" ∧ ∃ i t, a = .int i t) ∨ (n = "str" ∧ ∃ y t, a = .str y t) ∨ (n = "tuple" ∧ ∃ l, a = .ref l ∧ s.TypeIs (.ref l) "tuple") ∨ (n = "dict" ∧ ∃ l, a = .ref l ∧ s.TypeIs (.ref l) "dict")
theorem ShapeOf.ty {n : String} (h : ShapeOf s a n) : s.TypeIs a n := by
  rcases h with ⟨rfl, rfl⟩ | ⟨rfl, b, rfl⟩ | ⟨rfl, b, t, rfl⟩ | ⟨rfl, b, t, rfl⟩ | ⟨rfl, l, rfl, T⟩ | ⟨rfl, l, rfl, T⟩
  · rfl
  · rfl
  · rfl
  · rfl
  · exact T
  · exact T
theorem ShapeOf.slot {n : String} (h : ShapeOf s a n) {op : CmpOp} (hop : op = .Eq ∨ op = .NotEq) : Slot n (cmpInfo op).2.1 (cmpId op n) := by
  rcases hop with rfl | rfl <;> rcases h with ⟨rfl, _⟩ | ⟨rfl, _⟩ | ⟨rfl, _⟩ | ⟨rfl, _⟩ | ⟨rfl, _⟩ | ⟨rfl, _⟩
  · exact F.slot_NoneType_eq
  · exact F.slot_bool_eq
  · exact F.slot_int_eq
  · exact F.slot_str_eq
  · exact F.slot_tuple_eq
  · exact F.slot_dict_eq
  · exact F.slot_NoneType_ne
  · exact F.slot_bool_ne
  · exact F.slot_int_ne
  · exact F.slot_str_ne
  · exact F.slot_tuple_ne
  · exact F.slot_dict_ne
theorem ShapeOf.dec {n : String} {c : Value} {dd : Option Addr} {sl : Array (Option Value)} {Q : Value → Shared → Prop} (h : ShapeOf s a n) {op : CmpOp} (hop : op = .Eq ∨ op = .NotEq) (hx : s.heap.get? x = some { cls := c, dict := dd, data := .plain, slots := sl }) 
    (hi : Looks (model prog w) s.heap (isInstance (.ref x) (.type n)) false) (q : Q .notImplemented s) : wpAny (model prog w) A (call (.builtin (cmpId op n)) [a, .ref x]) Q E s := by
  rcases h with ⟨rfl, rfl⟩ | ⟨rfl, b, rfl⟩ | ⟨rfl, b, t, rfl⟩ | ⟨rfl, b, t, rfl⟩ | ⟨rfl, l, rfl, T⟩ | ⟨rfl, l, rfl, T⟩
  · rcases hop with rfl | rfl
    · exact call_gives F.slot_NoneType_eq rfl F.entry_NoneType_eq (F.args_NoneType_eq_2 _ _) (SeqAt.NoneType___eq___none_ref_0 x) q
    · exact call_gives F.slot_NoneType_ne rfl F.entry_NoneType_ne (F.args_NoneType_ne_2 _ _) (SeqAt.NoneType___ne___none_ref_0 x) q
  · have m := int_dec op (.bool b) (.inl ⟨_, rfl⟩) x c dd sl hop
    rcases hop with rfl | rfl
    · rw [if_pos rfl] at m; exact call_meets F.slot_bool_eq rfl F.entry_int_eq (F.args_int_eq_2 _ _) m ⟨hx, q⟩
    · rw [if_neg (by decide)] at m; exact call_meets F.slot_bool_ne rfl F.entry_int_ne (F.args_int_ne_2 _ _) m ⟨hx, q⟩
  · have m := int_dec op (.int b t) (.inr ⟨_, _, rfl⟩) x c dd sl hop
    rcases hop with rfl | rfl
    · rw [if_pos rfl] at m; exact call_meets F.slot_int_eq rfl F.entry_int_eq (F.args_int_eq_2 _ _) m ⟨hx, q⟩
    · rw [if_neg (by decide)] at m; exact call_meets F.slot_int_ne rfl F.entry_int_ne (F.args_int_ne_2 _ _) m ⟨hx, q⟩
  · have m := str_dec op b t x c dd sl hop
    rcases hop with rfl | rfl
    · rw [if_pos rfl] at m; exact call_meets F.slot_str_eq rfl F.entry_str_eq (F.args_str_eq_2 _ _) m ⟨hx, q⟩
    · rw [if_neg (by decide)] at m; exact call_meets F.slot_str_ne rfl F.entry_str_ne (F.args_str_ne_2 _ _) m ⟨hx, q⟩
  · have m := tup_dec (A := A) (E := E) (Q := Q) op hop hi T q
    rcases hop with rfl | rfl
    · rw [if_pos rfl] at m; exact m
    · rw [if_neg (by decide)] at m; exact m
  · have m := dict_dec (A := A) (E := E) (Q := Q) op hop hi T q
    rcases hop with rfl | rfl
    · rw [if_pos rfl] at m; exact m
    · rw [if_neg (by decide)] at m; exact m
/-- a == x, a != x where the left one declines and the right one is an own object -/
theorem dl_refl {op : CmpOp} {n : String} {c : Value} {dd : Option Addr} {sl : Array (Option Value)} {Q : Value → Shared → Prop} (hu : A.units < cLine) (X : K.In s.heap) (I : InstAt s.heap x { cls := c, dict := dd, data := .plain, slots := sl } C od) (ha : ShapeOf s a n) (hop : op = .Eq ∨ op = .NotEq)
    (hsub : subIn K (.ref C) (.type n) = some false)
    (one : wpAny (model prog w) A (tryCompare (.ref x) (cmpInfo op).2.2 a) (fun r s' => ∃ v, r = some v ∧ Q v s') E s) : wpAny (model prog w) A (richCompare op a (.ref x)) Q E s := by
  have ty := ha.ty
  have sl := ha.slot hop
  have hi : Looks (model prog w) s.heap (isInstance (.ref x) (.type n)) false := I.type.andThen (looks_subIn X hsub)
  have dec := ha.dec (prog := prog) (w := w) (A := A) (E := E) (Q := fun v s' => v = .notImplemented ∧ wpAny (model prog w) A (tryCompare (.ref x) (cmpInfo op).2.2 a) (fun r s' => ∃ v, r = some v ∧ Q v s') E s') hop I.at_ hi ⟨rfl, one⟩
  rcases hcm : cmpInfo op with ⟨sym, f, r⟩
  rw [hcm] at sl dec
  simp only [richCompare, hcm, ty.oneThing_none]
  try with_reducible refine wpAny_holding ?_
  refine wpAny_bind (wpAny_cRoomFor_or (.inr hu) ?_)
  refine wpAny_bind (wpAny_typeOf ty (wpAny_bind (I.type.here ?_)))
  have hne : (Value.type n != Value.ref C) = true := by simp
  simp only [hne, if_true]
  refine wpAny_bind ((looks_subIn X hsub).here ?_)
  simp only [Bool.false_eq_true, if_false, Bool.not_false, if_true]
  refine wpAny_bind (m := tryCompare a _ (.ref x)) (wpAny_tryCompare_declines ty sl (wpAny_mono dec (fun v s₁ h₁ => ⟨h₁.1, ?_⟩) fun _ _ x => x))
  refine wpAny_bind (m := tryCompare (.ref x) _ a) (wpAny_mono h₁.2 (fun v s₂ ⟨u, e, q⟩ => ?_) fun _ _ x => x)
  subst e
  exact wpAny_pure q

theorem dl_tryEq {b : Value} {Q : Value → Shared → Prop} (X : K.In s.heap) (I : InstAt s.heap x ox C od) (hs : findIn K (.ref C) "__eq__" = some (some (.ref f))) (hf : isFn K (.ref f) = true)
    (h : wpAny (model prog w) A (call (.ref f) [.ref x, b]) (CmpBack Q) E s) : wpAny (model prog w) A (tryCompare (.ref x) "__eq__" b) (fun r s' => ∃ v, r = some v ∧ Q v s') E s := by
  unfold tryCompare
  refine wpAny_bind (ifBound_K X I hs hf (wpAny_mono h (fun v s' hv => ?_) fun _ _ e => e))
  cases v <;> first | exact hv.elim | exact wpAny_pure ⟨_, rfl, hv⟩
theorem dl_tryNe {b : Value} {Q : Value → Shared → Prop} (hu1 : A.in1.units < cLine) (X : K.In s.heap) (I : InstAt s.heap x ox C od)
    (hne : findIn K (.ref C) "__ne__" = some (some (.builtin "object.__ne__"))) (hob : subIn K (.ref C) (.type "object") = some true) (hs : findIn K (.ref C) "__eq__" = some (some (.ref f))) (hf : isFn K (.ref f) = true)
    (h : wpAny (model prog w) A.in1 (call (.ref f) [.ref x, b]) (BoolBack fun r s' => Q (.bool (!r)) s') E s) : wpAny (model prog w) A (tryCompare (.ref x) "__ne__" b) (fun r s' => ∃ v, r = some v ∧ Q v s') E s := by
  have S := PySem.F.cmp_object.ne
  have sub : Looks (model prog w) s.heap (isInstance (.ref x) (.type "object")) true := I.type.andThen (looks_subIn X hob)
  have cal : wpAny (model prog w) A (call (.builtin "object.__ne__") [.ref x, b]) (fun v s' => v ≠ .notImplemented ∧ Q v s') E s := by
    obtain ⟨hp, g, d, t, os⟩ := s
    refine wpAny_call (codeAny_call_builtin S.plain PySem.F.cmpEntry_ne (@check_slot (model prog w) _ _ ⟨hp, g, d, t, os⟩ "object.__ne__" "object" "__ne__" (.ref x) [b] [] _ PySem.F.cmpKind_ne PySem.F.cmpSplit_ne sub (PySem.F.cmpArgs_ne (.ref x) b) ?_))
    show wpAny _ _ (Builtin.«object.__ne__» _) _ _ _
    unfold Builtin.«object.__ne__»; refine wpAny_bind (wpAny_of_eq (a := ((Value.ref x : Value), [b])) (by first | rfl | (simp only [slotArgs]; rfl)) (wpAny_bind (wpAny_cRoomFor hu1 (wpAny_bind (ifBound_K X I hs hf (wpAny_mono h (fun r s' hr => ?_) fun _ _ z => z))))))
    cases r with
    | bool b0 => exact wpAny_bind (wpAny_truthy_bool (wpAny_pure ⟨(fun z => nomatch z), hr⟩))
    | _ => exact hr.elim
  have fin : wpAny (model prog w) A (call (.builtin "object.__ne__") ([.ref x] ++ [b]) >>= fun v => pure (some v)) (fun v s' => ∃ u, v = some u ∧ u ≠ .notImplemented ∧ Q u s') E s := wpAny_bind (wpAny_mono cal (fun v s' h' => wpAny_pure ⟨v, rfl, h'⟩) fun _ _ h' => h')
  have ifb : wpAny (model prog w) A (callSpecialIfBound? (.ref x) "__ne__" [b]) (fun v s' => ∃ u, v = some u ∧ u ≠ .notImplemented ∧ Q u s') E s := by
    simp only [callSpecialIfBound?, bindSpecialIfBound?]; refine wpAny_holding (wpAny_bind (wpAny_bind (wpAny_bind (I.type.here ((looks_findIn X hne).here ?_)))))
    simp only [S.bind]; refine wpAny_bind (wpAny_askSetting (wpAny_ite ?_)); split
    · exact wpAny_bind (wpAny_pure (wpAny_pure fin))
    · exact wpAny_tryCatch (wpAny_bind (wpAny_pure (wpAny_pure fin)))
  unfold tryCompare; refine wpAny_bind (wpAny_mono ifb (fun v s' z => ?_) fun _ _ z => z)
  obtain ⟨u, rfl, hu2, hq⟩ := z
  cases u <;> first | exact absurd rfl hu2 | exact wpAny_pure ⟨_, rfl, hq⟩
end
end PySem.W
namespace DL
open PySem PySem.Spec PyProof.Rows L2
variable {gf gj : Bool}
section
variable {X : Cx} {W : WX} {k j : Nat} {a b e o : Expr} {f h : Ev D} {pos : Pos} {own : Str → Option Fn} {r : R2} {g : D → D → Store → Option D}
/-- the classes with an own __eq__ are no built-in types' children -/
def EqN (K : PySem.W.Frag) (mg : Str → Option Value) (own : Str → Option Fn) : Prop := ∀ C mm, own C = some mm → ∀ c, mg C = some (.ref c) → ∀ n ∈ PySem.W.refNames, PySem.W.subIn K (.ref c) (.type n) = some false
theorem shape_of {pins : List (Addr × Obj)} {σ : L2.St} {H : Hp} {s : Shared} {x : V} {u : Value} {n : String} (hn : n ∈ PySem.W.refNames) (I : Inv X pins σ H s) (rx : RelV x u) (ty : TyX X.K H x (.type n)) : PySem.W.ShapeOf s u n := by
  have no : ∀ {z : String}, z ∉ PySem.W.refNames → n = z → False := fun h e => h (e ▸ hn)
  generalize ht : Value.type n = t at ty
  cases ty with
  | base b =>
    cases b with
    | non => injection ht with ht; subst ht; cases (show u = Value.none from rx); exact .inl ⟨rfl, rfl⟩
    | bl y => injection ht with ht; subst ht; cases (show u = Value.bool y from rx); exact .inr (.inl ⟨rfl, _, rfl⟩)
    | int i => injection ht with ht; subst ht; obtain ⟨t, q⟩ := (show ∃ t, u = Value.int i t from rx); exact .inr (.inr (.inl ⟨rfl, _, _, q⟩))
    | str y => injection ht with ht; subst ht; obtain ⟨t, q⟩ := (show ∃ t, u = Value.str y t from rx); exact .inr (.inr (.inr (.inl ⟨rfl, _, _, q⟩)))
    | flt y => injection ht with ht; exact (no (by decide) ht).elim
    | lst ea => injection ht with ht; exact (no (by decide) ht).elim
    | frz ea => injection ht with ht; exact (no (by decide) ht).elim
    | @tup a xs ea =>
      injection ht with ht; subst ht
      cases (show u = Value.ref a from rx)
      obtain ⟨_, _, _, o, h1, h2, _⟩ := (show ObjOk X.prog X.w H s.heap a (.tup xs) from I.hok a _ ea)
      exact .inr (.inr (.inr (.inr (.inl ⟨rfl, a, rfl, o, h1, h2⟩))))
    | @dK a kvs ea =>
      injection ht with ht; subst ht
      cases (show u = Value.ref a from rx)
      obtain ⟨_, _, vs, _, o, es, ep, h1, h2, _⟩ := (show ObjOk X.prog X.w H s.heap a (.dK kvs) from I.hok a _ ea)
      exact .inr (.inr (.inr (.inr (.inr ⟨rfl, a, rfl, o, h1, h2.1⟩))))
    | @dT a kvs ea =>
      injection ht with ht; subst ht
      cases (show u = Value.ref a from rx)
      obtain ⟨_, _, xs, _, o, es, ep, h1, h2, _⟩ := (show ObjOk X.prog X.w H s.heap a (.dT kvs) from I.hok a _ ea)
      exact .inr (.inr (.inr (.inr (.inr ⟨rfl, a, rfl, o, h1, h2.1⟩))))
    | ins => cases ht
  | byt y => injection ht with ht; exact (no (by decide) ht).elim
  | set ea => injection ht with ht; exact (no (by decide) ht).elim
  | kList e c => injection ht with ht; exact (no (by decide) ht).elim
  | @kTuple a o e c =>
    injection ht with ht; subst ht
    cases (show u = Value.ref a from rx)
    exact .inr (.inr (.inr (.inr (.inl ⟨rfl, a, rfl, o, I.kIn a o e, c⟩))))
  | @kDict a o e c =>
    injection ht with ht; subst ht
    cases (show u = Value.ref a from rx)
    exact .inr (.inr (.inr (.inr (.inr ⟨rfl, a, rfl, o, I.kIn a o e, c⟩))))
  | @fTuple a ob xs ea =>
    injection ht with ht; subst ht
    cases (show u = Value.ref a from rx)
    obtain ⟨_, _, _, _, o, h1, h2, _⟩ := (show ObjOk X.prog X.w H s.heap a (.frz ob (.tup xs)) from I.hok a _ ea)
    exact .inr (.inr (.inr (.inr (.inl ⟨rfl, a, rfl, o, h1, h2⟩))))
  | @fDict a ob kvs ea =>
    injection ht with ht; subst ht
    cases (show u = Value.ref a from rx)
    obtain ⟨_, _, _, vs, _, o, es, ep, h1, h2, _⟩ := (show ObjOk X.prog X.w H s.heap a (.frz ob (.dK kvs)) from I.hok a _ ea)
    exact .inr (.inr (.inr (.inr (.inr ⟨rfl, a, rfl, o, h1, h2.1⟩))))
def rEqR (neg : Bool) (K : PySem.W.Frag) (mg : Str → Option Value) (own : Str → Option Fn) : R2 := fun x y H Q => ∃ mm a c dx fs C n, y = .ref a ∧ mg C = some (.ref c) ∧ own C = some mm ∧ H a = some (.ins c dx fs) ∧ n ∈ PySem.W.refNames ∧ TyX K H x (.type n) ∧
  spV K mg mm [y, x] H (fun v H' => ∃ b, v = .bl b ∧ Q (.bl (if neg then !b else b)) H') noE
def reflOk (S : Store) (x : D) : Bool := match tyName S x with
  | some n => PySem.W.refNames.contains n
  | none => false
def eEqV (neg : Bool) (own : Str → Option Fn) (g : D → D → Store → Option D) (f h : Ev D) : Ev D := fun ρ S => (f ρ S).bind fun x S => (h ρ S).bind fun y S => match own1 own S x with
  | some mm => if tyOk S x y = true then (noExc (mm [x, y] S)).bind fun r S => match r with
      | .bl b => .ok (.bl (if neg then !b else b)) S
      | _ => .stuck
    else .stuck
  | none => match own1 own S y with
    | some mm => if reflOk S x = true then (noExc (mm [y, x] S)).bind fun r S => match r with
        | .bl b => .ok (.bl (if neg then !b else b)) S
        | _ => .stuck
      else .stuck
    | none => ofO (g x y S) S
theorem run_eqR (B : Bod gf X W k) (hw : EqM X.prog X.w X.K X.mg X.base j own) (hn : EqN X.K X.mg own) (hj : j + 1 ≤ k) : OpR X (compareOp .Eq) (rEqR false X.K X.mg own) ∧ OpR X (compareOp .NotEq) (rEqR true X.K X.mg own) := by
  constructor
  · intro pins s σ H x y v u Q I rx ry hq
    obtain ⟨mm, a, c0, dx, fs, C, n, rfl, hc, hown, ea, hnn, ty, q⟩ := hq
    cases (show u = Value.ref a from ry)
    obtain ⟨hcl, hfa, f, hM, F⟩ := hw C mm hown
    have hM := hM c0 hc
    obtain ⟨od, J⟩ := ins_inst I ea
    have sh := shape_of hnn I rx ty
    have hsub := hn C mm hown c0 hc n hnn
    show wpAny _ _ (richCompare .Eq _ _) _ _ _
    refine PySem.W.dl_refl (op := .Eq) (B.room.mono hj).units0 I.kIn J sh (.inl rfl) hsub (PySem.W.dl_tryEq I.kIn J hM.at_ hM.fn (wpAny_mono (run_in1 (us := [.ref a, v]) (vs := [.ref a, x]) (E' := X.xe) F (B.room.mono (by omega)) I.env0 I (.cons rfl (.cons rx .nil)) q) (fun w s' z => ?_) fun _ _ z => z))
    obtain ⟨v, H', I', rv, b, rfl, q2⟩ := z
    cases (show w = Value.bool b from rv)
    exact ⟨.bl b, H', I', rfl, q2⟩
  · intro pins s σ H x y v u Q I rx ry hq
    obtain ⟨mm, a, c0, dx, fs, C, n, rfl, hc, hown, ea, hnn, ty, q⟩ := hq
    cases (show u = Value.ref a from ry)
    obtain ⟨hcl, hfa, f, hM, F⟩ := hw C mm hown
    have hM := hM c0 hc
    obtain ⟨hnf, hne, hob⟩ := hfa c0 hc
    obtain ⟨od, J⟩ := ins_inst I ea
    have sh := shape_of hnn I rx ty
    have hsub := hn C mm hown c0 hc n hnn
    have hr := (B.room.mono hj).in1
    show wpAny _ _ (richCompare .NotEq _ _) _ _ _
    refine PySem.W.dl_refl (op := .NotEq) (B.room.mono hj).units0 I.kIn J sh (.inr rfl) hsub (PySem.W.dl_tryNe hr.units0 I.kIn J hne hob hM.at_ hM.fn (wpAny_mono (run_in1 (us := [.ref a, v]) (vs := [.ref a, x]) (E' := X.xe) F hr I.env0.in1 I (.cons rfl (.cons rx .nil)) q) (fun w s' z => ?_) fun _ _ z => z))
    obtain ⟨v, H', I', rv, b, rfl, q2⟩ := z
    cases (show w = Value.bool b from rv)
    exact ⟨.bl (!b), H', I', rfl, q2⟩
theorem eqV_ent {neg : Bool} (he : OpE X.K X.mg r g) : ∀ σ H Q, tD X.K X.mg W (eEqV neg own g f h) σ H Q → tOp (fun x y H Q => (r x y H Q ∨ rEqO neg X.K X.mg own x y H Q) ∨ rEqR neg X.K X.mg own x y H Q) (tD X.K X.mg W f) (tD X.K X.mg W h) σ H Q := fun σ H Q ⟨F, A, P, ρ, S, rp, s, q⟩ => by
  refine tD.seq rp s q fun d S1 v H1 F1 A1 x1 r1 s1 d1 h1 => ?_
  have h1 := post_okE x1 h1
  refine tD.seq r1 s1 h1 fun d2 S2 v2 H2 F2 A2 x2 r2 s2 d2' h2 => ?_
  have h2 := post_okE x2 h2
  split at h2
  · rename_i mm e1
    split at h2
    · rename_i hty
      have e1' := e1
      unfold own1 at e1
      split at e1
      · rename_i C fs e3
        obtain ⟨a, c0, dx, vs, rfl, m1, g1, g2⟩ := ins_at r2 (d1.mono x2) e3
        have hx : clsOf S2 d = some C := by unfold clsOf; rw [e3]; rfl
        have ty : ∃ t, TyIs X.K X.mg H2 v2 t ∧ ∀ c2, t = .ref c2 → c2 = c0 := by
          unfold tyOk at hty
          split at hty
          · rename_i C2 e4
            rw [hx] at hty
            have hty := eq_of_beq hty
            cases hty
            unfold clsOf at e4
            rw [Option.map_eq_some_iff] at e4
            obtain ⟨⟨C3, gs⟩, e5, e6⟩ := e4
            cases e6
            obtain ⟨b, c1, dy, ws, rfl, m2, g3, g4⟩ := ins_at r2 d2' e5
            rw [m1] at m2
            cases m2
            exact ⟨.ref c0, .inr ⟨b, c0, dy, ws, _, rfl, m1, g3, rfl⟩, fun c2 z => by cases z; rfl⟩
          · split at hty
            · rename_i n e5
              exact ⟨.type n, .inl ⟨n, by simpa using hty, rfl, tyX_at r2 d2' e5⟩, fun c2 z => by cases z⟩
            · cases hty
        obtain ⟨t, ty, same⟩ := ty
        refine .inl (.inr ⟨mm, a, c0, dx, vs, C, t, rfl, m1, e1, g1, ty, same, F2, A2, P, _, S2, r2, .cons (d1.mono x2) (.cons d2' .nil), noExc_post (Out.post_mono (Out.post_bind h2) (fun d3 S3 z v3 H3 F3 A3 x4 r4 d4 => ?_) fun _ _ _ z => z)⟩)
        split at z
        · rename_i b0
          cases d4
          exact ⟨b0, rfl, z _ _ _ _ x4 r4 .bl⟩
        · exact z.elim
      · cases e1
    · exact h2.elim
  · split at h2
    · rename_i mm e1
      split at h2
      · rename_i hty
        unfold own1 at e1
        split at e1
        · rename_i C fs e3
          obtain ⟨a, c0, dx, vs, rfl, m1, g1, g2⟩ := ins_at r2 d2' e3
          unfold reflOk at hty
          split at hty
          · rename_i n e5
            refine .inr ⟨mm, a, c0, dx, vs, C, n, rfl, m1, e1, g1, by simpa using hty, tyX_at r2 (d1.mono x2) e5, F2, A2, P, _, S2, r2, .cons d2' (.cons (d1.mono x2) .nil), noExc_post (Out.post_mono (Out.post_bind h2) (fun d3 S3 z v3 H3 F3 A3 x4 r4 d4 => ?_) fun _ _ _ z => z)⟩
            split at z
            · rename_i b0
              cases d4
              exact ⟨b0, rfl, z _ _ _ _ x4 r4 .bl⟩
            · exact z.elim
          · cases hty
        · cases e1
      · exact h2.elim
    · obtain ⟨z, e, h3⟩ := ofO_post h2
      exact .inl (.inl (he _ _ _ _ _ _ _ _ _ _ _ r2 (d1.mono x2) d2' e h3))
theorem de_eqV (B : Bod gf X W k) (hw : EqM X.prog X.w X.K X.mg X.base j own) (hn : EqN X.K X.mg own) (hj : j + 1 ≤ k) (ha : DE X W a f) (hb : DE X W b h) (hm : behindInMarks .Eq b = false := by first | exact nobehind _ (by decide) (by decide) | rfl) : DE X W (.Compare a [.Eq] [b] pos) (eEqV false own gEqH f h) :=
  PE.imp (pe_cmpR (OpR.or (OpR.or (op_eqH (by have := B.hu; omega)) (run_eq B hw hj).1) (run_eqR B hw hn hj).1) ha hb hm) (eqV_ent eqH_ent)
theorem de_neV (B : Bod gf X W k) (hw : EqM X.prog X.w X.K X.mg X.base j own) (hn : EqN X.K X.mg own) (hj : j + 1 ≤ k) (ha : DE X W a f) (hb : DE X W b h) (hm : behindInMarks .NotEq b = false := by first | exact nobehind _ (by decide) (by decide) | rfl) : DE X W (.Compare a [.NotEq] [b] pos) (eEqV true own gNeH f h) :=
  PE.imp (pe_cmpR (OpR.or (OpR.or (op_neH (by have := B.hu; omega)) (run_eq B hw hj).2) (run_eqR B hw hn hj).2) ha hb hm) (eqV_ent neH_ent)
end
section
variable {K : PySem.W.Frag} {mg : Str → Option Value} {own : Str → Option Fn} {C : Str} {c : Addr} {mm : Fn}
theorem eqN_nil : EqN K mg none' := fun _ _ h => by cases h
theorem eqN_more (hc : mg C = some (.ref c)) (h1 : PySem.W.subIn K (.ref c) (.type "NoneType") = some false) (h2 : PySem.W.subIn K (.ref c) (.type "bool") = some false) (h3 : PySem.W.subIn K (.ref c) (.type "int") = some false) (h4 : PySem.W.subIn K (.ref c) (.type "str") = some false)
    (h5 : PySem.W.subIn K (.ref c) (.type "tuple") = some false) (h6 : PySem.W.subIn K (.ref c) (.type "dict") = some false) (r : EqN K mg own) : EqN K mg (more C mm own) := fun D m2 e => by
  unfold more at e
  split at e
  · rename_i hD
    subst hD; cases e
    intro c' z n hn
    rw [hc] at z; cases z
    simp only [PySem.W.refNames, List.mem_cons, List.not_mem_nil, or_false] at hn
    rcases hn with rfl | rfl | rfl | rfl | rfl | rfl <;> assumption
  · exact r D m2 e
end
end DL
/-! a lambda without parameters handed to an own def that calls it: the tables of code objects are objects of the store. -/
namespace DL
open PySem PySem.Spec PyProof.Rows L2 LamX
variable {gf gj : Bool}
section
variable {X : Cx} {pins : List (Addr × Obj)} {σ : L2.St} {H : Hp} {s : Shared}
/-- a lambda is made: what becomes of the heap, exactly -/
theorem lam_makeX {c P : Addr} {ps : Array Value} {params : Arguments} {body : Expr} {scope : Scope} {pos : Pos} {E Q : Value → Shared → Prop} (I : Inv X pins σ H s) (TB : TabB X.base X.mg c P) (hcode : X.env.code = .ref c) (hP : H P = some (.tbl ps)) (ht : TriplesOk ps.toList)
    (ha : ∀ (pos : Pos) (cv : Value), codeAmong pos ps.toList = some cv → ∃ d, cv = .ref d ∧ H d = some (CodeO d (X.env.qual ++ "<lambda>"))) (hdef : defaultsOf params X.env = ([], [])) (hfree : ∀ y ∈ scope.names, y.2 = .free → ∃ c, X.env.cells.lookup y.1 = some c)
    (h : ∀ (f c' : Addr) (pm ctv : Value) (H1 : Hp) (s' : Shared), Inv X pins σ H1 s' → ((H1 = H ∧ ∃ pos, codeAmong pos ps.toList = some (.ref c')) ∨ (H c' = none ∧ H1 = upd (upd H P (.tbl (ps ++ #[rawInt pos.line, rawInt pos.col, .ref c']))) c' (CodeO c' (X.env.qual ++ "<lambda>")))) →
      s'.heap.get? f = some (PySem.W.kla_obj "<lambda>" (X.env.qual ++ "<lambda>") params body scope (cloFrom X.env.cells scope.names []) pm c' ctv) → H1 f = none → f ∉ frs X.stack → H1 c' = some (CodeO c' (X.env.qual ++ "<lambda>")) → Q (.ref f) s') :
    wpAny (model X.prog X.w) X.A (eval (.Lambda params body scope pos) X.env) Q E s := by
  have tabAt : s.heap.get? P = some { cls := .none, data := .fields ps } := I.hok P _ hP
  have noFrame : ∀ f, s.heap.objs.size ≤ f → f ∉ frs X.stack := fun f hf z => (List.mem_cons.mp (I.stkSub _ z)).elim (fun e => absurd (e ▸ I.lt) (Nat.not_lt.mpr hf)) (fun e => I.nofs hf e)
  refine PySem.W.kla_eval hdef ?_
  cases hc : codeAmong pos ps.toList with
  | some cv =>
    obtain ⟨d, rfl, hd⟩ := ha pos cv hc
    refine PySem.W.kla_makeFunctionHit (mg := X.mg) (c := c) (P := P) (closure_ok hfree) I.ok.glob (I.mod.glob.keeps I.bk) hcode (TB.code.keeps I.bk) tabAt ht hc (TB.bm.keeps I.bk) fun ctv h' tk hx hz => ?_
    refine h h'.objs.size d _ ctv H _ (I.kept fun b o e => Heap.get?_push_of_some _ (hx b o e)) (.inl ⟨rfl, pos, hc⟩) (Heap.get?_push_size _ rfl) (I.hok.fresh hz) (noFrame _ hz) hd
  | none =>
    refine PySem.W.kla_makeFunction (mg := X.mg) (c := c) (P := P) (closure_ok hfree) I.ok.glob (I.mod.glob.keeps I.bk) hcode (TB.code.keeps I.bk) tabAt ht hc TB.gP (TB.bm.keeps I.bk) fun c' ctv h' tk hx hge hlt hrec htb => ?_
    obtain ⟨c2, oc, vs, t, e2, hoc, hdat, hv⟩ := hrec
    cases e2
    have big : s.heap.objs.size ≤ h'.objs.size := Nat.le_trans hge (Nat.le_of_lt hlt)
    have free : H c' = none := I.hok.fresh hge
    have J := inv_table (t' := tk) (more := #[rawInt pos.line, rawInt pos.col, .ref c']) (h' := h'.push (PySem.W.kla_obj "<lambda>" (X.env.qual ++ "<lambda>") params body scope (cloFrom X.env.cells scope.names []) ((X.mg "__name__").getD .none) c' ctv)) I hP
      (fun b o hb e => Heap.get?_push_of_some _ (hx b o hb e)) (Heap.get?_push_of_some _ htb) hge ⟨oc, vs, t, Heap.get?_push_of_some _ hoc, hdat, hv⟩
    refine h h'.objs.size c' _ ctv _ _ J (.inr ⟨free, rfl⟩) (Heap.get?_push_size _ rfl) ?_ (noFrame _ big) upd_same
    have n2 : h'.objs.size ≠ P := Nat.ne_of_gt (Nat.lt_of_lt_of_le (Heap.lt_size tabAt) big)
    rw [upd_ne (Nat.ne_of_gt hlt), upd_ne n2]
    exact I.hok.fresh big
/-- the lambda is called in the def that got it -/
theorem pe_ask {Ng : List Str} {qg : Str} {sg : Scope} {g f c' : Addr} {cdg pm ctv : Value} {params : Arguments} {body : Expr} {scope : Scope} {k : Nat} {a : Str} {pn : List (Addr × Obj)} {xe : Value → Shared → Prop} {W' : WX} {Eg : XK} {tb : XK → TE} {p1 p2 : Pos}
    (I : Inv X pins σ H s) (L : LamS X.env.scope scope) (hf : s.heap.get? f = some (PySem.W.kla_obj "<lambda>" (X.env.qual ++ "<lambda>") params body scope (cloFrom X.env.cells scope.names []) pm c' ctv)) (hfn : H f = none) (hfr : f ∉ frs X.stack)
    (hbind : bindArgs (PySem.W.kla_fn "<lambda>" (X.env.qual ++ "<lambda>") params body scope (cloFrom X.env.cells scope.names []) pm (.ref c') ctv) ⟨[], []⟩ = pure [])
    (tk : Takes ((cxOf (L2.CX X.prog X.w) X.prog X.w X.K X.mg X.base Ng qg sg g cdg X.A X.stack s H Eg).tr pn xe) W') (hr : Room (k + 1) (X.A.deeper (envOfC qg sg s.heap.objs.size g cdg)))
    (hbody : ∀ (A : Around) (outer : List Env) (s : Shared) (H : Hp) (E : XK), A.guards = X.A.guards → Room k (A.deeper (lamEnv X scope s.heap.objs.size f c')) → PE (lamCx X A outer s H E scope f c') body (tb E))
    (hN : Ng[0]? = some a) (hv : Vis sg a) (hd : (a == ("__debug__" : Str)) = false) (hcd : (a == ("__classdict__" : Str)) = false) :
    PE ((cxOf (L2.CX X.prog X.w) X.prog X.w X.K X.mg X.base Ng qg sg g cdg X.A X.stack s H Eg).tr pn xe) (.Call (.Name a p1) [] [] p2)
      (fun σZ HZ Q => σZ[0]? = some (some (.ref f)) ∧ HZ c' = some (CodeO c' (X.env.qual ++ "<lambda>")) ∧ tb (WE W' σZ) σ HZ Q) := by
  refine ⟨fun pinsZ sZ σZ HZ Q IZ ⟨hs, hc, ht⟩ => ?_⟩
  refine wpAny_Call_Name_kw (thn ((pe_var (pos := p1) (i := 0) hN hv hd hcd).run pinsZ sZ σZ HZ (fun v H1 => v = .ref f ∧ H1 = HZ) IZ ⟨.ref f, hs, rfl, rfl⟩) fun u s1 ⟨v, H1, I1, r1, ev, eH⟩ => ?_)
  subst ev eH
  cases (show u = Value.ref f from r1)
  have here : s1.heap.get? f = some (PySem.W.kla_obj "<lambda>" (X.env.qual ++ "<lambda>") params body scope (cloFrom X.env.cells scope.names []) pm c' ctv) := I1.base.keep f _ hf hfn hfr (fun z => nomatch (show f ∈ ([] : List Addr) from z))
  refine PySem.W.callWith_F0 ⟨_, _, _, _, here⟩ ?_
  obtain ⟨⟨oc, vs, t, hoc, hdc, hvc⟩, _, _⟩ := I1.hok c' _ hc
  have run : codeAny (model X.prog X.w) (X.A.deeper (envOfC qg sg s.heap.objs.size g cdg)) (.call (.ref f) ⟨[], []⟩) (CR (L2.CX X.prog X.w) (envOfC qg sg s.heap.objs.size g cdg :: X.stack) X.prog X.w H1 s1 Q (WE W' σZ)) s1 := by
    refine PySem.W.kla_callFunE hr.depth here rfl L.co L.gen rfl ⟨c', oc, vs, t, rfl, hoc, hdc, hvc⟩ ?_
    rw [hbind]
    refine wpAny_pure (wpAny_newFunctionEnv (fun y hy => (L.own y hy).2) (fun y hy => absurd hy (by simp)) (fun h₁ hns hsb => ⟨I1.nolimit.fresh _ hsb, ?_⟩) L.kind)
    show codeAny _ _ (.expr body (lamEnv X scope s1.heap.objs.size f c')) _ _
    have grown : ∀ b o, s1.heap.get? b = some o → h₁.get? b = some o := fun b o e => hsb.extBut b o (Nat.ne_of_lt (Heap.lt_size e)) (Heap.get?_push_of_some _ e)
    have J := lam_start2 (A := X.A.deeper (envOfC qg sg s.heap.objs.size g cdg)) (outer := envOfC qg sg s.heap.objs.size g cdg :: X.stack) (E := WE W' σZ) (f := f) (c' := c') (tk := s1.toks + ([] : List (Str × Value)).length) I L I1.env0 hr.hd (show Un (frs X.stack) [] H H1 s.heap s1.heap from I1.base) hns grown
    refine PySem.W.kla_codeExpr (wpAny_mono ((hbody (X.A.deeper (envOfC qg sg s.heap.objs.size g cdg)) _ s1 H1 (WE W' σZ) rfl (hr.deeper _)).run [] _ _ H1 Q J ht) (fun v s' hq => ?_) fun e s' hq => hq)
    obtain ⟨w', H', J', rv, q⟩ := hq
    exact ⟨w', H', J'.os, J'.bare, J'.base, J'.hok, rv, q⟩
  refine wpAny_call (codeAny_mono run fun r s' hq => ?_)
  cases r with
  | error e => exact passAt tk σZ pinsZ H1 s1 e s' I1 hq
  | ok fl =>
    cases fl with
    | ret u => exact I1.after hq
    | next => exact False.elim hq
    | brk => exact False.elim hq
    | cont => exact False.elim hq
end
/-! ### the reading of a def that got a lambda -/
/-- a thunk's call -/
def eAsk (th : Store → Out D) : Ev D := fun _ S => th S
section
variable (f : Addr) (F0 : Hp) (A0 : List Addr) (K : PySem.W.Frag) (mg : Str → Option Value)
def tDx (W : WX) (g : Ev D) : TE := fun σ H Q => σ[0]? = some (some (.ref f)) ∧ ∃ F A P ρ S, Ext F0 A0 F A ∧ Rep K mg F A S P H ∧ Slots K mg F A σ ρ ∧ (g ρ S).post (okE K mg F A P Q) (exE K mg F A P fun c d H' => W c d σ H')
def tDAx (W : WX) (g : Ev (List D)) : TA := fun σ H Q => σ[0]? = some (some (.ref f)) ∧ ∃ F A P ρ S, Ext F0 A0 F A ∧ Rep K mg F A S P H ∧ Slots K mg F A σ ρ ∧ (g ρ S).post (okA K mg F A P Q) (exE K mg F A P fun c d H' => W c d σ H')
def tDSx (W : WX) (g : Stm) : TS := fun D σ H => σ[0]? = some (some (.ref f)) ∧ ∃ F A P ρ S, Ext F0 A0 F A ∧ Rep K mg F A S P H ∧ Slots K mg F A σ ρ ∧ (g ρ S).post K mg F A P W D
end
abbrev DEx (X : Cx) (W : WX) (f : Addr) (F0 : Hp) (A0 : List Addr) (e : Expr) (g : Ev D) : Prop := PE X e (tDx f F0 A0 X.K X.mg W g)
abbrev DAx (X : Cx) (W : WX) (f : Addr) (F0 : Hp) (A0 : List Addr) (es : List Expr) (g : Ev (List D)) : Prop := PA X es (tDAx f F0 A0 X.K X.mg W g)
abbrev DSx (X : Cx) (W : WX) (f : Addr) (F0 : Hp) (A0 : List Addr) (ss : List Stmt) (g : Stm) : Prop := PSs X ss (tDSx f F0 A0 X.K X.mg W g)
section
variable {X : Cx} {W : WX} {f : Addr} {F0 : Hp} {A0 : List Addr} {e : Expr} {es : List Expr} {g : Ev D} {ga : Ev (List D)} {ss rest : List Stmt} {h : Stm} {pos : Pos}
theorem dex_of (he : DE X W e g) : DEx X W f F0 A0 e g := PE.imp he fun σ H Q ⟨_, F, A, P, ρ, S, _, r, s, q⟩ => ⟨F, A, P, ρ, S, r, s, q⟩
theorem dax_of (he : DA X W es ga) : DAx X W f F0 A0 es ga := PA.imp he fun σ H Q ⟨_, F, A, P, ρ, S, _, r, s, q⟩ => ⟨F, A, P, ρ, S, r, s, q⟩
theorem dsx_of (he : DSs X W ss h) : DSx X W f F0 A0 ss h := PSs.imp he fun D σ H ⟨_, F, A, P, ρ, S, _, r, s, q⟩ => ⟨F, A, P, ρ, S, r, s, q⟩
/-- something plain first, then what asks -/
theorem dax_cons (he : DE X W e g) (hr : DAx X W f F0 A0 es ga) (hs : starEach (e :: es) X.env = (false, eval e X.env) :: starEach es X.env := by rfl) : DAx X W f F0 A0 (e :: es) (aCons g ga) :=
  PA.imp (pa_cons he hr hs) fun σ H Q ⟨h0, F, A, P, ρ, S, l, r, s, q⟩ => by
    refine tD.seq r s q fun d S1 v H1 F1 A1 x1 r1 s1 d1 h1 => ?_
    have h1 := post_okA x1 h1
    refine ⟨h0, F1, A1, P, ρ, S1, l.trans x1, r1, s1, Out.post_mono (Out.post_bind h1) (fun ds S2 z vs H2 F2 A2 x2 r2 d2 => ?_) fun _ _ _ z => z⟩
    exact z _ _ _ _ x2 r2 (.cons (d1.mono x2) d2)
/-- what asks, alone -/
theorem dax_one (he : DEx X W f F0 A0 e g) (hs : starEach [e] X.env = (false, eval e X.env) :: starEach [] X.env := by rfl) : DAx X W f F0 A0 [e] (aCons g aNil) :=
  PA.imp (pa_cons he pa_nil hs) fun σ H Q ⟨h0, F, A, P, ρ, S, l, r, s, q⟩ => by
    refine ⟨h0, F, A, P, ρ, S, l, r, s, Out.post_mono (Out.post_bind q) (fun d S1 z v H1 F1 A1 x1 r1 d1 => ?_) fun _ _ _ z => z⟩
    exact z _ _ _ _ x1 r1 (.cons d1 .nil)
theorem dex_tup {x1} (h : DAx X W f F0 A0 es ga) : DEx X W f F0 A0 (.Tuple es x1 pos) (eTup ga) :=
  PE.imp (pe_tup h) fun σ H Q ⟨h0, F, A, P, ρ, S, l, r, s, h⟩ => by
    refine ⟨h0, F, A, P, ρ, S, l, r, s, Out.post_mono (Out.post_bind h) (fun ds S1 h1 vs H1 F1 A1 x1 r1 d1 => ?_) fun _ _ _ z => z⟩
    split at h1
    · rename_i hl
      refine ⟨by rw [d1.length]; exact len_le hl, fun p hp => ?_⟩
      obtain ⟨x2, r2⟩ := r1.frz (o := .tup vs) hp
      exact h1 _ _ _ _ (x1.trans x2) r2 (.tup (SqT.of upd_same) (d1.mono x2))
    · exact h1.elim
theorem dex_callB {x : Str} {id : String} {r : List V → Hp → VK → Prop} {g : List D → Store → Option D} {p : Pos} (hc : CallR X (.builtin id) r) (he' : CallE X.K X.mg r g) (hg : Gl X x) (hm : X.mg x = none) (hv : bootBuiltins x = some (.builtin id)) (ha : DAx X W f F0 A0 (e :: es) ga) (hn : x ≠ "__name__" := by decide) (hdb : (x == ("__debug__" : Str)) = false := by decide)
    (he : starEach (e :: es) X.env = (false, eval e X.env) :: starEach es X.env := by rfl) (hpl : (backTo pos (starEach es X.env)).any (·.1) = false := by rfl) : DEx X W f F0 A0 (.Call (.Name x p) (e :: es) [] pos) (eCall g ga) :=
  PE.imp (pe_callB hc hg hm hv ha hn hdb he hpl) fun σ H Q ⟨h0, F, A, P, ρ, S, l, r, s, q⟩ => by
    refine ⟨h0, F, A, P, ρ, S, l, r, s, Out.post_mono (Out.post_bind q) (fun d S1 h1 v H1 F1 A1 x1 r1 d1 => ?_) fun _ _ _ z => z⟩
    obtain ⟨z, e, h3⟩ := ofO_post h1
    exact he' _ _ _ _ _ _ _ _ _ r1 d1 e (okE.ext x1 h3)
/-! statements -/
theorem dsx_set {i : Nat} {x : Str} {p' : Pos} (h0 : i ≠ 0) (hN : X.N.Nodup) (hi : X.N[i]? = some x) (he : DE X W e g) (hr : DSx X W f F0 A0 rest h) (hx : Loc X.env.scope x := by first | exact Or.inl rfl | exact Or.inr rfl) (hs : swapsWith e (some (.Name x p')) pos.line X.env = pure false := by rfl)
    (hf : X.fn x = true ∨ X.env.scope.names.lookup x = some .local := by first | exact .inl rfl | exact .inr rfl | assumption) : DSx X W f F0 A0 (.Assign [.Name x p'] e pos :: rest) (sSeq (sSet i g) h) :=
  PSs.imp (pss_cons (ps_set hN hi hx he hs hf) hr) fun D σ H ⟨z0, F, A, P, ρ, S, l, r, s, q⟩ => by
    have q' : ((g ρ S).res ρ fun d S => h (ρ.set i (some d)) S).post X.K X.mg F A P W D := by
      unfold sSeq sSet at q
      cases e1 : g ρ S with
      | ok d S1 => rw [e1] at q; exact q
      | exc C fs S1 => rw [e1] at q; exact q
      | stuck => rw [e1] at q; exact q
    exact ⟨F, A, P, ρ, S, r, s, res_post s q' fun d S1 h1 v H' F' A' x1 r1 dv => ⟨by rw [List.getElem?_set_ne h0]; exact z0, F', A', P, _, S1, l.trans x1, r1, (s.mono x1).set dv i, Res.ext x1 h1⟩⟩
theorem dsx_set1 {i : Nat} {x : Str} {p' : Pos} (hN : X.N.Nodup) (hi : X.N[i]? = some x) (he : DEx X W f F0 A0 e g) (hx : Loc X.env.scope x := by first | exact Or.inl rfl | exact Or.inr rfl) (hs : swapsWith e (some (.Name x p')) pos.line X.env = pure false := by rfl)
    (hf : X.fn x = true ∨ X.env.scope.names.lookup x = some .local := by first | exact .inl rfl | exact .inr rfl | assumption) : DSx X W f F0 A0 [.Assign [.Name x p'] e pos] (sSet i g) :=
  pss_one (PS.imp (ps_set hN hi hx he hs hf) fun D σ H ⟨z0, F, A, P, ρ, S, l, r, s, q⟩ =>
    ⟨z0, F, A, P, ρ, S, l, r, s, res_post s q fun d S1 h1 v H' F' A' x1 r1 dv => h1 _ _ _ _ x1 r1 ((s.mono x1).set dv i)⟩)
theorem dsx_expr1 (he : DEx X W f F0 A0 e g) (hs : swapsWith e none pos.line X.env = pure false := by rfl) : DSx X W f F0 A0 [.Expr e pos] (sExpr g) :=
  pss_one (PS.imp (ps_expr he hs) fun D σ H ⟨z0, F, A, P, ρ, S, l, r, s, q⟩ =>
    ⟨z0, F, A, P, ρ, S, l, r, s, res_post s q fun d S1 h1 v H' F' A' x1 r1 dv => h1 _ _ _ _ x1 r1 (s.mono x1)⟩)
theorem dsx_ret1 (he : DEx X W f F0 A0 e g) : DSx X W f F0 A0 [.Return (some e) pos] (sRet g) :=
  pss_one (PS.imp (ps_ret he) fun D σ H ⟨z0, F, A, P, ρ, S, l, r, s, q⟩ =>
    ⟨z0, F, A, P, ρ, S, l, r, s, res_post s q fun d S1 h1 v H' F' A' x1 r1 dv => h1 _ _ _ _ x1 r1 dv⟩)
theorem try_post {F A P} {hds : List ExceptHandler} {l : List Cl} {r : List Hd} {Dn : Ends} {ρ : Env'} {S : Store} (hk : ClD X hds l r) (q : (sTry h r ρ S).post X.K X.mg F A P W Dn) : (h ρ S).post X.K X.mg F A P (wCl X.K W Dn l) Dn := by
  unfold sTry at q
  cases e1 : h ρ S with
  | ex C fs ρ1 S1 =>
    rw [e1] at q
    exact fun c d σ' H' F' A' x r1 s1 hc ea => walk_ent hk r1 s1 hc ea (Res.ext x q)
  | _ => rw [e1] at q; exact q
/-- the try in which the thunk is called; behind it nobody asks -/
theorem dsx_try {k : Nat} {hds : List ExceptHandler} {h₀ : ExceptHandler} {l : List Cl} {r : List Hd} {body : List Stmt} {b : Stm} (B : Bod gf X W k) (hs : X.stack = X.env :: X.outer) (hf : X.env.frame = some X.env.locals) (hex : X.ex = []) (hk : ClD X (h₀ :: hds) l r)
    (hb : ∀ (W' : WX) (pn : List (Addr × Obj)) (xe : Value → Shared → Prop), Bod gf (X.tr pn xe) W' k → DSx (X.tr pn xe) W' f F0 A0 body b) (hr : DSs X W rest h) : DSx X W f F0 A0 (.Try body (h₀ :: hds) [] [] pos :: rest) (sSeq (sTry b r) h) :=
  PSs.imp (pss_cons (ps_tryX (tb := fun W' => tDSx f F0 A0 X.K X.mg W' b) hs hf B.nd hex B.tk (fun W' pn xe tk po => hb W' pn xe (B.tr tk po)) hk.ok) hr) fun D σ H ⟨z0, F, A, P, ρ, S, l, rp, s, q⟩ => by
    have q' : (sTry b r ρ S).post X.K X.mg F A P W { D with nx := fun σ' H' => tDS X.K X.mg W h D σ' H' } := by
      unfold sSeq at q
      cases e : sTry b r ρ S with
      | nx ρ1 S1 => rw [e] at q; exact fun σ' H' F' A' x r s' => ⟨F', A', P, ρ1, S1, r, s', Res.ext x q⟩
      | rt d S1 => rw [e] at q; exact q
      | bk ρ1 S1 => rw [e] at q; exact q
      | ct ρ1 S1 => rw [e] at q; exact q
      | ex C fs ρ1 S1 => rw [e] at q; exact q
      | stuck => rw [e] at q; exact q
    exact ⟨z0, F, A, P, ρ, S, l, rp, s, try_post hk q'⟩
/-- .. at the end -/
theorem dsx_try1 {k : Nat} {hds : List ExceptHandler} {h₀ : ExceptHandler} {l : List Cl} {r : List Hd} {body : List Stmt} {b : Stm} (B : Bod gf X W k) (hs : X.stack = X.env :: X.outer) (hf : X.env.frame = some X.env.locals) (hex : X.ex = []) (hk : ClD X (h₀ :: hds) l r)
    (hb : ∀ (W' : WX) (pn : List (Addr × Obj)) (xe : Value → Shared → Prop), Bod gf (X.tr pn xe) W' k → DSx (X.tr pn xe) W' f F0 A0 body b) : DSx X W f F0 A0 [.Try body (h₀ :: hds) [] [] pos] (sTry b r) :=
  pss_one (PS.imp (ps_tryX (tb := fun W' => tDSx f F0 A0 X.K X.mg W' b) hs hf B.nd hex B.tk (fun W' pn xe tk po => hb W' pn xe (B.tr tk po)) hk.ok) fun D σ H ⟨z0, F, A, P, ρ, S, l, rp, s, q⟩ =>
    ⟨z0, F, A, P, ρ, S, l, rp, s, try_post hk q⟩)
end
end DL
/-! defs that get a lambda, and their calls. -/
namespace DL
open PySem PySem.Spec PyProof.Rows L2 LamX
variable {gf gj : Bool}
theorem upd_comm {H : Hp} {a b : Addr} {o u : HO} (h : a ≠ b) : upd (upd H a o) b u = upd (upd H b u) a o := by
  funext c
  by_cases h1 : c = a
  · subst h1; rw [upd_ne h, upd_same, upd_same]
  · by_cases h2 : c = b
    · subst h2; rw [upd_same, upd_ne h1, upd_same]
    · rw [upd_ne h2, upd_ne h1, upd_ne h1, upd_ne h2]
/-- the table of a def whose lambdas are made -/
theorem Rep.tabNew {K : PySem.W.Frag} {mg : Str → Option Value} {F : Hp} {A : List Addr} {P H : Hp} {S : Store} {n : Nat} {y : Str} (r : Rep K mg F A S P H) (hn : S[n]? = some (.tab y)) :
    ∃ a c ps, PySem.W.tabIn K y = some (c, a) ∧ H a = some (.tbl ps) ∧ TriplesOk ps.toList ∧ (∀ (pos : Pos) (cv : Value), codeAmong pos ps.toList = some cv → ∃ d, cv = .ref d ∧ F d = some (CodeO d ((y ++ ".<locals>.") ++ "<lambda>"))) ∧
      ∀ (c' : Addr) (pos : Pos), H c' = none → Ext F A (upd F c' (CodeO c' ((y ++ ".<locals>.") ++ "<lambda>"))) A ∧
        Rep K mg (upd F c' (CodeO c' ((y ++ ".<locals>.") ++ "<lambda>"))) A S P (upd (upd H a (.tbl (ps ++ #[rawInt pos.line, rawInt pos.col, .ref c']))) c' (CodeO c' ((y ++ ".<locals>.") ++ "<lambda>"))) := by
  obtain ⟨a, c, ps, h1, h2, ht, h3, h4, h5⟩ := r.so n _ hn
  refine ⟨a, c, ps, ht, h3, h4, h5, fun c' pos hc => ?_⟩
  have ne : a ≠ c' := fun e => by rw [e, hc] at h3; cases h3
  obtain ⟨x2, r2⟩ := r.frz (o := CodeO c' ((y ++ ".<locals>.") ++ "<lambda>")) hc
  refine ⟨x2, ?_⟩
  rw [upd_comm ne]
  have e3 : S.set n (.tab y) = S := by
    obtain ⟨hl, e⟩ := List.getElem?_eq_some_iff.mp hn
    rw [← e]
    exact List.set_getElem_self hl
  have eL : (ps ++ #[rawInt pos.line, rawInt pos.col, .ref c']).toList = ps.toList ++ [rawInt pos.line, rawInt pos.col, .ref c'] := by simp
  have p := r2.put (n := n) (a := a) (so := .tab y) (o' := .tbl (ps ++ #[rawInt pos.line, rawInt pos.col, .ref c'])) h1 (by rw [upd_ne ne]; exact h2) ⟨a, c, _, h1, by rw [upd_ne ne]; exact h2, ht, upd_same, by rw [eL]; exact PySem.TriplesOk_snoc _ _ _ _ h4, fun p' cv hcv => by
    rw [eL] at hcv
    rcases among_app _ h4 hcv with z | z
    · obtain ⟨d, e1, e2⟩ := h5 p' cv z
      exact ⟨d, e1, x2.f _ _ e2⟩
    · exact ⟨c', z, upd_same⟩⟩
  rw [e3] at p
  exact p
/-- a def of one parameter that is a lambda: what it makes of the thunk -/
structure FnLG (gf : Bool) (P : Program) (w : World) (K : PySem.W.Frag) (mg : Str → Option Value) (base : Heap) (k : Nat) (f : Addr) (fd : FuncData) (a : Str) (Ng : List Str) (qg : Str) (sg : Scope) (mL : (Store → Out D) → Store → Out D) : Prop where
  N0 : Ng[0]? = some a
  vis : Vis sg a
  run : ∀ (A : Around) (outer : List Env) (s : Shared) (H : Hp) (args : Args) (fl : Addr) (Q : VK) (E : XK) (th : Store → Out D) (F0 : Hp) (A0 : List Addr) (P0 : Hp) (S0 : Store),
    Room k A → (gf = true → A.guards = some []) → Env0 P w K mg base A outer s H → BindsTo s fd args [(a, .ref fl)] → Rep K mg F0 A0 S0 P0 H → (mL th S0).post (okE K mg F0 A0 P0 Q) (exE K mg F0 A0 P0 E) →
    (∀ (cdv : Value) (W' : WX) (pn : List (Addr × Obj)) (xe : Value → Shared → Prop) (p1 p2 : Pos), Takes ((cxOf (L2.CX P w) P w K mg base Ng qg sg f cdv A outer s H E).tr pn xe) W' →
      PE ((cxOf (L2.CX P w) P w K mg base Ng qg sg f cdv A outer s H E).tr pn xe) (.Call (.Name a p1) [] [] p2) (tDx fl F0 A0 K mg W' (eAsk th))) →
    codeAny (model P w) A (.call (.ref f) args) (CR (L2.CX P w) outer P w H s Q E) s
structure FnLD (gf : Bool) (P : Program) (w : World) (K : PySem.W.Frag) (mg : Str → Option Value) (base : Heap) (x a : Str) (Ng : List Str) (qg : Str) (sg : Scope) (k : Nat) (f : Addr) (fd : FuncData) (mL : (Store → Out D) → Store → Out D) : Prop where
  fn : FnLG gf P w K mg base k f fd a Ng qg sg mL
  mg : mg x = some (.ref f)
  kp : PySem.W.keepIn K (.ref f) = true
  b : Binds K fd [a] []
def fnL (N : Nat) (body : Stm) : Store → Out D := fun S => match body (List.replicate N none) S with
  | .nx _ S => .ok .non S
  | .rt d S => .ok d S
  | .ex C fs _ S => .exc C fs S
  | _ => .stuck
section
variable {P : Program} {w : World} {K : PySem.W.Frag} {mg : Str → Option Value} {base : Heap}
theorem fnl_ok {x qual a : Str} {st : Stmt} {f : Addr} {fd : FuncData} {N : List Str} {k : Nat} {g : (Store → Out D) → Stm} (sy : ∃ mm, base.Ns sysModules mm) (F : Fun K x qual st f fd) (S : FnScope N [a] (defScope st)) (h0 : N[0]? = some a) (hv : Vis (defScope st) a)
    (hb : ∀ (cdv : Value) (A : Around) (outer : List Env) (s : Shared) (H : Hp) (E : XK) (fl : Addr) (F0 : Hp) (A0 : List Addr) (th : Store → Out D), Bod gf (cxOf (L2.CX P w) P w K mg base N qual (defScope st) f cdv A outer s H E) (fun cls d _ H => E cls d H) k →
      (∀ (W' : WX) (pn : List (Addr × Obj)) (xe : Value → Shared → Prop) (p1 p2 : Pos), Bod gf ((cxOf (L2.CX P w) P w K mg base N qual (defScope st) f cdv A outer s H E).tr pn xe) W' k →
        DEx ((cxOf (L2.CX P w) P w K mg base N qual (defScope st) f cdv A outer s H E).tr pn xe) W' fl F0 A0 (.Call (.Name a p1) [] [] p2) (eAsk th)) →
      DSx (cxOf (L2.CX P w) P w K mg base N qual (defScope st) f cdv A outer s H E) (fun cls d _ H => E cls d H) fl F0 A0 (defBody st) (g th)) :
    FnLG gf P w K mg base (k + 1) f fd a N qual (defScope st) (fun th => fnL N.length (g th)) := by
  obtain ⟨oc, od, kV, doc, pm, an, cdv, ct, osl, rfl, lk, hcd⟩ := F.ex
  refine ⟨h0, hv, ?_⟩
  intro A outer s H args fl Q E th F0 A0 P0 S0 hr hgd e0 hbd rp hq ask
  have KX : K.In s.heap := e0.mod.kin.keeps fun b o z => (e0.bs b o z).1
  refine codeAny_call_function hr.depth (KX _ _ lk) rfl S.co S.gen rfl (PySem.W.codeRec_of KX hcd) (hbd _ _ _ _ ?_)
  have kinds : ∀ y ∈ [(a, Value.ref fl)], (defScope st).names.lookup y.1 = some .local ∨
      ((defScope st).names.lookup y.1 = some .cell ∧ ((cellsFrom (s.heap.objs.size + 1) (defScope st).names []).lookup y.1).isSome = true) := by
    intro y hy
    rw [List.mem_singleton.mp hy]
    exact (S.par a (by simp)).imp id fun z => ⟨z, PySem.W.cellsFrom_some _ _ _ (.inl z)⟩
  refine wpAny_newFunctionEnv_cells S.kind kinds fun env he s1 xc => ?_
  subst he
  refine ⟨(e0.mod.nolimit.keeps fun b o z => (e0.bs b o z).1).keeps xc.toInCall.keep, codeAny_func ?_⟩
  have I : Inv (cxOf (L2.CX P w) P w K mg base N qual (defScope st) f cdv A outer s H E) [] (L2.start N [.ref fl]) H s1 := inv_start (vs := [.ref fl]) (us := [.ref fl]) S hr.hd e0 rfl (.cons rfl .nil) xc
  have B : Bod gf (cxOf (L2.CX P w) P w K mg base N qual (defScope st) f cdv A outer s H E) (fun cls d _ H => E cls d H) k := ⟨rfl, S.nd, hr.deeper _, gd_deeper _ hgd, sy, takes_of rfl rfl rfl rfl, passes_of rfl⟩
  have hl : 1 ≤ N.length := by
    have := (List.getElem?_eq_some_iff.mp h0).1
    omega
  have sl : Slots K mg F0 A0 (L2.start N [.ref fl]) (List.replicate N.length none) := by
    refine ⟨by simp [L2.start]; omega, fun i d e => ?_⟩
    rw [List.getElem?_replicate] at e
    split at e <;> cases e
  refine wpAny_mono ((hb cdv A outer s H E fl F0 A0 th B fun W' pn xe p1 p2 B' => ask cdv W' pn xe p1 p2 B'.tk).run [] s1 (L2.start N [.ref fl]) H { nx := fun _ H' => Q .non H', rt := Q } I ⟨rfl, F0, A0, P0, _, S0, Ext.refl _ _, rp, sl, ?_⟩) (fun fl s' hs => ?_) fun _ _ z => z
  · unfold fnL at hq
    cases e : g th (List.replicate N.length none) S0 with
    | nx ρ S2 => rw [e] at hq; exact fun σ' H' F2 A2 x r s => hq _ _ _ _ x r .non
    | rt d S2 => rw [e] at hq; exact hq
    | ex C fs ρ S2 => rw [e] at hq; exact fun c d σ' H' F2 A2 x r s m z => hq c d H' F2 A2 x r m z
    | bk ρ S2 => rw [e] at hq; exact hq.elim
    | ct ρ S2 => rw [e] at hq; exact hq.elim
    | stuck => rw [e] at hq; exact hq.elim
  · cases fl with
    | ret u => obtain ⟨v, _, H', J, r, q⟩ := hs; exact ⟨v, H', J.os, J.bare, J.base, J.hok, r, q⟩
    | next => obtain ⟨_, H', J, q⟩ := hs; exact ⟨.non, H', J.os, J.bare, J.base, J.hok, rfl, q⟩
    | brk => obtain ⟨_, _, _, q⟩ := hs; exact q.elim
    | cont => obtain ⟨_, _, _, q⟩ := hs; exact q.elim
theorem tab_code {K : PySem.W.Frag} {x : Str} {f c P : Addr} {oc : Value} {od : Option Addr} {fd : FuncData} {osl : Array (Option Value)} (ha : PySem.W.nsIn K mainGlobals x = some (some (.ref f))) (lk : K.lookup f = some ⟨oc, od, .func fd, osl⟩) (e : PySem.W.tabIn K x = some (c, P)) : fd.code = .ref c := by
  unfold PySem.W.tabIn at e
  simp only [ha, lk] at e
  split at e
  · rename_i d hd
    rw [hd]
    split at e
    · split at e
      · cases e; rfl
      · cases e
    · cases e
  · cases e
/-- a def that makes lambdas: its code object is known -/
theorem fn_okL {x qual : Str} {st : Stmt} {f : Addr} {fd : FuncData} {N ps : List Str} {k : Nat} {g : Stm} (sy : ∃ mm, base.Ns sysModules mm) (F : Fun K x qual st f fd) (S : FnScope N ps (defScope st)) (hn : ps.length ≤ N.length) (ha : PySem.W.nsIn K mainGlobals x = some (some (.ref f)))
    (hb : ∀ (cdv : Value) (A : Around) (outer : List Env) (s : Shared) (H : Hp) (E : XK), (∀ c P, PySem.W.tabIn K x = some (c, P) → cdv = .ref c) → Bod gf (cxOf (L2.CX P w) P w K mg base N qual (defScope st) f cdv A outer s H E) (fun cls d _ H => E cls d H) k →
      DSs (cxOf (L2.CX P w) P w K mg base N qual (defScope st) f cdv A outer s H E) (fun cls d _ H => E cls d H) (defBody st) g) :
    FnG gf P w K mg base (k + 1) f fd ps (spD K mg ps.length (fnD N.length g)) := by
  obtain ⟨oc, od, kV, doc, pm, an, cdv, ct, osl, hfd, lk, hcd⟩ := F.ex
  have hcv : ∀ c P, PySem.W.tabIn K x = some (c, P) → cdv = .ref c := fun c P e => by
    have := tab_code ha lk e
    rw [hfd] at this
    exact this
  have F2 : Fun K x qual st f fd := F
  subst hfd
  refine ⟨fun vs H Q E ⟨F, A, P', ds, S', rp, dv, hl, _⟩ => dv.length.trans hl, ?_⟩
  intro A outer s H args us vs Q E hr hgd e0 hbd rv hsp
  have KX : K.In s.heap := e0.mod.kin.keeps fun b o z => (e0.bs b o z).1
  have hlen : vs.length = ps.length := let ⟨_, _, _, _, _, _, dv, hl, _⟩ := hsp; dv.length.trans hl
  refine codeAny_call_function hr.depth (KX _ _ lk) rfl S.co S.gen rfl (PySem.W.codeRec_of KX hcd) (hbd _ _ _ _ ?_)
  have kinds : ∀ y ∈ ps.zip us, (defScope st).names.lookup y.1 = some .local ∨
      ((defScope st).names.lookup y.1 = some .cell ∧ ((cellsFrom (s.heap.objs.size + 1) (defScope st).names []).lookup y.1).isSome = true) := by
    intro y hy
    obtain ⟨n, v⟩ := y
    exact (S.par n (List.of_mem_zip hy).1).imp id fun z => ⟨z, PySem.W.cellsFrom_some _ _ _ (.inl z)⟩
  refine wpAny_newFunctionEnv_cells S.kind kinds fun env he s1 xc => ?_
  subst he
  refine ⟨(e0.mod.nolimit.keeps fun b o z => (e0.bs b o z).1).keeps xc.toInCall.keep, codeAny_func ?_⟩
  have I : Inv (cxOf (L2.CX P w) P w K mg base N qual (defScope st) f cdv A outer s H E) [] (L2.start N vs) H s1 := inv_start S hr.hd e0 hlen rv xc
  have W := hb cdv A outer s H E hcv ⟨rfl, S.nd, hr.deeper _, gd_deeper _ hgd, sy, takes_of rfl rfl rfl rfl, passes_of rfl⟩
  refine wpAny_mono (W.run [] s1 (L2.start N vs) H { nx := fun _ H' => Q .non H', rt := Q } I ?_) (fun fl s' hs => ?_) fun _ _ z => z
  · obtain ⟨F', A', P', ds, S', rp, dv, hl, q⟩ := hsp
    refine ⟨F', A', P', _, S', rp, start_slots dv (by rw [dv.length, hl]; exact hn), ?_⟩
    unfold fnD at q
    cases e : g (ds.map some ++ List.replicate (N.length - ds.length) none) S' with
    | nx ρ S2 => rw [e] at q; exact fun σ' H' F2 A2 x r s => q _ _ _ _ x r .non
    | rt d S2 => rw [e] at q; exact q
    | ex C fs ρ S2 => rw [e] at q; exact fun c d σ' H' F2 A2 x r s m z => q c d H' F2 A2 x r m z
    | bk ρ S2 => rw [e] at q; exact q.elim
    | ct ρ S2 => rw [e] at q; exact q.elim
    | stuck => rw [e] at q; exact q.elim
  · cases fl with
    | ret u => obtain ⟨v, _, H', J, r, q⟩ := hs; exact ⟨v, H', J.os, J.bare, J.base, J.hok, r, q⟩
    | next => obtain ⟨_, H', J, q⟩ := hs; exact ⟨.non, H', J.os, J.bare, J.base, J.hok, rfl, q⟩
    | brk => obtain ⟨_, _, _, q⟩ := hs; exact q.elim
    | cont => obtain ⟨_, _, _, q⟩ := hs; exact q.elim
end
/-- x(lambda: e): what the def x makes of the thunk; y: the def that makes the lambda, n: its table's place in the store -/
def eLam (n : Nat) (y : Str) (mL : (Store → Out D) → Store → Out D) (fb : Ev D) : Ev D := fun ρ S => match S[n]? with
  | some (.tab z) => if z = y then mL (fun S' => fb ρ S') S else .stuck
  | _ => .stuck
def TabM (K : PySem.W.Frag) (mg : Str → Option Value) (base : Heap) (y : Str) : Prop := ∀ c P, PySem.W.tabIn K y = some (c, P) → TabB base mg c P
section
variable {X : Cx} {W : WX} {k j kb n : Nat} {x a : Str} {y : Str} {g : Addr} {fd : FuncData} {Ng : List Str} {qg : Str} {sg : Scope} {mL : (Store → Out D) → Store → Out D} {fb : Ev D} {params : Arguments} {body : Expr} {scope : Scope} {p lpos pos : Pos}
theorem de_lam (B : Bod gf X W k) (C : FnLD gj X.prog X.w X.K X.mg X.base x a Ng qg sg j g fd mL) (n : Nat) (kb : Nat) (hj : j ≤ k) (hkb : kb + 2 ≤ k) (hg : Gl X x) (TB : TabM X.K X.mg X.base y) (hcode : ∀ c P, PySem.W.tabIn X.K y = some (c, P) → X.env.code = .ref c) (hq : X.env.qual = y ++ ".<locals>.") (L : LamS X.env.scope scope)
    (hbody : ∀ (A : Around) (outer : List Env) (s : Shared) (H : Hp) (E : XK) (f c' : Addr), Bod gf (lamCx X A outer s H E scope f c') (fun cls d _ H => E cls d H) kb → DE (lamCx X A outer s H E scope f c') (fun cls d _ H => E cls d H) body fb)
    (hdef : defaultsOf params X.env = ([], []) := by rfl) (hbind : ∀ (q : Str) (cl : List (Str × Addr)) (pm cv ctv : Value), bindArgs (PySem.W.kla_fn "<lambda>" q params body scope cl pm cv ctv) ⟨[], []⟩ = pure [] := by intros; rfl)
    (hdb : (x == ("__debug__" : Str)) = false := by decide) (hd : (a == ("__debug__" : Str)) = false := by decide) (hcd : (a == ("__classdict__" : Str)) = false := by decide) (hgf : gj = true → gf = true := by decide) :
    DE X W (.Call (.Name x p) [.Lambda params body scope lpos] [] pos) (eLam n y mL fb) := by
  refine ⟨fun pins s σ H Q I ⟨F, A, P, ρ, S, rp, sl, q⟩ => ?_⟩
  unfold eLam at q
  split at q
  · rename_i z hz
    split at q
    · rename_i ez
      subst ez
      obtain ⟨P0, c0, ps, ht, hP, htr, hall, hnew⟩ := rp.tabNew hz
      refine wpAny_Call_Name_kw (ld_glob I hg C.mg ?_ hdb)
      refine PySem.W.callWith_K (h₀ := X.base) I.ok.mod.kin C.kp ?_ (by rfl) (by rfl)
      show wpAny _ _ (spliced ((false, eval (.Lambda params body scope lpos) X.env) :: backTo pos (starEach [] X.env))) _ _ s
      have hqz : (X.env.qual : Str) ++ "<lambda>" = (z ++ ".<locals>.") ++ "<lambda>" := by rw [hq]
      refine Calls.spliced_cons (lam_makeX (ps := ps) I (TB c0 P0 ht) (hcode c0 P0 ht) hP htr (fun ps' cv e => by obtain ⟨d, e1, e2⟩ := hall ps' cv e; exact ⟨d, e1, by rw [hqz]; exact rp.le _ _ e2⟩) hdef (L.has I.ok) fun f c' pm ctv H1 s' I1 hH1 hf hfn hfr hco => ?_)
      refine Calls.spliced_nil ⟨I1.kIn, ?_⟩
      -- the store as it stands now
      obtain ⟨F1, x1, r1, hc1⟩ : ∃ F1, Ext F A F1 A ∧ Rep X.K X.mg F1 A S P H1 ∧ F1 c' = some (CodeO c' ((z ++ ".<locals>.") ++ "<lambda>")) := by
        rcases hH1 with ⟨e, ps', hc'⟩ | ⟨e1, e2⟩
        · subst e
          obtain ⟨d, e1, e2⟩ := hall ps' _ hc'
          cases e1
          exact ⟨F, Ext.refl _ _, rp, e2⟩
        · obtain ⟨x2, r2⟩ := hnew c' lpos e1
          refine ⟨_, x2, ?_, upd_same⟩
          rw [e2, hqz]
          exact r2
      have q1 := post_okE x1 q
      have rc : codeAny (model X.prog X.w) X.A (.call (.ref g) ⟨[.ref f], []⟩) (CR (L2.CX X.prog X.w) X.stack X.prog X.w H1 s' Q (WE W σ)) s' := by
        refine C.fn.run X.A X.stack s' H1 _ f Q (WE W σ) (fun S' => fb ρ S') F1 A P S (B.room.mono hj) (fun h => B.gd (hgf h)) I1.env0 ?_ r1 q1 fun cdv W' pn xe p1 p2 tk => ?_
        · exact C.b s' [.ref f] I1.kIn rfl
        · refine PE.imp (pe_ask (k := kb) (tb := fun E => tD X.K X.mg (fun cls d _ H => E cls d H) fb) I1 L hf hfn hfr (hbind _ _ _ _ _) tk ((B.room.mono hkb).deeper _) (fun A' outer' s2 H2 E' hA hr2 => ?_) C.fn.N0 C.fn.vis hd hcd) fun σZ HZ Q' ⟨h0, F2, A2, P2, ρZ, S2, l2, rp2, _, q2⟩ => ?_
          · exact hbody A' outer' s2 H2 E' f c' ⟨rfl, B.nd, hr2, fun h => (show A'.guards = some [] from hA.trans (B.gd h)), B.sy, takes_of rfl rfl rfl rfl, passes_of rfl⟩
          · refine ⟨h0, ?_, F2, A2, P2, ρ, S2, rp2, (sl.mono x1).mono l2, q2⟩
            rw [hqz]
            exact rp2.le _ _ (l2.f _ _ hc1)
      refine wpAny_call (codeAny_mono rc fun r s2 hq => ?_)
      cases r with
      | error e => exact passAt B.tk σ pins H1 s' e s2 I1 hq
      | ok fl =>
        cases fl with
        | ret u => exact I1.after hq
        | next => exact False.elim hq
        | brk => exact False.elim hq
        | cont => exact False.elim hq
    · exact q.elim
  · exact q.elim
end
end DL
/-! the head and the end where defs make lambdas: the tables of their code objects are empty at first. -/
namespace HB
open PySem PySem.Spec PyProof.Rows L2 He
def isTabO : Option Obj → Bool
  | some ⟨.none, _, .fields _, _⟩ => true
  | _ => false
def asRT (g : Addr → Option Obj) (n : Nat) : List Addr := (asR g n).filter fun a => !isTabO (g a)
def tabA (K : PySem.W.Frag) (y : Str) : Addr := match PySem.W.tabIn K y with
  | some (_, P) => P
  | none => 0
def tabB (K : PySem.W.Frag) (y : Str) : Bool := match PySem.W.tabIn K y with
  | some (c, P) => PySem.W.codeHdIn K c P && (K.lookup P).isNone
  | none => false
abbrev AlT : Type := Al × Bool × List (Option Obj)
def obsKT (ex : List (List (PySem.W.Frag → Bool))) (fn : List FnO) (ys : List Str) (g : Addr → Option Obj) (K : PySem.W.Frag) : AlT := (obsK ex fn K, ys.all (tabB K) && decide ((ys.map (tabA K)).Nodup), ys.map fun y => g (tabA K y))
def valKT (fn : List FnO) (ys : List Str) : AlT := (valK fn, true, ys.map fun _ => some (PySem.W.tabObj #[]))
def obsRT (n : Nat) (ex : List (List (PySem.W.Frag → Bool))) (fn : List FnO) (ys : List Str) (g : Addr → Option Obj) : AlT := obsKT ex fn ys g (frG g (asRT g n))
/-- what is known of the tables -/
structure TabK (K : PySem.W.Frag) (h : Heap) (ys : List Str) : Prop where
  nd : (ys.map (tabA K)).Nodup
  at_ : ∀ y ∈ ys, ∃ c, PySem.W.tabIn K y = some (c, tabA K y) ∧ PySem.W.codeHdIn K c (tabA K y) = true ∧ K.lookup (tabA K y) = none ∧ h.get? (tabA K y) = some (PySem.W.tabObj #[])
def hookT (n : Nat) (ex : List (List (PySem.W.Frag → Bool))) (fn : List FnO) (ys : List Str) : PySem.W.Hook where
  α := AlT
  obs := fun s => obsRT n ex fn ys s.heap.get?
  val := fun _ => valKT fn ys
  says := fun _ h => ∃ K : PySem.W.Frag, K.In h ∧ Says ex fn K ∧ TabK K h ys
  of := fun _ s e => by
    have e1 : obsK ex fn (frG s.heap.get? (asRT s.heap.get? n)) = valK fn := congrArg (fun z : AlT => z.1) e
    have e2 : (ys.all (tabB (frG s.heap.get? (asRT s.heap.get? n))) && decide ((ys.map (tabA (frG s.heap.get? (asRT s.heap.get? n)))).Nodup)) = true := congrArg (fun z : AlT => z.2.1) e
    have e3 : (ys.map fun y => s.heap.get? (tabA (frG s.heap.get? (asRT s.heap.get? n)) y)) = ys.map fun _ => some (PySem.W.tabObj #[]) := congrArg (fun z : AlT => z.2.2) e
    rw [Bool.and_eq_true, List.all_eq_true, decide_eq_true_eq] at e2
    refine ⟨_, frG_in, e1, e2.2, fun y hy => ?_⟩
    have b := e2.1 y hy
    have g := List.map_inj_left.mp e3 y hy
    unfold tabB at b
    unfold tabA at g ⊢
    split at b
    · rename_i c P ht
      rw [ht] at g ⊢
      rw [Bool.and_eq_true] at b
      exact ⟨c, rfl, b.1, Option.isNone_iff_eq_none.mp b.2, g⟩
    · cases b
  keeps := fun _ _ _ ⟨K, hK, c, t⟩ k => ⟨K, PySem.W.Frag.In.keeps hK k, c, t.nd, fun y hy => let ⟨c, a1, a2, a3, a4⟩ := t.at_ y hy; ⟨c, a1, a2, a3, k _ _ a4⟩⟩
theorem obsT_eq {n : Nat} {ex : List (List (PySem.W.Frag → Bool))} {fn : List FnO} {ys : List Str} {g : Addr → Option Obj} {s : Shared} (h : ∀ a, g a = s.heap.get? a) : obsRT n ex fn ys g = (hookT n ex fn ys).obs s := by
  have e : g = s.heap.get? := funext h
  rw [e] <;> rfl
end HB
namespace DL
open PySem PySem.Spec PyProof.Rows L2 LamX
variable {gf gj : Bool}
/-- a law with tables answers True at every script of at most n ints -/
def GoodT (n : Nat) (ys : List Str) (m : Fn) : Prop := ∀ ns : List Int, ns.length ≤ n → ∃ S', m [.rd (ns.map .int)] (ys.map .tab) = .ok (.bl true) S'
section
variable {P : Program} {w : World} {K : PySem.W.Frag} {mg mb : Str → Option Value} {k : Nat} {fa a : Addr} {fd : FuncData} {x : Str} {m : Fn} {s1 : Shared} {vs : List Value} {ns : List Int} {ys : List Str}
theorem law_runT (KX : K.In s1.heap) (T : HB.TabK K s1.heap ys) (hns : s1.heap.Ns mainGlobals mg) (hb : s1.heap.Ns builtinsNs mb) (hbb : ∀ y : Str, y ≠ "__name__" → mb y = bootBuiltins y) (hlim : s1.heap.NoLimit) (sy : ∃ mm, s1.heap.Ns sysModules mm) (hg : s1.gens = #[])
    (hbm : ∃ (bm : Addr) (ob : Obj), mg "__builtins__" = some (.ref bm) ∧ bm ≠ builtinsNs ∧ s1.heap.get? bm = some ob ∧ ob.cls = .type "module" ∧ ob.dict = some builtinsNs ∧ ob.data = .plain)
    (ha : s1.heap.get? a = some { cls := .type "list", data := .seq vs.toArray }) (hi : IntsAre vs ns) (hl : ns.length ≤ sizeLine) (hr : Room k callerA)
    (F : ∀ base : Heap, K.In base → base.Ns mainGlobals mg → (∃ mm, base.Ns sysModules mm) → (∀ y ∈ ys, TabM K mg base y) → FnG gf P w K mg base k fa fd [x] (spD K mg 1 m)) (hbind : ∀ (s : Shared) (u : Value), BindsTo s fd ⟨[u], []⟩ [(x, u)])
    (hm : ∃ S', m [.rd (ns.map .int)] (ys.map .tab) = .ok (.bl true) S') :
    codeAny (model P w) callerA (.call (.ref fa) ⟨[.ref a], []⟩) (fun r s' => r = .ok (.ret (.bool true)) ∧ OldK s1.heap s'.heap ∧ s'.os = s1.os ∧ AllBare s'.gens) s1 := by
  obtain ⟨S', hm⟩ := hm
  obtain ⟨ts, hts⟩ : ∃ ts, ts = ys.map (HB.tabA K) := ⟨_, rfl⟩
  have isT : ∀ b ∈ ts, s1.heap.get? b = some (PySem.W.tabObj #[]) ∧ K.lookup b = none ∧ ∃ y ∈ ys, b = HB.tabA K y := fun b hb => by
    rw [hts] at hb
    obtain ⟨y, hy, rfl⟩ := List.mem_map.mp hb
    obtain ⟨c, _, _, a3, a4⟩ := T.at_ y hy
    exact ⟨a4, a3, y, hy, rfl⟩
  have aT : a ∉ ts := fun z => by
    have q := (isT a z).1
    rw [ha] at q
    cases q
  have main : ∀ H : Hp, (∀ b u, H b = some u → (b = a ∧ K.lookup a = none ∧ ∃ o xs, u = .frz o (.lst xs)) ∨ (b ∈ ts ∧ u = .tbl #[])) → (∀ b ∈ ts, H b = some (.tbl #[])) → SqL K H a (ns.map V.int) → HOk P w H s1.heap →
      codeAny (model P w) callerA (.call (.ref fa) ⟨[.ref a], []⟩) (fun r s' => r = .ok (.ret (.bool true)) ∧ OldK s1.heap s'.heap ∧ s'.os = s1.os ∧ AllBare s'.gens) s1 := by
    intro H only hH hS hok
    have none_of : ∀ {b : Addr}, (∀ u, H b ≠ some u) → H b = none := fun {b} z => by
      cases q : H b with
      | none => rfl
      | some u => exact absurd q (z u)
    have noD : ∀ {b : Addr} {o : Obj}, s1.heap.get? b = some o → (∀ vs n, o.data ≠ .seq vs n) → o.data ≠ .fields #[] → H b = none := fun {b o} e h1 h2 => none_of fun u q => by
      rcases only b u q with ⟨rfl, _⟩ | ⟨hb, _⟩
      · rw [ha] at e; cases e; exact h1 _ _ rfl
      · rw [(isT b hb).1] at e; cases e; exact h2 rfl
    have nsB : ∀ {b : Addr} {f : Str → Option Value}, s1.heap.Ns b f → (hidT s1.heap H).Ns b f := by
      rintro b f ⟨o, es, ep, e, d, r⟩
      exact ⟨o, es, ep, hidT_get e (noD e (fun vs n z => by rw [d] at z; cases z) (fun z => by rw [d] at z; cases z)), d, r⟩
    have inB : K.In (hidT s1.heap H) := fun b o e => hidT_get (KX b o e) (none_of fun u q => by
      rcases only b u q with ⟨rfl, z, _⟩ | ⟨hb, _⟩
      · rw [z] at e; cases e
      · rw [(isT b hb).2.1] at e; cases e)
    have M : Mod K mg (hidT s1.heap H) := ⟨inB, nsB hns, ⟨mb, nsB hb, hbb⟩, by obtain ⟨mc, h1, h2⟩ := hlim; exact ⟨mc, nsB h1, h2⟩⟩
    have syB : ∃ mm, (hidT s1.heap H).Ns sysModules mm := by obtain ⟨mm, h⟩ := sy; exact ⟨mm, nsB h⟩
    have TB : ∀ y ∈ ys, TabM K mg (hidT s1.heap H) y := fun y hy c P e => by
      obtain ⟨c2, a1, a2, a3, a4⟩ := T.at_ y hy
      rw [a1] at e
      cases e
      refine ⟨PySem.W.codeHd_of_K inB a2, ?_, fun z => ?_⟩
      · obtain ⟨bm, ob, b1, b2, b3, b4, b5, b6⟩ := hbm
        have nG : bm ≠ mainGlobals := fun q => by
          obtain ⟨o, es, ep, e, hd, _⟩ := hns
          rw [q, e] at b3
          cases b3
          rw [hd] at b6
          cases b6
        refine ⟨bm, ob, b1, b2, nG, fun q => ?_, hidT_get b3 (noD b3 (fun vs n z => by rw [b6] at z; cases z) fun z => by rw [b6] at z; cases z), b4, b5, b6⟩
        rw [q, a4] at b3
        cases b3
        cases b6
      · obtain ⟨o, es, ep, e, hd, _⟩ := hns
        rw [z, a4] at e
        cases e
        cases hd
    have e0 : Env0 P w K mg (hidT s1.heap H) callerA [] s1 H := { frames := rfl, mod := M, bs := fun b o e => of_hidT e, bsz := Nat.le_of_eq (hidT_size _ _), funs := trivial, frf := fun b z => by simp [frs] at z, hok := hok, bare := .of_eq hg }
    have hF0 : ∀ b, b ∈ ts → (if b = a then H b else none) = none := fun b hb => if_neg fun (e : b = a) => aT (e ▸ hb)
    have spec : spD K mg 1 m [.ref a] H (fun v _ => v = .bl true) fun _ _ _ => False := by
      have rep : Rep K mg (fun b => if b = a then H b else none) ts (ys.map .tab) (fun _ => none) H := by
        refine ⟨fun b u z => ?_, (fun b o z => by cases z), (fun b o z => by cases z), fun b _ => rfl, by rw [hts, List.length_map, List.length_map], by rw [hts]; exact T.nd, fun b hb => ⟨_, hH b hb⟩, fun i so z => ?_⟩
        · split at z
          · exact z
          · cases z
        · rw [List.getElem?_map] at z
          cases q : ys[i]? with
          | none => rw [q] at z; cases z
          | some y =>
            rw [q] at z
            cases z
            obtain ⟨c, a1, _, _, _⟩ := T.at_ y (List.mem_of_getElem? q)
            have hm : HB.tabA K y ∈ ts := by rw [hts]; exact List.mem_map.mpr ⟨y, List.mem_of_getElem? q, rfl⟩
            exact ⟨HB.tabA K y, c, #[], by rw [hts, List.getElem?_map, q]; rfl, hF0 _ hm, a1, hH _ hm, True.intro, fun pos cv e => by have e : codeAmong pos [] = some cv := e; simp [codeAmong] at e⟩
      refine ⟨_, ts, (fun _ => none), [.rd (ns.map .int)], ys.map .tab, rep, .cons (.rd ?_ (Dats.ints ns)) .nil, rfl, ?_⟩
      · rcases hS with (z | ⟨o, z⟩) | z
        · exact .inl (.inl (by show (if a = a then H a else none) = _; rw [if_pos rfl]; exact z))
        · exact .inl (.inr ⟨o, by show (if a = a then H a else none) = _; rw [if_pos rfl]; exact z⟩)
        · exact .inr z
      · rw [hm]
        intro v H' F' A' _ _ dv
        cases dv
        rfl
    refine codeAny_mono ((F _ inB (nsB hns) syB TB).run callerA [] s1 H ⟨[.ref a], []⟩ [.ref a] [.ref a] _ _ hr (fun _ => rfl) e0 (hbind s1 (.ref a)) (.cons rfl .nil) spec) fun r s' h => ?_
    cases r with
    | error e =>
      obtain ⟨_, _, _, _, _, _, _, _, _, _, _, _, z⟩ := h
      exact z.elim
    | ok fl =>
      cases fl with
      | ret u =>
        obtain ⟨v, H', os, bare, un, hok', r', q⟩ := h
        have q : v = .bl true := q
        subst q
        cases (show u = Value.bool true from r')
        have key : ∀ b o, b ∉ ts → s1.heap.get? b = some o → s'.heap.get? b = some o := fun b o nb e => by
          cases q : H b with
          | none => exact un.keep b o e q (by simp [frs]) (by simp)
          | some u =>
            rcases only b u q with ⟨_, _, ob, xs, rfl⟩ | ⟨hb, _⟩
            · have z1 := (hok b _ q).1
              have z2 := (hok' b _ (un.frzs b ob _ q)).1
              rw [e] at z1
              rw [z2, ← z1]
            · exact absurd hb nb
        have grown : ∀ b ∈ ts, ∃ more : Array Value, s'.heap.get? b = some { cls := .none, data := .fields more } := fun b hb => by
          obtain ⟨more, z⟩ := un.tbls b #[] (hH b hb)
          exact ⟨_, hok' b _ z⟩
        refine ⟨rfl, ⟨fun b o e => ?_, fun b o e => ?_⟩, os, bare⟩
        · by_cases hb : b ∈ ts
          · obtain ⟨more, hm⟩ := grown b hb
            obtain ⟨e1, _, y, hy, ey⟩ := isT b hb
            obtain ⟨c, a1, a2, a3, a4⟩ := T.at_ y hy
            rw [e1] at e
            cases e
            rw [← ey] at a2 a4
            exact .inr (.inl ⟨((PySem.W.codeHd_of_K KX a2).tab a4).isCodeTable, rfl, #[], more, rfl, by rw [Array.empty_append]; exact hm⟩)
          · exact .inl (key b o hb e)
        · by_cases hb : b ∈ ts
          · obtain ⟨more, hm⟩ := grown b hb
            exact ⟨_, hm⟩
          · exact ⟨o, key b o hb e⟩
      | next => exact h.elim
      | brk => exact h.elim
      | cont => exact h.elim
  have tabOk : ∀ b ∈ ts, ObjOk P w (fun b => if b ∈ ts then some (.tbl #[]) else none) s1.heap b (.tbl #[]) := fun b hb => (isT b hb).1
  cases hk : K.lookup a with
  | some o =>
    have e := KX a o hk
    rw [ha] at e
    cases e
    have at_t : ∀ {b : Addr} {u : HO}, (if b ∈ ts then some (HO.tbl #[]) else none) = some u → b ∈ ts ∧ u = .tbl #[] := fun {b u} z => by
      split at z
      · rename_i h; cases z; exact ⟨h, rfl⟩
      · cases z
    refine main (fun b => if b ∈ ts then some (.tbl #[]) else none) (fun b u z => .inr (at_t z)) (fun b hb => if_pos hb) (.inr ⟨_, vs.toArray, _, hk, rfl, rfl, rfl, by rw [List.size_toArray, hi.length]; exact hl, by simpa using vals_ints hi⟩) fun b u z => ?_
    obtain ⟨hb, rfl⟩ := at_t z
    exact (isT b hb).1
  | none =>
    have at_a : ∀ {b : Addr} {u : HO}, (if b = a then some (HO.frz { cls := .type "list", data := .seq vs.toArray } (.lst (ns.map V.int))) else if b ∈ ts then some (.tbl #[]) else none) = some u → (b = a ∧ u = .frz { cls := .type "list", data := .seq vs.toArray } (.lst (ns.map V.int))) ∨ (b ∈ ts ∧ u = .tbl #[]) := fun {b u} z => by
      split at z
      · rename_i e; cases z; exact .inl ⟨e, rfl⟩
      · split at z
        · rename_i h; cases z; exact .inr ⟨h, rfl⟩
        · cases z
    refine main (fun b => if b = a then some (.frz { cls := .type "list", data := .seq vs.toArray } (.lst (ns.map V.int))) else if b ∈ ts then some (.tbl #[]) else none) (fun b u z => ?_) (fun b hb => ?_) (.inl (.inr ⟨_, if_pos rfl⟩)) fun b u z => ?_
    · rcases at_a z with ⟨e1, e2⟩ | e
      · exact .inl ⟨e1, hk, _, _, e2⟩
      · exact .inr e
    · show (if b = a then _ else _) = _
      rw [if_neg (fun (e : b = a) => aT (e ▸ hb)), if_pos hb]
    · rcases at_a z with ⟨rfl, rfl⟩ | ⟨hb, rfl⟩
      · exact ⟨ha, by rw [List.length_map]; exact hl, vs, _, vals_ints hi, ha⟩
      · exact (isT b hb).1
end
/-- the goal that such a head leaves -/
theorem law_endT {gf : Bool} {ys : List Str} {l : PySem.W.OpenLaw} {n k : Nat} {q : Program} {loose : List Str} {XP : (Str → Option Value) → Heap → Prop} {YP : World → Heap → Prop} {d : DefRec} {x : Str} {m : Fn}
    (hn : l.most = some n) (hn2 : n ≤ sizeLine) (hdf : d.params.defaults = []) (hr : Room k callerA) (himp : importsNone q = true)
    (F : ∀ (w : World) (mg : Str → Option Value) (fa : Addr) (h : Heap), YP w h → h.Ns mainGlobals mg → mg d.name = some (.ref fa) →
      ∃ K : PySem.W.Frag, K.In h ∧ HB.TabK K h ys ∧ ∃ fd : FuncData, (∀ (s : Shared) (u : Value), BindsTo s fd ⟨[u], []⟩ [(x, u)]) ∧
        ∀ base : Heap, K.In base → base.Ns mainGlobals mg → (∃ mm, base.Ns sysModules mm) → (∀ y ∈ ys, TabM K mg base y) → FnG gf l.prog w K mg base k fa fd [x] (spD K mg 1 m))
    (hm : GoodT n ys m) : PySem.W.WalkO q loose XP YP l.row.toRowW d [] (fun f vs => PySem.call f vs) := by
  refine Att.attach_call hn hdf fun w s0 s1 mg mb fa o pm cd doc a vs ns G Y ho hd hcd hmg hobj hints hlen hg => ?_
  obtain ⟨K, KX, T, fd, hb, hF⟩ := F w mg fa _ Y G.T.g hmg
  obtain ⟨mm, h1, _⟩ := (G.T.seer himp).mods
  exact law_runT KX T G.T.g G.T.b G.T.builtins G.T.nolimit ⟨mm, h1⟩ hg G.T.bmain hobj hints (Nat.le_trans hlen hn2) hr hF hb (hm ns hlen)
end DL
/-! a, *b = a list -/
namespace DL
open PySem PySem.Spec PyProof.Rows L2
/-- the first items, the rest as a new list; no name behind the star -/
theorem unp_star {prog : Program} {w : World} {A : Around} {E : Value → Shared → Prop} {s : Shared} {l : Addr} {items : Array Value} {i : Nat} {Q : List Value → Shared → Prop} (hl : s.heap.IsList l items) (hh : A.handled = none) (hi : i ≤ items.size) (hz : items.size ≤ sizeLine)
    (h : ∀ (h' : Heap) (tk : Tok), (∀ b o, s.heap.get? b = some o → h'.get? b = some o) → Q (items.toList.take i ++ [.ref h'.objs.size]) { s with heap := h'.push { cls := .type "list", data := .seq (items.toList.drop i).toArray }, toks := tk }) :
    wpAny (model prog w) A (unpackItems (.ref l) (i + 1) (some i)) Q E s := by
  have lt : l < s.heap.objs.size := let ⟨o, ho, _⟩ := hl; Heap.lt_size ho
  have ne : l ≠ s.heap.objs.size := Nat.ne_of_lt lt
  have lenF : (items.toList.take i).length = i := by rw [List.length_take, Array.length_toList]; omega
  have lenR : (items.toList.drop i).length = items.size - i := by rw [List.length_drop, Array.length_toList]
  unfold unpackItems notIterableAtAll
  refine wpAny_bind (wpAny_bind (wpAny_specialOf hl.typeIs slot_list_iter.lookup (wpAny_pure ?_)))
  simp only [Bool.false_eq_true, if_false]
  refine wpAny_bind (wpAny_holding (wpAny_pyIter_list hl (wpAny_bind (wpAny_holding (PySem.W.kun_draw ne i 0 _ _ ⟨_, Heap.get?_push_size _ rfl, rfl, rfl⟩ (hl.push _) (by omega) fun h₁ hit₁ hs₁ => ?_)))))
  have hl₁ : h₁.IsList l items := (hl.push _).extBut hs₁.extBut ne
  rw [Nat.zero_add] at hit₁
  obtain ⟨oi, hoi, _⟩ := id hit₁
  obtain ⟨ol, hol, _⟩ := id hl₁
  rw [List.drop_zero, if_neg (show ¬ ((items.toList.take i).length < i) by omega)]
  refine wpAny_bind (wpAny_holding (PySem.W.kun_collect (s := { s with heap := h₁ }) (T := "list_iterator") (.inr (.inr (.inl rfl))) (Walks.list (A := A.in1) hh s.heap.objs.size l ne items) (fun j u st => st.1.typeIs) (k := i) hi ⟨hit₁, hl₁⟩ (Heap.lt_size hoi) (Heap.lt_size hol) (fun h₂ tk hk => ?_) hz))
  show wpAny _ _ (if (items.toList.drop i).length < i + 1 - 1 - i then _ else _) _ _ _
  rw [if_neg (by omega)]
  show wpAny _ _ (newList ((items.toList.drop i).take ((items.toList.drop i).length - (i + 1 - 1 - i))) >>= fun d => pure (items.toList.take i ++ [d] ++ (items.toList.drop i).drop ((items.toList.drop i).length - (i + 1 - 1 - i)))) _ _ _
  have e0 : (items.toList.drop i).length - (i + 1 - 1 - i) = (items.toList.drop i).length := by omega
  rw [e0, List.take_length, List.drop_length]
  have keep : ∀ b o, s.heap.get? b = some o → h₂.get? b = some o := fun b o e => by
    have nb : b ≠ s.heap.objs.size := Nat.ne_of_lt (Heap.lt_size e)
    exact hk b o nb (hs₁.extBut b o nb (Heap.get?_push_of_some _ e))
  refine wpAny_bind (wpAny_newList (s := { s with heap := h₂, toks := tk }) (wpAny_pure ?_) (by omega))
  rw [List.append_nil]
  exact h h₂ tk keep
def gStarL (K : PySem.W.Frag) (i : Nat) (t : TGs) : TG := fun v σ H Q => ∃ a xs, v = .ref a ∧ SqL K H a xs ∧ i ≤ xs.length ∧ ∀ p, H p = none → t (xs.take i ++ [.ref p]) σ (upd H p (.lst (xs.drop i))) Q
theorem pg_starL {X : Cx} {es : List Expr} {pos : Pos} {k i : Nat} {t : TGs} (hc : X.calm = true) (h : PGs X es t) (hn : (assignEach es X.env).length = i + 1) (hst : (assignEach es X.env).findIdx? (·.1) = some i) : PG X (.Tuple es k pos) (gStarL X.K i t) := by
  refine ⟨fun pins s σ H v u Q I r hw => ?_⟩
  obtain ⟨a, xs, rfl, hq, hl, hw⟩ := hw
  cases r
  obtain ⟨its, rv, pl, hz⟩ := I.list hq
  rw [PyProof.Rows.assign_Tuple]
  refine wpAny_bind (wpAny_standAt ?_)
  unfold unpack
  rw [hn, hst]
  have hsz : i ≤ its.toArray.size := by simp only [List.size_toArray]; rw [← rv.length]; exact hl
  refine wpAny_bind (wpAny_holding (unp_star pl.isList (I.ok.hd hc) hsz (by simp only [List.size_toArray]; rw [← rv.length]; exact hz) fun h' tk keep => ?_))
  have none0 : s.heap.get? h'.objs.size = none := by
    cases e : s.heap.get? h'.objs.size with
    | none => rfl
    | some o => exact absurd (Heap.lt_size (keep _ _ e)) (Nat.lt_irrefl _)
  have noneH : H h'.objs.size = none := by
    cases e : H h'.objs.size with
    | none => rfl
    | some o =>
      obtain ⟨u, z⟩ := objOk_get (I.hok _ _ e)
      rw [none0] at z; cases z
  have J : Inv X pins σ (upd H h'.objs.size (.lst (xs.drop i))) { s with heap := h'.push { cls := .type "list", data := .seq (its.drop i).toArray }, toks := tk } := by
    refine I.laidN (fun b u e => Heap.get?_push_of_some _ (keep b u e)) none0 noneH ⟨?_, _, _, rv.drop i, Heap.get?_push_size _ rfl⟩
    rw [List.length_drop]
    exact Nat.le_trans (Nat.sub_le _ _) hz
  have hv : Vals (xs.take i ++ [.ref h'.objs.size]) (its.take i ++ [.ref h'.objs.size]) := by
    exact (rv.take i).append (.cons rfl .nil)
  exact h.run pins _ σ _ _ _ Q J hv (hw _ noneH)
/-- a, .., *z = a list: the rest is a new (frozen) list -/
def gnStarL (i : Nat) (h : Tgs) : Tg := fun d ρ => match d with
  | .list ds => if i ≤ ds.length then h (ds.take i ++ [.list (ds.drop i)]) ρ else none
  | _ => none
theorem dgs_star {X : Cx} {e : Expr} {h : Tgs} {pos : Pos} (h1 : PGs X [e] (tDGs X.K X.mg h)) (hs : (assignEach [.Starred e pos] X.env).map (·.2) = (assignEach [e] X.env).map (·.2) := by rfl) : PGs X [.Starred e pos] (tDGs X.K X.mg h) :=
  ⟨fun pins s σ H vs us Q I r hw => by rw [hs]; exact h1.run pins s σ H vs us Q I r hw⟩
theorem ds_star {X : Cx} {W : WX} {e : Expr} {f : Ev D} {es : List Expr} {pos pos2 : Pos} {h : Tgs} {k i : Nat} (hc : X.calm = true) (he : DE X W e f) (h1 : PGs X es (tDGs X.K X.mg h)) (hn : (assignEach es X.env).length = i + 1 := by rfl) (hst : (assignEach es X.env).findIdx? (·.1) = some i := by rfl)
    (hs : swapsWithSole [.Tuple es k pos] e pos2.line X.env = pure false := by rfl) (hw : swappedStores [.Tuple es k pos] e X.env = pure none := by rfl) (h2 : (assignEach [.Tuple es k pos] X.env).map (·.2) = [assign (.Tuple es k pos) X.env] := by rfl) :
    DS X W (.Assign [.Tuple es k pos] e pos2) (sAsg (gnStarL i h) f) :=
  PS.imp (ps_asg he (pg_starL hc h1 hn hst) hs hw h2) fun D σ H ⟨F, A, P, ρ, S, rp, s, q⟩ => ⟨F, A, P, ρ, S, rp, s, res_post s q fun d S1 z v H' F' A' x r dv => by
    split at z
    · rename_i ρ' e
      unfold gnStarL at e
      split at e
      · split at e
        · rename_i hl
          obtain ⟨a, vs, rfl, h1, h2⟩ := itemsR_at r dv (show itemsR S1 (.list _) = some _ from rfl)
          refine ⟨a, vs, rfl, h1, by rw [h2.length]; exact hl, fun p hp => ?_⟩
          obtain ⟨x2, r2⟩ := r.frz (o := .lst (vs.drop i)) hp
          exact ⟨_, A', P, ρ, S1, _, r2, (s.mono x).mono x2, ((h2.take i).mono x2).append (.cons (.list upd_same ((h2.drop i).mono x2)) .nil), _, e, fun σ' s' => z _ _ _ _ (x.trans x2) r2 s'⟩
        · cases e
      · cases e
    · exact z.elim⟩
/-! repr where only the room and the guards are known (in a suite) -/
theorem call_reprS {X : Cx} (hu : X.A.units + 65 < cLine) (gd : X.A.guards = some []) : CallR X (.builtin "repr") (rRepr X) := by
  intro pins s σ H xs us Q I r h
  obtain ⟨x, p, rfl, rd, ok, q⟩ := h
  obtain ⟨u, rfl, ru⟩ := vals1 r
  obtain ⟨as, hr, hn⟩ := rd pins σ s u I ru
  unfold showOk at ok
  rw [Bool.and_eq_true, Bool.and_eq_true, decide_eq_true_eq, decide_eq_true_eq] at ok
  obtain ⟨⟨o1, o2⟩, o3⟩ := ok
  have hl := len_le o3
  cases hr with
  | none => exact P.repr_of_none ⟨.str _, H, I.tok _, ⟨_, rfl⟩, q⟩
  | bool b => exact P.repr_of_bool ⟨.str _, H, I.tok _, ⟨_, rfl⟩, by
      have e : (PyData.bool b).shown = (if b then "True" else "False" : Str) := by simp [PyData.shown]
      rw [e] at q; exact q⟩
  | int i t => exact P.repr_of_int (by simpa [PyData.showable] using o1) ⟨.str _, H, I.tok _, ⟨_, rfl⟩, by
      have e : (PyData.int i).shown = toString i := by simp [PyData.shown]
      rw [e] at q; exact q⟩
  | str z t => exact P.repr_of_str ⟨.str _, H, I.tok _, ⟨_, rfl⟩, by
      have e : (PyData.str z).shown = reprText z := by simp [PyData.shown]
      rw [e] at q; exact q⟩ (by simpa [PyData.shown] using hl)
  | list h1 h2 h3 h4 => exact repr_of_reads' (.list h1 h2 h3 h4) o1 (fun _ => hn) gd (by omega) (fun _ _ z => z) (fun h' u tk hk => ⟨.str _, H, I.kept hk, ⟨_, rfl⟩, q⟩) hl
  | tuple h1 h2 h3 h4 => exact repr_of_reads' (.tuple h1 h2 h3 h4) o1 (fun _ => hn) gd (by omega) (fun _ _ z => z) (fun h' u tk hk => ⟨.str _, H, I.kept hk, ⟨_, rfl⟩, q⟩) hl
  | dict h1 h2 h3 h4 h5 => exact repr_of_reads' (.dict h1 h2 h3 h4 h5) o1 (fun _ => hn) gd (by omega) (fun _ _ z => z) (fun h' u tk hk => ⟨.str _, H, I.kept hk, ⟨_, rfl⟩, q⟩) hl
theorem reprG_entS {X : Cx} (sy : ∃ mm, X.base.Ns sysModules mm) : CallE X.K X.mg (rRepr X) gRepr := by
  intro F A P S H xs dx d Q rp hx e k
  unfold gRepr at e
  split at e
  · rename_i x
    cases hx with
    | @cons v _ _ _ h1 h2 =>
      cases h2
      split at e
      · rename_i p e1
        split at e
        · rename_i ok
          cases e
          refine ⟨v, p, rfl, fun pins σ s u I ru => ?_, ok, okE.now k rp .str⟩
          unfold toPyRS at e1
          split at e1
          · rename_i ys e2
            obtain ⟨a, vs, rfl, h3, h4⟩ := itemsR_at rp h1 e2
            simp only [Option.map_eq_some_iff] at e1
            obtain ⟨ps, e3, rfl⟩ := e1
            cases ru
            obtain ⟨its, rv, ⟨o, n, ho, hc, _, hd⟩, _⟩ := I.list h3
            obtain ⟨as, hr, hn⟩ := rds_of sy I rp.le h4 e3 rv
            exact ⟨_, .list ho hc hd hr, by simp only [List.mem_cons, not_or]; exact ⟨(not_sys sy I ho hd).symm, hn⟩⟩
          · split at e1
            · rename_i kvs e2
              obtain ⟨a, vs, rfl, h3, h4⟩ := itemsK_at rp h1 e2
              have z : ∃ as, Reads s.heap u p as ∧ sysModules ∉ as := by
                simp only [Option.map_eq_some_iff] at e1
                obtain ⟨ps, e1, rfl⟩ := e1
                cases ru
                obtain ⟨hz, hS, vs', kv, o, es, ep, ho, hx, hd, _, hp, _⟩ : _ ∧ _ ∧ ∃ vs, KV _ vs ∧ s.heap.DictOf (mixKind X.prog X.w) _ vs := Rd.ok h3 I.hok
                obtain ⟨bs, hr, hn⟩ := rdk_of sy I rp.le h4 e1 (kv_vals kv)
                obtain ⟨as, hk, hkn⟩ := pairs_keys hp (h := s.heap)
                obtain ⟨e2, _⟩ := toPyKR_spec e1
                have ek : vs'.map (fun kv => keyPy kv.1) = ps.map (·.1) := by
                  have z1 := (KV.keys kv).symm.trans (datsK_keys h4)
                  have z2 := congrArg (List.map keyPy) z1
                  rw [List.map_map, List.map_map] at z2
                  rw [e2]
                  exact z2
                rw [ek] at hk
                rw [← pairs_vals hp] at hr
                refine ⟨_, .dict ho hx.1 hd hk hr, ?_⟩
                simp only [List.mem_append, List.mem_cons, not_or]
                exact ⟨⟨fun z => by rw [← z] at hS; simp at hS, hkn⟩, hn⟩
              exact z
            · exact rd_of sy I rp.le h1 e1 ru
        · cases e
      · cases e
  · cases e

end DL
/-! Reasoning about mirrors: plain Lean. -/
namespace DL
open PySem PySem.Spec PyProof.Rows L2

/-- an expression's outcome is a value of which Q holds -/
def Yes {α : Type} (o : Out α) (Q : α → Store → Prop) : Prop := match o with
  | .ok a S => Q a S
  | _ => False
/-- a statement goes on (N), returns (R), breaks (B), continues (C) -/
def RY (r : Res) (N : Env' → Store → Prop) (R : D → Store → Prop) (B C : Env' → Store → Prop) : Prop := match r with
  | .nx ρ S => N ρ S
  | .rt d S => R d S
  | .bk ρ S => B ρ S
  | .ct ρ S => C ρ S
  | _ => False
abbrev no2 : Env' → Store → Prop := fun _ _ => False
section
variable {α β : Type} {o : Out α} {k : α → Store → Out β} {Q Q' : α → Store → Prop} {Q2 : β → Store → Prop} {N N' B B' C C' : Env' → Store → Prop} {R R' : D → Store → Prop} {ρ : Env'} {S : Store} {f g h : Ev D} {p : Ev Bool} {s t : Stm}
theorem Yes.bind (h : Yes o fun a S => Yes (k a S) Q2) : Yes (o.bind k) Q2 := by cases o <;> exact h
theorem Yes.mono (h : Yes o Q) (i : ∀ a S, Q a S → Q' a S) : Yes o Q' := by
  cases o with
  | ok a S => exact i _ _ h
  | _ => exact h
theorem Yes.ok {a : α} (h : Q a S) : Yes (.ok a S) Q := h
theorem Yes.ofO {x : Option α} {a : α} (e : x = some a) (h : Q a S) : Yes (ofO x S) Q := by subst e; exact h
theorem Yes.noExc (h : Yes o Q) : Yes (noExc o) Q := by
  cases o with
  | ok a S => exact h
  | _ => exact h.elim
theorem RY.mono {r : Res} (h : RY r N R B C) (n : ∀ ρ S, N ρ S → N' ρ S) (rr : ∀ d S, R d S → R' d S) (b : ∀ ρ S, B ρ S → B' ρ S) (c : ∀ ρ S, C ρ S → C' ρ S) : RY r N' R' B' C' := by
  cases r with
  | nx ρ S => exact n _ _ h
  | rt d S => exact rr _ _ h
  | bk ρ S => exact b _ _ h
  | ct ρ S => exact c _ _ h
  | _ => exact h
theorem ry_nx (h : N ρ S) : RY (.nx ρ S) N R B C := h
theorem ry_rt {d : D} (h : R d S) : RY (.rt d S) N R B C := h
theorem ry_res {k : α → Store → Res} (h : Yes o fun a S => RY (k a S) N R B C) : RY (o.res ρ k) N R B C := by cases o <;> exact h
theorem ry_seq (h : RY (s ρ S) (fun ρ S => RY (t ρ S) N R B C) R B C) : RY (sSeq s t ρ S) N R B C := by
  unfold sSeq
  cases e : s ρ S <;> rw [e] at h <;> exact h
theorem ry_nil (h : N ρ S) : RY (sNil ρ S) N R B C := h
theorem ry_set {i : Nat} (h : Yes (f ρ S) fun d S => N (ρ.set i (some d)) S) : RY (sSet i f ρ S) N R B C := ry_res h
theorem ry_expr (h : Yes (f ρ S) fun _ S => N ρ S) : RY (sExpr f ρ S) N R B C := ry_res h
theorem ry_ret (h : Yes (f ρ S) R) : RY (sRet f ρ S) N R B C := ry_res h
theorem ry_if (h : Yes (p ρ S) fun b S => if b then RY (s ρ S) N R B C else RY (t ρ S) N R B C) : RY (sIf p s t ρ S) N R B C := by
  refine ry_res (h.mono fun b S z => ?_)
  cases b
  · rw [if_neg (by decide)] at z ⊢; exact z
  · rw [if_pos rfl] at z ⊢; exact z
theorem ry_setIx {fv fo fi : Ev D} (h : Yes (fv ρ S) fun v S => Yes (fo ρ S) fun o S => Yes (fi ρ S) fun i S => ∃ S', setIx o i v S = some S' ∧ N ρ S') : RY (sSetIx fv fo fi ρ S) N R B C := by
  refine ry_res (h.mono fun v S z => ry_res (z.mono fun o S z => ry_res (z.mono fun i S ⟨S', e, z⟩ => ?_)))
  rw [e]; exact z
theorem ry_frz {i n : Nat} {xs : List D} {g : Stm} (e : ρ[i]? = some (some (.ref n))) (e2 : S[n]? = some (.lst xs)) (h : RY (g (ρ.set i (some (.list xs))) (S.set n .gone)) N R B C) : RY (sFrz i g ρ S) N R B C := by
  unfold sFrz
  rw [e]; dsimp only; rw [e2]; exact h
/-- a loop by its invariant, turn by turn -/
theorem ry_for {it : Ev (List D)} {g : Tg} {b : Stm} (Iv : Nat → Env' → Store → Prop) (ds : List D) (h : Yes (it ρ S) fun l S => l = ds ∧ Iv 0 ρ S)
    (turn : ∀ i d ρ S, ds[i]? = some d → Iv i ρ S → ∃ ρ1, g d ρ = some ρ1 ∧ RY (b ρ1 S) (Iv (i + 1)) R N (Iv (i + 1))) (fin : ∀ ρ S, Iv ds.length ρ S → N ρ S) : RY (sFor it g b ρ S) N R B C := by
  refine ry_res (h.mono fun l S ⟨e, z⟩ => ?_)
  subst e
  have key : ∀ (n i : Nat) (ρ : Env') (S : Store), l.length - i = n → i ≤ l.length → Iv i ρ S → RY (loopD g b (l.drop i) ρ S) N R B C := by
    intro n
    induction n with
    | zero =>
      intro i ρ S hn hi z
      have e : i = l.length := by omega
      subst e
      rw [List.drop_length]
      exact fin _ _ z
    | succ n ih =>
      intro i ρ S hn hi z
      have hl : i < l.length := by omega
      rw [List.drop_eq_getElem_cons hl]
      unfold loopD
      obtain ⟨ρ1, e1, h1⟩ := turn i l[i] ρ S (by simp [hl]) z
      rw [e1]
      dsimp only
      cases e2 : b ρ1 S with
      | nx ρ2 S2 => rw [e2] at h1; exact ih (i + 1) ρ2 S2 (by omega) hl h1
      | ct ρ2 S2 => rw [e2] at h1; exact ih (i + 1) ρ2 S2 (by omega) hl h1
      | bk ρ2 S2 => rw [e2] at h1; exact h1
      | rt d S2 => rw [e2] at h1; exact h1
      | ex _ _ _ _ => rw [e2] at h1; exact h1
      | stuck => rw [e2] at h1; exact h1
  have := key l.length 0 ρ S (by simp) (Nat.zero_le _) z
  simpa using this
/-- a while by a word and a measure -/
theorem ry_while {n : Nat} {c : Ev Bool} {b : Stm} (Iv : Env' → Store → Prop) (μ : Env' → Store → Nat) (h0 : Iv ρ S) (hμ : μ ρ S < n)
    (turn : ∀ ρ S, Iv ρ S → Yes (c ρ S) fun t S1 => if t then RY (b ρ S1) (fun ρ' S' => Iv ρ' S' ∧ μ ρ' S' < μ ρ S) R N (fun ρ' S' => Iv ρ' S' ∧ μ ρ' S' < μ ρ S) else N ρ S1) : RY (sWhile n c b ρ S) N R B C := by
  unfold sWhile
  induction n generalizing ρ S with
  | zero => omega
  | succ n ih =>
    unfold whileD
    refine ry_res ((turn ρ S h0).mono fun t S1 z => ?_)
    cases t with
    | false => rw [if_neg (by decide)] at z ⊢; exact z
    | true =>
      rw [if_pos rfl] at z ⊢
      cases e2 : b ρ S1 with
      | nx ρ2 S2 => rw [e2] at z; exact ih z.1 (by have := z.2; omega)
      | ct ρ2 S2 => rw [e2] at z; exact ih z.1 (by have := z.2; omega)
      | bk ρ2 S2 => rw [e2] at z; exact z
      | rt d S2 => rw [e2] at z; exact z
      | ex _ _ _ _ => rw [e2] at z; exact z
      | stuck => rw [e2] at z; exact z
theorem yes_fn {n : Nat} {ds : List D} {Q : D → Store → Prop} (h : RY (s (ds.map some ++ List.replicate (n - ds.length) none) S) (fun _ S => Q .non S) Q no2 no2) : Yes (fnD n s ds S) Q := by
  unfold fnD
  cases e : s (ds.map some ++ List.replicate (n - ds.length) none) S <;> rw [e] at h <;> exact h
/-- a comprehension by its invariant: what is made so far -/
theorem yes_lc {it : Ev (List D)} {g : Tg} {tt : Ev Bool} {te : Ev D} {vs : List Nat} {Q : D → Store → Prop} (Iv : Nat → List D → Store → Prop) (ds : List D) (hl : ds.length ≤ 16777216) (h : Yes (it ρ S) fun l S => l = ds ∧ Iv 0 [] S)
    (turn : ∀ i d acc S, ds[i]? = some d → Iv i acc S → ∃ ρ1, g d (wipeD ρ vs) = some ρ1 ∧ Yes (tt ρ1 S) fun b S => if b then Yes (te ρ1 S) fun y S => Iv (i + 1) (acc ++ [y]) S else Iv (i + 1) acc S)
    (fin : ∀ acc S, Iv ds.length acc S → Q (.list acc) S) : Yes (eLc it g tt te vs ρ S) Q := by
  refine Yes.bind (h.mono fun l S ⟨e, z⟩ => ?_)
  subst e
  rw [if_pos hl]
  refine Yes.bind ?_
  have key : ∀ (n i : Nat) (acc : List D) (S : Store), l.length - i = n → i ≤ l.length → Iv i acc S → Yes (lcD g tt te (wipeD ρ vs) (l.drop i) S) fun ys S => Iv l.length (acc ++ ys) S := by
    intro n
    induction n with
    | zero =>
      intro i acc S hn hi z
      have e : i = l.length := by omega
      subst e
      rw [List.drop_length]
      show Iv l.length (acc ++ []) S
      rw [List.append_nil]
      exact z
    | succ n ih =>
      intro i acc S hn hi z
      have hlt : i < l.length := by omega
      rw [List.drop_eq_getElem_cons hlt]
      unfold lcD
      obtain ⟨ρ1, e1, h1⟩ := turn i l[i] acc S (by simp [hlt]) z
      rw [e1]
      dsimp only
      refine Yes.bind (Yes.noExc (h1.mono fun b S1 z1 => ?_))
      cases b with
      | false =>
        rw [if_neg (by decide)] at z1 ⊢
        exact ih (i + 1) acc S1 (by omega) hlt z1
      | true =>
        rw [if_pos rfl] at z1 ⊢
        refine Yes.bind (Yes.noExc (z1.mono fun y S2 z2 => Yes.bind ((ih (i + 1) (acc ++ [y]) S2 (by omega) hlt z2).mono fun ys S3 z3 => ?_)))
        show Iv l.length (acc ++ (y :: ys)) S3
        rw [List.append_assoc] at z3
        exact z3
  refine (key l.length 0 [] S (by simp) (Nat.zero_le _) z).mono fun ys S z2 => ?_
  exact fin _ _ (by simpa using z2)
end
end DL
/-! Plain laws of the operators, and bounds of texts and shown texts. -/
namespace DL
open PySem PySem.Spec PyProof.Rows L2
section
variable {α β : Type} {S : Store} {Q : α → Store → Prop}
theorem yes_ok {a : α} : Yes (.ok a S) Q = Q a S := rfl
theorem yes_bind {o : Out α} {k : α → Store → Out β} {Q : β → Store → Prop} : Yes (o.bind k) Q = Yes o (fun a S => Yes (k a S) Q) := by cases o <;> rfl
theorem ofO_some {a : α} : ofO (some a) S = .ok a S := rfl
theorem yes_ofO {o : Option α} {a : α} (e : o = some a) : Yes (ofO o S) Q = Q a S := by subst e; rfl
end
section
variable {S : Store} {i j : Int} {a b : Bool} {x y : Str} {xs ys : List D} {n : Nat} {d : D}
theorem gAdd_ii : gAdd (.int i) (.int j) S = some (.int (i + j)) := rfl
theorem gSub_ii : gSub (.int i) (.int j) S = some (.int (i - j)) := rfl
theorem gMod_ii (h : 0 < j) : gMod (.int i) (.int j) S = some (.int (i % j)) := by simp [gMod, gI, h]
theorem gDiv_ii (h : 0 < j) (h2 : j < 1073741824) : gDiv (.int i) (.int j) S = some (.int (i / j)) := by simp [gDiv, gI, h, h2]
theorem gPow_ii (h : 0 ≤ j) (h1 : j ≤ 1000000) (h2 : i.natAbs < 2 ^ 64) : gPow (.int i) (.int j) S = some (.int (i ^ j.toNat)) := by
  unfold gPow gI
  dsimp only
  rw [if_pos]
  rw [Bool.and_eq_true, Bool.and_eq_true, decide_eq_true_eq, decide_eq_true_eq, decide_eq_true_eq]
  exact ⟨⟨h, h1⟩, h2⟩
theorem gMul_ii (h : (-(2 ^ 64) < i ∧ i < 2 ^ 64) ∨ (-(2 ^ 64) < j ∧ j < 2 ^ 64)) : gMul (.int i) (.int j) S = some (.int (i * j)) := by
  unfold gMul; dsimp only; rw [if_pos h]
theorem gMul_li (h0 : 0 ≤ i) (h1 : i < 1000000000) (h2 : xs.length * i.toNat ≤ 16777216) : gMul (.list xs) (.int i) S = some (.list (List.replicate i.toNat xs).flatten) := by
  unfold gMul; dsimp only [itemsL]; rw [if_pos ⟨h0, h1, h2⟩]
theorem gMul_si (h0 : 0 ≤ i) (h1 : i < 1000000) (h2 : x.length ≤ 16) : gMul (.str x) (.int i) S = some (.str (strTimes x i)) := by
  unfold gMul; dsimp only; rw [if_pos ⟨h0, h1, by omega, Nat.le_trans (Nat.mul_le_mul h2 (by omega : i.toNat ≤ 1000000)) (by decide)⟩]
theorem gMul_sl (h0 : 0 ≤ i) (h1 : i < 1000000) (h2 : x.length ≤ 10000) (h3 : x.length * i.toNat ≤ 16777216) : gMul (.str x) (.int i) S = some (.str (strTimes x i)) := by
  unfold gMul; dsimp only; rw [if_pos ⟨h0, h1, h2, h3⟩]
theorem gAdd_ss (h : x.length + y.length ≤ 16777216) : gAdd (.str x) (.str y) S = some (.str (x ++ y)) := by unfold gAdd; dsimp only; rw [if_pos h]
theorem gAdd_ll (h : xs.length + ys.length ≤ 16777216) : gAdd (.list xs) (.list ys) S = some (.list (xs ++ ys)) := by unfold gAdd; dsimp only [itemsL]; rw [if_pos h]
theorem gLt_ii : gLt (.int i) (.int j) S = some (.bl (decide (i < j))) := rfl
theorem gLe_ii : gLe (.int i) (.int j) S = some (.bl (decide (i ≤ j))) := rfl
theorem gGt_ii : gGt (.int i) (.int j) S = some (.bl (decide (j < i))) := rfl
theorem gGe_ii : gGe (.int i) (.int j) S = some (.bl (decide (j ≤ i))) := rfl
theorem gLe_ss : gLe (.str x) (.str y) S = some (.bl (!ltS y x)) := rfl
theorem gNeg_i : gNeg (.int i) S = some (.int (-i)) := rfl
theorem gAbs_i : gAbs [.int i] S = some (.int (if i < 0 then -i else i)) := rfl
theorem gInt_b : gInt [.bl a] S = some (.int (if a then 1 else 0)) := rfl
theorem gLen_l : gLen [.list xs] S = some (.int xs.length) := rfl
theorem gLen_t : gLen [.tup xs] S = some (.int xs.length) := rfl
theorem gLen_ref (h : S[n]? = some (.lst xs)) : gLen [.ref n] S = some (.int xs.length) := by simp [gLen, lenD, itemsS, itemsR, itemsL, h]
theorem gLen_s (h : x.length ≤ 16777216) : gLen [.str x] S = some (.int x.length) := by simp [gLen, lenD, h]
theorem gIx_l : gIx (.list xs) (.int i) S = atI xs i := rfl
theorem gIx_t : gIx (.tup xs) (.int i) S = atI xs i := rfl
theorem gIx_ref (h : S[n]? = some (.lst xs)) : gIx (.ref n) (.int i) S = atI xs i := by simp [gIx, itemsS, itemsR, itemsL, h]
theorem gIx_s (h : x.length ≤ 16777216) : gIx (.str x) (.int i) S = (atI x.cps.toList i).map fun c => .str ⟨#[c]⟩ := by unfold gIx; dsimp only; rw [if_pos h]
theorem atI_in {α : Type} {xs : List α} (h0 : 0 ≤ i) (h1 : i < xs.length) : ∃ a, atI xs i = some a ∧ xs[i.toNat]? = some a := by
  have h : i.toNat < xs.length := by omega
  refine ⟨xs[i.toNat], ?_, by simp [h]⟩
  unfold atI ixN
  rw [if_pos h0, if_pos h1]
  simp [h]
theorem atI_mem {α : Type} {xs : List α} {a : α} (h : atI xs i = some a) : a ∈ xs := by
  unfold atI at h
  cases e : ixN xs.length i with
  | none => rw [e] at h; cases h
  | some j => rw [e] at h; exact List.mem_of_getElem? h
theorem eqH_ll : eqH (.list xs) (.list []) S = some xs.isEmpty := by
  cases xs with
  | nil => rfl
  | cons x xs => rfl
theorem eqH_ref (h : S[n]? = some (.lst xs)) : eqH (.ref n) (.list []) S = some xs.isEmpty := by
  have e : itemsR S (.ref n) = some xs := by simp [itemsR, itemsL, h]
  unfold eqH
  rw [e]
  dsimp only [itemsR, itemsL]
  cases xs with
  | nil =>
    rw [if_pos rfl]
    unfold eqB
    dsimp only
    have e1 : toPyS S (.ref n) = some (.list []) := by unfold toPyS; rw [e]; rfl
    rw [e1]
    rfl
  | cons x xs => rfl
theorem gEqH_ii : gEqH (.int i) (.int j) S = some (.bl (decide (i = j))) := rfl
theorem gEqH_ss : gEqH (.str x) (.str y) S = some (.bl (decide (x = y))) := rfl
theorem gNeH_ss : gNeH (.str x) (.str y) S = some (.bl (!decide (x = y))) := rfl
theorem gIs_bb : gIs (.bl a) (.bl b) S = some (.bl (decide (a = b))) := rfl
theorem bofe_bl {f : Ev D} {ρ : Env'} {Q : Bool → Store → Prop} : Yes (bOfE f ρ S) Q = Yes (f ρ S) fun d S => match d with | .bl b => Q b S | _ => False := by
  unfold bOfE
  rw [yes_bind]
  congr
  funext d S
  cases d <;> rfl
end

/-! ### texts -/
/-- at most n signs, all ascii -/
def Ln (n : Nat) (z : Str) : Prop := z.length ≤ n ∧ ∀ c ∈ z.cps.toList, c < 128
section
variable {n m : Nat} {x y z : Str} {S : Store}
theorem Ln.mono (h : Ln n z) (i : n ≤ m) : Ln m z := ⟨Nat.le_trans h.1 i, h.2⟩
theorem Ln.app (h : Ln n x) (k : Ln m y) : Ln (n + m) (x ++ y) := by
  obtain ⟨a⟩ := x
  obtain ⟨b⟩ := y
  have e : ((⟨a⟩ : Str) ++ (⟨b⟩ : Str)) = ⟨a ++ b⟩ := rfl
  rw [e]
  refine ⟨?_, fun c hc => ?_⟩
  · show (a ++ b).size ≤ n + m
    rw [Array.size_append]
    exact Nat.add_le_add h.1 k.1
  · have hc : c ∈ (a ++ b).toList := hc
    rw [Array.toList_append, List.mem_append] at hc
    exact hc.elim (h.2 c) (k.2 c)
theorem Ln.cut (h : Ln n z) (lo hi : Option Int) : Ln n (cutS z lo hi) := by
  refine ⟨?_, fun c hc => h.2 c ?_⟩
  · show (List.toArray _).size ≤ n
    rw [List.size_toArray, List.length_take, List.length_drop]
    have : z.cps.toList.length = z.length := by simp [Str.length]
    have := h.1
    omega
  · have hc : c ∈ (((z.cps.toList.drop (HT.sIx z.length 0 lo)).take (HT.sIx z.length z.length hi - HT.sIx z.length 0 lo)).toArray).toList := hc
    rw [List.toList_toArray] at hc
    exact List.mem_of_mem_drop (List.mem_of_mem_take hc)
theorem Ln.times (h : Ln n z) {k : Int} (h0 : 0 ≤ k) : Ln (n * k.toNat) (strTimes z k) := by
  unfold strTimes
  split
  · exact ⟨Nat.zero_le _, fun c hc => by simp [Str.empty] at hc⟩
  · refine ⟨?_, ?_⟩
    · show (List.foldl (· ++ ·) #[] (List.replicate k.toNat z.cps)).size ≤ _
      rw [size_reps]
      have : z.cps.size ≤ n := h.1
      have h2 := Nat.mul_le_mul_left k.toNat this
      rw [Nat.mul_comm n]
      simpa using h2
    · intro c hc
      have key : ∀ (m : Nat) (acc : Array Nat), (∀ c ∈ acc.toList, c < 128) → ∀ c ∈ ((List.replicate m z.cps).foldl (· ++ ·) acc).toList, c < 128 := by
        intro m
        induction m with
        | zero => intro acc ha c hc; exact ha c hc
        | succ m ih =>
          intro acc ha
          rw [List.replicate_succ, List.foldl_cons]
          refine ih _ fun c hc => ?_
          rw [Array.toList_append, List.mem_append] at hc
          exact hc.elim (ha c) (h.2 c)
      exact key _ #[] (fun c hc => by simp at hc) c hc
theorem Ln.one {c : Nat} (h : c < 128) : Ln 1 ⟨#[c]⟩ := ⟨Nat.le_refl _, fun d hd => by simp at hd; omega⟩
theorem Ln.len (h : Ln n z) : z.length ≤ n := h.1
/-- signs of a text -/
theorem gIx_sign {i : Int} (hl : z.length ≤ 16777216) (h0 : 0 ≤ i) (h1 : i < z.length) (h : ∀ c ∈ z.cps.toList, c < 128) : ∃ w, gIx (.str z) (.int i) S = some (.str w) ∧ Ln 1 w := by
  have e : z.cps.toList.length = z.length := by simp [Str.length]
  obtain ⟨a, h2, h3⟩ := atI_in (xs := z.cps.toList) h0 (by rw [e]; exact h1)
  refine ⟨⟨#[a]⟩, by rw [gIx_s hl, h2]; rfl, Ln.one (h a (List.mem_of_getElem? h3))⟩
theorem Ln.joinL {ws : List Str} {n : Nat} (h : ∀ w ∈ ws, Ln n w) : Ln (n * ws.length) (Txt.join "" ws) := by
  have e : (Txt.join "" ws).cps.toList = TL.joinL [] (ws.map TL.tl) := by
    rw [TL.join_eq]
    exact TL.tl_join "" ws
  have key : ∀ ws : List Str, (∀ w ∈ ws, Ln n w) → (TL.joinL [] (ws.map TL.tl)).length ≤ n * ws.length ∧ ∀ c ∈ TL.joinL [] (ws.map TL.tl), c < 128 := by
    intro ws
    induction ws with
    | nil => intro _; exact ⟨by simp [TL.joinL], fun c hc => by simp [TL.joinL] at hc⟩
    | cons w r ih =>
      intro h
      have hw := h w (by simp)
      have hw1 : (TL.tl w).length ≤ n := by
        have := hw.1
        simpa [TL.tl, Str.length] using this
      obtain ⟨i1, i2⟩ := ih fun w hw => h w (by simp [hw])
      cases r with
      | nil => exact ⟨by simpa [TL.joinL] using hw1, fun c hc => hw.2 c (by simpa [TL.joinL, TL.tl] using hc)⟩
      | cons w2 r =>
        refine ⟨?_, fun c hc => ?_⟩
        · show (TL.tl w ++ ([] ++ TL.joinL [] ((w2 :: r).map TL.tl))).length ≤ _
          rw [List.nil_append, List.length_append, List.length_cons, Nat.mul_add]
          omega
        · have hc : c ∈ TL.tl w ++ ([] ++ TL.joinL [] ((w2 :: r).map TL.tl)) := hc
          rw [List.nil_append, List.mem_append] at hc
          exact hc.elim (fun z => hw.2 c z) (i2 c)
  obtain ⟨k1, k2⟩ := key ws h
  refine ⟨?_, fun c hc => k2 c (by rw [← e]; exact hc)⟩
  have : (Txt.join "" ws).length = (Txt.join "" ws).cps.toList.length := by simp [Str.length]
  rw [this, e]; exact k1
theorem strsOf_map (ws : List Str) : strsOf (ws.map .str) = some ws := by
  induction ws with
  | nil => rfl
  | cons w r ih => simp [strsOf, ih]
theorem sum_le {ws : List Str} {n : Nat} (h : ∀ w ∈ ws, Ln n w) : (ws.map (·.length)).sum ≤ n * ws.length := by
  induction ws with
  | nil => simp
  | cons w r ih =>
    have := ih fun w hw => h w (by simp [hw])
    have := (h w (by simp)).1
    rw [List.map_cons, List.sum_cons, List.length_cons, Nat.mul_add]
    omega
theorem gJoin_l {ws : List Str} {n : Nat} (h : ∀ w ∈ ws, Ln n w) (hl : n * ws.length ≤ 16777216) : gJoin (.str "") [.list (ws.map .str)] S = some (.str (Txt.join "" ws), S) := by
  have e : (("" : String) : Str).length = 0 := rfl
  have := sum_le h
  simp only [gJoin, itemsS, itemsR, itemsL, strsOf_map, e]
  rw [if_pos (by omega)]
theorem gSl_s {lo hi : Option Int} (h : z.length ≤ 16777216) : gSl S (.str z) lo hi = some (.str (cutS z lo hi)) := by unfold gSl; dsimp only; rw [if_pos h]
end

/-! ### what can be shown -/
/-- p can be shown, in a bounded text -/
structure Sh (k e : Nat) (p : PyData) : Prop where
  lf : p.leavesShort 64 = true
  bk : p.bulk ≤ k
  dp : p.depth ≤ e
  sh : p.showable = true
theorem Sh.mono {k e k' e' : Nat} {p : PyData} (h : Sh k e p) (i : k ≤ k') (j : e ≤ e') : Sh k' e' p := ⟨h.lf, Nat.le_trans h.bk i, Nat.le_trans h.dp j, h.sh⟩
theorem Sh.ok {k e : Nat} {p : PyData} (h : Sh k e p) (i : k ≤ 200000) (j : e ≤ 60) : showOk p = true := by
  unfold showOk
  rw [Bool.and_eq_true, Bool.and_eq_true, decide_eq_true_eq, decide_eq_true_eq]
  refine ⟨⟨h.sh, Nat.le_trans h.dp j⟩, ?_⟩
  have h1 := PyData.shown_le_bulk 64 (by decide) p h.lf
  have h2 := h.bk
  omega
/-- a value without references that can be shown -/
def ShD (k e : Nat) (d : D) : Prop := ∃ p, toPyR d = some p ∧ Sh k e p
def ShDs (k e : Nat) (ds : List D) : Prop := ∃ ps, toPysR ds = some ps ∧ PyData.leavesShortAll 64 ps = true ∧ PyData.bulkAll ps ≤ k ∧ PyData.depthAll ps ≤ e ∧ PyData.showableAll ps = true
section
variable {k e k' e' n : Nat} {d : D} {ds : List D} {z : Str} {b : Bool}
theorem ShD.mono (h : ShD k e d) (i : k ≤ k') (j : e ≤ e') : ShD k' e' d := let ⟨p, h1, h2⟩ := h; ⟨p, h1, h2.mono i j⟩
theorem ShD.str (h : Ln n z) : ShD n 0 (.str z) := ⟨.str z, rfl, ⟨by
  simp only [PyData.leavesShort, List.all_eq_true, decide_eq_true_eq]
  intro c hc
  have h1 := h.2 c hc
  have h2 : (128 : Nat) ≤ 16 ^ 8 := by decide
  exact Nat.lt_of_lt_of_le h1 h2, h.1, Nat.le_refl _, rfl⟩⟩
theorem ShD.bl : ShD 0 0 (.bl b) := ⟨.bool b, rfl, ⟨rfl, Nat.le_refl _, Nat.le_refl _, rfl⟩⟩
theorem ShDs.nil : ShDs 0 0 [] := ⟨[], rfl, rfl, Nat.le_refl _, Nat.le_refl _, rfl⟩
theorem ShDs.cons (h : ShD k e d) (i : ShDs k' e' ds) : ShDs (k + 1 + k') (max e e') (d :: ds) := by
  obtain ⟨p, h1, h2⟩ := h
  obtain ⟨ps, i1, i2, i3, i4, i5⟩ := i
  refine ⟨p :: ps, by simp only [toPysR, h1, i1], ?_, ?_, ?_, ?_⟩
  · simp only [PyData.leavesShortAll, h2.lf, i2, Bool.and_self]
  · simp only [PyData.bulkAll]; have := h2.bk; omega
  · simp only [PyData.depthAll]; have := h2.dp; omega
  · simp only [PyData.showableAll, h2.sh, i5, Bool.and_self]
theorem ShDs.mono (h : ShDs k e ds) (i : k ≤ k') (j : e ≤ e') : ShDs k' e' ds := let ⟨p, h1, h2, h3, h4, h5⟩ := h; ⟨p, h1, h2, Nat.le_trans h3 i, Nat.le_trans h4 j, h5⟩
theorem ShDs.all (h : ∀ d ∈ ds, ShD k e d) : ShDs ((k + 1) * ds.length) e ds := by
  induction ds with
  | nil => exact ShDs.nil.mono (Nat.zero_le _) (Nat.zero_le _)
  | cons d r ih => exact (ShDs.cons (h d (by simp)) (ih fun d hd => h d (by simp [hd]))).mono (by rw [List.length_cons, Nat.mul_add]; omega) (by omega)
theorem ShD.tup (h : ShDs k e ds) : ShD k (e + 1) (.tup ds) := by
  obtain ⟨ps, i1, i2, i3, i4, i5⟩ := h
  refine ⟨.tuple ps, by simp only [toPyR, i1]; rfl, ⟨?_, ?_, ?_, ?_⟩⟩
  · simpa only [PyData.leavesShort] using i2
  · simpa only [PyData.bulk] using i3
  · simp only [PyData.depth]; omega
  · simpa only [PyData.showable] using i5
theorem ShD.list (h : ShDs k e ds) : ShD k (e + 1) (.list ds) := by
  obtain ⟨ps, i1, i2, i3, i4, i5⟩ := h
  refine ⟨.list ps, by simp only [toPyR, i1]; rfl, ⟨?_, ?_, ?_, ?_⟩⟩
  · simpa only [PyData.leavesShort] using i2
  · simpa only [PyData.bulk] using i3
  · simp only [PyData.depth]; omega
  · simpa only [PyData.showable] using i5
/-- what repr gives, where all that is inside can be shown -/
theorem gRepr_sh {S : Store} (h : ShD k e d) (i : k ≤ 200000) (j : e ≤ 60) : ∃ z, gRepr [d] S = some (.str z) ∧ ∀ S', gRepr [d] S' = some (.str z) := by
  obtain ⟨p, h1, h2⟩ := h
  have key : ∀ S', toPyRS S' d = some p := by
    intro S'
    unfold toPyRS
    cases d with
    | list xs => exact h1
    | rd xs => exact h1
    | dict kvs => exact h1
    | ref n => simp [toPyR] at h1
    | _ => exact h1
  refine ⟨p.shown, ?_, fun S' => ?_⟩ <;> simp only [gRepr, key] <;> rw [if_pos (h2.ok i j)]
theorem gRepr_ref {S : Store} {n : Nat} (hS : S[n]? = some (.lst ds)) (h : ShDs k e ds) (i : k ≤ 200000) (j : e ≤ 50) : ∃ z, gRepr [.ref n] S = some (.str z) := by
  obtain ⟨p, h1, h2⟩ := ShD.list h
  have h1 : (toPysR ds).map PyData.list = some p := by simpa only [toPyR] using h1
  have e1 : itemsR S (.ref n) = some ds := by simp [itemsR, itemsL, hS]
  refine ⟨p.shown, ?_⟩
  simp only [gRepr, toPyRS, e1, h1]
  rw [if_pos (h2.ok i (by omega))]
end
end DL
namespace DL
open PySem PySem.Spec PyProof.Rows L2
section
variable {S : Store} {ρ : Env'} {f : Ev D} {a : Ev (List D)} {Q : D → Store → Prop}
theorem range0_get {n i : Nat} {d : D} (h : (rangeD 0 n)[i]? = some d) : d = .int (i : Int) ∧ i < n := by
  have hl : i < n := by
    have := (List.getElem?_eq_some_iff.mp h).1
    rwa [rangeD_len] at this
  refine ⟨?_, hl⟩
  simp [rangeD, hl] at h
  rw [← h]
theorem yes_range1 {Q : List D → Store → Prop} (h : Yes (f ρ S) fun d S => ∃ j : Int, d = .int j ∧ -1000000000 ≤ j ∧ j < 1000000000 ∧ Q (rangeD 0 j.toNat) S) : Yes (iRange1 f ρ S) Q := by
  unfold iRange1
  rw [yes_bind]
  refine h.mono fun d S ⟨j, e, h0, h1, q⟩ => ?_
  subst e
  dsimp only
  rw [if_pos ⟨by omega, by omega⟩]
  exact q
theorem yes_iany {Q : List D → Store → Prop} (h : Yes (f ρ S) fun d S => match d with
    | .rd xs => Q xs S
    | .list xs => Q xs S
    | .tup xs => Q xs S
    | .str z => Q (z.cps.toList.map fun c => D.str ⟨#[c]⟩) S
    | _ => False) : Yes (iAny f ρ S) Q := by
  unfold iAny
  rw [yes_bind]
  refine h.mono fun d S q => ?_
  cases d <;> first | exact q | exact q.elim
theorem yes_mt {T : String} {g : GM} (h : Yes (f ρ S) fun x S => tyD T S x = true ∧ Yes (a ρ S) fun ys S => ∃ d S', g x ys S = some (d, S') ∧ Q d S') : Yes (eMt T g f a ρ S) Q := by
  unfold eMt
  rw [yes_bind]
  refine h.mono fun x S ⟨e, q⟩ => ?_
  rw [if_pos e, yes_bind]
  refine q.mono fun ys S ⟨d, S', e2, q⟩ => ?_
  rw [e2]
  exact q
theorem tyD_str {z : Str} : tyD "str" S (.str z) = true := rfl
theorem tyD_ref {n : Nat} {xs : List D} (h : S[n]? = some (.lst xs)) : tyD "list" S (.ref n) = true := by simp [tyD, itemsR, itemsL, h]
theorem gAppend_ref {n : Nat} {xs : List D} {y : D} (h : S[n]? = some (.lst xs)) (hl : xs.length < 16777216) : gAppend (.ref n) [y] S = some (.non, S.set n (.lst (xs ++ [y]))) := by
  unfold gAppend; dsimp only; rw [h]; dsimp only; rw [if_pos hl]
theorem yes_sl {lo hi : Ev (Option Int)} (h : Yes (f ρ S) fun x S => Yes (lo ρ S) fun l S => Yes (hi ρ S) fun h S => ∃ d, gSl S x l h = some d ∧ Q d S) : Yes (eSl f lo hi ρ S) Q := by
  unfold eSl
  rw [yes_bind]
  refine h.mono fun x S q => ?_
  rw [yes_bind]
  refine q.mono fun l S q => ?_
  rw [yes_bind]
  refine q.mono fun h S ⟨d, e, q⟩ => ?_
  rw [e]; exact q
theorem yes_onone {Q : Option Int → Store → Prop} (h : Q none S) : Yes (oNone ρ S) Q := h
theorem yes_osome {Q : Option Int → Store → Prop} (h : Yes (f ρ S) fun d S => ∃ i, d = .int i ∧ Q (some i) S) : Yes (oSome f ρ S) Q := by
  unfold oSome
  rw [yes_bind]
  refine h.mono fun d S ⟨i, e, q⟩ => ?_
  subst e; exact q
theorem yes_lstR (h : Yes (a ρ S) fun ds S => ds.length ≤ 16777216 ∧ Q (.ref S.length) (S ++ [.lst ds])) : Yes (eLstR a ρ S) Q := by
  unfold eLstR
  rw [yes_bind]
  refine h.mono fun ds S ⟨e, q⟩ => ?_
  rw [if_pos e]; exact q
/-- a comprehension whose list goes into the store -/
theorem yes_lcR {it : Ev (List D)} {g : Tg} {tt : Ev Bool} {te : Ev D} {vs : List Nat} (h : Yes (eLc it g tt te vs ρ S) fun d S => ∃ xs, d = .list xs ∧ Q (.ref S.length) (S ++ [.lst xs])) : Yes (eLcR it g tt te vs ρ S) Q := by
  unfold eLc at h
  unfold eLcR
  cases e : it ρ S with
  | ok ds S1 =>
    rw [e] at h
    have h : Yes (if ds.length ≤ 16777216 then (lcD g tt te (wipeD ρ vs) ds S1).bind fun ys S => Out.ok (D.list ys) S else .stuck) (fun d S => ∃ xs, d = D.list xs ∧ Q (.ref S.length) (S ++ [.lst xs])) := h
    show Yes (if ds.length ≤ 16777216 then (lcD g tt te (wipeD ρ vs) ds S1).bind fun ys S => Out.ok (D.ref S.length) (S ++ [SO.lst ys]) else .stuck) Q
    split at h
    · rename_i hl
      rw [if_pos hl]
      rw [yes_bind] at h ⊢
      refine h.mono fun ys S ⟨xs, e, q⟩ => ?_
      cases e
      exact q
    · exact h.elim
  | exc C fs S => rw [e] at h; exact h.elim
  | stuck => rw [e] at h; exact h.elim
/-- the signs of a text, one test each -/
theorem blsOf_map {α : Type} (xs : List α) (f : α → Bool) : blsOf (xs.map fun x => D.bl (f x)) = some (xs.map f) := by
  induction xs with
  | nil => rfl
  | cons x r ih => simp [blsOf, ih]
/-- a comprehension that leaves the store alone: map -/
theorem yes_lc_map {it : Ev (List D)} {g : Tg} {te : Ev D} {vs : List Nat} {ds : List D} {ys : List D} (hl : ds.length ≤ 16777216) (h : Yes (it ρ S) fun l S' => l = ds ∧ S' = S) (hn : ys.length = ds.length)
    (turn : ∀ (i : Nat) (d y : D), ds[i]? = some d → ys[i]? = some y → ∃ ρ1, g d (wipeD ρ vs) = some ρ1 ∧ Yes (te ρ1 S) fun z S' => z = y ∧ S' = S) (fin : Q (.list ys) S) : Yes (eLc it g bYes te vs ρ S) Q := by
  refine yes_lc (fun i acc S' => S' = S ∧ acc = ys.take i) ds hl (h.mono fun l S' ⟨a, b⟩ => ⟨a, b, by simp⟩) (fun i d acc S' e ⟨h1, h2⟩ => ?_) fun acc S' ⟨h1, h2⟩ => ?_
  · subst h1
    have hi : i < ys.length := by rw [hn]; exact (List.getElem?_eq_some_iff.mp e).1
    obtain ⟨ρ1, k1, k2⟩ := turn i d ys[i] e (by simp [hi])
    refine ⟨ρ1, k1, ?_⟩
    unfold bYes
    rw [yes_ok, if_pos rfl]
    refine k2.mono fun z S'' ⟨z1, z2⟩ => ⟨z2, ?_⟩
    rw [h2, z1, List.take_add_one, List.getElem?_eq_getElem hi]
    rfl
  · subst h1
    rw [h2, ← hn, List.take_length]
    exact fin
/-- a comprehension that leaves the store alone: filter -/
theorem yes_lc_filter {it : Ev (List D)} {g : Tg} {tt : Ev Bool} {te : Ev D} {vs : List Nat} {ds : List D} (p : D → Bool) (hl : ds.length ≤ 16777216) (h : Yes (it ρ S) fun l S' => l = ds ∧ S' = S)
    (turn : ∀ (i : Nat) (d : D), ds[i]? = some d → ∃ ρ1, g d (wipeD ρ vs) = some ρ1 ∧ Yes (tt ρ1 S) fun b S' => b = p d ∧ S' = S ∧ Yes (te ρ1 S) fun z S' => z = d ∧ S' = S) (fin : Q (.list (ds.filter p)) S) : Yes (eLc it g tt te vs ρ S) Q := by
  refine yes_lc (fun i acc S' => S' = S ∧ acc = (ds.take i).filter p) ds hl (h.mono fun l S' ⟨a, b⟩ => ⟨a, b, by simp⟩) (fun i d acc S' e ⟨h1, h2⟩ => ?_) fun acc S' ⟨h1, h2⟩ => ?_
  · subst h1
    obtain ⟨ρ1, k1, k2⟩ := turn i d e
    obtain ⟨hi, ei⟩ := List.getElem?_eq_some_iff.mp e
    refine ⟨ρ1, k1, k2.mono fun b S'' ⟨b1, b2, b3⟩ => ?_⟩
    subst b2
    have key : (ds.take (i + 1)).filter p = acc ++ (if p d then [d] else []) := by
      rw [h2, List.take_add_one, e, List.filter_append]
      cases e : p d <;> simp [e]
    cases e : p d with
    | false =>
      rw [e] at b1 key
      subst b1
      rw [if_neg (by decide)]
      exact ⟨rfl, by rw [key]; simp⟩
    | true =>
      rw [e] at b1 key
      subst b1
      rw [if_pos rfl]
      refine b3.mono fun z S3 ⟨z1, z2⟩ => ⟨z2, ?_⟩
      rw [key, z1, if_pos rfl]
  · subst h1
    rw [h2, List.take_length]
    exact fin
/-- a comprehension whose iterable is known after its run -/
theorem yes_lcE {it : Ev (List D)} {g : Tg} {tt : Ev Bool} {te : Ev D} {vs : List Nat} (h : Yes (it ρ S) fun ds S1 => ds.length ≤ 16777216 ∧ ∃ Iv : Nat → List D → Store → Prop, Iv 0 [] S1 ∧
    (∀ (i : Nat) (d : D) acc S, ds[i]? = some d → Iv i acc S → ∃ ρ1, g d (wipeD ρ vs) = some ρ1 ∧ Yes (tt ρ1 S) fun b S => if b then Yes (te ρ1 S) fun y S => Iv (i + 1) (acc ++ [y]) S else Iv (i + 1) acc S) ∧
    (∀ acc S, Iv ds.length acc S → Q (.list acc) S)) : Yes (eLc it g tt te vs ρ S) Q := by
  cases e : it ρ S with
  | ok ds S1 =>
    rw [e] at h
    obtain ⟨hl, Iv, h0, turn, fin⟩ := h
    have key : eLc it g tt te vs ρ S = eLc (fun _ _ => .ok ds S1) g tt te vs ρ S := by unfold eLc; rw [e]
    rw [key]
    exact yes_lc Iv ds hl ⟨rfl, h0⟩ turn fin
  | exc C fs S => rw [e] at h; exact h.elim
  | stuck => rw [e] at h; exact h.elim
end
end DL
/-! texts of small letters, with their exact lengths -/
namespace DL
open PySem PySem.Spec PyProof.Rows L2
def Sml (z : Str) : Prop := ∀ c ∈ z.cps.toList, 97 ≤ c ∧ c ≤ 122
/-- n small letters -/
def Lt (n : Nat) (z : Str) : Prop := z.length = n ∧ Sml z
/-- a name: one to eight small letters -/
def Nm (z : Str) : Prop := 1 ≤ z.length ∧ z.length ≤ 8 ∧ Sml z
section
variable {n m : Nat} {x y z : Str}
theorem len_toList (z : Str) : z.cps.toList.length = z.length := by simp [Str.length]
theorem Sml.app (h : Sml x) (k : Sml y) : Sml (x ++ y) := fun c hc => by
  obtain ⟨a⟩ := x
  obtain ⟨b⟩ := y
  have hc : c ∈ (a ++ b).toList := hc
  rw [Array.toList_append, List.mem_append] at hc
  exact hc.elim (h c) (k c)
theorem app_len (x y : Str) : (x ++ y).length = x.length + y.length := by
  obtain ⟨a⟩ := x
  obtain ⟨b⟩ := y
  exact Array.size_append
theorem Sml.cut (h : Sml z) (lo hi : Option Int) : Sml (cutS z lo hi) := fun c hc => h c (by
  have hc : c ∈ (((z.cps.toList.drop (HT.sIx z.length 0 lo)).take (HT.sIx z.length z.length hi - HT.sIx z.length 0 lo)).toArray).toList := hc
  rw [List.toList_toArray] at hc
  exact List.mem_of_mem_drop (List.mem_of_mem_take hc))
theorem cut_len (z : Str) (lo hi : Option Int) : (cutS z lo hi).length = min (HT.sIx z.length z.length hi - HT.sIx z.length 0 lo) (z.length - HT.sIx z.length 0 lo) := by
  show (List.toArray _).size = _
  rw [List.size_toArray, List.length_take, List.length_drop, len_toList]
theorem sIx_pos {n d : Nat} {k : Int} (h : 0 ≤ k) : HT.sIx n d (some k) = min k.toNat n := by
  unfold HT.sIx
  dsimp only
  rw [if_neg (by omega)]
theorem cut_lo {k : Int} (h : 0 ≤ k) : (cutS z none (some k)).length = min k.toNat z.length := by
  rw [cut_len, sIx_pos h]
  show min (min k.toNat z.length - 0) (z.length - 0) = _
  omega
theorem cut_hi {k : Int} (h : 0 ≤ k) : (cutS z (some k) none).length = z.length - min k.toNat z.length := by
  rw [cut_len, sIx_pos h]
  show min (z.length - _) _ = _
  omega
theorem Sml.times (h : Sml z) {k : Int} : Sml (strTimes z k) := by
  unfold strTimes
  split
  · exact fun c hc => by simp [Str.empty] at hc
  · intro c hc
    have key : ∀ (m : Nat) (acc : Array Nat), (∀ c ∈ acc.toList, 97 ≤ c ∧ c ≤ 122) → ∀ c ∈ ((List.replicate m z.cps).foldl (· ++ ·) acc).toList, 97 ≤ c ∧ c ≤ 122 := by
      intro m
      induction m with
      | zero => intro acc ha c hc; exact ha c hc
      | succ m ih =>
        intro acc ha
        rw [List.replicate_succ, List.foldl_cons]
        refine ih _ fun c hc => ?_
        rw [Array.toList_append, List.mem_append] at hc
        exact hc.elim (ha c) (h c)
    exact key _ #[] (fun c hc => by simp at hc) c hc
theorem times_len {k : Int} (h0 : 1 ≤ k) : (strTimes z k).length = k.toNat * z.length := by
  unfold strTimes
  rw [if_neg (by omega)]
  show (List.foldl (· ++ ·) #[] (List.replicate k.toNat z.cps)).size = _
  rw [size_reps]
  simp [Str.length]
theorem joinE (ws : List Str) : (Txt.join "" ws).cps.toList = (ws.map TL.tl).flatten := by
  rw [TL.join_eq]
  have e : TL.tl (Str.join "" ws) = TL.joinL [] (ws.map TL.tl) := TL.tl_join "" ws
  have key : ∀ ls : List (List Nat), TL.joinL [] ls = ls.flatten := by
    intro ls
    induction ls with
    | nil => rfl
    | cons l r ih =>
      cases r with
      | nil => simp [TL.joinL]
      | cons l2 r =>
        show l ++ ([] ++ TL.joinL [] (l2 :: r)) = _
        rw [ih]; simp
  exact e.trans (key _)
theorem Lt.join {ws : List Str} (h : ∀ w ∈ ws, Lt 1 w) : Lt ws.length (Txt.join "" ws) := by
  constructor
  · rw [← len_toList, joinE]
    induction ws with
    | nil => rfl
    | cons w r ih =>
      have := ih fun w hw => h w (by simp [hw])
      have hw : (TL.tl w).length = 1 := by rw [← (h w (by simp)).1]; exact len_toList w
      simp only [List.map_cons, List.flatten_cons, List.length_append, List.length_cons] at this ⊢
      omega
  · intro c hc
    rw [joinE] at hc
    obtain ⟨l, hl, hc⟩ := List.mem_flatten.mp hc
    obtain ⟨w, hw, rfl⟩ := List.mem_map.mp hl
    exact (h w hw).2 c hc
theorem Nm.ln (h : Nm z) : Ln 8 z := ⟨h.2.1, fun c hc => by have := h.2.2 c hc; omega⟩
theorem Lt.ln (h : Lt n z) : Ln n z := ⟨Nat.le_of_eq h.1, fun c hc => by have := h.2 c hc; omega⟩
/-- no blank, at least one sign -/
theorem Nm.noSp (h : Nm z) : 32 ∉ TL.tl z := fun hc => by have := h.2.2 32 hc; omega
/-- names, joined by blanks, and split again -/
theorem split_names {ws : List Str} (h : ∀ w ∈ ws, Nm w) (hn : ws ≠ []) : Txt.split (Txt.join " " ws) " " = ws :=
  TL.split_join (y := " ") (s := 32) (S := []) (by decide +kernel) (by decide +kernel) hn fun p hp => (h p hp).noSp
theorem join_nil : Txt.join " " [] = "" := by rw [TL.join_eq]; rfl
end
end DL
/-! == of lists and tuples of texts -/
namespace DL
open PySem PySem.Spec PyProof.Rows L2
/-- signs that a text may have -/
def Okc (z : Str) : Prop := ∀ c ∈ z.cps.toList, c < 1114112
theorem toPys_strs (ns : List Str) : toPys (ns.map .str) = some (ns.map PyData.str) := by
  induction ns with
  | nil => rfl
  | cons z r ih => simp [toPys, toPy, ih]
theorem eqvAll_strs : ∀ ns ms : List Str, PyData.eqvAll (ns.map .str) (ms.map .str) = decide (ns = ms)
  | [], [] => rfl
  | [], _ :: _ => rfl
  | _ :: _, [] => rfl
  | x :: r, y :: t => by
    have ih := eqvAll_strs r t
    simp only [List.map_cons, PyData.eqvAll, PyData.eqv, ih]
    rw [Bool.eq_iff_iff]
    simp
theorem depthAll_strs (ns : List Str) : PyData.depthAll (ns.map .str) = 0 := by
  induction ns with
  | nil => rfl
  | cons z r ih => simp only [List.map_cons, PyData.depthAll, PyData.depth, ih]; rfl
theorem layAll_strs {ns : List Str} (h : ∀ z ∈ ns, Okc z) : PyData.canLayAll0 (ns.map .str) = true := by
  induction ns with
  | nil => rfl
  | cons z r ih =>
    simp only [List.map_cons, PyData.canLayAll0, PyData.canLay0, Bool.and_eq_true]
    refine ⟨?_, ih fun w hw => h w (by simp [hw])⟩
    unfold PyData.strOk
    rw [Array.all_eq_true_iff_forall_mem]
    intro c hc
    exact decide_eq_true (h z (by simp) c (by simpa using hc))
theorem shaped_tup {ns : List Str} (h : ∀ z ∈ ns, Okc z) : SeqAt.shaped (.tuple (ns.map .str)) = true := by
  unfold SeqAt.shaped
  rw [Bool.and_eq_true]
  refine ⟨by simpa only [PyData.canLay0] using layAll_strs h, ?_⟩
  simp only [PyData.depth, depthAll_strs]; decide
theorem shaped_list {ns : List Str} (h : ∀ z ∈ ns, Okc z) : SeqAt.shaped (.list (ns.map .str)) = true := by
  unfold SeqAt.shaped
  rw [Bool.and_eq_true]
  refine ⟨by simpa only [PyData.canLay0] using layAll_strs h, ?_⟩
  simp only [PyData.depth, depthAll_strs]; decide
theorem eqH_tups {ns ms : List Str} {S : Store} (h : ∀ z ∈ ns, Okc z) (h' : ∀ z ∈ ms, Okc z) : eqH (.tup (ns.map .str)) (.tup (ms.map .str)) S = some (decide (ns = ms)) := by
  have e1 : ∀ ns : List Str, toPyS S (.tup (ns.map .str)) = some (.tuple (ns.map .str)) := fun ns => by
    unfold toPyS; dsimp only [itemsR, itemsL, toPy]; rw [toPys_strs]; rfl
  unfold eqH; dsimp only [itemsR, itemsL]
  unfold eqB; dsimp only
  rw [e1, e1]
  dsimp only
  unfold shaped2
  rw [shaped_tup h, shaped_tup h', Bool.and_self, if_pos rfl]
  simp only [PyData.eqv, eqvAll_strs]
theorem eqH_lists {ns ms : List Str} {S : Store} (h : ∀ z ∈ ns, Okc z) (h' : ∀ z ∈ ms, Okc z) : eqH (.list (ns.map .str)) (.list (ms.map .str)) S = some (decide (ns = ms)) := by
  have e1 : ∀ ns : List Str, toPyS S (.list (ns.map .str)) = some (.list (ns.map .str)) := fun ns => by
    unfold toPyS; dsimp only [itemsR, itemsL]; rw [toPys_strs]; rfl
  unfold eqH; dsimp only [itemsR, itemsL]
  split
  · unfold eqB; dsimp only
    rw [e1, e1]
    dsimp only
    unfold shaped2
    rw [shaped_list h, shaped_list h', Bool.and_self, if_pos rfl]
    simp only [PyData.eqv, eqvAll_strs]
  · rename_i hl
    have : ns ≠ ms := fun e => hl (by rw [e])
    rw [decide_eq_false this]
theorem Nm.okc {z : Str} (h : Nm z) : Okc z := fun c hc => by have := h.2.2 c hc; omega
end DL
/-! Reasoning about mirrors that may raise. -/
namespace DL
open PySem PySem.Spec PyProof.Rows L2
abbrev EQ := Str → List (Str × D) → Store → Prop
/-- a value with Q, or an error with E -/
def Yz {α : Type} (o : Out α) (Q : α → Store → Prop) (E : EQ) : Prop := match o with
  | .ok a S => Q a S
  | .exc C fs S => E C fs S
  | .stuck => False
def RZ (r : Res) (N : Env' → Store → Prop) (R : D → Store → Prop) (B C : Env' → Store → Prop) (E : Str → List (Str × D) → Env' → Store → Prop) : Prop := match r with
  | .nx ρ S => N ρ S
  | .rt d S => R d S
  | .bk ρ S => B ρ S
  | .ct ρ S => C ρ S
  | .ex Cn fs ρ S => E Cn fs ρ S
  | .stuck => False
section
variable {α β : Type} {o : Out α} {k : α → Store → Out β} {Q Q' : α → Store → Prop} {Q2 : β → Store → Prop} {N N' B B' C C' : Env' → Store → Prop} {R R' : D → Store → Prop} {ρ : Env'} {S : Store} {f g h : Ev D} {p : Ev Bool} {s t : Stm} {E E' : EQ} {X : Str → List (Str × D) → Env' → Store → Prop}
theorem Yes.z (h : Yes o Q) : Yz o Q E := by
  cases o with
  | ok a S => exact h
  | _ => exact h.elim
theorem yz_ok {a : α} : Yz (.ok a S) Q E = Q a S := rfl
theorem yz_bind : Yz (o.bind k) Q2 E = Yz o (fun a S => Yz (k a S) Q2 E) E := by cases o <;> rfl
theorem yz_ofO {x : Option α} {a : α} (e : x = some a) : Yz (ofO x S) Q E = Q a S := by subst e; rfl
theorem Yz.mono (h : Yz o Q E) (i : ∀ a S, Q a S → Q' a S) (j : ∀ C fs S, E C fs S → E' C fs S) : Yz o Q' E' := by
  cases o with
  | ok a S => exact i _ _ h
  | exc C fs S => exact j _ _ _ h
  | stuck => exact h
theorem yz_of (h : Yz o Q E) (j : ∀ C fs S, ¬ E C fs S) : Yes o Q := by
  cases o with
  | ok a S => exact h
  | exc C fs S => exact (j _ _ _ h).elim
  | stuck => exact h
theorem RY.z (h : RY (t ρ S) N R B C) : RZ (t ρ S) N R B C X := by cases e : t ρ S <;> rw [e] at h <;> first | exact h | exact h.elim
theorem rz_res {k : α → Store → Res} (h : Yz o (fun a S => RZ (k a S) N R B C X) fun Cn fs S => X Cn fs ρ S) : RZ (o.res ρ k) N R B C X := by cases o <;> exact h
theorem rz_seq (h : RZ (s ρ S) (fun ρ S => RZ (t ρ S) N R B C X) R B C X) : RZ (sSeq s t ρ S) N R B C X := by
  unfold sSeq
  cases e : s ρ S <;> rw [e] at h <;> exact h
theorem rz_nil (h : N ρ S) : RZ (sNil ρ S) N R B C X := h
theorem rz_set {i : Nat} (h : Yz (f ρ S) (fun d S => N (ρ.set i (some d)) S) fun Cn fs S => X Cn fs ρ S) : RZ (sSet i f ρ S) N R B C X := rz_res h
theorem rz_expr (h : Yz (f ρ S) (fun _ S => N ρ S) fun Cn fs S => X Cn fs ρ S) : RZ (sExpr f ρ S) N R B C X := rz_res h
theorem rz_ret (h : Yz (f ρ S) R fun Cn fs S => X Cn fs ρ S) : RZ (sRet f ρ S) N R B C X := rz_res h
theorem rz_if (h : Yz (p ρ S) (fun b S => if b then RZ (s ρ S) N R B C X else RZ (t ρ S) N R B C X) fun Cn fs S => X Cn fs ρ S) : RZ (sIf p s t ρ S) N R B C X := by
  refine rz_res (h.mono (fun b S z => ?_) fun _ _ _ z => z)
  cases b
  · rw [if_neg (by decide)] at z ⊢; exact z
  · rw [if_pos rfl] at z ⊢; exact z
theorem rz_raise {Cn : Str} {fs : List Str} {fa : Ev (List D)} (h : Yes (fa ρ S) fun ds S => ds.length = fs.length ∧ ds.length ≤ 1000 ∧ X Cn (fs.zip ds).reverse ρ S) : RZ (sRaise Cn fs fa ρ S) N R B C X := by
  refine rz_res (Yes.z (h.mono fun ds S z => ?_))
  rw [if_pos ⟨z.1, z.2.1⟩]
  exact z.2.2
theorem rz_raise0 {Cn : Str} (h : X Cn [] ρ S) : RZ (sRaise0 Cn ρ S) N R B C X := h
/-- a loop by its invariant -/
theorem rz_for {it : Ev (List D)} {g : Tg} {b : Stm} (Iv : Nat → Env' → Store → Prop) (ds : List D) (h : Yes (it ρ S) fun l S => l = ds ∧ Iv 0 ρ S)
    (turn : ∀ i d ρ S, ds[i]? = some d → Iv i ρ S → ∃ ρ1, g d ρ = some ρ1 ∧ RZ (b ρ1 S) (Iv (i + 1)) R N (Iv (i + 1)) X) (fin : ∀ ρ S, Iv ds.length ρ S → N ρ S) : RZ (sFor it g b ρ S) N R B C X := by
  refine rz_res (Yes.z (h.mono fun l S ⟨e, z⟩ => ?_))
  subst e
  have key : ∀ (n i : Nat) (ρ : Env') (S : Store), l.length - i = n → i ≤ l.length → Iv i ρ S → RZ (loopD g b (l.drop i) ρ S) N R B C X := by
    intro n
    induction n with
    | zero =>
      intro i ρ S hn hi z
      have e : i = l.length := by omega
      subst e
      rw [List.drop_length]
      exact fin _ _ z
    | succ n ih =>
      intro i ρ S hn hi z
      have hl : i < l.length := by omega
      rw [List.drop_eq_getElem_cons hl]
      unfold loopD
      obtain ⟨ρ1, e1, h1⟩ := turn i l[i] ρ S (by simp [hl]) z
      rw [e1]
      dsimp only
      cases e2 : b ρ1 S with
      | nx ρ2 S2 => rw [e2] at h1; exact ih (i + 1) ρ2 S2 (by omega) hl h1
      | ct ρ2 S2 => rw [e2] at h1; exact ih (i + 1) ρ2 S2 (by omega) hl h1
      | bk ρ2 S2 => rw [e2] at h1; exact h1
      | rt d S2 => rw [e2] at h1; exact h1
      | ex _ _ _ _ => rw [e2] at h1; exact h1
      | stuck => rw [e2] at h1; exact h1
  have := key l.length 0 ρ S (by simp) (Nat.zero_le _) z
  simpa using this
theorem yz_fn {n : Nat} {ds : List D} {Q : D → Store → Prop} (h : RZ (s (ds.map some ++ List.replicate (n - ds.length) none) S) (fun _ S => Q .non S) Q no2 no2 fun Cn fs _ S => E Cn fs S) : Yz (fnD n s ds S) Q E := by
  unfold fnD
  cases e : s (ds.map some ++ List.replicate (n - ds.length) none) S <;> rw [e] at h <;> exact h
/-- a loop over what is known after the iterable's run -/
theorem ry_forE {it : Ev (List D)} {g : Tg} {b : Stm} (h : Yes (it ρ S) fun ds S1 => ∃ Iv : Nat → Env' → Store → Prop, Iv 0 ρ S1 ∧ (∀ i d ρ S, ds[i]? = some d → Iv i ρ S → ∃ ρ1, g d ρ = some ρ1 ∧ RY (b ρ1 S) (Iv (i + 1)) R N (Iv (i + 1))) ∧ (∀ ρ S, Iv ds.length ρ S → N ρ S)) : RY (sFor it g b ρ S) N R B C := by
  cases e : it ρ S with
  | ok ds S1 =>
    rw [e] at h
    obtain ⟨Iv, h0, turn, fin⟩ := h
    have key : sFor it g b ρ S = sFor (fun _ _ => .ok ds S1) g b ρ S := by unfold sFor; rw [e]
    rw [key]
    exact ry_for Iv ds ⟨rfl, h0⟩ turn fin
  | exc Cn fs S1 => rw [e] at h; exact h.elim
  | stuck => rw [e] at h; exact h.elim
/-- try -/
theorem ry_try {hs : List Hd} (h : RZ (s ρ S) N R B C fun Cn fs ρ S => RY (tryD hs Cn fs ρ S) N R B C) : RY (sTry s hs ρ S) N R B C := by
  unfold sTry
  cases e : s ρ S <;> rw [e] at h <;> exact h
theorem rz_try {hs : List Hd} (h : RZ (s ρ S) N R B C fun Cn fs ρ S => RZ (tryD hs Cn fs ρ S) N R B C X) : RZ (sTry s hs ρ S) N R B C X := by
  unfold sTry
  cases e : s ρ S <;> rw [e] at h <;> exact h
theorem ry_hit {sub : Str → Option Bool} {i : Nat} {hs : List Hd} {Cn : Str} {fs : List (Str × D)} (e : sub Cn = some true) (h : RY (s (ρ.set i (some (.exc Cn fs))) S) (fun ρ S => N (ρ.set i none) S) R (fun ρ S => B (ρ.set i none) S) fun ρ S => C (ρ.set i none) S) :
    RY (tryD ((sub, some i, s) :: hs) Cn fs ρ S) N R B C := by
  unfold tryD suiteD
  rw [e]
  dsimp only
  cases e2 : s (ρ.set i (some (.exc Cn fs))) S <;> rw [e2] at h <;> exact h
theorem ry_hit0 {sub : Str → Option Bool} {hs : List Hd} {Cn : Str} {fs : List (Str × D)} (e : sub Cn = some true) (h : RY (s ρ S) N R B C) : RY (tryD ((sub, none, s) :: hs) Cn fs ρ S) N R B C := by
  unfold tryD suiteD
  rw [e]
  dsimp only
  cases e2 : s ρ S <;> rw [e2] at h <;> exact h
theorem ry_miss {sub : Str → Option Bool} {oi : Option Nat} {hs : List Hd} {Cn : Str} {fs : List (Str × D)} (e : sub Cn = some false) (h : RY (tryD hs Cn fs ρ S) N R B C) : RY (tryD ((sub, oi, s) :: hs) Cn fs ρ S) N R B C := by
  unfold tryD
  rw [e]
  exact h
/-- making an object that may fail -/
theorem yz_make {Cn : Str} {mm : Fn} {fa : Ev (List D)} {fr : Bool} {Q : D → Store → Prop} (h : Yes (fa ρ S) fun ds S => Yz (mm (.ref S.length :: ds) (S ++ [.ins Cn []])) (fun r S' => r = .non ∧ ∃ d S2, finMk fr S.length S' = some (d, S2) ∧ Q d S2) E) : Yz (eMake fr Cn mm fa ρ S) Q E := by
  unfold eMake
  rw [yz_bind]
  refine Yes.z (h.mono fun ds S z => ?_)
  rw [yz_bind]
  refine z.mono (fun r S' ⟨e, d, S2, e2, q⟩ => ?_) fun _ _ _ z => z
  subst e
  dsimp only
  rw [e2]
  exact q
end
end DL
/-! words: short ascii texts without blanks; joined, split, upper -/
namespace DL
open PySem PySem.Spec PyProof.Rows L2
/-- at most n signs, ascii, no blank -/
def Wd (n : Nat) (z : Str) : Prop := z.length ≤ n ∧ ∀ c ∈ z.cps.toList, c < 128 ∧ c ≠ 32
section
variable {n m : Nat} {x y z : Str} {S : Store}
theorem Wd.mono (h : Wd n z) (i : n ≤ m) : Wd m z := ⟨Nat.le_trans h.1 i, h.2⟩
theorem Wd.ln (h : Wd n z) : Ln n z := ⟨h.1, fun c hc => (h.2 c hc).1⟩
theorem Nm.wd (h : Nm z) : Wd 8 z := ⟨h.2.1, fun c hc => by have := h.2.2 c hc; omega⟩
theorem Wd.app (h : Wd n x) (k : Wd m y) : Wd (n + m) (x ++ y) := by
  refine ⟨by rw [app_len]; exact Nat.add_le_add h.1 k.1, fun c hc => ?_⟩
  obtain ⟨a⟩ := x
  obtain ⟨b⟩ := y
  have hc : c ∈ (a ++ b).toList := hc
  rw [Array.toList_append, List.mem_append] at hc
  exact hc.elim (h.2 c) (k.2 c)
theorem Wd.times (h : Wd n z) {k : Int} (h0 : 0 ≤ k) : Wd (n * k.toNat) (strTimes z k) := by
  refine ⟨(h.ln.times h0).1, ?_⟩
  unfold strTimes
  split
  · exact fun c hc => by simp [Str.empty] at hc
  · intro c hc
    have key : ∀ (m : Nat) (acc : Array Nat), (∀ c ∈ acc.toList, c < 128 ∧ c ≠ 32) → ∀ c ∈ ((List.replicate m z.cps).foldl (· ++ ·) acc).toList, c < 128 ∧ c ≠ 32 := by
      intro m
      induction m with
      | zero => intro acc ha c hc; exact ha c hc
      | succ m ih =>
        intro acc ha
        rw [List.replicate_succ, List.foldl_cons]
        refine ih _ fun c hc => ?_
        rw [Array.toList_append, List.mem_append] at hc
        exact hc.elim (ha c) (h.2 c)
    exact key _ #[] (fun c hc => by simp at hc) c hc
theorem upper_sign : ∀ c < 128, Unicode.upperOf c = [if 97 ≤ c ∧ c ≤ 122 then c - 32 else c] := by decide +kernel
theorem upper_list (h : ∀ c ∈ z.cps.toList, c < 128) : (Txt.upper z).cps.toList = z.cps.toList.map fun c => if 97 ≤ c ∧ c ≤ 122 then c - 32 else c := by
  show (placed z fun _ c => Unicode.upperOf c).toList = _
  unfold placed
  have e : ∀ l : List Nat, (∀ c ∈ l, c < 128) → ((l.mapIdx fun _ c => (Unicode.upperOf c).toArray).map Array.toList).flatten = l.map fun c => if 97 ≤ c ∧ c ≤ 122 then c - 32 else c := by
    intro l
    induction l with
    | nil => intro _; rfl
    | cons a r ih =>
      intro hl
      rw [List.mapIdx_cons, List.map_cons, List.flatten_cons, List.map_cons, ih fun c hc => hl c (List.mem_cons_of_mem _ hc)]
      show (Unicode.upperOf a).toArray.toList ++ _ = _
      rw [upper_sign a (hl a List.mem_cons_self)]
      rfl
  rw [← e _ h]
  simp
theorem Wd.upper (h : Wd n z) : Wd n (Txt.upper z) := by
  have e := upper_list fun c hc => (h.2 c hc).1
  refine ⟨?_, fun c hc => ?_⟩
  · rw [← len_toList, e, List.length_map, len_toList]; exact h.1
  · rw [e, List.mem_map] at hc
    obtain ⟨a, ha, rfl⟩ := hc
    have := h.2 a ha
    split <;> omega
theorem Wd.noSp (h : Wd n z) : 32 ∉ TL.tl z := fun hc => (h.2 32 hc).2 rfl
theorem Wd.okc (h : Wd n z) : Okc z := fun c hc => by have := h.2 c hc; omega
theorem split_wd {ws : List Str} (h : ∀ w ∈ ws, Wd n w) (hn : ws ≠ []) : Txt.split (Txt.join " " ws) " " = ws :=
  TL.split_join (y := " ") (s := 32) (S := []) (by decide +kernel) (by decide +kernel) hn fun p hp => (h p hp).noSp
theorem joinW {ws : List Str} (h : ∀ w ∈ ws, Wd n w) : (Txt.join " " ws).length ≤ (n + 1) * ws.length ∧ (Txt.join " " ws = "" ↔ ws = [] ∨ ws = [("" : Str)]) := by
  have e : TL.tl (Txt.join " " ws) = TL.joinL [32] (ws.map TL.tl) := by
    rw [TL.join_eq]
    have z : TL.tl (Str.join " " ws) = TL.joinL (TL.tl " ") (ws.map TL.tl) := TL.tl_join " " ws
    have z2 : TL.tl (" " : Str) = [32] := by decide +kernel
    rw [z2] at z; exact z
  have len : ∀ ws : List Str, (∀ w ∈ ws, Wd n w) → (TL.joinL [32] (ws.map TL.tl)).length ≤ (n + 1) * ws.length := by
    intro ws
    induction ws with
    | nil => intro _; simp [TL.joinL]
    | cons w r ih =>
      intro h
      have hw : (TL.tl w).length ≤ n := by have := (h w (by simp)).1; rw [← len_toList] at this; exact this
      have i := ih fun w hw => h w (by simp [hw])
      cases r with
      | nil => show (TL.tl w).length ≤ (n + 1) * 1; omega
      | cons w2 r =>
        show (TL.tl w ++ ([32] ++ TL.joinL [32] ((w2 :: r).map TL.tl))).length ≤ (n + 1) * ((w2 :: r).length + 1)
        rw [List.length_append, List.length_append, Nat.mul_add]
        have : ([32] : List Nat).length = 1 := rfl
        omega
  refine ⟨by rw [← len_toList]; show (TL.tl _).length ≤ _; rw [e]; exact len ws h, fun z => ?_, fun z => ?_⟩
  · have e0 : TL.tl ("" : Str) = [] := by decide +kernel
    rw [z, e0] at e
    match ws, e with
    | [], _ => exact .inl rfl
    | [w], e =>
      right
      have e : [] = TL.tl w := e
      obtain ⟨⟨l⟩⟩ := w
      have e : [] = l := e
      rw [← e]; rfl
    | w :: w2 :: r, e =>
      have e : [] = TL.tl w ++ ([32] ++ TL.joinL [32] ((w2 :: r).map TL.tl)) := e
      simp at e
  · rcases z with rfl | rfl
    · exact join_nil
    · rw [TL.join_eq]; rfl
theorem sumW {ws : List Str} (h : ∀ w ∈ ws, Wd n w) : (ws.map (·.length)).sum ≤ n * ws.length := sum_le fun w hw => (h w hw).ln
theorem gJoin_wd {ws : List Str} (h : ∀ w ∈ ws, Wd n w) (hl : (n + 1) * ws.length ≤ 16777216) : gJoin (.str " ") [.list (ws.map .str)] S = some (.str (Txt.join " " ws), S) := by
  have e : ((" " : String) : Str).length = 1 := rfl
  have := sumW h
  rw [Nat.add_mul, Nat.one_mul] at hl
  simp only [gJoin, itemsS, itemsR, itemsL, strsOf_map, e]
  rw [if_pos (by omega)]
theorem gJoin_wdT {ws : List Str} (h : ∀ w ∈ ws, Wd n w) (hl : (n + 1) * ws.length ≤ 16777216) : gJoin (.str " ") [.tup (ws.map .str)] S = some (.str (Txt.join " " ws), S) := by
  have e : ((" " : String) : Str).length = 1 := rfl
  have := sumW h
  rw [Nat.add_mul, Nat.one_mul] at hl
  simp only [gJoin, itemsS, strsOf_map, e]
  rw [if_pos (by omega)]
end
/-- the first place that fails -/
def First {α : Type} (p : α → Bool) (xs : List α) (i : Nat) : Prop := (∃ x, xs[i]? = some x ∧ p x = false) ∧ ∀ j x, j < i → xs[j]? = some x → p x = true
theorem First.uniq {α : Type} {p : α → Bool} {xs : List α} {i j : Nat} (h : First p xs i) (k : First p xs j) : i = j := by
  obtain ⟨⟨x, e, e2⟩, h2⟩ := h
  obtain ⟨⟨y, f, f2⟩, k2⟩ := k
  rcases Nat.lt_trichotomy i j with z | z | z
  · have := k2 i x z e; rw [e2] at this; cases this
  · exact z
  · have := h2 j y z f; rw [f2] at this; cases this
end DL
/-! what can be shown and compared: whole numbers, names in lists and tuples; fields by properties -/
namespace DL
open PySem PySem.Spec PyProof.Rows L2
theorem ShD.int {i : Int} (h : i.natAbs < 10 ^ 60) : ShD 0 0 (.int i) := ⟨.int i, rfl, ⟨by
  show decide ((PyData.shown (.int i)).length ≤ 64) = true
  refine decide_eq_true ?_
  have z : (toString i).length ≤ 61 := int_text_length_le10 (k := 60) (by decide) h
  have e : (PyData.shown (.int i)).length = (toString i).length := by
    show (Str.ofString (toString i)).length = _
    rw [PySem.ofString_length]
  omega, Nat.le_refl _, Nat.le_refl _, by
  show decide (i.natAbs.log2 < 1920) = true
  refine decide_eq_true ?_
  by_cases z : i.natAbs = 0
  · rw [z]; decide
  · refine (Nat.log2_lt z).mpr (Nat.lt_of_lt_of_le h ?_)
    exact Nat.le_trans (by decide +kernel : 10 ^ 60 ≤ 2 ^ 200) (Nat.pow_le_pow_right (by decide) (by decide))⟩⟩
theorem ShD.non : ShD 0 0 .non := ⟨.none, rfl, ⟨rfl, Nat.le_refl _, Nat.le_refl _, rfl⟩⟩
theorem ShDs.strs {n : Nat} {ws : List Str} (h : ∀ w ∈ ws, Ln n w) : ShDs ((n + 1) * ws.length) 0 (ws.map .str) := by
  have := ShDs.all (k := n) (e := 0) (ds := ws.map .str) fun d hd => by
    obtain ⟨w, hw, rfl⟩ := List.mem_map.mp hd
    exact ShD.str (h w hw)
  rwa [List.length_map] at this
/-- repr works, and depends on nothing else -/
theorem gRepr_ok {S : Store} {k e : Nat} {d : D} (h : ShD k e d) (i : k ≤ 200000) (j : e ≤ 60) : ∃ z, ∀ S', gRepr [d] S' = some (.str z) := by
  obtain ⟨z, _, q⟩ := gRepr_sh (S := S) h i j
  exact ⟨z, q⟩
theorem eqH_int2 {a b c d : Int} {S : Store} : eqH (.list [.int a, .int b]) (.list [.int c, .int d]) S = some (decide (a = c) && decide (b = d)) := by
  unfold eqH
  dsimp only [itemsR, itemsL]
  rw [if_pos (show [D.int a, D.int b].length = [D.int c, D.int d].length from rfl)]
  unfold eqB
  dsimp only
  have e1 : ∀ a b : Int, toPyS S (.list [.int a, .int b]) = some (.list [.int a, .int b]) := fun _ _ => rfl
  rw [e1, e1]
  dsimp only
  unfold shaped2
  have e2 : ∀ a b : Int, SeqAt.shaped (.list [.int a, .int b]) = true := fun _ _ => rfl
  rw [e2, e2, Bool.and_self, if_pos rfl]
  simp only [PyData.eqv, PyData.eqvAll, Bool.and_true]
  rfl
/-- len(o), o's own __len__ leaving all as it is -/
theorem yes_lenU {own : Str → Option Fn} {f : Ev D} {ρ : Env'} {S : Store} {Q : D → Store → Prop} (h : Yes (f ρ S) fun d S => ∃ mm, ∃ n : Int, own1 own S d = some mm ∧ mm [d] S = .ok (.int n) S ∧ 0 ≤ n ∧ n ≤ 1000000 ∧ Q (.int n) S) : Yes (eLenU own (aCons f aNil) ρ S) Q := by
  unfold eLenU aCons aNil
  rw [yes_bind, yes_bind]
  refine h.mono fun d S ⟨mm, n, e1, e2, h0, h1, k⟩ => ?_
  rw [yes_bind, yes_ok, yes_ok]
  dsimp only
  rw [e1]
  dsimp only
  rw [e2, show noExc (Out.ok (D.int n) S) = .ok (.int n) S from rfl, yes_bind, yes_ok]
  dsimp only
  have hc : 0 ≤ n ∧ n < 2 ^ 63 := ⟨h0, Int.lt_of_le_of_lt h1 (by decide)⟩
  rw [if_pos hc, yes_ok]
  exact k
end DL
/-! odd values beside names: what `in` says of them, what is shown -/
namespace DL
open PySem PySem.Spec PyProof.Rows L2
theorem ShD.dict1 {n : Nat} {z : Str} (h : Ln n z) : ShD (2 * n + 2) 1 (.dict [(.inr z, .str z)]) := by
  obtain ⟨p, h1, h2⟩ := ShD.str h
  cases h1
  refine ⟨.dict [(.str z, .str z)], rfl, ⟨?_, ?_, ?_, ?_⟩⟩
  · have := h2.lf
    simp only [PyData.leavesShort, PyData.leavesShortKv, Bool.and_true, Bool.and_self] at this ⊢
    exact this
  · have := h2.bk
    simp only [PyData.bulk, PyData.bulkKv] at this ⊢
    omega
  · have := h2.dp
    simp only [PyData.depth, PyData.depthKv] at this ⊢
    decide
  · rfl
theorem scVs_strs (ns : List Str) : scVs (ns.map .str) = some (ns.map V.str) := by
  induction ns with
  | nil => rfl
  | cons z r ih => rw [List.map_cons, scVs, ih]; rfl
theorem inV_strs (z : Str) (ns : List Str) : inV (.str z) (ns.map V.str) = decide (z ∈ ns) := by
  induction ns with
  | nil => rfl
  | cons w r ih =>
    unfold inV at ih ⊢
    rw [List.map_cons, List.any_cons, ih]
    have e : eqV (.str w) (.str z) = decide (w = z) := by
      show (w == z) = _
      by_cases h : w = z
      · rw [h]; simp
      · rw [decide_eq_false h]; exact beq_false_of_ne h
    rw [e]
    by_cases h : w = z
    · rw [h]; simp
    · have h' : ¬ z = w := fun x => h x.symm
      simp [h, h', List.mem_cons]
theorem notInD_no {x y : D} {S : Store} (h : dictIn x y S = false) : gNotInD x y S = gNotIn x y S := by unfold gNotInD; rw [h]; rfl
theorem notIn_str {z : Str} {ns : List Str} {S : Store} : gNotInD (.str z) (.list (ns.map .str)) S = some (.bl (!decide (z ∈ ns))) := by
  rw [notInD_no (by rfl)]
  unfold gNotIn inB
  dsimp only [itemsK, itemsS, itemsR, itemsL, scV]
  rw [scVs_strs]
  dsimp only
  rw [inV_strs]
  rfl
theorem notIn_flat {d : D} {v : V} {ns : List Str} {S : Store} (h : scV d = some v) (hs : ∀ z, d ≠ .str z) : ∃ b, gNotInD d (.list (ns.map .str)) S = some (.bl b) := by
  cases d <;> first | (cases h; done) | skip
  all_goals
    rw [notInD_no (by rfl)]
    unfold gNotIn inB
    dsimp only [itemsK, itemsS, itemsR, itemsL]
    rw [h, scVs_strs]
    exact ⟨_, rfl⟩
theorem notIn_seq {d : D} {ms ns : List Str} {S : Store} (hd : d = .tup (ms.map .str) ∨ d = .list (ms.map .str)) (h : ∀ z ∈ ms, Okc z) (h' : ∀ z ∈ ns, Okc z) : ∃ b, gNotInD d (.list (ns.map .str)) S = some (.bl b) := by
  have e1 : toPyS S (.tup (ms.map .str)) = some (.tuple (ms.map .str)) := by unfold toPyS; dsimp only [itemsR, itemsL, toPy]; rw [toPys_strs]; rfl
  have e2 : toPyS S (.list (ms.map .str)) = some (.list (ms.map .str)) := by unfold toPyS; dsimp only [itemsR, itemsL]; rw [toPys_strs]; rfl
  rcases hd with rfl | rfl
  · rw [notInD_no (by rfl)]
    unfold gNotIn inB
    dsimp only [itemsK, itemsS, itemsR, itemsL, scV]
    rw [e1, toPys_strs]
    dsimp only
    unfold shaped2
    rw [shaped_tup h, shaped_list h', Bool.and_self, if_pos rfl]
    exact ⟨_, rfl⟩
  · rw [notInD_no (by rfl)]
    unfold gNotIn inB
    dsimp only [itemsK, itemsS, itemsR, itemsL, scV]
    rw [e2, toPys_strs]
    dsimp only
    unfold shaped2
    rw [shaped_list h, shaped_list h', Bool.and_self, if_pos rfl]
    exact ⟨_, rfl⟩
theorem notIn_dict {kvs : List (Key × D)} {ns : List Str} {S : Store} : gNotInD (.dict kvs) (.list (ns.map .str)) S = some (.bl true) := by
  have e : dictIn (.dict kvs) (.list (ns.map .str)) S = true := by
    show (ns.map D.str).all isStr = true
    rw [List.all_eq_true]; intro d hd; obtain ⟨z, _, rfl⟩ := List.mem_map.mp hd; rfl
  unfold gNotInD; rw [e]; rfl
theorem eDisp1 {f g : Ev D} {ρ : Env'} {S : Store} {z : Str} {d : D} (h : f ρ S = .ok (.str z) S) (k : g ρ S = .ok d S) : eDisp [(f, g)] ρ S = .ok (.dict [(.inr z, d)]) S := by
  unfold eDisp evPs
  rw [h]
  show ((g ρ S).bind _).bind _ = _
  rw [k]
  rfl
theorem joinLnW {ws : List Str} {n : Nat} (h : ∀ z ∈ ws, Wd n z) : Ln ((n + 1) * ws.length) (Txt.join " " ws) := by
  refine ⟨(joinW h).1, ?_⟩
  have e : (Txt.join " " ws).cps.toList = TL.joinL [32] (ws.map TL.tl) := by
    rw [TL.join_eq]
    have z : TL.tl (Str.join " " ws) = TL.joinL (TL.tl " ") (ws.map TL.tl) := TL.tl_join " " ws
    have z2 : TL.tl (" " : Str) = [32] := by decide +kernel
    rw [z2] at z
    exact z
  rw [e]
  clear e
  induction ws with
  | nil => intro c hc; simp [TL.joinL] at hc
  | cons w r ih =>
    have hw := h w (by simp)
    have i2 := ih fun w hw => h w (by simp [hw])
    cases r with
    | nil => exact fun c hc => (hw.2 c (by simpa [TL.joinL, TL.tl] using hc)).1
    | cons w2 r =>
      intro c hc
      have hc : c ∈ TL.tl w ++ ([32] ++ TL.joinL [32] ((w2 :: r).map TL.tl)) := hc
      rcases List.mem_append.mp hc with hc | hc
      · exact (hw.2 c hc).1
      · rcases List.mem_append.mp hc with hc | hc
        · rw [List.mem_singleton.mp hc]; decide
        · exact i2 c hc
theorem yes_notU {own : Str → Option Fn} {f : Ev D} {ρ : Env'} {S : Store} {Q : D → Store → Prop} (h : Yes (f ρ S) fun d S => ∃ mm, ∃ n : Int, own1 own S d = some mm ∧ mm [d] S = .ok (.int n) S ∧ 0 ≤ n ∧ n ≤ 1000000 ∧ Q (.bl (decide (n = 0))) S) : Yes (eNotU own f ρ S) Q := by
  unfold eNotU
  rw [yes_bind]
  refine h.mono fun d S ⟨mm, n, e1, e2, h0, h1, k⟩ => ?_
  rw [e1]
  dsimp only
  rw [e2, show noExc (Out.ok (D.int n) S) = .ok (.int n) S from rfl, yes_bind, yes_ok]
  dsimp only
  have hc : 0 ≤ n ∧ n < 2 ^ 63 := ⟨h0, Int.lt_of_le_of_lt h1 (by decide)⟩
  rw [if_pos hc, yes_ok]
  have e : (!(n != 0)) = decide (n = 0) := by
    by_cases z : n = 0
    · rw [z]; rfl
    · rw [decide_eq_false z]; simp [z]
  rw [e]
  exact k
end DL
/-! tuples of places -/
namespace DL
open PySem PySem.Spec PyProof.Rows L2
theorem toPys_ints (xs : List Int) : toPys (xs.map .int) = some (xs.map PyData.int) := by
  induction xs with
  | nil => rfl
  | cons z r ih => rw [List.map_cons, toPys, ih]; rfl
theorem layAll_ints (xs : List Int) : PyData.canLayAll0 (xs.map .int) = true := by
  induction xs with
  | nil => rfl
  | cons z r ih =>
    simp only [List.map_cons, PyData.canLayAll0, PyData.canLay0, Bool.and_eq_true]
    exact ⟨trivial, ih⟩
theorem depthAll_ints (xs : List Int) : PyData.depthAll (xs.map .int) = 0 := by
  induction xs with
  | nil => rfl
  | cons z r ih => simp only [List.map_cons, PyData.depthAll, PyData.depth, ih]; rfl
theorem shaped_tupI (xs : List Int) : SeqAt.shaped (.tuple (xs.map .int)) = true := by
  unfold SeqAt.shaped
  rw [Bool.and_eq_true]
  refine ⟨by simpa only [PyData.canLay0] using layAll_ints xs, ?_⟩
  simp only [PyData.depth, depthAll_ints]; decide
theorem shaped_listI (xs : List Int) : SeqAt.shaped (.list (xs.map .int)) = true := by
  unfold SeqAt.shaped
  rw [Bool.and_eq_true]
  refine ⟨by simpa only [PyData.canLay0] using layAll_ints xs, ?_⟩
  simp only [PyData.depth, depthAll_ints]; decide
theorem eqvAll_ints : ∀ ns ms : List Int, PyData.eqvAll (ns.map .int) (ms.map .int) = decide (ns = ms)
  | [], [] => rfl
  | [], _ :: _ => rfl
  | _ :: _, [] => rfl
  | a :: r, b :: t => by
    have e : PyData.eqv (.int a) (.int b) = decide (a = b) := rfl
    simp only [List.map_cons, PyData.eqvAll, e, eqvAll_ints r t, List.cons.injEq, Bool.decide_and]
theorem eqH_tupI {ns ms : List Int} {S : Store} : eqH (.tup (ns.map .int)) (.tup (ms.map .int)) S = some (decide (ns = ms)) := by
  have e1 : ∀ ns : List Int, toPyS S (.tup (ns.map .int)) = some (.tuple (ns.map .int)) := fun ns => by
    unfold toPyS; dsimp only [itemsR, itemsL, toPy]; rw [toPys_ints]; rfl
  unfold eqH; dsimp only [itemsR, itemsL]
  unfold eqB; dsimp only
  rw [e1, e1]
  dsimp only
  unfold shaped2
  rw [shaped_tupI, shaped_tupI, Bool.and_self, if_pos rfl]
  simp only [PyData.eqv, eqvAll_ints]
theorem gNeH_tupI {ns ms : List Int} {S : Store} : gNeH (.tup (ns.map .int)) (.tup (ms.map .int)) S = some (.bl (!decide (ns = ms))) := by unfold gNeH; rw [eqH_tupI]; rfl
/-- the places below k where z stands -/
def occ (ns : List Str) (z : Str) (k : Nat) : List Int := ((List.range k).filter fun i => decide (ns[i]? = some z)).map fun (i : Nat) => (i : Int)
theorem occ_succ (ns : List Str) (z : Str) (k : Nat) : occ ns z (k + 1) = occ ns z k ++ if ns[k]? = some z then [(k : Int)] else [] := by
  unfold occ
  rw [List.range_succ, List.filter_append, List.map_append]
  by_cases h : ns[k]? = some z
  · simp [h]
  · simp [h]
theorem occ_len (ns : List Str) (z : Str) (k : Nat) : (occ ns z k).length ≤ k := by
  unfold occ
  rw [List.length_map]
  exact Nat.le_trans (List.length_filter_le _ _) (by rw [List.length_range]; exact Nat.le_refl _)
theorem occ_lt (ns : List Str) (z : Str) (k : Nat) : ∀ i ∈ occ ns z k, 0 ≤ i ∧ i < k := fun i hi => by
  unfold occ at hi
  obtain ⟨j, hj, rfl⟩ := List.mem_map.mp hi
  have := List.mem_range.mp (List.mem_filter.mp hj).1
  omega
theorem occ_nil (ns : List Str) (z : Str) : occ ns z ns.length = [] ↔ z ∉ ns := by
  unfold occ
  rw [List.map_eq_nil_iff, List.filter_eq_nil_iff]
  constructor
  · intro h hz
    obtain ⟨i, hi, e⟩ := List.mem_iff_getElem.mp hz
    exact h i (List.mem_range.mpr hi) (decide_eq_true (by rw [List.getElem?_eq_getElem hi, e]))
  · intro h i hi e
    exact h (List.mem_of_getElem? (of_decide_eq_true e))
theorem join_tl (ws : List Str) : (Txt.join " " ws).cps.toList = TL.joinL [32] (ws.map TL.tl) := by
  rw [TL.join_eq]
  have z : TL.tl (Str.join " " ws) = TL.joinL (TL.tl " ") (ws.map TL.tl) := TL.tl_join " " ws
  have z2 : TL.tl (" " : Str) = [32] := by decide +kernel
  rw [z2] at z
  exact z
theorem join_two (a b : Str) (r : List Str) : 32 ∈ (Txt.join " " (a :: b :: r)).cps.toList := by
  rw [join_tl]
  show 32 ∈ TL.tl a ++ ([32] ++ TL.joinL [32] ((b :: r).map TL.tl))
  simp
theorem ShDs.ints {n : Nat} {xs : List Int} (h : ∀ i ∈ xs, i.natAbs < 10 ^ 60) : ShDs xs.length 0 (xs.map .int) := by
  have := ShDs.all (k := 0) (e := 0) (ds := xs.map .int) fun d hd => by
    obtain ⟨w, hw, rfl⟩ := List.mem_map.mp hd
    exact ShD.int (h w hw)
  rw [List.length_map] at this
  exact this.mono (by omega) (Nat.le_refl _)
theorem gIn_strs {z : Str} {ns : List Str} {S : Store} : gIn (.str z) (.tup (ns.map .str)) S = some (.bl (decide (z ∈ ns))) := by
  unfold gIn inB
  dsimp only [itemsK, itemsS, itemsR, itemsL, scV]
  rw [scVs_strs]
  dsimp only
  rw [inV_strs]
  rfl
theorem ShD.dictI {i : Int} (h : i.natAbs < 10 ^ 60) : ShD 2 1 (.dict [(.inl i, .int i)]) := by
  obtain ⟨p, h1, h2⟩ := ShD.int h
  cases h1
  refine ⟨.dict [(.int i, .int i)], rfl, ⟨?_, ?_, ?_, ?_⟩⟩
  · have := h2.lf
    simp only [PyData.leavesShort, PyData.leavesShortKv, Bool.and_true, Bool.and_self] at this ⊢
    exact this
  · have := h2.bk
    simp only [PyData.bulk, PyData.bulkKv] at this ⊢
    omega
  · simp only [PyData.depth, PyData.depthKv]
    decide
  · have := h2.sh
    simp only [PyData.showable, PyData.showableKv, Bool.and_true, Bool.and_self] at this ⊢
    exact this
theorem eDispI {f g : Ev D} {ρ : Env'} {S : Store} {z : Int} {d : D} (h : f ρ S = .ok (.int z) S) (k : g ρ S = .ok d S) : eDisp [(f, g)] ρ S = .ok (.dict [(.inl z, d)]) S := by
  unfold eDisp evPs
  rw [h]
  show ((g ρ S).bind _).bind _ = _
  rw [k]
  rfl
theorem yes_ofO_some {α : Type} {a : α} {S : Store} {Q : α → Store → Prop} : Yes (ofO (some a) S) Q = Q a S := rfl
end DL
/-! places in joined texts -/
namespace DL
open PySem PySem.Spec PyProof.Rows L2
theorem occ_left (a b : List Str) (z : Str) : ∀ j, j ≤ a.length → occ (a ++ b) z j = occ a z j := by
  intro j
  induction j with
  | zero => intro _; rfl
  | succ j ih =>
    intro h
    rw [occ_succ, occ_succ, ih (by omega), List.getElem?_append_left (by omega)]
theorem occ_app (a b : List Str) (z : Str) : ∀ k, k ≤ b.length → occ (a ++ b) z (a.length + k) = occ a z a.length ++ (occ b z k).map fun i => (a.length : Int) + i := by
  intro k
  induction k with
  | zero =>
    intro _
    rw [Nat.add_zero, occ_left a b z _ (Nat.le_refl _)]
    show _ = _ ++ []
    rw [List.append_nil]
  | succ k ih =>
    intro h
    rw [← Nat.add_assoc, occ_succ, occ_succ, ih (by omega), List.getElem?_append_right (by omega), Nat.add_sub_cancel_left, List.map_append, List.append_assoc]
    by_cases e : b[k]? = some z
    · rw [if_pos e, if_pos e]
      simp
    · rw [if_neg e, if_neg e]
      rfl
end DL
/-! signs of shown texts -/
namespace DL
open PySem PySem.Spec PyProof.Rows L2 PySem.Builtin.Str
theorem repr_sign : ∀ c, c < 128 → (∀ d ∈ reprChar 34 c, d < 128) ∧ ∀ d ∈ reprChar 39 c, d < 128 := by decide +kernel
theorem fold_sign {q : Nat} (hq : q = 34 ∨ q = 39) : ∀ (l : List Nat) (acc : Array Nat), (∀ c ∈ l, c < 128) → (∀ c ∈ acc.toList, c < 128) → ∀ c ∈ (l.foldl (fun out c => out ++ (reprChar q c).toArray) acc).toList, c < 128
  | [], acc, _, h => h
  | c :: r, acc, h, k => by
    rw [List.foldl_cons]
    refine fold_sign hq r _ (fun d hd => h d (List.mem_cons_of_mem _ hd)) fun d hd => ?_
    rw [Array.toList_append] at hd
    rcases List.mem_append.mp hd with hd | hd
    · exact k d hd
    · have := repr_sign c (h c List.mem_cons_self)
      rcases hq with rfl | rfl
      · exact this.1 d (by simpa using hd)
      · exact this.2 d (by simpa using hd)
theorem reprText_sign {x : Str} (h : ∀ c ∈ x.cps.toList, c < 128) : ∀ c ∈ (reprText x).cps.toList, c < 128 := by
  unfold reprText
  have hq : reprQuote x = 34 ∨ reprQuote x = 39 := by unfold reprQuote; split <;> simp
  intro c hc
  rw [Array.toList_push, ← Array.foldl_toList] at hc
  rcases List.mem_append.mp hc with hc | hc
  · refine fold_sign hq _ _ h (fun d hd => ?_) c hc
    have : d = reprQuote x := by simpa using hd
    rcases hq with e | e <;> omega
  · have : c = reprQuote x := by simpa using hc
    rcases hq with e | e <;> omega
/-- a value whose shown text is of plain signs -/
def Ac (d : D) : Prop := ∃ p, toPyR d = some p ∧ ∀ c ∈ p.shown.cps.toList, c < 128
def Acs (ds : List D) : Prop := ∃ ps, toPysR ds = some ps ∧ ∀ t ∈ PyData.shownAll ps, ∀ c ∈ t.cps.toList, c < 128
theorem Acs.all : ∀ {ds : List D}, (∀ d ∈ ds, Ac d) → Acs ds
  | [], _ => ⟨[], rfl, fun t h => by simp [PyData.shownAll] at h⟩
  | d :: r, h => by
    obtain ⟨p, h1, h2⟩ := h d List.mem_cons_self
    obtain ⟨ps, i1, i2⟩ := Acs.all fun d hd => h d (List.mem_cons_of_mem _ hd)
    refine ⟨p :: ps, by simp only [toPysR, h1, i1], fun t ht => ?_⟩
    rw [PyData.shownAll_cons] at ht
    rcases List.mem_cons.mp ht with rfl | ht
    · exact h2
    · exact i2 t ht
theorem Ac.str {z : Str} {n : Nat} (h : Ln n z) : Ac (.str z) := ⟨.str z, rfl, by rw [PyData.shown_str]; exact reprText_sign h.2⟩
theorem Ac.bl {b : Bool} : Ac (.bl b) := ⟨.bool b, rfl, by cases b <;> (rw [PyData.shown_bool]; decide +kernel)⟩
theorem Ac.int {i : Int} : Ac (.int i) := ⟨.int i, rfl, fun c hc => by
  apply Decidable.byContradiction
  intro hn
  exact shown_int_free' (k := c) (by omega) i hc⟩
theorem sepJoin {ts : List Str} (h : ∀ t ∈ ts, ∀ c ∈ t.cps.toList, c < 128) : ∀ c ∈ (Str.join ", " ts).cps.toList, c < 128 := fun c hc => by
  rcases (mem_join ", " c ts).mp hc with ⟨t, ht, hc⟩ | ⟨_, hc⟩
  · exact h t ht c hc
  · rw [signs_sep] at hc
    simp at hc
    omega
theorem Ac.list {ds : List D} (h : Acs ds) : Ac (.list ds) := by
  obtain ⟨ps, i1, i2⟩ := h
  refine ⟨.list ps, by simp only [toPyR, i1]; rfl, fun c hc => ?_⟩
  rw [PyData.shown_list, mem_cps_append, mem_cps_append] at hc
  rcases hc with (hc | hc) | hc
  · rw [signs_lbrack] at hc; simp at hc; omega
  · exact sepJoin i2 c hc
  · rw [signs_rbrack] at hc; simp at hc; omega
theorem Ac.tup {ds : List D} (h : Acs ds) : Ac (.tup ds) := by
  obtain ⟨ps, i1, i2⟩ := h
  refine ⟨.tuple ps, by simp only [toPyR, i1]; rfl, fun c hc => ?_⟩
  rw [PyData.shown_tuple, mem_cps_append, mem_cps_append] at hc
  rcases hc with (hc | hc) | hc
  · rw [signs_lparen] at hc; simp at hc; omega
  · exact sepJoin i2 c hc
  · revert hc
    have e1 : ∀ c ∈ ((",)" : String) : Str).cps.toList, c < 128 := by decide +kernel
    have e2 : ∀ c ∈ ((")" : String) : Str).cps.toList, c < 128 := by decide +kernel
    split
    · exact e1 c
    · exact e2 c
theorem Ac.okc {ds : List D} (h : Ac (.list ds)) {S : Store} {z : Str} (e : gRepr [.list ds] S = some (.str z)) : Okc z := by
  obtain ⟨p, h1, h2⟩ := h
  have key : toPyRS S (.list ds) = some p := by unfold toPyRS; exact h1
  simp only [gRepr, key] at e
  split at e
  · injection e with e
    injection e with e
    subst e
    exact fun c hc => Nat.lt_trans (h2 c hc) (by decide)
  · cases e
end DL
/-! tables as data: names and bodies -/
namespace DL
open PySem PySem.Spec PyProof.Rows L2
abbrev KB := List (Str × D)
def toK (kv : KB) : List (Key × D) := kv.map fun p => (.inr p.1, p.2)
def ksOf (kv : KB) : List Str := kv.map (·.1)
def putS (kv : KB) (x : Str) (b : D) : KB := if kv.any (fun p => decide (p.1 = x)) then kv.map (fun p => if p.1 = x then (p.1, b) else p) else kv ++ [(x, b)]
def getS (kv : KB) (x : Str) : Option D := (kv.find? fun p => decide (p.1 = x)).map (·.2)
theorem toK_put (kv : KB) (x : Str) (b : D) : putD (toK kv) (.inr x) b = toK (putS kv x b) := by
  unfold putD putS toK
  have e : (kv.map fun p => ((Sum.inr p.1 : Key), p.2)).any (fun kv => decide (kv.1 = .inr x)) = kv.any (fun p => decide (p.1 = x)) := by
    rw [List.any_map]
    congr 1
    funext p
    simp
  rw [e]
  split
  · rw [List.map_map, List.map_map]
    congr 1
    funext p
    by_cases h : p.1 = x
    · simp [h]
    · simp [h]
  · rw [List.map_append]; rfl
theorem toK_val (kv : KB) (x : Str) : valD (toK kv) (.inr x) = getS kv x := by
  unfold valD getS toK
  rw [List.find?_map]
  have e : ((fun kv : Key × D => decide (kv.1 = .inr x)) ∘ fun p : Str × D => ((Sum.inr p.1 : Key), p.2)) = fun p => decide (p.1 = x) := by
    funext p; simp
  rw [e, Option.map_map]
  rfl
theorem toK_len (kv : KB) : (toK kv).length = kv.length := by unfold toK; rw [List.length_map]
theorem toK_keys (kv : KB) : strKeys (toK kv) = some (ksOf kv) := by
  induction kv with
  | nil => rfl
  | cons p r ih =>
    show (strKeys (toK r)).map (p.1 :: ·) = _
    rw [ih]; rfl
theorem getS_none {kv : KB} {x : Str} : getS kv x = none ↔ x ∉ ksOf kv := by
  unfold getS ksOf
  rw [Option.map_eq_none_iff, List.find?_eq_none]
  simp only [decide_eq_true_eq, List.mem_map, not_exists, not_and]
theorem getS_mem {kv : KB} {x : Str} {d : D} (h : getS kv x = some d) : (x, d) ∈ kv := by
  unfold getS at h
  rw [Option.map_eq_some_iff] at h
  obtain ⟨p, h1, h2⟩ := h
  have := List.find?_some h1
  have hm := List.mem_of_find?_eq_some h1
  obtain ⟨a, b⟩ := p
  simp only [decide_eq_true_eq] at this
  subst this
  subst h2
  exact hm
theorem getS_isSome {kv : KB} {x : Str} : (getS kv x).isSome = decide (x ∈ ksOf kv) := by
  cases h : getS kv x with
  | none => rw [decide_eq_false (getS_none.mp h)]; rfl
  | some d =>
    have : x ∈ ksOf kv := List.mem_map.mpr ⟨_, getS_mem h, rfl⟩
    rw [decide_eq_true this]; rfl
theorem any_ks (kv : KB) (x : Str) : kv.any (fun p => decide (p.1 = x)) = decide (x ∈ ksOf kv) := by
  unfold ksOf
  by_cases h : x ∈ kv.map (·.1)
  · rw [decide_eq_true h, List.any_eq_true]
    obtain ⟨p, hp, e⟩ := List.mem_map.mp h
    exact ⟨p, hp, by simp [e]⟩
  · rw [decide_eq_false h, List.any_eq_false]
    intro p hp e
    exact h (List.mem_map.mpr ⟨p, hp, by simpa using e⟩)
theorem putS_ks (kv : KB) (x : Str) (b : D) : ksOf (putS kv x b) = if x ∈ ksOf kv then ksOf kv else ksOf kv ++ [x] := by
  unfold putS
  rw [any_ks]
  by_cases h : x ∈ ksOf kv
  · rw [decide_eq_true h, if_pos rfl, if_pos h]
    unfold ksOf
    rw [List.map_map]
    apply List.map_congr_left
    intro p hp
    show (if p.1 = x then (p.1, b) else p).1 = p.1
    split <;> rfl
  · rw [decide_eq_false h, if_neg (by decide), if_neg h]
    unfold ksOf
    rw [List.map_append]
    rfl
theorem putS_nodup {kv : KB} {x : Str} {b : D} (h : (ksOf kv).Nodup) : (ksOf (putS kv x b)).Nodup := by
  rw [putS_ks]
  split
  · exact h
  · rename_i hx
    exact List.nodup_append.mpr ⟨h, by simp, fun a ha c hc e => by rw [List.mem_singleton] at hc; subst hc; exact hx (e ▸ ha)⟩
theorem putS_all {P : Str → Prop} {R : D → Prop} {kv : KB} {x : Str} {b : D} (h : ∀ p ∈ kv, P p.1 ∧ R p.2) (hx : P x) (hb : R b) : ∀ p ∈ putS kv x b, P p.1 ∧ R p.2 := by
  unfold putS
  split
  · intro p hp
    obtain ⟨q, hq, rfl⟩ := List.mem_map.mp hp
    split
    · rename_i e; exact ⟨(h q hq).1, hb⟩
    · exact h q hq
  · intro p hp
    rcases List.mem_append.mp hp with hp | hp
    · exact h p hp
    · rw [List.mem_singleton.mp hp]; exact ⟨hx, hb⟩
theorem putS_len (kv : KB) (x : Str) (b : D) : (putS kv x b).length = if x ∈ ksOf kv then kv.length else kv.length + 1 := by
  have := congrArg List.length (putS_ks kv x b)
  unfold ksOf at this ⊢
  rw [List.length_map] at this
  rw [this]
  split <;> simp
theorem ks_len (kv : KB) : (ksOf kv).length = kv.length := by unfold ksOf; rw [List.length_map]
/-- the bodies, by ascending names -/
def skB (kv : KB) : KB := (srt (ksOf kv)).map fun k => (k, (getS kv k).getD .non)
theorem srt_len (l : List Str) : (srt l).length = l.length := (srt_perm l).length_eq
theorem srt_mem {l : List Str} {x : Str} : x ∈ srt l ↔ x ∈ l := (srt_perm l).mem_iff
theorem srt_nodup {l : List Str} (h : l.Nodup) : (srt l).Nodup := (srt_perm l).nodup_iff.mpr h
theorem skB_len (kv : KB) : (skB kv).length = kv.length := by unfold skB; rw [List.length_map, srt_len, ks_len]
theorem skB_ks (kv : KB) : ksOf (skB kv) = srt (ksOf kv) := by
  unfold skB
  show ((srt (ksOf kv)).map fun k => (k, (getS kv k).getD .non)).map (·.1) = _
  rw [List.map_map]
  exact List.map_id _
theorem skB_all {P : Str → D → Prop} {kv : KB} (h : ∀ p ∈ kv, P p.1 p.2) : ∀ p ∈ skB kv, P p.1 p.2 := by
  intro p hp
  obtain ⟨k, hk, rfl⟩ := List.mem_map.mp hp
  have hk2 : k ∈ ksOf kv := srt_mem.mp hk
  cases e : getS kv k with
  | none => exact absurd hk2 (getS_none.mp e)
  | some d => exact h _ (getS_mem e)
theorem putD_new {kvs : KB} {x : Str} {b : D} (h : x ∉ ksOf kvs) : putD (toK kvs) (.inr x) b = toK (kvs ++ [(x, b)]) := by
  rw [toK_put]
  unfold putS
  rw [any_ks, decide_eq_false h, if_neg (by decide)]
/-- pairs of different names make just this dict -/
theorem merge_nodup : ∀ (l acc : KB), (ksOf (acc ++ l)).Nodup → mergeD (toK acc) (toK l) = toK (acc ++ l)
  | [], acc, _ => by rw [List.append_nil]; rfl
  | (x, b) :: l, acc, h => by
    have hx : x ∉ ksOf acc := by
      unfold ksOf at h ⊢
      rw [List.map_append, List.nodup_append] at h
      exact fun hm => h.2.2 x hm x (by simp) rfl
    show mergeD (putD (toK acc) (.inr x) b) (toK l) = _
    rw [putD_new hx, merge_nodup l (acc ++ [(x, b)]) (by rw [List.append_assoc]; exact h), List.append_assoc]
    rfl
/-! ### what can be shown: dicts -/
theorem ShD.dictS {n m e : Nat} : ∀ {kv : KB}, (∀ p ∈ kv, Ln n p.1 ∧ ShD m e p.2) → ∃ ps, toPyKR (toK kv) = some ps ∧ PyData.leavesShortKv 64 ps = true ∧ PyData.bulkKv ps ≤ (n + m + 2) * kv.length ∧ PyData.depthKv ps ≤ e ∧ PyData.showableKv ps = true
  | [], _ => ⟨[], rfl, rfl, Nat.le_refl _, Nat.zero_le _, rfl⟩
  | (x, b) :: kv, h => by
    obtain ⟨h1, p, h2, h3⟩ := h _ List.mem_cons_self
    obtain ⟨ps, i1, i2, i3, i4, i5⟩ := ShD.dictS (kv := kv) fun p hp => h p (List.mem_cons_of_mem _ hp)
    obtain ⟨q, j1, j2⟩ := ShD.str h1
    cases j1
    refine ⟨(.str x, p) :: ps, ?_, ?_, ?_, ?_, ?_⟩
    · show (match toPyR b, toPyKR (toK kv) with
        | some a, some b => some ((keyPy (.inr x), a) :: b)
        | _, _ => none) = _
      rw [h2, i1]
      rfl
    · simp only [PyData.leavesShortKv, j2.lf, h3.lf, i2, Bool.and_self]
    · have a : (PyData.str x).bulk ≤ n := j2.bk
      have b := h3.bk
      simp only [PyData.bulkKv, List.length_cons, Nat.mul_add]
      omega
    · have a : (PyData.str x).depth ≤ 0 := j2.dp
      have b := h3.dp
      simp only [PyData.depthKv]
      omega
    · simp only [PyData.showableKv, j2.sh, h3.sh, i5, Bool.and_self]
theorem ShD.dict {n m e : Nat} {kv : KB} (h : ∀ p ∈ kv, Ln n p.1 ∧ ShD m e p.2) : ShD ((n + m + 2) * kv.length) (e + 1) (.dict (toK kv)) := by
  obtain ⟨ps, i1, i2, i3, i4, i5⟩ := ShD.dictS h
  refine ⟨.dict ps, by simp only [toPyR, i1]; rfl, ⟨?_, ?_, ?_, ?_⟩⟩
  · simpa only [PyData.leavesShort] using i2
  · simpa only [PyData.bulk] using i3
  · simp only [PyData.depth]; omega
  · simpa only [PyData.showable] using i5
end DL
/-! reasoning about dicts in mirrors -/
namespace DL
open PySem PySem.Spec PyProof.Rows L2
section
variable {ρ : Env'} {S : Store} {N B C : Env' → Store → Prop} {R : D → Store → Prop} {n i : Nat} {kvs : List (Key × D)} {x : Str} {v d : D}
theorem ry_frzK {g : Stm} (e : ρ[i]? = some (some (.ref n))) (e2 : S[n]? = some (.dict kvs)) (h : RY (g (ρ.set i (some (.dict kvs))) (S.set n .gone)) N R B C) : RY (sFrz i g ρ S) N R B C := by
  unfold sFrz
  rw [e]; dsimp only; rw [e2]; exact h
theorem itemsK_ref (h : S[n]? = some (.dict kvs)) : itemsK S (.ref n) = some kvs := by simp [itemsK, h]
theorem gLen_refK (h : S[n]? = some (.dict kvs)) : gLen [.ref n] S = some (.int kvs.length) := by simp [gLen, lenD, itemsS, itemsR, itemsL, itemsK, h]
theorem gLen_dict : gLen [.dict kvs] S = some (.int kvs.length) := by simp [gLen, lenD, itemsS, itemsR, itemsL, itemsK]
theorem gIxK_it (h : itemsK S d = some kvs) : gIxK d (.str x) S = valD kvs (.inr x) := by unfold gIxK; rw [h]; rfl
theorem gIn_it (h : itemsK S d = some kvs) (hd : ∀ z, d ≠ .str z) : gIn (.str x) d S = some (.bl (valD kvs (.inr x)).isSome) := by
  unfold gIn inB
  cases d <;> first | exact absurd rfl (hd _) | (dsimp only; rw [h]; rfl)
theorem gNotIn_it (h : itemsK S d = some kvs) (hd : ∀ z, d ≠ .str z) : gNotIn (.str x) d S = some (.bl (!(valD kvs (.inr x)).isSome)) := by
  unfold gNotIn inB
  cases d <;> first | exact absurd rfl (hd _) | (dsimp only; rw [h]; rfl)
theorem setIx_refK (h : S[n]? = some (.dict kvs)) (hl : kvs.length < 16777216) : setIx (.ref n) (.str x) v S = some (S.set n (.dict (putD kvs (.inr x) v))) := by
  unfold setIx
  dsimp only
  rw [h]
  dsimp only [keyOf]
  rw [if_pos hl]
theorem gSorted_it {kv : KB} (h : itemsK S d = some (toK kv)) (h64 : kv.length < 64) : gSorted [d] S = some (.list ((srt (ksOf kv)).map .str)) := by
  unfold gSorted gSortK
  dsimp only
  rw [h]
  dsimp only
  rw [toK_keys]
  dsimp only
  rw [if_pos (by rw [ks_len]; exact h64)]
theorem yes_dictCR {f : Ev (List D)} {Q : D → Store → Prop} (h : Yes (f ρ S) fun ds S => ∃ x kvs, ds = [x] ∧ itemsK S x = some kvs ∧ Q (.ref S.length) (S ++ [.dict kvs])) : Yes (eDictCR f ρ S) Q := by
  unfold eDictCR
  rw [yes_bind]
  refine h.mono fun ds S ⟨x, kvs, e, e2, q⟩ => ?_
  subst e
  dsimp only
  rw [e2]
  exact q
theorem yes_dictC {f : Ev (List D)} {Q : D → Store → Prop} (h : Yes (f ρ S) fun ds S => ∃ x kvs, ds = [x] ∧ itemsK S x = some kvs ∧ Q (.dict kvs) S) : Yes (eDictC f ρ S) Q := by
  unfold eDictC
  rw [yes_bind]
  refine h.mono fun ds S ⟨x, kvs, e, e2, q⟩ => ?_
  subst e
  dsimp only
  rw [e2]
  exact q
theorem yes_dictP {f : Ev (List D)} {Q : D → Store → Prop} (h : Yes (f ρ S) fun ds S => ∃ x ds' kvs, ds = [x] ∧ itemsR S x = some ds' ∧ pairsD ds' = some kvs ∧ Q (.dict (mergeD [] kvs)) S) : Yes (eDictP f ρ S) Q := by
  unfold eDictP
  rw [yes_bind]
  refine h.mono fun ds S ⟨x, ds', kvs, e, e2, e3, q⟩ => ?_
  subst e
  dsimp only
  rw [e2]
  dsimp only
  rw [e3]
  exact q
theorem pairsD_toK (kv : KB) : pairsD (kv.map fun p => D.tup [.str p.1, p.2]) = some (toK kv) := by
  induction kv with
  | nil => rfl
  | cons p r ih =>
    show (match keyOf (.str p.1), pairsD (r.map fun p => D.tup [.str p.1, p.2]) with
      | some kk, some rs => some ((kk, p.2) :: rs)
      | _, _ => none) = _
    rw [ih]; rfl
theorem yes_dc {it : Ev (List D)} {g : Tg} {tt : Ev Bool} {tk tv : Ev D} {vs : List Nat} {Q : D → Store → Prop} (Iv : Nat → List (Key × D) → Store → Prop) (ds : List D) (hl : ds.length ≤ 16777216) (h : Yes (it ρ S) fun l S => l = ds ∧ Iv 0 [] S)
    (turn : ∀ i d acc S, ds[i]? = some d → Iv i acc S → ∃ ρ1, g d (wipeD ρ vs) = some ρ1 ∧ Yes (tt ρ1 S) fun b S => if b then Yes (tk ρ1 S) fun k S => Yes (tv ρ1 S) fun v S => ∃ kk, keyOf k = some kk ∧ Iv (i + 1) (putD acc kk v) S else Iv (i + 1) acc S)
    (fin : ∀ acc S, Iv ds.length acc S → Q (.dict acc) S) : Yes (eDc it g tt tk tv vs ρ S) Q := by
  refine Yes.bind (h.mono fun l S ⟨e, z⟩ => ?_)
  subst e
  rw [if_pos hl]
  have key : ∀ (n i : Nat) (acc : List (Key × D)) (S : Store), l.length - i = n → i ≤ l.length → Iv i acc S → Yes (dcD g tt tk tv (wipeD ρ vs) (l.drop i) acc S) fun ys S => Iv l.length ys S := by
    intro n
    induction n with
    | zero =>
      intro i acc S hn hi z
      have e : i = l.length := by omega
      subst e
      rw [List.drop_length]
      exact z
    | succ n ih =>
      intro i acc S hn hi z
      have hlt : i < l.length := by omega
      rw [List.drop_eq_getElem_cons hlt]
      unfold dcD
      obtain ⟨ρ1, e1, h1⟩ := turn i l[i] acc S (by simp [hlt]) z
      rw [e1]
      dsimp only
      rw [yes_bind]
      refine Yes.noExc (h1.mono fun b S1 z1 => ?_)
      cases b with
      | false => rw [if_neg (by decide)] at z1 ⊢; exact ih _ _ _ (by omega) hlt z1
      | true =>
        rw [if_pos rfl] at z1 ⊢
        rw [yes_bind]
        refine Yes.noExc (z1.mono fun k S2 z2 => ?_)
        rw [yes_bind]
        refine Yes.noExc (z2.mono fun v S3 ⟨kk, e3, z3⟩ => ?_)
        rw [e3]
        exact ih _ _ _ (by omega) hlt z3
  rw [yes_bind]
  have := key l.length 0 [] S (by simp) (Nat.zero_le _) z
  rw [List.drop_zero] at this
  exact this.mono fun ys S q => fin ys S q
end
end DL
namespace LW
open PySem PySem.Spec PyProof.Rows L2 DL
def topS (i : Nat) : Stmt := PySem.Challenge.pw_settlepass_k70_lines_that_are_wrong.main.body.getD i (.Pass ⟨0, 0, 0, 0⟩)
def clsS (i j : Nat) : Stmt := match topS i with
  | .ClassDef _ _ _ b _ _ _ _ _ _ _ => b.getD j (.Pass ⟨0, 0, 0, 0⟩)
  | s => s
/-- what the top has left of names -/
structure Txt (mg : Str → Option Value) : Prop where
  c_LETTERS : ∃ t, mg "LETTERS" = some (.str "abcdefghijklmnopqrstuvwxyz" t)
  c_MOST_DEFINED : ∃ t, mg "MOST_DEFINED" = some (.int 10 t)
  c_MOST_LETTERS : ∃ t, mg "MOST_LETTERS" = some (.int 8 t)
  c_MOST_PLACES : ∃ t, mg "MOST_PLACES" = some (.int 8 t)
  n_abs : mg "abs" = none
  n_all : mg "all" = none
  n_enumerate : mg "enumerate" = none
  n_int : mg "int" = none
  n_isinstance : mg "isinstance" = none
  n_len : mg "len" = none
  n_list : mg "list" = none
  n_range : mg "range" = none
  n_repr : mg "repr" = none
  n_str : mg "str" = none
  n_tuple : mg "tuple" = none
def tabYs : List Str := ["law"]
def sb_PassError : Str → Option Bool := (tb1 "ParseError" true tb0)
def sE_t : Str → Str → Option Bool := (tt1 "ParseError" "Clash" false (tt1 "ParseError" "Doubling" false (tt1 "ParseError" "InvalidBody" false (tt1 "ParseError" "InvalidCapacity" false (tt1 "ParseError" "InvalidEdit" false (tt1 "ParseError" "InvalidName" false (tt1 "ParseError" "InvalidTrail" false (tt1 "ParseError" "ParseError" true (tt1 "ParseError" "Taken" false (tt1 "ParseError" "UnknownCommand" false tt0))))))))))
def sB_t : Str → String → Option Bool := tt0
def sO_cs : List Str := []
def sO_t : Str → Str → Option Bool := fun _ _ => none
def cx_line : List Str := ["ParseError"]
def cx_word : List Str := ["ParseError"]
abbrev s_ParseError___init__ : Stmt := clsS 11 0
theorem sc_ParseError___init__ : FnScope ["self", "line", "word"] ["self", "line", "word"] (defScope s_ParseError___init__) := ⟨rfl, rfl, rfl, by decide +kernel, rfl, by decide +kernel, by decide +kernel⟩
/-! is_name -/
abbrev s_is_name : Stmt := topS 30
def b_is_name : Stm :=
 (sSeq (sIf (bOr (bNot (bTru (eCall gIsi (aCons (eVar 0) (aCons (eC (.ty "str")) aNil))))) (bNot (bOfE (eChain gLe gLe (eC (.int 1)) (eCall gLen (aCons (eVar 0) aNil)) (eC (.int 8))))))
 (sRet (eC (.bl false)))
 sNil)
 (sRet (eCall gAll (aCons (eLc (iAny (eVar 0)) (Ts.nm 1).g bYes (eBin gIn (eVar 1) (eC (.str "abcdefghijklmnopqrstuvwxyz"))) [1]) aNil))))
def m_is_name : Fn := fnD 2 b_is_name
theorem sc_is_name : FnScope ["value", "letter"] ["value"] (defScope s_is_name) := ⟨rfl, rfl, rfl, by decide +kernel, rfl, by decide +kernel, by decide +kernel⟩
theorem ok_is_name {P : Program} {w : World} {K : PySem.W.Frag} {mg : Str → Option Value} {base : Heap} {f : Addr} {fd : FuncData} (sy : ∃ mm, base.Ns sysModules mm) (T : Txt mg) (F : Fun K "is_name" "is_name" s_is_name f fd)
    : FnG false P w K mg base 1 f fd ["value"] (spD K mg 1 m_is_name) := by
  refine fn_ok (N := ["value", "letter"]) (ps := ["value"]) (k := 0) (g := b_is_name) sy F sc_is_name (by decide) (fun cdv A outer s H E B => ?_)
  exact (dss_cons (ds_if (dt_w (dw_or (dt_not (dt_val (de_callB call_isi isiG_ent rfl T.n_isinstance DL.boot_isinstance (da_cons (de_var 0) (da_cons (de_type rfl T.n_str DL.boot_str) da_nil))))) (dw_or1 (dt_not (dt_chain op_leG leG_ent op_leG leG_ent de_int (de_callB call_lenG lenG_ent rfl T.n_len DL.boot_len (da_cons (de_var 0) da_nil)) (de_globI rfl T.c_MOST_LETTERS))))))
 (dss_one (ds_ret de_bl))
 dss_nil)
 (dss_one (ds_ret (de_callB (cr_all B.calm) allG_ent rfl T.n_all DL.boot_all (da_cons (de_lc B (Ts.nm 1) [("letter", 1)] (di_any (de_var 0)) (by show blkC ["value", "letter"] (defScope s_is_name) _ _ = true; decide +kernel) (fun _ _ _ _ _ B' => by exact (pg_name B'.nd rfl (by first | exact Or.inl rfl | exact Or.inr rfl))) (fun _ _ _ _ _ B' => dts_nil) (fun _ _ _ _ _ B' => (de_cmp (op_inG B'.hu) inG_ent (de_var 1) (de_globS rfl T.c_LETTERS)))) da_nil)))))
/-! read_bodies -/
abbrev s_read_bodies : Stmt := topS 34
def b_read_bodies : Stm :=
 (sSeq (sSet 1 eDictR)
 (sSeq (sFor (iEnumD (eIf (bOfE (eBin gNeH (eVar 0) (eC (.str "")))) (eSplit (eVar 0) (eC (.str "\n"))) (eLst aNil))) (gnTup 2 (gnCons (gnName 2) (gnCons (gnName 3) gnNil)))
 (sSeq (sAsg (gnStarL 1 (gnCons (gnName 5) (gnCons (gnName 8) gnNil))) (eSplit (eVar 3) (eC (.str " "))))
 (sSeq (sSet 4 (eSl (eVar 5) oNone (oSome (eUn gNeg (eC (.int 1))))))
 (sSeq (sIf (bOr (bOfE (eBin gNeH (eSl (eVar 5) (oSome (eUn gNeg (eC (.int 1)))) oNone) (eC (.str ":")))) (bOr (bNot (bTru (eFn m_is_name (aCons (eVar 4) aNil)))) (bOr (bOfE (eBin gIn (eVar 4) (eVar 1))) (bOfE (eBin gGe (eVar 2) (eC (.int 10)))))))
 (sRaise "ParseError" ["line", "word"] (aCons (eVar 2) (aCons (eC (.int 0)) aNil)))
 sNil)
 (sSeq (sFor (iEnumD (eVar 8)) (gnTup 2 (gnCons (gnName 6) (gnCons (gnName 7) gnNil)))
 (sIf (bOr (bNot (bTru (eFn m_is_name (aCons (eVar 7) aNil)))) (bOfE (eBin gGe (eVar 6) (eC (.int 8)))))
 (sRaise "ParseError" ["line", "word"] (aCons (eVar 2) (aCons (eBin gAdd (eVar 6) (eC (.int 1))) aNil)))
 sNil))
 (sSetIx (eCall gTuple (aCons (eVar 8) aNil)) (eVar 1) (eVar 4)))))))
 (sFrz 1 (sRet (eVar 1)))))
def m_read_bodies : Fn := fnD 9 b_read_bodies
theorem sc_read_bodies : FnScope ["text", "found", "at", "line", "name", "head", "place", "word", "words"] ["text"] (defScope s_read_bodies) := ⟨rfl, rfl, rfl, by decide +kernel, rfl, by decide +kernel, by decide +kernel⟩
theorem ok_read_bodies {P : Program} {w : World} {K : PySem.W.Frag} {mg : Str → Option Value} {base : Heap} {f : Addr} {fd : FuncData} (sy : ∃ mm, base.Ns sysModules mm) (T : Txt mg) (F : Fun K "read_bodies" "read_bodies" s_read_bodies f fd)
    (er_ParseError : ErrM P w K mg base "ParseError" ["line", "word"])
    {f_is_name : Addr} {fd_is_name : FuncData} (c_is_name : FnD false P w K mg base "is_name" ["value"] 1 f_is_name fd_is_name m_is_name)
    : FnG false P w K mg base 4 f fd ["text"] (spD K mg 1 m_read_bodies) := by
  refine fn_ok (N := ["text", "found", "at", "line", "name", "head", "place", "word", "words"]) (ps := ["text"]) (k := 3) (g := b_read_bodies) sy F sc_read_bodies (by decide) (fun cdv A outer s H E B => ?_)
  exact (dss_cons (ds_set (i := 1) B.nd rfl de_dictR)
 (dss_cons (ds_for B (di_enum (de_if (dt_cmp (op_neH B.hu64) neH_ent (de_var 0) de_str) (de_split (de_var 0) de_str) (de_lst da_nil)) rfl T.n_enumerate) (dg_tup (n := 2) B.calm (dgs_cons (dg_name (i := 2) B.nd rfl) (dgs_cons (dg_name (i := 3) B.nd rfl) dgs_nil)))
 (dss_cons (ds_star (i := 1) B.calm (de_split (de_var 3) de_str) (dgs_cons (dg_name (i := 5) B.nd rfl) (dgs_star (dgs_cons (dg_name (i := 8) B.nd rfl) dgs_nil))))
 (dss_cons (ds_set (i := 4) B.nd rfl (de_sl (de_var 5) do_none (do_some (de_un un_neg negG_ent de_int))))
 (dss_cons (ds_if (dt_w (dw_or (dt_cmp (op_neH B.hu64) neH_ent (de_sl (de_var 5) (do_some (de_un un_neg negG_ent de_int)) do_none) de_str) (dw_or (dt_not (dt_val (de_call B c_is_name (by decide) rfl (da_cons (de_var 4) da_nil)))) (dw_or (dt_cmp (op_inG B.hu) inG_ent (de_var 4) (de_var 1)) (dw_or1 (dt_cmp op_geG geG_ent (de_var 2) (de_globI rfl T.c_MOST_DEFINED)))))))
 (dss_one (ds_raise B er_ParseError (by decide) rfl (da_cons (de_var 2) (da_cons de_int da_nil))))
 dss_nil)
 (dss_cons (ds_for B (di_enum (de_var 8) rfl T.n_enumerate) (dg_tup (n := 2) B.calm (dgs_cons (dg_name (i := 6) B.nd rfl) (dgs_cons (dg_name (i := 7) B.nd rfl) dgs_nil)))
 (dss_one (ds_if (dt_w (dw_or (dt_not (dt_val (de_call B c_is_name (by decide) rfl (da_cons (de_var 7) da_nil)))) (dw_or1 (dt_cmp op_geG geG_ent (de_var 6) (de_globI rfl T.c_MOST_PLACES)))))
 (dss_one (ds_raise B er_ParseError (by decide) rfl (da_cons (de_var 2) (da_cons (de_op op_addG addG_ent (de_var 6) de_int) da_nil))))
 dss_nil)))
 (dss_one (ds_setIx B (de_callTy call_tuple_of tupleG_ent rfl T.n_tuple DL.boot_tuple (da_cons (de_var 8) da_nil)) (de_var 1) (de_var 4) (fun h1 h2 => pg_sub h1 h2 set_list))))))))
 (dss_frz 1 (dss_one (ds_ret (de_var 1))))))
/-! Table.read -/
abbrev s_Table_read : Stmt := clsS 43 3
def b_Table_read : Stm :=
 (sSeq (sSet 2 (eFn m_read_bodies (aCons (eVar 1) aNil)))
 sStuck)
def m_Table_read : Fn := fnD 3 b_Table_read
theorem sc_Table_read : FnScope ["cls", "text", "bodies"] ["cls", "text"] (defScope s_Table_read) := ⟨rfl, rfl, rfl, by decide +kernel, rfl, by decide +kernel, by decide +kernel⟩
theorem ok_Table_read {P : Program} {w : World} {K : PySem.W.Frag} {mg : Str → Option Value} {base : Heap} {f : Addr} {fd : FuncData} (sy : ∃ mm, base.Ns sysModules mm) (T : Txt mg) (F : Fun K "read" "Table.read" s_Table_read f fd)
    {f_read_bodies : Addr} {fd_read_bodies : FuncData} (c_read_bodies : FnD false P w K mg base "read_bodies" ["text"] 4 f_read_bodies fd_read_bodies m_read_bodies) (kb_read_bodies : KwB fd_read_bodies ["text"])
    : FnG false P w K mg base 7 f fd ["cls", "text"] (spD K mg 2 m_Table_read) := by
  refine fn_ok (N := ["cls", "text", "bodies"]) (ps := ["cls", "text"]) (k := 6) (g := b_Table_read) sy F sc_Table_read (by decide) (fun cdv A outer s H E B => ?_)
  exact (dss_cons (ds_set (i := 2) B.nd rfl (de_call B c_read_bodies (by decide) rfl (da_cons (de_var 1) da_nil)))
 (dss_one ds_stuck))
/-! _law_draw -/
abbrev s__law_draw : Stmt := topS 46
def b__law_draw : Stm :=
 (sSeq (sIf (bOfE (eBin gGt (eBin gIx (eVar 0) (eC (.int 2))) (eC (.int 0))))
 (sSeq (sSet 5 (eBin gMod (eBin gIx (eVar 0) (eC (.int 2))) (eVar 1)))
 (sSeq (sSetIx (eBin gDiv (eBin gIx (eVar 0) (eC (.int 2))) (eVar 1)) (eVar 0) (eC (.int 2)))
 (sRet (eVar 5))))
 sNil)
 (sSeq (sSet 2 (eBin gIx (eVar 0) (eC (.int 1))))
 (sSeq (sSetIx (eBin gAdd (eVar 2) (eC (.int 1))) (eVar 0) (eC (.int 1)))
 (sSeq (sSet 3 (eBin gAdd (eBin gMul (eC (.int 8161)) (eVar 2)) (eC (.int 293))))
 (sSeq (sIf (bOfE (eBin gNeH (eBin gIx (eVar 0) (eC (.int 0))) (eLst aNil)))
 (sSet 3 (eBin gIx (eBin gIx (eVar 0) (eC (.int 0))) (eBin gMod (eVar 2) (eCall gLen (aCons (eBin gIx (eVar 0) (eC (.int 0))) aNil)))))
 sNil)
 (sSeq (sIf (bAnd (bOfE (eBin gLt (eVar 2) (eCall gLen (aCons (eBin gIx (eVar 0) (eC (.int 0))) aNil)))) (bOfE (eBin gGe (eCall gAbs (aCons (eVar 3) aNil)) (eBin gPow (eC (.int 10)) (eC (.int 18))))))
 (sSeq (sSet 6 (eBin gAdd (eBin gMul (eC (.int 2)) (eCall gAbs (aCons (eVar 3) aNil))) (eCall gInt (aCons (eBin gLt (eVar 3) (eC (.int 0))) aNil))))
 (sSeq (sSetIx (eBin gDiv (eVar 6) (eVar 1)) (eVar 0) (eC (.int 2)))
 (sRet (eBin gMod (eVar 6) (eVar 1)))))
 sNil)
 (sSeq (sSet 4 (eBin gMod (eBin gPow (eBin gAdd (eBin gAdd (eBin gMod (eVar 3) (eC (.int 2147483629))) (eBin gMul (eC (.int 52583)) (eVar 2))) (eC (.int 173))) (eC (.int 3))) (eC (.int 2147483587))))
 (sSeq (sSet 4 (eBin gMod (eBin gPow (eBin gAdd (eBin gAdd (eBin gMul (eVar 4) (eBin gAdd (eBin gMul (eC (.int 2)) (eVar 2)) (eC (.int 31)))) (eBin gMul (eBin gMul (eC (.int 8161)) (eVar 2)) (eVar 2))) (eC (.int 11))) (eC (.int 5))) (eC (.int 2147483563))))
 (sRet (eBin gMod (eBin gDiv (eVar 4) (eC (.int 32))) (eVar 1)))))))))))
def m__law_draw : Fn := fnD 7 b__law_draw
theorem sc__law_draw : FnScope ["_law_pen_here", "_law_size", "_law_turn", "_law_cell", "_law_mixed", "_law_digit", "_law_large"] ["_law_pen_here", "_law_size"] (defScope s__law_draw) := ⟨rfl, rfl, rfl, by decide +kernel, rfl, by decide +kernel, by decide +kernel⟩
theorem ok__law_draw {P : Program} {w : World} {K : PySem.W.Frag} {mg : Str → Option Value} {base : Heap} {f : Addr} {fd : FuncData} (sy : ∃ mm, base.Ns sysModules mm) (T : Txt mg) (F : Fun K "_law_draw" "_law_draw" s__law_draw f fd)
    : FnG false P w K mg base 1 f fd ["_law_pen_here", "_law_size"] (spD K mg 2 m__law_draw) := by
  refine fn_ok (N := ["_law_pen_here", "_law_size", "_law_turn", "_law_cell", "_law_mixed", "_law_digit", "_law_large"]) (ps := ["_law_pen_here", "_law_size"]) (k := 0) (g := b__law_draw) sy F sc__law_draw (by decide) (fun cdv A outer s H E B => ?_)
  exact (dss_cons (ds_if (dt_cmp op_gtG gtG_ent (de_ix ix_seq ixG_ent (de_var 0) de_int (fun _ _ => rfl)) de_int)
 (dss_cons (ds_set (i := 5) B.nd rfl (de_op op_mod modG_ent (de_ix ix_seq ixG_ent (de_var 0) de_int (fun _ _ => rfl)) (de_var 1)))
 (dss_cons (ds_setIx B (de_op op_fdiv divG_ent (de_ix ix_seq ixG_ent (de_var 0) de_int (fun _ _ => rfl)) (de_var 1)) (de_var 0) de_int (fun h1 h2 => pg_sub h1 h2 set_list))
 (dss_one (ds_ret (de_var 5)))))
 dss_nil)
 (dss_cons (ds_set (i := 2) B.nd rfl (de_ix ix_seq ixG_ent (de_var 0) de_int (fun _ _ => rfl)))
 (dss_cons (ds_setIx B (de_op op_addG addG_ent (de_var 2) de_int) (de_var 0) de_int (fun h1 h2 => pg_sub h1 h2 set_list))
 (dss_cons (ds_set (i := 3) B.nd rfl (de_op op_addG addG_ent (de_op op_mulG mulG_ent de_int (de_var 2)) de_int))
 (dss_cons (ds_if (dt_cmp (op_neH B.hu64) neH_ent (de_ix ix_seq ixG_ent (de_var 0) de_int (fun _ _ => rfl)) (de_lst da_nil))
 (dss_one (ds_set (i := 3) B.nd rfl (de_ix ix_seq ixG_ent (de_ix ix_seq ixG_ent (de_var 0) de_int (fun _ _ => rfl)) (de_op op_mod modG_ent (de_var 2) (de_callB call_lenG lenG_ent rfl T.n_len DL.boot_len (da_cons (de_ix ix_seq ixG_ent (de_var 0) de_int (fun _ _ => rfl)) da_nil))) (fun _ _ => rfl))))
 dss_nil)
 (dss_cons (ds_if (dt_w (dw_and (dt_cmp op_ltG ltG_ent (de_var 2) (de_callB call_lenG lenG_ent rfl T.n_len DL.boot_len (da_cons (de_ix ix_seq ixG_ent (de_var 0) de_int (fun _ _ => rfl)) da_nil))) (dw_and1 (dt_cmp op_geG geG_ent (de_callB call_abs absG_ent rfl T.n_abs DL.boot_abs (da_cons (de_var 3) da_nil)) (de_op op_pow powG_ent de_int de_int)))))
 (dss_cons (ds_set (i := 6) B.nd rfl (de_op op_addG addG_ent (de_op op_mulG mulG_ent de_int (de_callB call_abs absG_ent rfl T.n_abs DL.boot_abs (da_cons (de_var 3) da_nil))) (de_callTy call_int1 intG_ent rfl T.n_int DL.boot_int (da_cons (de_cmp op_ltG ltG_ent (de_var 3) de_int) da_nil))))
 (dss_cons (ds_setIx B (de_op op_fdiv divG_ent (de_var 6) (de_var 1)) (de_var 0) de_int (fun h1 h2 => pg_sub h1 h2 set_list))
 (dss_one (ds_ret (de_op op_mod modG_ent (de_var 6) (de_var 1))))))
 dss_nil)
 (dss_cons (ds_set (i := 4) B.nd rfl (de_op op_mod modG_ent (de_op op_pow powG_ent (de_op op_addG addG_ent (de_op op_addG addG_ent (de_op op_mod modG_ent (de_var 3) de_int) (de_op op_mulG mulG_ent de_int (de_var 2))) de_int) de_int) de_int))
 (dss_cons (ds_set (i := 4) B.nd rfl (de_op op_mod modG_ent (de_op op_pow powG_ent (de_op op_addG addG_ent (de_op op_addG addG_ent (de_op op_mulG mulG_ent (de_var 4) (de_op op_addG addG_ent (de_op op_mulG mulG_ent de_int (de_var 2)) de_int)) (de_op op_mulG mulG_ent (de_op op_mulG mulG_ent de_int (de_var 2)) (de_var 2))) de_int) de_int) de_int))
 (dss_one (ds_ret (de_op op_mod modG_ent (de_op op_fdiv divG_ent (de_var 4) de_int) (de_var 1))))))))))))
/-! _law_bent -/
abbrev s__law_bent : Stmt := topS 51
def b__law_bent : Stm :=
 (sSeq (sSet 2 (eFn m__law_draw (aCons (eVar 0) (aCons (eBin gAdd (eCall gLen (aCons (eVar 1) aNil)) (eC (.int 1))) aNil))))
 (sSeq (sSet 3 (eC (.str " :\nabz  ::A0-_.,;\n")))
 (sSeq (sSet 4 (eBin gIx (eVar 3) (eFn m__law_draw (aCons (eVar 0) (aCons (eCall gLen (aCons (eVar 3) aNil)) aNil)))))
 (sSeq (sSet 5 (eSplit (eVar 1) (eC (.str " "))))
 (sSeq (sSet 6 (eFn m__law_draw (aCons (eVar 0) (aCons (eCall gLen (aCons (eVar 5) aNil)) aNil))))
 (sSeq (sSet 7 (eBin gIx (eLst (aCons (eC (.str "")) (aCons (eC (.str ":")) (aCons (eC (.str "p:")) (aCons (eC (.str "p::")) (aCons (eC (.str "P:")) (aCons (eC (.str "abcdefghi")) (aCons (eC (.str "abcdefghi:")) (aCons (eC (.str "p\n")) (aCons (eC (.str "1")) (aCons (eC (.str "p1:")) (aCons (eC (.str "-")) (aCons (eC (.str "p:p")) aNil))))))))))))) (eFn m__law_draw (aCons (eVar 0) (aCons (eC (.int 12)) aNil)))))
 (sSeq (sSet 8 (eFn m__law_draw (aCons (eVar 0) (aCons (eC (.int 7)) aNil))))
 (sSeq (sIf (bOfE (eBin gLt (eVar 8) (eC (.int 2))))
 (sRet (eBin gAdd (eBin gAdd (eSl (eVar 1) oNone (oSome (eVar 2))) (eVar 4)) (eSl (eVar 1) (oSome (eVar 2)) oNone)))
 sNil)
 (sSeq (sIf (bOfE (eBin gEqH (eVar 8) (eC (.int 2))))
 (sRet (eBin gAdd (eBin gAdd (eSl (eVar 1) oNone (oSome (eVar 2))) (eVar 4)) (eSl (eVar 1) (oSome (eBin gAdd (eVar 2) (eC (.int 1)))) oNone)))
 sNil)
 (sSeq (sIf (bOfE (eBin gEqH (eVar 8) (eC (.int 3))))
 (sRet (eBin gAdd (eSl (eVar 1) oNone (oSome (eVar 2))) (eSl (eVar 1) (oSome (eBin gAdd (eVar 2) (eC (.int 1)))) oNone)))
 sNil)
 (sSeq (sIf (bOfE (eBin gEqH (eVar 8) (eC (.int 4))))
 (sRet (eMt "str" gJoin (eC (.str " ")) (aCons (eBin gAdd (eBin gAdd (eSl (eVar 5) oNone (oSome (eVar 6))) (eLst (aCons (eVar 7) aNil))) (eSl (eVar 5) (oSome (eBin gAdd (eVar 6) (eC (.int 1)))) oNone)) aNil)))
 sNil)
 (sSeq (sIf (bOfE (eBin gEqH (eVar 8) (eC (.int 5))))
 (sRet (eMt "str" gJoin (eC (.str " ")) (aCons (eBin gAdd (eBin gAdd (eSl (eVar 5) oNone (oSome (eVar 6))) (eBin gMul (eSl (eVar 5) (oSome (eVar 6)) (oSome (eBin gAdd (eVar 6) (eC (.int 1))))) (eBin gMul (eC (.int 2)) (eFn m__law_draw (aCons (eVar 0) (aCons (eC (.int 2)) aNil)))))) (eSl (eVar 5) (oSome (eBin gAdd (eVar 6) (eC (.int 1)))) oNone)) aNil)))
 sNil)
 (sRet (eBin gIx (eLst (aCons (eBin gAdd (eVar 1) (eC (.str "\n"))) (aCons (eBin gAdd (eC (.str "\n")) (eVar 1)) (aCons (eBin gAdd (eVar 1) (eC (.str " "))) (aCons (eBin gAdd (eC (.str " ")) (eVar 1)) (aCons (eUpper (eVar 1)) (aCons (eBin gAdd (eBin gAdd (eVar 1) (eC (.str "\n"))) (eVar 1)) aNil))))))) (eFn m__law_draw (aCons (eVar 0) (aCons (eC (.int 6)) aNil)))))))))))))))))
def m__law_bent : Fn := fnD 9 b__law_bent
theorem sc__law_bent : FnScope ["_law_pen_here", "_law_told_here", "_law_spot", "_law_signs", "_law_sign", "_law_words", "_law_at", "_law_odd", "_law_mode"] ["_law_pen_here", "_law_told_here"] (defScope s__law_bent) := ⟨rfl, rfl, rfl, by decide +kernel, rfl, by decide +kernel, by decide +kernel⟩
theorem ok__law_bent {P : Program} {w : World} {K : PySem.W.Frag} {mg : Str → Option Value} {base : Heap} {f : Addr} {fd : FuncData} (sy : ∃ mm, base.Ns sysModules mm) (T : Txt mg) (F : Fun K "_law_bent" "_law_bent" s__law_bent f fd)
    {f__law_draw : Addr} {fd__law_draw : FuncData} (c__law_draw : FnD false P w K mg base "_law_draw" ["_law_pen_here", "_law_size"] 1 f__law_draw fd__law_draw m__law_draw)
    : FnG false P w K mg base 4 f fd ["_law_pen_here", "_law_told_here"] (spD K mg 2 m__law_bent) := by
  refine fn_ok (N := ["_law_pen_here", "_law_told_here", "_law_spot", "_law_signs", "_law_sign", "_law_words", "_law_at", "_law_odd", "_law_mode"]) (ps := ["_law_pen_here", "_law_told_here"]) (k := 3) (g := b__law_bent) sy F sc__law_bent (by decide) (fun cdv A outer s H E B => ?_)
  exact (dss_cons (ds_set (i := 2) B.nd rfl (de_call B c__law_draw (by decide) rfl (da_cons (de_var 0) (da_cons (de_op op_addG addG_ent (de_callB call_lenG lenG_ent rfl T.n_len DL.boot_len (da_cons (de_var 1) da_nil)) de_int) da_nil))))
 (dss_cons (ds_set (i := 3) B.nd rfl de_str)
 (dss_cons (ds_set (i := 4) B.nd rfl (de_ix ix_seq ixG_ent (de_var 3) (de_call B c__law_draw (by decide) rfl (da_cons (de_var 0) (da_cons (de_callB call_lenG lenG_ent rfl T.n_len DL.boot_len (da_cons (de_var 3) da_nil)) da_nil))) (fun _ _ => rfl)))
 (dss_cons (ds_set (i := 5) B.nd rfl (de_split (de_var 1) de_str))
 (dss_cons (ds_set (i := 6) B.nd rfl (de_call B c__law_draw (by decide) rfl (da_cons (de_var 0) (da_cons (de_callB call_lenG lenG_ent rfl T.n_len DL.boot_len (da_cons (de_var 5) da_nil)) da_nil))))
 (dss_cons (ds_set (i := 7) B.nd rfl (de_ix ix_seq ixG_ent (de_lst (da_cons de_str (da_cons de_str (da_cons de_str (da_cons de_str (da_cons de_str (da_cons de_str (da_cons de_str (da_cons de_str (da_cons de_str (da_cons de_str (da_cons de_str (da_cons de_str da_nil))))))))))))) (de_call B c__law_draw (by decide) rfl (da_cons (de_var 0) (da_cons de_int da_nil))) (fun _ _ => rfl)))
 (dss_cons (ds_set (i := 8) B.nd rfl (de_call B c__law_draw (by decide) rfl (da_cons (de_var 0) (da_cons de_int da_nil))))
 (dss_cons (ds_if (dt_cmp op_ltG ltG_ent (de_var 8) de_int)
 (dss_one (ds_ret (de_op op_addG addG_ent (de_op op_addG addG_ent (de_sl (de_var 1) do_none (do_some (de_var 2))) (de_var 4)) (de_sl (de_var 1) (do_some (de_var 2)) do_none))))
 dss_nil)
 (dss_cons (ds_if (dt_cmp (op_eqH B.hu64) eqH_ent (de_var 8) de_int)
 (dss_one (ds_ret (de_op op_addG addG_ent (de_op op_addG addG_ent (de_sl (de_var 1) do_none (do_some (de_var 2))) (de_var 4)) (de_sl (de_var 1) (do_some (de_op op_addG addG_ent (de_var 2) de_int)) do_none))))
 dss_nil)
 (dss_cons (ds_if (dt_cmp (op_eqH B.hu64) eqH_ent (de_var 8) de_int)
 (dss_one (ds_ret (de_op op_addG addG_ent (de_sl (de_var 1) do_none (do_some (de_var 2))) (de_sl (de_var 1) (do_some (de_op op_addG addG_ent (de_var 2) de_int)) do_none))))
 dss_nil)
 (dss_cons (ds_if (dt_cmp (op_eqH B.hu64) eqH_ent (de_var 8) de_int)
 (dss_one (ds_ret (de_mt PySem.F.plainAttrs_str PySem.F.slot_str_join PySem.F.type_str_join mt_join join_ent de_str (da_cons (de_op op_addG addG_ent (de_op op_addG addG_ent (de_sl (de_var 5) do_none (do_some (de_var 6))) (de_lst (da_cons (de_var 7) da_nil))) (de_sl (de_var 5) (do_some (de_op op_addG addG_ent (de_var 6) de_int)) do_none)) da_nil))))
 dss_nil)
 (dss_cons (ds_if (dt_cmp (op_eqH B.hu64) eqH_ent (de_var 8) de_int)
 (dss_one (ds_ret (de_mt PySem.F.plainAttrs_str PySem.F.slot_str_join PySem.F.type_str_join mt_join join_ent de_str (da_cons (de_op op_addG addG_ent (de_op op_addG addG_ent (de_sl (de_var 5) do_none (do_some (de_var 6))) (de_op op_mulG mulG_ent (de_sl (de_var 5) (do_some (de_var 6)) (do_some (de_op op_addG addG_ent (de_var 6) de_int))) (de_op op_mulG mulG_ent de_int (de_call B c__law_draw (by decide) rfl (da_cons (de_var 0) (da_cons de_int da_nil)))))) (de_sl (de_var 5) (do_some (de_op op_addG addG_ent (de_var 6) de_int)) do_none)) da_nil))))
 dss_nil)
 (dss_one (ds_ret (de_ix ix_seq ixG_ent (de_lst (da_cons (de_op op_addG addG_ent (de_var 1) de_str) (da_cons (de_op op_addG addG_ent de_str (de_var 1)) (da_cons (de_op op_addG addG_ent (de_var 1) de_str) (da_cons (de_op op_addG addG_ent de_str (de_var 1)) (da_cons (de_upper (de_var 1)) (da_cons (de_op op_addG addG_ent (de_op op_addG addG_ent (de_var 1) de_str) (de_var 1)) da_nil))))))) (de_call B c__law_draw (by decide) rfl (da_cons (de_var 0) (da_cons de_int da_nil))) (fun _ _ => rfl))))))))))))))))
/-! _law_is_word -/
abbrev s__law_is_word : Stmt := topS 48
def b__law_is_word : Stm :=
 (sSeq (sIf (bOr (bNot (bTru (eCall gIsi (aCons (eVar 0) (aCons (eC (.ty "str")) aNil))))) (bNot (bOfE (eChain gLe gLe (eC (.int 1)) (eCall gLen (aCons (eVar 0) aNil)) (eC (.int 8))))))
 (sRet (eC (.bl false)))
 sNil)
 (sRet (eBin gEqH (eLc (iAny (eVar 0)) (Ts.nm 1).g (bOfE (eBin gNotIn (eVar 1) (eC (.str "abcdefghijklmnopqrstuvwxyz")))) (eVar 1) [1]) (eLst aNil))))
def m__law_is_word : Fn := fnD 2 b__law_is_word
theorem sc__law_is_word : FnScope ["_law_value", "_law_letter"] ["_law_value"] (defScope s__law_is_word) := ⟨rfl, rfl, rfl, by decide +kernel, rfl, by decide +kernel, by decide +kernel⟩
theorem ok__law_is_word {P : Program} {w : World} {K : PySem.W.Frag} {mg : Str → Option Value} {base : Heap} {f : Addr} {fd : FuncData} (sy : ∃ mm, base.Ns sysModules mm) (T : Txt mg) (F : Fun K "_law_is_word" "_law_is_word" s__law_is_word f fd)
    : FnG false P w K mg base 1 f fd ["_law_value"] (spD K mg 1 m__law_is_word) := by
  refine fn_ok (N := ["_law_value", "_law_letter"]) (ps := ["_law_value"]) (k := 0) (g := b__law_is_word) sy F sc__law_is_word (by decide) (fun cdv A outer s H E B => ?_)
  exact (dss_cons (ds_if (dt_w (dw_or (dt_not (dt_val (de_callB call_isi isiG_ent rfl T.n_isinstance DL.boot_isinstance (da_cons (de_var 0) (da_cons (de_type rfl T.n_str DL.boot_str) da_nil))))) (dw_or1 (dt_not (dt_chain op_leG leG_ent op_leG leG_ent de_int (de_callB call_lenG lenG_ent rfl T.n_len DL.boot_len (da_cons (de_var 0) da_nil)) de_int)))))
 (dss_one (ds_ret de_bl))
 dss_nil)
 (dss_one (ds_ret (de_cmp (op_eqH B.hu64) eqH_ent (de_lc B (Ts.nm 1) [("_law_letter", 1)] (di_any (de_var 0)) (by show blkC ["_law_value", "_law_letter"] (defScope s__law_is_word) _ _ = true; decide +kernel) (fun _ _ _ _ _ B' => by exact (pg_name B'.nd rfl (by first | exact Or.inl rfl | exact Or.inr rfl))) (fun _ _ _ _ _ B' => (dts_one (dt_cmp (op_notInG B'.hu) notInG_ent (de_var 1) de_str))) (fun _ _ _ _ _ B' => (de_var 1))) (de_lst da_nil)))))
/-! _law_due -/
abbrev s__law_due : Stmt := topS 50
def b__law_due : Stm :=
 (sSeq (sSet 1 eDictR)
 (sSeq (sFor (iEnumD (eIf (bOfE (eBin gNeH (eVar 0) (eC (.str "")))) (eSplit (eVar 0) (eC (.str "\n"))) (eLst aNil))) (gnTup 2 (gnCons (gnName 2) (gnCons (gnName 3) gnNil)))
 (sSeq (sSet 4 (eSplit (eVar 3) (eC (.str " "))))
 (sSeq (sSet 5 (eIf (bOfE (eBin gNeH (eBin gIx (eVar 4) (eC (.int 0))) (eC (.str "")))) (eSl (eBin gIx (eVar 4) (eC (.int 0))) oNone (oSome (eBin gSub (eCall gLen (aCons (eBin gIx (eVar 4) (eC (.int 0))) aNil)) (eC (.int 1))))) (eC (.str ""))))
 (sSeq (sIf (bOr (bOfE (eBin gGt (eVar 2) (eC (.int 9)))) (bOr (bOfE (eBin gNeH (eBin gIx (eVar 4) (eC (.int 0))) (eBin gAdd (eVar 5) (eC (.str ":"))))) (bOr (bNot (bTru (eFn m__law_is_word (aCons (eVar 5) aNil)))) (bOfE (eBin gIn (eVar 5) (eVar 1))))))
 (sRet (eCall gRepr (aCons (eTup (aCons (eC (.str "line")) (aCons (eVar 2) (aCons (eC (.int 0)) aNil)))) aNil)))
 sNil)
 (sSeq (sSet 6 (eLc (iRange2 (eC (.int 1)) (eCall gLen (aCons (eVar 4) aNil))) (Ts.nm 7).g (bOr (bOfE (eBin gGt (eVar 7) (eC (.int 8)))) (bNot (bTru (eFn m__law_is_word (aCons (eBin gIx (eVar 4) (eVar 7)) aNil))))) (eVar 7) [7]))
 (sSeq (sIf (bOfE (eBin gNeH (eVar 6) (eLst aNil)))
 (sRet (eCall gRepr (aCons (eTup (aCons (eC (.str "line")) (aCons (eVar 2) (aCons (eBin gIx (eVar 6) (eC (.int 0))) aNil)))) aNil)))
 sNil)
 (sSetIx (eCall gTuple (aCons (eSl (eVar 4) (oSome (eC (.int 1))) oNone) aNil)) (eVar 1) (eVar 5))))))))
 (sFrz 1 (sRet (eCall gRepr (aCons (eTup (aCons (eC (.str "read")) (aCons (eVar 1) aNil))) aNil))))))
def m__law_due : Fn := fnD 8 b__law_due
theorem sc__law_due : FnScope ["_law_told_here", "_law_found", "_law_spot", "_law_row", "_law_words", "_law_one", "_law_wrong", "_law_at"] ["_law_told_here"] (defScope s__law_due) := ⟨rfl, rfl, rfl, by decide +kernel, rfl, by decide +kernel, by decide +kernel⟩
theorem ok__law_due {P : Program} {w : World} {K : PySem.W.Frag} {mg : Str → Option Value} {base : Heap} {f : Addr} {fd : FuncData} (sy : ∃ mm, base.Ns sysModules mm) (T : Txt mg) (F : Fun K "_law_due" "_law_due" s__law_due f fd)
    {f__law_is_word : Addr} {fd__law_is_word : FuncData} (c__law_is_word : FnD false P w K mg base "_law_is_word" ["_law_value"] 1 f__law_is_word fd__law_is_word m__law_is_word)
    : FnG true P w K mg base 4 f fd ["_law_told_here"] (spD K mg 1 m__law_due) := by
  refine fn_ok (N := ["_law_told_here", "_law_found", "_law_spot", "_law_row", "_law_words", "_law_one", "_law_wrong", "_law_at"]) (ps := ["_law_told_here"]) (k := 3) (g := b__law_due) sy F sc__law_due (by decide) (fun cdv A outer s H E B => ?_)
  exact (dss_cons (ds_set (i := 1) B.nd rfl de_dictR)
 (dss_cons (ds_for B (di_enum (de_if (dt_cmp (op_neH B.hu64) neH_ent (de_var 0) de_str) (de_split (de_var 0) de_str) (de_lst da_nil)) rfl T.n_enumerate) (dg_tup (n := 2) B.calm (dgs_cons (dg_name (i := 2) B.nd rfl) (dgs_cons (dg_name (i := 3) B.nd rfl) dgs_nil)))
 (dss_cons (ds_set (i := 4) B.nd rfl (de_split (de_var 3) de_str))
 (dss_cons (ds_set (i := 5) B.nd rfl (de_if (dt_cmp (op_neH B.hu64) neH_ent (de_ix ix_seq ixG_ent (de_var 4) de_int (fun _ _ => rfl)) de_str) (de_sl (de_ix ix_seq ixG_ent (de_var 4) de_int (fun _ _ => rfl)) do_none (do_some (de_op op_sub subG_ent (de_callB call_lenG lenG_ent rfl T.n_len DL.boot_len (da_cons (de_ix ix_seq ixG_ent (de_var 4) de_int (fun _ _ => rfl)) da_nil)) de_int))) de_str))
 (dss_cons (ds_if (dt_w (dw_or (dt_cmp op_gtG gtG_ent (de_var 2) de_int) (dw_or (dt_cmp (op_neH B.hu64) neH_ent (de_ix ix_seq ixG_ent (de_var 4) de_int (fun _ _ => rfl)) (de_op op_addG addG_ent (de_var 5) de_str)) (dw_or (dt_not (dt_val (de_call B c__law_is_word (by decide) rfl (da_cons (de_var 5) da_nil)))) (dw_or1 (dt_cmp (op_inG B.hu) inG_ent (de_var 5) (de_var 1)))))))
 (dss_one (ds_ret (de_callB (call_reprG B) (reprG_ent B) rfl T.n_repr DL.boot_repr (da_cons (de_tup (da_cons de_str (da_cons (de_var 2) (da_cons de_int da_nil)))) da_nil))))
 dss_nil)
 (dss_cons (ds_setLc (i := 6) B (Ts.nm 7) [("_law_at", 7)] rfl rfl (sw_true rfl rfl rfl (by decide +kernel)) (di_range2 de_int (de_callB call_lenG lenG_ent rfl T.n_len DL.boot_len (da_cons (de_var 4) da_nil)) rfl T.n_range) (by show blkC ["_law_told_here", "_law_found", "_law_spot", "_law_row", "_law_words", "_law_one", "_law_wrong", "_law_at"] (defScope s__law_due) _ _ = true; decide +kernel) (fun _ _ _ _ _ B' => by exact (pg_name B'.nd rfl (by first | exact Or.inl rfl | exact Or.inr rfl))) (fun _ _ _ _ _ B' => (dts_one (dt_w (dw_or (dt_cmp op_gtG gtG_ent (de_var 7) de_int) (dw_or1 (dt_not (dt_val (de_call B' c__law_is_word (by decide) rfl (da_cons (de_ix ix_seq ixG_ent (de_var 4) (de_var 7) (fun _ _ => rfl)) da_nil))))))))) (fun _ _ _ _ _ B' => (de_var 7)))
 (dss_cons (ds_if (dt_cmp (op_neH B.hu64) neH_ent (de_var 6) (de_lst da_nil))
 (dss_one (ds_ret (de_callB (call_reprG B) (reprG_ent B) rfl T.n_repr DL.boot_repr (da_cons (de_tup (da_cons de_str (da_cons (de_var 2) (da_cons (de_ix ix_seq ixG_ent (de_var 6) de_int (fun _ _ => rfl)) da_nil)))) da_nil))))
 dss_nil)
 (dss_one (ds_setIx B (de_callTy call_tuple_of tupleG_ent rfl T.n_tuple DL.boot_tuple (da_cons (de_sl (de_var 4) (do_some de_int) do_none) da_nil)) (de_var 1) (de_var 5) (fun h1 h2 => pg_sub h1 h2 set_list)))))))))
 (dss_frz 1 (dss_one (ds_ret (de_callB (call_reprG B) (reprG_ent B) rfl T.n_repr DL.boot_repr (da_cons (de_tup (da_cons de_str (da_cons (de_var 1) da_nil))) da_nil)))))))
/-! _law_heard -/
abbrev s__law_heard : Stmt := topS 49
def b__law_heard (th : Store → Out D) : Stm :=
 (sSeq (sSet 1 (eC (.str "odd")))
 (sSeq (sTry (sSet 1 (eCall gRepr (aCons (eTup (aCons (eC (.str "read")) (aCons (eAsk th) aNil))) aNil)))
 ((sb_PassError, some 2, (sSeq (sSet 3 (eCall (gIsiA sO_cs sO_t sE_t sB_t) (aCons (eVar 2) (aCons (eTup (aCons (eC (.cls "Clash")) (aCons (eC (.cls "Doubling")) (aCons (eC (.cls "InvalidBody")) (aCons (eC (.cls "InvalidCapacity")) (aCons (eC (.cls "InvalidEdit")) (aCons (eC (.cls "InvalidName")) aNil))))))) aNil))))
 (sIf (bAnd (bTru (eCall (gIsiA sO_cs sO_t sE_t sB_t) (aCons (eVar 2) (aCons (eC (.cls "ParseError")) aNil)))) (bAnd (bNot (bTru (eVar 3))) (bNot (bTru (eCall (gIsiA sO_cs sO_t sE_t sB_t) (aCons (eVar 2) (aCons (eTup (aCons (eC (.cls "InvalidTrail")) (aCons (eC (.cls "Taken")) (aCons (eC (.cls "UnknownCommand")) aNil)))) aNil)))))))
 (sSet 1 (eCall gRepr (aCons (eTup (aCons (eC (.str "line")) (aCons (eXf cx_line "line" (eVar 2)) (aCons (eXf cx_word "word" (eVar 2)) aNil)))) aNil)))
 sNil))) :: []))
 (sRet (eVar 1))))
def mL__law_heard : (Store → Out D) → Store → Out D := fun th => fnL 4 (b__law_heard th)
theorem sc__law_heard : FnScope ["_law_ask", "_law_found", "e", "_law_others"] ["_law_ask"] (defScope s__law_heard) := ⟨rfl, rfl, rfl, by decide +kernel, rfl, by decide +kernel, by decide +kernel⟩
theorem ok__law_heard {P : Program} {w : World} {K : PySem.W.Frag} {mg : Str → Option Value} {base : Heap} {f : Addr} {fd : FuncData} (sy : ∃ mm, base.Ns sysModules mm) (T : Txt mg) (F : Fun K "_law_heard" "_law_heard" s__law_heard f fd)
    {c_Clash : Addr} (hc_Clash : mg "Clash" = some (.ref c_Clash))
    {c_Doubling : Addr} (hc_Doubling : mg "Doubling" = some (.ref c_Doubling))
    {c_InvalidBody : Addr} (hc_InvalidBody : mg "InvalidBody" = some (.ref c_InvalidBody))
    {c_InvalidCapacity : Addr} (hc_InvalidCapacity : mg "InvalidCapacity" = some (.ref c_InvalidCapacity))
    {c_InvalidEdit : Addr} (hc_InvalidEdit : mg "InvalidEdit" = some (.ref c_InvalidEdit))
    {c_InvalidName : Addr} (hc_InvalidName : mg "InvalidName" = some (.ref c_InvalidName))
    {c_InvalidTrail : Addr} (hc_InvalidTrail : mg "InvalidTrail" = some (.ref c_InvalidTrail))
    {c_ParseError : Addr} (hc_ParseError : mg "ParseError" = some (.ref c_ParseError))
    {c_PassError : Addr} (hc_PassError : mg "PassError" = some (.ref c_PassError))
    {c_Taken : Addr} (hc_Taken : mg "Taken" = some (.ref c_Taken))
    {c_UnknownCommand : Addr} (hc_UnknownCommand : mg "UnknownCommand" = some (.ref c_UnknownCommand))
    (xm_PassError : ExmM K mg [.ref c_PassError] sb_PassError)
    (isa : IsaM K mg sO_cs sO_t sE_t sB_t)
    (xf_line : XfM K mg "line" cx_line)
    (xf_word : XfM K mg "word" cx_word)
    : FnLG true P w K mg base 1 f fd "_law_ask" ["_law_ask", "_law_found", "e", "_law_others"] "_law_heard" (defScope s__law_heard) mL__law_heard := by
  refine fnl_ok (N := ["_law_ask", "_law_found", "e", "_law_others"]) (k := 0) (g := b__law_heard) sy F sc__law_heard rfl (by first | exact Or.inl rfl | exact Or.inr (Or.inl rfl)) (fun cdv A outer s H E fl F0 A0 th B ask => ?_)
  exact (dsx_set (i := 1) (by decide) B.nd rfl de_str
 (dsx_try B rfl rfl rfl (.as (test_1 ⟨rfl, by decide, .inl hc_PassError⟩) xm_PassError (i := 2) rfl rfl (fun _ _ => (dss_cons (ds_set (i := 3) B.nd rfl (de_callB (DL.CallR.or call_isA call_isAT) (isiA_ent isa) rfl T.n_isinstance DL.boot_isinstance (da_cons (de_var 2) (da_cons (de_tup (da_cons (de_class rfl ⟨_, hc_Clash⟩) (da_cons (de_class rfl ⟨_, hc_Doubling⟩) (da_cons (de_class rfl ⟨_, hc_InvalidBody⟩) (da_cons (de_class rfl ⟨_, hc_InvalidCapacity⟩) (da_cons (de_class rfl ⟨_, hc_InvalidEdit⟩) (da_cons (de_class rfl ⟨_, hc_InvalidName⟩) da_nil))))))) da_nil))))
 (dss_one (ds_if (dt_w (dw_and (dt_val (de_callB (DL.CallR.or call_isA call_isAT) (isiA_ent isa) rfl T.n_isinstance DL.boot_isinstance (da_cons (de_var 2) (da_cons (de_class rfl ⟨_, hc_ParseError⟩) da_nil)))) (dw_and (dt_not (dt_val (de_var 3))) (dw_and1 (dt_not (dt_val (de_callB (DL.CallR.or call_isA call_isAT) (isiA_ent isa) rfl T.n_isinstance DL.boot_isinstance (da_cons (de_var 2) (da_cons (de_tup (da_cons (de_class rfl ⟨_, hc_InvalidTrail⟩) (da_cons (de_class rfl ⟨_, hc_Taken⟩) (da_cons (de_class rfl ⟨_, hc_UnknownCommand⟩) da_nil)))) da_nil)))))))))
 (dss_one (ds_set (i := 1) B.nd rfl (de_callB (call_reprS B.hu (B.gd rfl)) (reprG_entS B.sy) rfl T.n_repr DL.boot_repr (da_cons (de_tup (da_cons de_str (da_cons (de_xf xf_line (de_var 2)) (da_cons (de_xf xf_word (de_var 2)) da_nil)))) da_nil))))
 dss_nil)))) .nil) (fun _ _ _ Bt => (dsx_set1 (i := 1) Bt.nd rfl (dex_callB (call_reprG Bt) (reprG_ent Bt) rfl T.n_repr DL.boot_repr (dax_one (dex_tup (dax_cons de_str (dax_one (ask _ _ _ _ _ Bt))))))))
 (dss_one (ds_ret (de_var 1)))))
/-! _law_pen -/
abbrev s__law_pen : Stmt := topS 45
def b__law_pen : Stm :=
 (sRet (eLstR (aCons (eCall gList (aCons (eSl (eVar 0) oNone (oSome (eC (.int 63)))) aNil)) (aCons (eC (.int 0)) (aCons (eC (.int 0)) aNil)))))
def m__law_pen : Fn := fnD 1 b__law_pen
theorem sc__law_pen : FnScope ["_law_script"] ["_law_script"] (defScope s__law_pen) := ⟨rfl, rfl, rfl, by decide +kernel, rfl, by decide +kernel, by decide +kernel⟩
theorem ok__law_pen {P : Program} {w : World} {K : PySem.W.Frag} {mg : Str → Option Value} {base : Heap} {f : Addr} {fd : FuncData} (sy : ∃ mm, base.Ns sysModules mm) (T : Txt mg) (F : Fun K "_law_pen" "_law_pen" s__law_pen f fd)
    : FnG false P w K mg base 1 f fd ["_law_script"] (spD K mg 1 m__law_pen) := by
  refine fn_ok (N := ["_law_script"]) (ps := ["_law_script"]) (k := 0) (g := b__law_pen) sy F sc__law_pen (by decide) (fun cdv A outer s H E B => ?_)
  exact (dss_one (ds_ret (de_lstR (da_cons (de_callTy call_list_of listG_ent rfl T.n_list DL.boot_list (da_cons (de_sl (de_var 0) do_none (do_some de_int)) da_nil)) (da_cons de_int (da_cons de_int da_nil))))))
/-! _law_pool -/
abbrev s__law_pool : Stmt := topS 47
def b__law_pool : Stm :=
 (sSeq (sSet 2 (eC (.str "abcdefghijklmnopqrstuvwxyz")))
 (sSeq (sSet 3 (eLst (aCons (eC (.str "put")) (aCons (eC (.str "run")) (aCons (eC (.str "undo")) (aCons (eC (.str "drop")) (aCons (eC (.str "over")) (aCons (eC (.str "at")) (aCons (eC (.str "define")) (aCons (eC (.str "withdraw")) (aCons (eC (.str "back")) (aCons (eC (.str "moving")) (aCons (eC (.str "restless")) (aCons (eC (.str "length")) aNil))))))))))))))
 (sSeq (sSet 4 (eFn m__law_draw (aCons (eVar 0) (aCons (eC (.int 3)) aNil))))
 (sSeq (sSet 5 (eMt "str" gJoin (eC (.str "")) (aCons (eLc (iRange1 (eFn m__law_draw (aCons (eVar 0) (aCons (eC (.int 8)) aNil)))) (Ts.nm 8).g bYes (eBin gIx (eVar 2) (eFn m__law_draw (aCons (eVar 0) (aCons (eC (.int 26)) aNil)))) [8]) aNil)))
 (sSeq (sSet 6 (eFn m__law_draw (aCons (eVar 0) (aCons (eBin gAdd (eCall gLen (aCons (eVar 5) aNil)) (eC (.int 1))) aNil))))
 (sSeq (sSet 7 (eBin gIx (eLst (aCons (eListSR (aCons (eVar 2) aNil)) (aCons (eAddR (eVar 3) (eListSR (aCons (eVar 2) aNil))) (aCons (eLcR (iAny (eVar 2)) (Ts.nm 9).g bYes (eBin gAdd (eBin gAdd (eSl (eVar 5) oNone (oSome (eVar 6))) (eVar 9)) (eSl (eVar 5) (oSome (eVar 6)) oNone)) [9]) aNil)))) (eVar 4)))
 (sRet (eLc (iRange1 (eVar 1)) (Ts.nm 8).g bYes (eMt "list" gPop (eVar 7) (aCons (eFn m__law_draw (aCons (eVar 0) (aCons (eCall gLen (aCons (eVar 7) aNil)) aNil))) aNil)) [8]))))))))
def m__law_pool : Fn := fnD 10 b__law_pool
theorem sc__law_pool : FnScope ["_law_pen_here", "_law_many", "_law_letters", "_law_words", "_law_mode", "_law_stem", "_law_spot", "_law_some", "_law_turn", "_law_letter"] ["_law_pen_here", "_law_many"] (defScope s__law_pool) := ⟨rfl, rfl, rfl, by decide +kernel, rfl, by decide +kernel, by decide +kernel⟩
theorem ok__law_pool {P : Program} {w : World} {K : PySem.W.Frag} {mg : Str → Option Value} {base : Heap} {f : Addr} {fd : FuncData} (sy : ∃ mm, base.Ns sysModules mm) (T : Txt mg) (F : Fun K "_law_pool" "_law_pool" s__law_pool f fd)
    {f__law_draw : Addr} {fd__law_draw : FuncData} (c__law_draw : FnD false P w K mg base "_law_draw" ["_law_pen_here", "_law_size"] 1 f__law_draw fd__law_draw m__law_draw)
    : FnG false P w K mg base 4 f fd ["_law_pen_here", "_law_many"] (spD K mg 2 m__law_pool) := by
  refine fn_ok (N := ["_law_pen_here", "_law_many", "_law_letters", "_law_words", "_law_mode", "_law_stem", "_law_spot", "_law_some", "_law_turn", "_law_letter"]) (ps := ["_law_pen_here", "_law_many"]) (k := 3) (g := b__law_pool) sy F sc__law_pool (by decide) (fun cdv A outer s H E B => ?_)
  exact (dss_cons (ds_set (i := 2) B.nd rfl de_str)
 (dss_cons (ds_set (i := 3) B.nd rfl (de_lst (da_cons de_str (da_cons de_str (da_cons de_str (da_cons de_str (da_cons de_str (da_cons de_str (da_cons de_str (da_cons de_str (da_cons de_str (da_cons de_str (da_cons de_str (da_cons de_str da_nil))))))))))))))
 (dss_cons (ds_set (i := 4) B.nd rfl (de_call B c__law_draw (by decide) rfl (da_cons (de_var 0) (da_cons de_int da_nil))))
 (dss_cons (ds_set (i := 5) B.nd rfl (de_mt PySem.F.plainAttrs_str PySem.F.slot_str_join PySem.F.type_str_join mt_join join_ent de_str (da_cons (de_lc B (Ts.nm 8) [("_law_turn", 8)] (di_range1 (de_call B c__law_draw (by decide) rfl (da_cons (de_var 0) (da_cons de_int da_nil))) rfl T.n_range) (by show blkC ["_law_pen_here", "_law_many", "_law_letters", "_law_words", "_law_mode", "_law_stem", "_law_spot", "_law_some", "_law_turn", "_law_letter"] (defScope s__law_pool) _ _ = true; decide +kernel) (fun _ _ _ _ _ B' => by exact (pg_name B'.nd rfl (by first | exact Or.inl rfl | exact Or.inr rfl))) (fun _ _ _ _ _ B' => dts_nil) (fun _ _ _ _ _ B' => (de_ix ix_seq ixG_ent (de_var 2) (de_call B' c__law_draw (by decide) rfl (da_cons (de_var 0) (da_cons de_int da_nil))) (fun _ _ => rfl)))) da_nil)))
 (dss_cons (ds_set (i := 6) B.nd rfl (de_call B c__law_draw (by decide) rfl (da_cons (de_var 0) (da_cons (de_op op_addG addG_ent (de_callB call_lenG lenG_ent rfl T.n_len DL.boot_len (da_cons (de_var 5) da_nil)) de_int) da_nil))))
 (dss_cons (ds_set (i := 7) B.nd rfl (de_ix ix_seq ixG_ent (de_lst (da_cons (de_listSR B rfl T.n_list DL.boot_list (da_cons (de_var 2) da_nil)) (da_cons (de_addR (de_var 3) (de_listSR B rfl T.n_list DL.boot_list (da_cons (de_var 2) da_nil))) (da_cons (de_lcR B (Ts.nm 9) [("_law_letter", 9)] (di_any (de_var 2)) (by show blkC ["_law_pen_here", "_law_many", "_law_letters", "_law_words", "_law_mode", "_law_stem", "_law_spot", "_law_some", "_law_turn", "_law_letter"] (defScope s__law_pool) _ _ = true; decide +kernel) (fun _ _ _ _ _ B' => by exact (pg_name B'.nd rfl (by first | exact Or.inl rfl | exact Or.inr rfl))) (fun _ _ _ _ _ B' => dts_nil) (fun _ _ _ _ _ B' => (de_op op_addG addG_ent (de_op op_addG addG_ent (de_sl (de_var 5) do_none (do_some (de_var 6))) (de_var 9)) (de_sl (de_var 5) (do_some (de_var 6)) do_none)))) da_nil)))) (de_var 4) (fun _ _ => rfl)))
 (dss_one (ds_ret (de_lc B (Ts.nm 8) [("_law_turn", 8)] (di_range1 (de_var 1) rfl T.n_range) (by show blkC ["_law_pen_here", "_law_many", "_law_letters", "_law_words", "_law_mode", "_law_stem", "_law_spot", "_law_some", "_law_turn", "_law_letter"] (defScope s__law_pool) _ _ = true; decide +kernel) (fun _ _ _ _ _ B' => by exact (pg_name B'.nd rfl (by first | exact Or.inl rfl | exact Or.inr rfl))) (fun _ _ _ _ _ B' => dts_nil) (fun _ _ _ _ _ B' => (de_mt PySem.F.plainAttrs_list PySem.F.slot_list_pop PySem.F.type_list_pop mt_popAt pop_ent (de_var 7) (da_cons (de_call B' c__law_draw (by decide) rfl (da_cons (de_var 0) (da_cons (de_callB call_lenG lenG_ent rfl T.n_len DL.boot_len (da_cons (de_var 7) da_nil)) da_nil))) da_nil))))))))))))
/-! _law_told -/
abbrev s__law_told : Stmt := topS 52
def b__law_told : Stm :=
 (sSeq (sSet 1 (eFn m__law_pool (aCons (eVar 0) (aCons (eC (.int 6)) aNil))))
 (sSeq (sSet 2 (eLstR aNil))
 (sSeq (sFor (iAny (eSl (eVar 1) oNone (oSome (eBin gAdd (eC (.int 1)) (eFn m__law_draw (aCons (eVar 0) (aCons (eC (.int 4)) aNil))))))) (gnName 3)
 (sSeq (sSet 4 (eBin gIx (eLst (aCons (eFn m__law_draw (aCons (eVar 0) (aCons (eC (.int 4)) aNil))) (aCons (eC (.int 8)) (aCons (eFn m__law_draw (aCons (eVar 0) (aCons (eC (.int 10)) aNil))) aNil)))) (eFn m__law_draw (aCons (eVar 0) (aCons (eC (.int 3)) aNil)))))
 (sExpr (eMt "list" gAppend (eVar 2) (aCons (eMt "str" gJoin (eC (.str " ")) (aCons (eBin gAdd (eLst (aCons (eBin gAdd (eVar 3) (eC (.str ":"))) aNil)) (eLc (iRange1 (eVar 4)) (Ts.nm 5).g bYes (eBin gIx (eVar 1) (eFn m__law_draw (aCons (eVar 0) (aCons (eC (.int 6)) aNil)))) [5])) aNil)) aNil)))))
 (sFrz 2 (sRet (eMt "str" gJoin (eC (.str "\n")) (aCons (eVar 2) aNil)))))))
def m__law_told : Fn := fnD 6 b__law_told
theorem sc__law_told : FnScope ["_law_pen_here", "_law_pool_here", "_law_rows", "_law_one", "_law_many", "_law_turn"] ["_law_pen_here"] (defScope s__law_told) := ⟨rfl, rfl, rfl, by decide +kernel, rfl, by decide +kernel, by decide +kernel⟩
theorem ok__law_told {P : Program} {w : World} {K : PySem.W.Frag} {mg : Str → Option Value} {base : Heap} {f : Addr} {fd : FuncData} (sy : ∃ mm, base.Ns sysModules mm) (T : Txt mg) (F : Fun K "_law_told" "_law_told" s__law_told f fd)
    {f__law_draw : Addr} {fd__law_draw : FuncData} (c__law_draw : FnD false P w K mg base "_law_draw" ["_law_pen_here", "_law_size"] 1 f__law_draw fd__law_draw m__law_draw)
    {f__law_pool : Addr} {fd__law_pool : FuncData} (c__law_pool : FnD false P w K mg base "_law_pool" ["_law_pen_here", "_law_many"] 4 f__law_pool fd__law_pool m__law_pool)
    : FnG false P w K mg base 7 f fd ["_law_pen_here"] (spD K mg 1 m__law_told) := by
  refine fn_ok (N := ["_law_pen_here", "_law_pool_here", "_law_rows", "_law_one", "_law_many", "_law_turn"]) (ps := ["_law_pen_here"]) (k := 6) (g := b__law_told) sy F sc__law_told (by decide) (fun cdv A outer s H E B => ?_)
  exact (dss_cons (ds_set (i := 1) B.nd rfl (de_call B c__law_pool (by decide) rfl (da_cons (de_var 0) (da_cons de_int da_nil))))
 (dss_cons (ds_set (i := 2) B.nd rfl (de_lstR da_nil))
 (dss_cons (ds_for B (di_any (de_sl (de_var 1) do_none (do_some (de_op op_addG addG_ent de_int (de_call B c__law_draw (by decide) rfl (da_cons (de_var 0) (da_cons de_int da_nil))))))) (dg_name (i := 3) B.nd rfl)
 (dss_cons (ds_set (i := 4) B.nd rfl (de_ix ix_seq ixG_ent (de_lst (da_cons (de_call B c__law_draw (by decide) rfl (da_cons (de_var 0) (da_cons de_int da_nil))) (da_cons de_int (da_cons (de_call B c__law_draw (by decide) rfl (da_cons (de_var 0) (da_cons de_int da_nil))) da_nil)))) (de_call B c__law_draw (by decide) rfl (da_cons (de_var 0) (da_cons de_int da_nil))) (fun _ _ => rfl)))
 (dss_one (ds_expr (de_mt PySem.F.plainAttrs_list PySem.F.slot_list_append PySem.F.type_list_append mt_append append_ent (de_var 2) (da_cons (de_mt PySem.F.plainAttrs_str PySem.F.slot_str_join PySem.F.type_str_join mt_join join_ent de_str (da_cons (de_op op_addG addG_ent (de_lst (da_cons (de_op op_addG addG_ent (de_var 3) de_str) da_nil)) (de_lc B (Ts.nm 5) [("_law_turn", 5)] (di_range1 (de_var 4) rfl T.n_range) (by show blkC ["_law_pen_here", "_law_pool_here", "_law_rows", "_law_one", "_law_many", "_law_turn"] (defScope s__law_told) _ _ = true; decide +kernel) (fun _ _ _ _ _ B' => by exact (pg_name B'.nd rfl (by first | exact Or.inl rfl | exact Or.inr rfl))) (fun _ _ _ _ _ B' => dts_nil) (fun _ _ _ _ _ B' => (de_ix ix_seq ixG_ent (de_var 1) (de_call B' c__law_draw (by decide) rfl (da_cons (de_var 0) (da_cons de_int da_nil))) (fun _ _ => rfl))))) da_nil)) da_nil))))))
 (dss_frz 2 (dss_one (ds_ret (de_mt PySem.F.plainAttrs_str PySem.F.slot_str_join PySem.F.type_str_join mt_join join_ent de_str (da_cons (de_var 2) da_nil))))))))
/-! law -/
abbrev s_law : Stmt := topS 53
def b_law : Stm :=
 (sSeq (sSet 1 (eFn m__law_pen (aCons (eVar 0) aNil)))
 (sSeq (sFor (iRange1 (eC (.int 12))) (gnName 2)
 (sSeq (sSet 3 (eFn m__law_told (aCons (eVar 1) aNil)))
 (sSeq (sSet 5 (eFn m__law_bent (aCons (eVar 1) (aCons (eVar 3) aNil))))
 (sFor (iAny (eTup (aCons (eVar 3) (aCons (eVar 5) (aCons (eFn m__law_bent (aCons (eVar 1) (aCons (eVar 5) aNil))) aNil))))) (gnName 6)
 (sSeq (sSet 7 (eFn m__law_due (aCons (eVar 6) aNil)))
 (sSeq (sIf (bOfE (eBin gNeH (eLam 0 "law" mL__law_heard (eFn m_read_bodies (aCons (eVar 6) aNil))) (eVar 7)))
 (sRet (eC (.bl false)))
 sNil)
 (sSeq (sIf (bOfE (eBin gNeH (eLam 0 "law" mL__law_heard (eFn m_read_bodies (aCons (eVar 6) aNil))) (eVar 7)))
 (sRet (eC (.bl false)))
 sNil)
 (sIf (bAnd (bOfE (eBin gEqH (eSl (eVar 7) oNone (oSome (eC (.int 6)))) (eC (.str "('line")))) (bOfE (eBin gNeH (eLam 0 "law" mL__law_heard (eCMeth "Table" (mN 2 m_Table_read) (eC (.cls "Table")) (aCons (eVar 6) aNil))) (eVar 7))))
 (sRet (eC (.bl false)))
 sNil))))))))
 (sSeq (sSet 3 (eLc (iAny (eTup (aCons (eC (.str "\n")) (aCons (eC (.str "p:  q")) (aCons (eC (.str "p: q ")) (aCons (eC (.str ":")) (aCons (eC (.str "p :")) (aCons (eC (.str "p: p p p p p p p p p")) aNil)))))))) (Ts.nm 6).g bYes (eFn m__law_due (aCons (eVar 6) aNil)) [6]))
 (sSeq (sSet 4 (eLst (aCons (eTup (aCons (eC (.int 0)) (aCons (eC (.int 0)) aNil))) (aCons (eTup (aCons (eC (.int 0)) (aCons (eC (.int 1)) aNil))) (aCons (eTup (aCons (eC (.int 0)) (aCons (eC (.int 2)) aNil))) (aCons (eTup (aCons (eC (.int 0)) (aCons (eC (.int 0)) aNil))) (aCons (eTup (aCons (eC (.int 0)) (aCons (eC (.int 0)) aNil))) (aCons (eTup (aCons (eC (.int 0)) (aCons (eC (.int 9)) aNil))) aNil))))))))
 (sRet (eBin gEqH (eVar 3) (eLc (iAny (eVar 4)) (Ts.tp [8, 9]).g bYes (eCall gRepr (aCons (eTup (aCons (eC (.str "line")) (aCons (eVar 8) (aCons (eVar 9) aNil)))) aNil)) [8, 9])))))))
def m_law : Fn := fnD 10 b_law
theorem sc_law : FnScope ["_law_script", "_law_pen_here", "_law_turn", "_law_told_here", "_law_places", "_law_bent_here", "_law_item", "_law_due_here", "_law_one", "_law_two"] ["_law_script"] (defScope s_law) := ⟨rfl, rfl, rfl, by decide +kernel, rfl, by decide +kernel, by decide +kernel⟩
theorem ok_law {P : Program} {w : World} {K : PySem.W.Frag} {mg : Str → Option Value} {base : Heap} {f : Addr} {fd : FuncData} (sy : ∃ mm, base.Ns sysModules mm) (T : Txt mg) (F : Fun K "law" "law" s_law f fd)
    {c_Table : Addr} (hc_Table : mg "Table" = some (.ref c_Table))
    {f_Table_read : Addr} (cm_Table_read : CMetT K mg "Table" "read" f_Table_read)
    (fc_Table_read : FnM P w K mg base 7 f_Table_read (mN 2 m_Table_read))
    {f__law_bent : Addr} {fd__law_bent : FuncData} (c__law_bent : FnD false P w K mg base "_law_bent" ["_law_pen_here", "_law_told_here"] 4 f__law_bent fd__law_bent m__law_bent)
    {f__law_due : Addr} {fd__law_due : FuncData} (c__law_due : FnD true P w K mg base "_law_due" ["_law_told_here"] 4 f__law_due fd__law_due m__law_due)
    {f__law_heard : Addr} {fd__law_heard : FuncData} (c__law_heard : FnLD true P w K mg base "_law_heard" "_law_ask" ["_law_ask", "_law_found", "e", "_law_others"] "_law_heard" (defScope s__law_heard) 1 f__law_heard fd__law_heard mL__law_heard)
    {f__law_pen : Addr} {fd__law_pen : FuncData} (c__law_pen : FnD false P w K mg base "_law_pen" ["_law_script"] 1 f__law_pen fd__law_pen m__law_pen)
    {f__law_told : Addr} {fd__law_told : FuncData} (c__law_told : FnD false P w K mg base "_law_told" ["_law_pen_here"] 7 f__law_told fd__law_told m__law_told)
    {f_read_bodies : Addr} {fd_read_bodies : FuncData} (c_read_bodies : FnD false P w K mg base "read_bodies" ["text"] 4 f_read_bodies fd_read_bodies m_read_bodies) (kb_read_bodies : KwB fd_read_bodies ["text"])
    (ha : PySem.W.nsIn K mainGlobals "law" = some (some (.ref f))) (tb_law : TabM K mg base "law")
    : FnG true P w K mg base 10 f fd ["_law_script"] (spD K mg 1 m_law) := by
  refine fn_okL (N := ["_law_script", "_law_pen_here", "_law_turn", "_law_told_here", "_law_places", "_law_bent_here", "_law_item", "_law_due_here", "_law_one", "_law_two"]) (ps := ["_law_script"]) (k := 9) (g := b_law) sy F sc_law (by decide) ha (fun cdv A outer s H E hcd B => ?_)
  exact (dss_cons (ds_set (i := 1) B.nd rfl (de_call B c__law_pen (by decide) rfl (da_cons (de_var 0) da_nil)))
 (dss_cons (ds_for B (di_range1 de_int rfl T.n_range) (dg_name (i := 2) B.nd rfl)
 (dss_cons (ds_set (i := 3) B.nd rfl (de_call B c__law_told (by decide) rfl (da_cons (de_var 1) da_nil)))
 (dss_cons (ds_set (i := 5) B.nd rfl (de_call B c__law_bent (by decide) rfl (da_cons (de_var 1) (da_cons (de_var 3) da_nil))))
 (dss_one (ds_for B (di_any (de_tup (da_cons (de_var 3) (da_cons (de_var 5) (da_cons (de_call B c__law_bent (by decide) rfl (da_cons (de_var 1) (da_cons (de_var 5) da_nil))) da_nil))))) (dg_name (i := 6) B.nd rfl)
 (dss_cons (ds_set (i := 7) B.nd rfl (de_call B c__law_due (by decide) rfl (da_cons (de_var 6) da_nil)))
 (dss_cons (ds_if (dt_cmp (op_neH B.hu64) neH_ent (de_lam B c__law_heard 0 7 (by decide) (by decide) rfl tb_law hcd rfl (LamX.lamS_by (by first | rfl | decide +kernel)) (fun _ _ _ _ _ _ _ Bl => (de_call Bl c_read_bodies (by decide) rfl (da_cons (de_var 6) da_nil)))) (de_var 7))
 (dss_one (ds_ret de_bl))
 dss_nil)
 (dss_cons (ds_if (dt_cmp (op_neH B.hu64) neH_ent (de_lam B c__law_heard 0 7 (by decide) (by decide) rfl tb_law hcd rfl (LamX.lamS_by (by first | rfl | decide +kernel)) (fun _ _ _ _ _ _ _ Bl => (de_callKw Bl c_read_bodies kb_read_bodies (by decide) rfl (dk_cons (de_var 6) dk_nil)))) (de_var 7))
 (dss_one (ds_ret de_bl))
 dss_nil)
 (dss_one (ds_if (dt_w (dw_and (dt_cmp (op_eqH B.hu64) eqH_ent (de_sl (de_var 7) do_none (do_some de_int)) de_str) (dw_and1 (dt_cmp (op_neH B.hu64) neH_ent (de_lam B c__law_heard 0 7 (by decide) (by decide) rfl tb_law hcd rfl (LamX.lamS_by (by first | rfl | decide +kernel)) (fun _ _ _ _ _ _ _ Bl => (de_cmeth Bl cm_Table_read fc_Table_read (by decide) (de_class rfl ⟨_, hc_Table⟩) (da_cons (de_var 6) da_nil)))) (de_var 7)))))
 (dss_one (ds_ret de_bl))
 dss_nil))))))))))
 (dss_cons (ds_setLc (i := 3) B (Ts.nm 6) [("_law_item", 6)] rfl rfl (sw_true rfl rfl rfl (by decide +kernel)) (di_any (de_tup (da_cons de_str (da_cons de_str (da_cons de_str (da_cons de_str (da_cons de_str (da_cons de_str da_nil)))))))) (by show blkC ["_law_script", "_law_pen_here", "_law_turn", "_law_told_here", "_law_places", "_law_bent_here", "_law_item", "_law_due_here", "_law_one", "_law_two"] (defScope s_law) _ _ = true; decide +kernel) (fun _ _ _ _ _ B' => by exact (pg_name B'.nd rfl (by first | exact Or.inl rfl | exact Or.inr rfl))) (fun _ _ _ _ _ B' => dts_nil) (fun _ _ _ _ _ B' => (de_call B' c__law_due (by decide) rfl (da_cons (de_var 6) da_nil))))
 (dss_cons (ds_set (i := 4) B.nd rfl (de_lst (da_cons (de_tup (da_cons de_int (da_cons de_int da_nil))) (da_cons (de_tup (da_cons de_int (da_cons de_int da_nil))) (da_cons (de_tup (da_cons de_int (da_cons de_int da_nil))) (da_cons (de_tup (da_cons de_int (da_cons de_int da_nil))) (da_cons (de_tup (da_cons de_int (da_cons de_int da_nil))) (da_cons (de_tup (da_cons de_int (da_cons de_int da_nil))) da_nil))))))))
 (dss_one (ds_ret (de_cmp (op_eqH B.hu64) eqH_ent (de_var 3) (de_lc B (Ts.tp [8, 9]) [("_law_one", 8), ("_law_two", 9)] (di_any (de_var 4)) (by show blkC ["_law_script", "_law_pen_here", "_law_turn", "_law_told_here", "_law_places", "_law_bent_here", "_law_item", "_law_due_here", "_law_one", "_law_two"] (defScope s_law) _ _ = true; decide +kernel) (fun _ _ _ _ _ B' => by exact (pg_tup B'.calm (pgs_cons (pg_name B'.nd rfl (by first | exact Or.inl rfl | exact Or.inr rfl)) (pgs_cons (pg_name B'.nd rfl (by first | exact Or.inl rfl | exact Or.inr rfl)) pgs_nil)))) (fun _ _ _ _ _ B' => dts_nil) (fun _ _ _ _ _ B' => (de_callB (call_reprG B') (reprG_ent B') rfl T.n_repr DL.boot_repr (da_cons (de_tup (da_cons de_str (da_cons (de_var 8) (da_cons (de_var 9) da_nil)))) da_nil)))))))))))
/-! the end -/
theorem all_mk {P : Program} {w : World} {K : PySem.W.Frag} {h : Heap} {mg : Str → Option Value} {fa : Addr} (X : K.In h) (G : h.Ns mainGlobals mg) (hfa : mg "law" = some (.ref fa))
    {c_Table : Addr} (a_Table : PySem.W.nsIn K mainGlobals "Table" = some (some (.ref c_Table)))
    (pg_Table : PySem.W.plainGet K c_Table Str.empty = true)
    (hd_Table : PySem.W.hasDictIn K c_Table = true)
    (po_Table : PySem.W.plainOver K c_Table = true)
    (sa_Table : PySem.W.findIn K (.ref c_Table) "__setattr__" = some (some (.builtin "object.__setattr__")))
    {c_Clash : Addr} (a_Clash : PySem.W.nsIn K mainGlobals "Clash" = some (some (.ref c_Clash)))
    {c_Doubling : Addr} (a_Doubling : PySem.W.nsIn K mainGlobals "Doubling" = some (some (.ref c_Doubling)))
    {c_InvalidBody : Addr} (a_InvalidBody : PySem.W.nsIn K mainGlobals "InvalidBody" = some (some (.ref c_InvalidBody)))
    {c_InvalidCapacity : Addr} (a_InvalidCapacity : PySem.W.nsIn K mainGlobals "InvalidCapacity" = some (some (.ref c_InvalidCapacity)))
    {c_InvalidEdit : Addr} (a_InvalidEdit : PySem.W.nsIn K mainGlobals "InvalidEdit" = some (some (.ref c_InvalidEdit)))
    {c_InvalidName : Addr} (a_InvalidName : PySem.W.nsIn K mainGlobals "InvalidName" = some (some (.ref c_InvalidName)))
    {c_InvalidTrail : Addr} (a_InvalidTrail : PySem.W.nsIn K mainGlobals "InvalidTrail" = some (some (.ref c_InvalidTrail)))
    {c_ParseError : Addr} (a_ParseError : PySem.W.nsIn K mainGlobals "ParseError" = some (some (.ref c_ParseError)))
    {c_PassError : Addr} (a_PassError : PySem.W.nsIn K mainGlobals "PassError" = some (some (.ref c_PassError)))
    {c_Taken : Addr} (a_Taken : PySem.W.nsIn K mainGlobals "Taken" = some (some (.ref c_Taken)))
    {c_UnknownCommand : Addr} (a_UnknownCommand : PySem.W.nsIn K mainGlobals "UnknownCommand" = some (some (.ref c_UnknownCommand)))
    (hn_x : PySem.W.specialIn K (.builtin "object.__class__") "__get__" = some (some (.builtin "getset_descriptor.__get__")))
    (tk_x : PySem.W.takesIn K (.builtin "object.__class__") = some true)
    (hd_ParseError : PySem.W.hasDictIn K c_ParseError = true)
    (be_ParseError : PySem.W.subIn K (.ref c_ParseError) (.type "BaseException") = some true)
    (ty_ParseError : PySem.W.typeIn K (.ref c_ParseError) = some (.type "type"))
    (kp_ParseError : PySem.W.keepIn K (.ref c_ParseError) = true)
    (ic_ParseError : PySem.W.isClsIn K c_ParseError = true)
    (ga_ParseError : PySem.W.findIn K (.ref c_ParseError) "__getattribute__" = some (some (.builtin "BaseException.__getattribute__")))
    (gg_ParseError : PySem.W.findIn K (.ref c_ParseError) "__getattr__" = some none)
    (ha_ParseError : PySem.W.findIn K (.ref c_ParseError) "__class__" = some (some (.builtin "object.__class__")))
    (mo_ParseError : PySem.W.mroIn K c_ParseError (.type "object") = some true)
    (ini_ParseError : PySem.W.excInitIn K c_ParseError bmV "ValueError.__new__" = true)
    (ovr_ParseError : PySem.W.excOver K c_ParseError bmV = true)
    (sa_ParseError : PySem.W.findIn K (.ref c_ParseError) "__setattr__" = some (some (.builtin "object.__setattr__")))
    {f_ParseError___init__ : Addr} (if_ParseError : PySem.W.findIn K (.ref c_ParseError) "__init__" = some (some (.ref f_ParseError___init__)))
    (it_ParseError : PySem.W.typeIn K (.ref f_ParseError___init__) = some (.type "function"))
    {od_ParseError___init__ an_ParseError___init__ : Option Addr} {sl_ParseError___init__ : Array (Option Value)} {oc_ParseError___init__ kV_ParseError___init__ dc_ParseError___init__ pm_ParseError___init__ cd_ParseError___init__ ct_ParseError___init__ : Value} (l_ParseError___init__ : K.lookup f_ParseError___init__ = some ⟨oc_ParseError___init__, od_ParseError___init__, .func (PySem.W.fnOf "__init__" "ParseError.__init__" (defArgs s_ParseError___init__) (defBody s_ParseError___init__) (defScope s_ParseError___init__) .none kV_ParseError___init__ dc_ParseError___init__ pm_ParseError___init__ an_ParseError___init__ cd_ParseError___init__ ct_ParseError___init__), sl_ParseError___init__⟩)
    (d_ParseError___init__ : PySem.W.codeIn K cd_ParseError___init__ "ParseError.__init__" = true)
    (k_ParseError___init__ : PySem.W.keepIn K (.ref f_ParseError___init__) = true)
    (nf_ParseError_line : PySem.W.findIn K (.ref c_ParseError) "line" = some none)
    (nf_ParseError_word : PySem.W.findIn K (.ref c_ParseError) "word" = some none)
    (xe_ParseError_PassError : PySem.W.exmAny K (.ref c_ParseError) [.ref c_PassError] = some true)
    (ke_ParseError_Clash : PySem.W.kitOne K (.ref c_ParseError) (.ref c_Clash) = some false)
    (ke_ParseError_Doubling : PySem.W.kitOne K (.ref c_ParseError) (.ref c_Doubling) = some false)
    (ke_ParseError_InvalidBody : PySem.W.kitOne K (.ref c_ParseError) (.ref c_InvalidBody) = some false)
    (ke_ParseError_InvalidCapacity : PySem.W.kitOne K (.ref c_ParseError) (.ref c_InvalidCapacity) = some false)
    (ke_ParseError_InvalidEdit : PySem.W.kitOne K (.ref c_ParseError) (.ref c_InvalidEdit) = some false)
    (ke_ParseError_InvalidName : PySem.W.kitOne K (.ref c_ParseError) (.ref c_InvalidName) = some false)
    (ke_ParseError_InvalidTrail : PySem.W.kitOne K (.ref c_ParseError) (.ref c_InvalidTrail) = some false)
    (ke_ParseError_ParseError : PySem.W.kitOne K (.ref c_ParseError) (.ref c_ParseError) = some true)
    (ke_ParseError_Taken : PySem.W.kitOne K (.ref c_ParseError) (.ref c_Taken) = some false)
    (ke_ParseError_UnknownCommand : PySem.W.kitOne K (.ref c_ParseError) (.ref c_UnknownCommand) = some false)
    {f_is_name : Addr} (a_is_name : PySem.W.nsIn K mainGlobals "is_name" = some (some (.ref f_is_name)))
    {od_is_name an_is_name : Option Addr} {sl_is_name : Array (Option Value)} {oc_is_name kV_is_name dc_is_name pm_is_name cd_is_name ct_is_name : Value} (l_is_name : K.lookup f_is_name = some ⟨oc_is_name, od_is_name, .func (PySem.W.fnOf "is_name" "is_name" (defArgs s_is_name) (defBody s_is_name) (defScope s_is_name) .none kV_is_name dc_is_name pm_is_name an_is_name cd_is_name ct_is_name), sl_is_name⟩)
    (d_is_name : PySem.W.codeIn K cd_is_name "is_name" = true)
    (k_is_name : PySem.W.keepIn K (.ref f_is_name) = true)
    {f_read_bodies : Addr} (a_read_bodies : PySem.W.nsIn K mainGlobals "read_bodies" = some (some (.ref f_read_bodies)))
    {od_read_bodies an_read_bodies : Option Addr} {sl_read_bodies : Array (Option Value)} {oc_read_bodies kV_read_bodies dc_read_bodies pm_read_bodies cd_read_bodies ct_read_bodies : Value} (l_read_bodies : K.lookup f_read_bodies = some ⟨oc_read_bodies, od_read_bodies, .func (PySem.W.fnOf "read_bodies" "read_bodies" (defArgs s_read_bodies) (defBody s_read_bodies) (defScope s_read_bodies) .none kV_read_bodies dc_read_bodies pm_read_bodies an_read_bodies cd_read_bodies ct_read_bodies), sl_read_bodies⟩)
    (d_read_bodies : PySem.W.codeIn K cd_read_bodies "read_bodies" = true)
    (k_read_bodies : PySem.W.keepIn K (.ref f_read_bodies) = true)
    {p_Table_read f_Table_read : Addr} {rs_Table_read : List Value} (rd_Table_read : PySem.W.readsIn K c_Table (.type "type") = true)
    (ga_Table_read : PySem.W.specialIn K (.ref c_Table) "__getattribute__" = some (some (.builtin "type.__getattribute__")))
    (a_Table_read : PySem.W.findCls K (.ref c_Table) (.type "type") "read" = some (.get (.builtin "classmethod.__get__") (.ref p_Table_read) .none (.ref c_Table)))
    (rc_Table_read : PySem.W.recIn K p_Table_read "classmethod" = some (.ref f_Table_read :: rs_Table_read))
    (fi_Table_read : PySem.W.fnIn K f_Table_read = true)
    {od_Table_read an_Table_read : Option Addr} {sl_Table_read : Array (Option Value)} {oc_Table_read kV_Table_read dc_Table_read pm_Table_read cd_Table_read ct_Table_read : Value} (l_Table_read : K.lookup f_Table_read = some ⟨oc_Table_read, od_Table_read, .func (PySem.W.fnOf "read" "Table.read" (defArgs s_Table_read) (defBody s_Table_read) (defScope s_Table_read) .none kV_Table_read dc_Table_read pm_Table_read an_Table_read cd_Table_read ct_Table_read), sl_Table_read⟩)
    (d_Table_read : PySem.W.codeIn K cd_Table_read "Table.read" = true)
    (k_Table_read : PySem.W.keepIn K (.ref f_Table_read) = true)
    {f__law_draw : Addr} (a__law_draw : PySem.W.nsIn K mainGlobals "_law_draw" = some (some (.ref f__law_draw)))
    {od__law_draw an__law_draw : Option Addr} {sl__law_draw : Array (Option Value)} {oc__law_draw kV__law_draw dc__law_draw pm__law_draw cd__law_draw ct__law_draw : Value} (l__law_draw : K.lookup f__law_draw = some ⟨oc__law_draw, od__law_draw, .func (PySem.W.fnOf "_law_draw" "_law_draw" (defArgs s__law_draw) (defBody s__law_draw) (defScope s__law_draw) .none kV__law_draw dc__law_draw pm__law_draw an__law_draw cd__law_draw ct__law_draw), sl__law_draw⟩)
    (d__law_draw : PySem.W.codeIn K cd__law_draw "_law_draw" = true)
    (k__law_draw : PySem.W.keepIn K (.ref f__law_draw) = true)
    {f__law_bent : Addr} (a__law_bent : PySem.W.nsIn K mainGlobals "_law_bent" = some (some (.ref f__law_bent)))
    {od__law_bent an__law_bent : Option Addr} {sl__law_bent : Array (Option Value)} {oc__law_bent kV__law_bent dc__law_bent pm__law_bent cd__law_bent ct__law_bent : Value} (l__law_bent : K.lookup f__law_bent = some ⟨oc__law_bent, od__law_bent, .func (PySem.W.fnOf "_law_bent" "_law_bent" (defArgs s__law_bent) (defBody s__law_bent) (defScope s__law_bent) .none kV__law_bent dc__law_bent pm__law_bent an__law_bent cd__law_bent ct__law_bent), sl__law_bent⟩)
    (d__law_bent : PySem.W.codeIn K cd__law_bent "_law_bent" = true)
    (k__law_bent : PySem.W.keepIn K (.ref f__law_bent) = true)
    {f__law_is_word : Addr} (a__law_is_word : PySem.W.nsIn K mainGlobals "_law_is_word" = some (some (.ref f__law_is_word)))
    {od__law_is_word an__law_is_word : Option Addr} {sl__law_is_word : Array (Option Value)} {oc__law_is_word kV__law_is_word dc__law_is_word pm__law_is_word cd__law_is_word ct__law_is_word : Value} (l__law_is_word : K.lookup f__law_is_word = some ⟨oc__law_is_word, od__law_is_word, .func (PySem.W.fnOf "_law_is_word" "_law_is_word" (defArgs s__law_is_word) (defBody s__law_is_word) (defScope s__law_is_word) .none kV__law_is_word dc__law_is_word pm__law_is_word an__law_is_word cd__law_is_word ct__law_is_word), sl__law_is_word⟩)
    (d__law_is_word : PySem.W.codeIn K cd__law_is_word "_law_is_word" = true)
    (k__law_is_word : PySem.W.keepIn K (.ref f__law_is_word) = true)
    {f__law_due : Addr} (a__law_due : PySem.W.nsIn K mainGlobals "_law_due" = some (some (.ref f__law_due)))
    {od__law_due an__law_due : Option Addr} {sl__law_due : Array (Option Value)} {oc__law_due kV__law_due dc__law_due pm__law_due cd__law_due ct__law_due : Value} (l__law_due : K.lookup f__law_due = some ⟨oc__law_due, od__law_due, .func (PySem.W.fnOf "_law_due" "_law_due" (defArgs s__law_due) (defBody s__law_due) (defScope s__law_due) .none kV__law_due dc__law_due pm__law_due an__law_due cd__law_due ct__law_due), sl__law_due⟩)
    (d__law_due : PySem.W.codeIn K cd__law_due "_law_due" = true)
    (k__law_due : PySem.W.keepIn K (.ref f__law_due) = true)
    {f__law_heard : Addr} (a__law_heard : PySem.W.nsIn K mainGlobals "_law_heard" = some (some (.ref f__law_heard)))
    {od__law_heard an__law_heard : Option Addr} {sl__law_heard : Array (Option Value)} {oc__law_heard kV__law_heard dc__law_heard pm__law_heard cd__law_heard ct__law_heard : Value} (l__law_heard : K.lookup f__law_heard = some ⟨oc__law_heard, od__law_heard, .func (PySem.W.fnOf "_law_heard" "_law_heard" (defArgs s__law_heard) (defBody s__law_heard) (defScope s__law_heard) .none kV__law_heard dc__law_heard pm__law_heard an__law_heard cd__law_heard ct__law_heard), sl__law_heard⟩)
    (d__law_heard : PySem.W.codeIn K cd__law_heard "_law_heard" = true)
    (k__law_heard : PySem.W.keepIn K (.ref f__law_heard) = true)
    {f__law_pen : Addr} (a__law_pen : PySem.W.nsIn K mainGlobals "_law_pen" = some (some (.ref f__law_pen)))
    {od__law_pen an__law_pen : Option Addr} {sl__law_pen : Array (Option Value)} {oc__law_pen kV__law_pen dc__law_pen pm__law_pen cd__law_pen ct__law_pen : Value} (l__law_pen : K.lookup f__law_pen = some ⟨oc__law_pen, od__law_pen, .func (PySem.W.fnOf "_law_pen" "_law_pen" (defArgs s__law_pen) (defBody s__law_pen) (defScope s__law_pen) .none kV__law_pen dc__law_pen pm__law_pen an__law_pen cd__law_pen ct__law_pen), sl__law_pen⟩)
    (d__law_pen : PySem.W.codeIn K cd__law_pen "_law_pen" = true)
    (k__law_pen : PySem.W.keepIn K (.ref f__law_pen) = true)
    {f__law_pool : Addr} (a__law_pool : PySem.W.nsIn K mainGlobals "_law_pool" = some (some (.ref f__law_pool)))
    {od__law_pool an__law_pool : Option Addr} {sl__law_pool : Array (Option Value)} {oc__law_pool kV__law_pool dc__law_pool pm__law_pool cd__law_pool ct__law_pool : Value} (l__law_pool : K.lookup f__law_pool = some ⟨oc__law_pool, od__law_pool, .func (PySem.W.fnOf "_law_pool" "_law_pool" (defArgs s__law_pool) (defBody s__law_pool) (defScope s__law_pool) .none kV__law_pool dc__law_pool pm__law_pool an__law_pool cd__law_pool ct__law_pool), sl__law_pool⟩)
    (d__law_pool : PySem.W.codeIn K cd__law_pool "_law_pool" = true)
    (k__law_pool : PySem.W.keepIn K (.ref f__law_pool) = true)
    {f__law_told : Addr} (a__law_told : PySem.W.nsIn K mainGlobals "_law_told" = some (some (.ref f__law_told)))
    {od__law_told an__law_told : Option Addr} {sl__law_told : Array (Option Value)} {oc__law_told kV__law_told dc__law_told pm__law_told cd__law_told ct__law_told : Value} (l__law_told : K.lookup f__law_told = some ⟨oc__law_told, od__law_told, .func (PySem.W.fnOf "_law_told" "_law_told" (defArgs s__law_told) (defBody s__law_told) (defScope s__law_told) .none kV__law_told dc__law_told pm__law_told an__law_told cd__law_told ct__law_told), sl__law_told⟩)
    (d__law_told : PySem.W.codeIn K cd__law_told "_law_told" = true)
    (k__law_told : PySem.W.keepIn K (.ref f__law_told) = true)
    {f_law : Addr} (a_law : PySem.W.nsIn K mainGlobals "law" = some (some (.ref f_law)))
    {od_law an_law : Option Addr} {sl_law : Array (Option Value)} {oc_law kV_law dc_law pm_law cd_law ct_law : Value} (l_law : K.lookup f_law = some ⟨oc_law, od_law, .func (PySem.W.fnOf "law" "law" (defArgs s_law) (defBody s_law) (defScope s_law) .none kV_law dc_law pm_law an_law cd_law ct_law), sl_law⟩)
    (d_law : PySem.W.codeIn K cd_law "law" = true)
    (k_law : PySem.W.keepIn K (.ref f_law) = true)
    {t_LETTERS : Tok} (z_LETTERS : PySem.W.nsIn K mainGlobals "LETTERS" = some (some (.str "abcdefghijklmnopqrstuvwxyz" t_LETTERS)))
    {t_MOST_DEFINED : Tok} (z_MOST_DEFINED : PySem.W.nsIn K mainGlobals "MOST_DEFINED" = some (some (.int 10 t_MOST_DEFINED)))
    {t_MOST_LETTERS : Tok} (z_MOST_LETTERS : PySem.W.nsIn K mainGlobals "MOST_LETTERS" = some (some (.int 8 t_MOST_LETTERS)))
    {t_MOST_PLACES : Tok} (z_MOST_PLACES : PySem.W.nsIn K mainGlobals "MOST_PLACES" = some (some (.int 8 t_MOST_PLACES)))
    (z_abs : PySem.W.nsIn K mainGlobals "abs" = some none)
    (z_all : PySem.W.nsIn K mainGlobals "all" = some none)
    (z_enumerate : PySem.W.nsIn K mainGlobals "enumerate" = some none)
    (z_int : PySem.W.nsIn K mainGlobals "int" = some none)
    (z_isinstance : PySem.W.nsIn K mainGlobals "isinstance" = some none)
    (z_len : PySem.W.nsIn K mainGlobals "len" = some none)
    (z_list : PySem.W.nsIn K mainGlobals "list" = some none)
    (z_range : PySem.W.nsIn K mainGlobals "range" = some none)
    (z_repr : PySem.W.nsIn K mainGlobals "repr" = some none)
    (z_str : PySem.W.nsIn K mainGlobals "str" = some none)
    (z_tuple : PySem.W.nsIn K mainGlobals "tuple" = some none) :
    ∃ fd : FuncData, (∀ (s : Shared) (v : Value), BindsTo s fd ⟨[v], []⟩ [("_law_script", v)]) ∧ ∀ base : Heap, K.In base → base.Ns mainGlobals mg → (∃ mm, base.Ns sysModules mm) → (∀ y ∈ tabYs, TabM K mg base y) → FnG true P w K mg base 10 fa fd ["_law_script"] (spD K mg 1 m_law) := by
  have e := hfa.symm.trans (PySem.W.mg_of X G a_law)
  cases e
  have T : Txt mg := ⟨⟨_, PySem.W.mg_of X G z_LETTERS⟩, ⟨_, PySem.W.mg_of X G z_MOST_DEFINED⟩, ⟨_, PySem.W.mg_of X G z_MOST_LETTERS⟩, ⟨_, PySem.W.mg_of X G z_MOST_PLACES⟩, PySem.W.mg_none_of X G z_abs, PySem.W.mg_none_of X G z_all, PySem.W.mg_none_of X G z_enumerate, PySem.W.mg_none_of X G z_int, PySem.W.mg_none_of X G z_isinstance, PySem.W.mg_none_of X G z_len, PySem.W.mg_none_of X G z_list, PySem.W.mg_none_of X G z_range, PySem.W.mg_none_of X G z_repr, PySem.W.mg_none_of X G z_str, PySem.W.mg_none_of X G z_tuple⟩
  have hc_Table := PySem.W.mg_of X G a_Table
  have ct_cls_Table : ClsT K mg "Table" := clsT_mk hc_Table pg_Table hd_Table po_Table sa_Table
  have hc_Clash := PySem.W.mg_of X G a_Clash
  have hc_Doubling := PySem.W.mg_of X G a_Doubling
  have hc_InvalidBody := PySem.W.mg_of X G a_InvalidBody
  have hc_InvalidCapacity := PySem.W.mg_of X G a_InvalidCapacity
  have hc_InvalidEdit := PySem.W.mg_of X G a_InvalidEdit
  have hc_InvalidName := PySem.W.mg_of X G a_InvalidName
  have hc_InvalidTrail := PySem.W.mg_of X G a_InvalidTrail
  have hc_ParseError := PySem.W.mg_of X G a_ParseError
  have hc_PassError := PySem.W.mg_of X G a_PassError
  have hc_Taken := PySem.W.mg_of X G a_Taken
  have hc_UnknownCommand := PySem.W.mg_of X G a_UnknownCommand
  have ec_ParseError : ErC K c_ParseError := erC_mk ic_ParseError ga_ParseError gg_ParseError be_ParseError ha_ParseError hn_x tk_x mo_ParseError hd_ParseError
  have xm_PassError : ExmM K mg [.ref c_PassError] sb_PassError := (exmM_cons hc_ParseError xe_ParseError_PassError exmM_nil)
  have isa : IsaM K mg sO_cs sO_t sE_t sB_t := isaM_mk isiM_nil (ecM_cons hc_ParseError hc_Clash ec_ParseError ke_ParseError_Clash (ecM_cons hc_ParseError hc_Doubling ec_ParseError ke_ParseError_Doubling (ecM_cons hc_ParseError hc_InvalidBody ec_ParseError ke_ParseError_InvalidBody (ecM_cons hc_ParseError hc_InvalidCapacity ec_ParseError ke_ParseError_InvalidCapacity (ecM_cons hc_ParseError hc_InvalidEdit ec_ParseError ke_ParseError_InvalidEdit (ecM_cons hc_ParseError hc_InvalidName ec_ParseError ke_ParseError_InvalidName (ecM_cons hc_ParseError hc_InvalidTrail ec_ParseError ke_ParseError_InvalidTrail (ecM_cons hc_ParseError hc_ParseError ec_ParseError ke_ParseError_ParseError (ecM_cons hc_ParseError hc_Taken ec_ParseError ke_ParseError_Taken (ecM_cons hc_ParseError hc_UnknownCommand ec_ParseError ke_ParseError_UnknownCommand ecM_nil)))))))))) ebM_nil
  have xf_line : XfM K mg "line" cx_line := (xfM_cons hc_ParseError ec_ParseError nf_ParseError_line xfM_nil)
  have xf_word : XfM K mg "word" cx_word := (xfM_cons hc_ParseError ec_ParseError nf_ParseError_word xfM_nil)
  have F_is_name := fun_mk (st := s_is_name) l_is_name d_is_name k_is_name
  have v_is_name := F_is_name.binds (ps := ["value"]) fun _ _ _ _ _ _ us hl => match us, hl with | [_], _ => rfl
  have F_read_bodies := fun_mk (st := s_read_bodies) l_read_bodies d_read_bodies k_read_bodies
  have v_read_bodies := F_read_bodies.binds (ps := ["text"]) fun _ _ _ _ _ _ us hl => match us, hl with | [_], _ => rfl
  have kb_read_bodies := kwb_of F_read_bodies (ps := ["text"]) fun _ _ _ _ _ _ us hl => match us, hl with | [_], _ => rfl
  have F_Table_read := fun_mk (st := s_Table_read) l_Table_read d_Table_read k_Table_read
  have v_Table_read := F_Table_read.binds (ps := ["cls", "text"]) fun _ _ _ _ _ _ us hl => match us, hl with | [_, _], _ => rfl
  have F__law_draw := fun_mk (st := s__law_draw) l__law_draw d__law_draw k__law_draw
  have v__law_draw := F__law_draw.binds (ps := ["_law_pen_here", "_law_size"]) fun _ _ _ _ _ _ us hl => match us, hl with | [_, _], _ => rfl
  have F__law_bent := fun_mk (st := s__law_bent) l__law_bent d__law_bent k__law_bent
  have v__law_bent := F__law_bent.binds (ps := ["_law_pen_here", "_law_told_here"]) fun _ _ _ _ _ _ us hl => match us, hl with | [_, _], _ => rfl
  have F__law_is_word := fun_mk (st := s__law_is_word) l__law_is_word d__law_is_word k__law_is_word
  have v__law_is_word := F__law_is_word.binds (ps := ["_law_value"]) fun _ _ _ _ _ _ us hl => match us, hl with | [_], _ => rfl
  have F__law_due := fun_mk (st := s__law_due) l__law_due d__law_due k__law_due
  have v__law_due := F__law_due.binds (ps := ["_law_told_here"]) fun _ _ _ _ _ _ us hl => match us, hl with | [_], _ => rfl
  have F__law_heard := fun_mk (st := s__law_heard) l__law_heard d__law_heard k__law_heard
  have v__law_heard := F__law_heard.binds (ps := ["_law_ask"]) fun _ _ _ _ _ _ us hl => match us, hl with | [_], _ => rfl
  have F__law_pen := fun_mk (st := s__law_pen) l__law_pen d__law_pen k__law_pen
  have v__law_pen := F__law_pen.binds (ps := ["_law_script"]) fun _ _ _ _ _ _ us hl => match us, hl with | [_], _ => rfl
  have F__law_pool := fun_mk (st := s__law_pool) l__law_pool d__law_pool k__law_pool
  have v__law_pool := F__law_pool.binds (ps := ["_law_pen_here", "_law_many"]) fun _ _ _ _ _ _ us hl => match us, hl with | [_, _], _ => rfl
  have F__law_told := fun_mk (st := s__law_told) l__law_told d__law_told k__law_told
  have v__law_told := F__law_told.binds (ps := ["_law_pen_here"]) fun _ _ _ _ _ _ us hl => match us, hl with | [_], _ => rfl
  have F_law := fun_mk (st := s_law) l_law d_law k_law
  refine ⟨PySem.W.fnOf "law" "law" (defArgs s_law) (defBody s_law) (defScope s_law) .none kV_law dc_law pm_law an_law cd_law ct_law, fun s v => .of_eq rfl, fun base hb1 hb2 sy tbs => ?_⟩
  have tb_law : TabM K mg base "law" := tbs _ (by decide)
  have T_ParseError : XC K "ValueError.__new__" bmV c_ParseError := ⟨ini_ParseError, ovr_ParseError, hd_ParseError, sa_ParseError, be_ParseError, ty_ParseError, kp_ParseError⟩
  have F_ParseError___init__ := fun_mk (st := s_ParseError___init__) l_ParseError___init__ d_ParseError___init__ k_ParseError___init__
  have v_ParseError___init__ := F_ParseError___init__.binds (ps := ["self", "line", "word"]) fun _ _ _ _ _ _ us hl => match us, hl with | [_, _, _], _ => rfl
  have er_ParseError : ErrM P w K mg base "ParseError" ["line", "word"] := ⟨c_ParseError, f_ParseError___init__, _, _, _, bmV, hc_ParseError, fbV, T_ParseError, if_ParseError, it_ParseError, ini_2 sfV T_ParseError (taker_of nf_ParseError_line) (taker_of nf_ParseError_word) F_ParseError___init__ sc_ParseError___init__ v_ParseError___init__ rfl (by decide) (by decide) (by decide) (by decide) (by decide) (by decide) (by first | exact Or.inl rfl | exact Or.inr (Or.inl rfl) | exact Or.inr (Or.inr rfl)) (by first | exact Or.inl rfl | exact Or.inr (Or.inl rfl) | exact Or.inr (Or.inr rfl)) (by first | exact Or.inl rfl | exact Or.inr (Or.inl rfl) | exact Or.inr (Or.inr rfl))⟩
  have c_is_name : FnD false P w K mg base "is_name" ["value"] 1 _ _ m_is_name := ⟨ok_is_name sy T F_is_name , PySem.W.mg_of X G a_is_name, k_is_name, v_is_name⟩
  have c_read_bodies : FnD false P w K mg base "read_bodies" ["text"] 4 _ _ m_read_bodies := ⟨ok_read_bodies sy T F_read_bodies er_ParseError c_is_name, PySem.W.mg_of X G a_read_bodies, k_read_bodies, v_read_bodies⟩
  have fr_Table_read : FnM P w K mg base 7 f_Table_read (mN 2 m_Table_read) := fnm_of (m := m_Table_read) (ok_Table_read (P := P) (w := w) sy T F_Table_read c_read_bodies kb_read_bodies) v_Table_read
  have c__law_draw : FnD false P w K mg base "_law_draw" ["_law_pen_here", "_law_size"] 1 _ _ m__law_draw := ⟨ok__law_draw sy T F__law_draw , PySem.W.mg_of X G a__law_draw, k__law_draw, v__law_draw⟩
  have c__law_bent : FnD false P w K mg base "_law_bent" ["_law_pen_here", "_law_told_here"] 4 _ _ m__law_bent := ⟨ok__law_bent sy T F__law_bent c__law_draw, PySem.W.mg_of X G a__law_bent, k__law_bent, v__law_bent⟩
  have c__law_is_word : FnD false P w K mg base "_law_is_word" ["_law_value"] 1 _ _ m__law_is_word := ⟨ok__law_is_word sy T F__law_is_word , PySem.W.mg_of X G a__law_is_word, k__law_is_word, v__law_is_word⟩
  have c__law_due : FnD true P w K mg base "_law_due" ["_law_told_here"] 4 _ _ m__law_due := ⟨ok__law_due sy T F__law_due c__law_is_word, PySem.W.mg_of X G a__law_due, k__law_due, v__law_due⟩
  have c__law_heard : FnLD true P w K mg base "_law_heard" "_law_ask" ["_law_ask", "_law_found", "e", "_law_others"] "_law_heard" (defScope s__law_heard) 1 _ _ mL__law_heard := ⟨ok__law_heard sy T F__law_heard hc_Clash hc_Doubling hc_InvalidBody hc_InvalidCapacity hc_InvalidEdit hc_InvalidName hc_InvalidTrail hc_ParseError hc_PassError hc_Taken hc_UnknownCommand xm_PassError isa xf_line xf_word, PySem.W.mg_of X G a__law_heard, k__law_heard, v__law_heard⟩
  have c__law_pen : FnD false P w K mg base "_law_pen" ["_law_script"] 1 _ _ m__law_pen := ⟨ok__law_pen sy T F__law_pen , PySem.W.mg_of X G a__law_pen, k__law_pen, v__law_pen⟩
  have c__law_pool : FnD false P w K mg base "_law_pool" ["_law_pen_here", "_law_many"] 4 _ _ m__law_pool := ⟨ok__law_pool sy T F__law_pool c__law_draw, PySem.W.mg_of X G a__law_pool, k__law_pool, v__law_pool⟩
  have c__law_told : FnD false P w K mg base "_law_told" ["_law_pen_here"] 7 _ _ m__law_told := ⟨ok__law_told sy T F__law_told c__law_draw c__law_pool, PySem.W.mg_of X G a__law_told, k__law_told, v__law_told⟩
  exact ok_law (P := P) (w := w) sy T F_law hc_Table (cmetT_mk hc_Table rd_Table_read ga_Table_read a_Table_read rc_Table_read fi_Table_read) fr_Table_read c__law_bent c__law_due c__law_heard c__law_pen c__law_told c_read_bodies kb_read_bodies a_law tb_law
end LW
namespace LW
open PySem PySem.Spec PyProof.Rows L2 DL
local macro_rules | `(tactic| walk_at "ev") => `(tactic| try simp only [eBin, eUn, eVar, eC, aCons, aNil, eLst, eTup, eCall, eIf, eFn, bofe_bl, bTru, bNot, bAnd, bOr, yes_ok, yes_bind, ofO_some, gAdd_ii, gSub_ii, gLt_ii, gLe_ii, gGt_ii, gGe_ii, gNeg_i, gAbs_i, gInt_b, gLen_l, gLen_t, gEqH_ii, gEqH_ss, gNeH_ss, gLe_ss, gIs_bb, gIx_l, gIx_t, List.getElem?_cons_zero, List.getElem?_cons_succ, List.set_cons_zero, List.set_cons_succ, List.map_cons, List.map_nil, List.length_cons, List.length_nil, List.replicate_succ, List.replicate_zero, List.cons_append, List.nil_append, Nat.reduceAdd, Nat.reduceSub, Nat.zero_le, Nat.reduceLeDiff, Bool.false_eq_true, reduceIte])
def tape (ns : List Int) (turn great : Int) : SO := .lst [.list (ns.map .int), .int turn, .int great]
/-- the tape stands at 1; at most n draws were made -/
def Tp (S : Store) (n : Nat) : Prop := ∃ ns turn great, S[1]? = some (tape ns turn great) ∧ 0 ≤ turn ∧ turn ≤ n ∧ 0 ≤ great
theorem Tp.mono {S : Store} {n m : Nat} (h : Tp S n) (i : n ≤ m) : Tp S m := let ⟨a, b, c, h1, h2, h3, h4⟩ := h; ⟨a, b, c, h1, h2, by omega, h4⟩
/-- what stands behind the tape stays -/
def Kp (S S' : Store) : Prop := S.length ≤ S'.length ∧ ∀ j, j ≠ 1 → j < S.length → S'[j]? = S[j]?
theorem Kp.refl (S : Store) : Kp S S := ⟨Nat.le_refl _, fun _ _ _ => rfl⟩
theorem Kp.trans {S S1 S2 : Store} (h : Kp S S1) (k : Kp S1 S2) : Kp S S2 := ⟨Nat.le_trans h.1 k.1, fun j h0 h1 => (k.2 j h0 (Nat.lt_of_lt_of_le h1 h.1)).trans (h.2 j h0 h1)⟩
theorem Kp.set0 {S : Store} {o : SO} : Kp S (S.set 1 o) := ⟨by simp, fun j h0 _ => by rw [List.getElem?_set_ne (by omega)]⟩
theorem Kp.at {S S' : Store} (h : Kp S S') {j : Nat} {o : SO} (h0 : j ≠ 1) (e : S[j]? = some o) : S'[j]? = some o := (h.2 j h0 (List.getElem?_eq_some_iff.mp e).1).trans e
theorem mod_lt {a m : Int} (h : 0 < m) : 0 ≤ a % m ∧ a % m < m := ⟨Int.emod_nonneg _ (by omega), Int.emod_lt_of_pos _ h⟩
theorem setIx_ref {n : Nat} {k : Int} {v : D} {S : Store} {xs : List D} (h : S[n]? = some (.lst xs)) (h0 : 0 ≤ k) (h1 : k < xs.length) : setIx (.ref n) (.int k) v S = some (S.set n (.lst (xs.set k.toNat v))) := by
  unfold setIx
  dsimp only
  rw [h]
  dsimp only
  have e : ixN xs.length k = some k.toNat := by unfold ixN; rw [if_pos h0, if_pos h1]
  rw [e]
theorem sq_le {c t : Int} (hc0 : 0 ≤ c) (hc : c ≤ 100000) (h0 : 0 ≤ t) (h1 : t ≤ 1000000) : 0 ≤ c * t * t ∧ c * t * t ≤ 100000000000000000 := by
  have e1 : 0 ≤ c * t := Int.mul_nonneg hc0 h0
  have e2 : c * t ≤ 100000 * t := Int.mul_le_mul_of_nonneg_right hc h0
  constructor
  · exact Int.mul_nonneg e1 h0
  · have : c * t * t ≤ 100000000000 * t := Int.mul_le_mul_of_nonneg_right (by omega) h0
    omega
theorem mx_le {m t c : Int} (hc0 : 0 ≤ c) (hc : c ≤ 1000) (h0 : 0 ≤ m) (h1 : m < 2147483647) (h2 : 0 ≤ t) (h3 : t ≤ 1000000) : 0 ≤ m * (2 * t + c) ∧ m * (2 * t + c) ≤ 2147483647 * 2001000 := by
  constructor
  · exact Int.mul_nonneg h0 (by omega)
  · have : m * (2 * t + c) ≤ 2147483647 * (2 * t + c) := Int.mul_le_mul_of_nonneg_right (by omega) (by omega)
    omega
theorem y_draw {S : Store} {n : Nat} {many : Int} {Q : D → Store → Prop} (h : Tp S n) (hn : n ≤ 1000000) (h0 : 0 < many) (h1 : many < 1073741824)
   (k : ∀ r S', 0 ≤ r → r < many → Tp S' (n + 1) → Kp S S' → Q (.int r) S') : Yes (m__law_draw [.ref 1, .int many] S) Q := by
  obtain ⟨ns, turn, great, e, ht, htn, hg⟩ := h
  have e' : S[1]? = some (.lst [.list (ns.map .int), .int turn, .int great]) := e
  have hl : 1 < S.length := (List.getElem?_eq_some_iff.mp e).1
  have ix0 : ∀ {S : Store} {a b c : D}, S[1]? = some (.lst [a, b, c]) → gIx (.ref 1) (.int 0) S = some a := fun h => by rw [gIx_ref h]; rfl
  have ix1 : ∀ {S : Store} {a b c : D}, S[1]? = some (.lst [a, b, c]) → gIx (.ref 1) (.int 1) S = some b := fun h => by rw [gIx_ref h]; rfl
  have ix2 : ∀ {S : Store} {a b c : D}, S[1]? = some (.lst [a, b, c]) → gIx (.ref 1) (.int 2) S = some c := fun h => by rw [gIx_ref h]; rfl
  refine yes_fn ?_
  unfold b__law_draw
  walk_at "ev"
  refine ry_seq (ry_if ?_)
  walk_at "ev"
  rw [ix2 e', ofO_some]
  walk_at "ev"
  by_cases hgr : 0 < great
  · rw [decide_eq_true hgr, if_pos rfl]
    refine ry_seq (ry_set ?_)
    walk_at "ev"
    rw [ix2 e', ofO_some]
    walk_at "ev"
    rw [gMod_ii h0, ofO_some]
    walk_at "ev"
    refine ry_seq (ry_setIx ?_)
    walk_at "ev"
    rw [ix2 e', ofO_some]
    walk_at "ev"
    rw [gDiv_ii h0 h1, ofO_some]
    walk_at "ev"
    refine ⟨_, setIx_ref e' (by decide) (by decide : (2 : Int) < 3), ry_ret ?_⟩
    walk_at "ev"
    refine k _ _ (mod_lt h0).1 (mod_lt h0).2 ⟨ns, turn, great / many, ?_, ht, by omega, Int.ediv_nonneg hg (by omega)⟩ Kp.set0
    rw [List.getElem?_set_self hl]
    rfl
  · rw [decide_eq_false hgr, if_neg (by decide)]
    refine ry_nil ?_
    refine ry_seq (ry_set ?_)
    walk_at "ev"
    rw [ix1 e', ofO_some]
    walk_at "ev"
    refine ry_seq (ry_setIx ?_)
    walk_at "ev"
    refine ⟨_, setIx_ref e' (by decide) (by decide : (1 : Int) < 3), ?_⟩
    have e2 : (S.set 1 (.lst ([.list (ns.map .int), .int turn, .int great].set (Int.toNat 1) (.int (turn + 1)))))[1]? = some (.lst [.list (ns.map .int), .int (turn + 1), .int great]) := by
      rw [List.getElem?_set_self hl]; rfl
    have kp : Kp S (S.set 1 (.lst ([.list (ns.map .int), .int turn, .int great].set (Int.toNat 1) (.int (turn + 1))))) := Kp.set0
    generalize (S.set 1 (.lst ([.list (ns.map .int), .int turn, .int great].set (Int.toNat 1) (.int (turn + 1))))) = S1 at e2 kp
    have tp1 : Tp S1 (n + 1) := ⟨ns, turn + 1, great, e2, by omega, by omega, hg⟩
    have hl1 : 1 < S1.length := (List.getElem?_eq_some_iff.mp e2).1
    refine ry_seq (ry_set ?_)
    walk_at "ev"
    rw [gMul_ii (.inl (by decide)), ofO_some]
    walk_at "ev"
    -- the mark
    refine ry_seq (ry_if ?_)
    walk_at "ev"
    rw [ix0 e2, ofO_some]
    walk_at "ev"
    rw [show gNeH (.list (ns.map D.int)) (.list []) S1 = some (.bl (!(ns.map D.int).isEmpty)) from by unfold gNeH; rw [eqH_ll]; rfl, ofO_some]
    walk_at "ev"
    have rest : ∀ mark : Int, RY ((sSeq (sIf (bAnd (bOfE (eBin gLt (eVar 2) (eCall gLen (aCons (eBin gIx (eVar 0) (eC (.int 0))) aNil)))) (bOfE (eBin gGe (eCall gAbs (aCons (eVar 3) aNil)) (eBin gPow (eC (.int 10)) (eC (.int 18))))))
 (sSeq (sSet 6 (eBin gAdd (eBin gMul (eC (.int 2)) (eCall gAbs (aCons (eVar 3) aNil))) (eCall gInt (aCons (eBin gLt (eVar 3) (eC (.int 0))) aNil))))
 (sSeq (sSetIx (eBin gDiv (eVar 6) (eVar 1)) (eVar 0) (eC (.int 2)))
 (sRet (eBin gMod (eVar 6) (eVar 1)))))
 sNil)
 (sSeq (sSet 4 (eBin gMod (eBin gPow (eBin gAdd (eBin gAdd (eBin gMod (eVar 3) (eC (.int 2147483629))) (eBin gMul (eC (.int 52583)) (eVar 2))) (eC (.int 173))) (eC (.int 3))) (eC (.int 2147483587))))
 (sSeq (sSet 4 (eBin gMod (eBin gPow (eBin gAdd (eBin gAdd (eBin gMul (eVar 4) (eBin gAdd (eBin gMul (eC (.int 2)) (eVar 2)) (eC (.int 31)))) (eBin gMul (eBin gMul (eC (.int 8161)) (eVar 2)) (eVar 2))) (eC (.int 11))) (eC (.int 5))) (eC (.int 2147483563))))
 (sRet (eBin gMod (eBin gDiv (eVar 4) (eC (.int 32))) (eVar 1)))))) [some (.ref 1), some (.int many), some (.int turn), some (.int mark), none, none, none] S1) (fun _ S => Q .non S) Q no2 no2 := by
      intro mark
      refine ry_seq (ry_if ?_)
      walk_at "ev"
      rw [ix0 e2, ofO_some]
      walk_at "ev"
      have main : RY ((sSeq (sSet 4 (eBin gMod (eBin gPow (eBin gAdd (eBin gAdd (eBin gMod (eVar 3) (eC (.int 2147483629))) (eBin gMul (eC (.int 52583)) (eVar 2))) (eC (.int 173))) (eC (.int 3))) (eC (.int 2147483587))))
 (sSeq (sSet 4 (eBin gMod (eBin gPow (eBin gAdd (eBin gAdd (eBin gMul (eVar 4) (eBin gAdd (eBin gMul (eC (.int 2)) (eVar 2)) (eC (.int 31)))) (eBin gMul (eBin gMul (eC (.int 8161)) (eVar 2)) (eVar 2))) (eC (.int 11))) (eC (.int 5))) (eC (.int 2147483563))))
 (sRet (eBin gMod (eBin gDiv (eVar 4) (eC (.int 32))) (eVar 1))))) [some (.ref 1), some (.int many), some (.int turn), some (.int mark), none, none, none] S1) (fun _ S => Q .non S) Q no2 no2 := by
        have q1 := sq_le (c := 8161) (by decide) (by decide) ht (by omega : turn ≤ 1000000)
        have q2 := mod_lt (a := mark) (m := 2147483629) (by decide)
        refine ry_seq (ry_set ?_)
        walk_at "ev"
        rw [gMod_ii (by decide), ofO_some]
        walk_at "ev"
        rw [gMul_ii (.inl (by decide)), ofO_some]
        walk_at "ev"
        rw [gPow_ii (by decide) (by decide) (by omega), ofO_some]
        walk_at "ev"
        rw [gMod_ii (by decide), ofO_some]
        walk_at "ev"
        generalize ((mark % 2147483629 + 52583 * turn + 173) ^ (3 : Int).toNat) = big
        have q3 := mod_lt (a := big) (m := 2147483587) (by decide)
        generalize big % 2147483587 = mixed at q3
        have q4 := mx_le (c := 31) (by decide) (by decide) q3.1 (by omega) ht (by omega : turn ≤ 1000000)
        refine ry_seq (ry_set ?_)
        walk_at "ev"
        rw [gMul_ii (.inl (by decide)), ofO_some]
        walk_at "ev"
        rw [gMul_ii (.inl (by omega)), ofO_some]
        walk_at "ev"
        rw [gMul_ii (.inl (by decide)), ofO_some]
        walk_at "ev"
        rw [gMul_ii (.inr (by omega)), ofO_some]
        walk_at "ev"
        rw [gPow_ii (by decide) (by decide) (by omega), ofO_some]
        walk_at "ev"
        rw [gMod_ii (by decide), ofO_some]
        walk_at "ev"
        refine ry_ret ?_
        walk_at "ev"
        rw [gDiv_ii (by decide) (by decide), ofO_some]
        walk_at "ev"
        rw [gMod_ii h0, ofO_some]
        walk_at "ev"
        exact k _ _ (mod_lt h0).1 (mod_lt h0).2 tp1 kp
      split
      · walk_at "ev"
        rw [gPow_ii (by decide) (by decide) (by decide), ofO_some]
        walk_at "ev"
        generalize decide (10 ^ Int.toNat 18 ≤ if mark < 0 then -mark else mark) = cnd
        cases cnd
        · rw [if_neg (by decide)]; refine ry_nil ?_; exact main
        · rw [if_pos rfl]
          refine ry_seq (ry_set ?_)
          walk_at "ev"
          rw [gMul_ii (.inl (by decide)), ofO_some]
          walk_at "ev"
          have hG : 0 ≤ 2 * (if mark < 0 then -mark else mark) + (if decide (mark < 0) = true then 1 else 0) := by split <;> split <;> omega
          generalize 2 * (if mark < 0 then -mark else mark) + (if decide (mark < 0) = true then 1 else 0) = G at hG
          refine ry_seq (ry_setIx ?_)
          walk_at "ev"
          rw [gDiv_ii h0 h1, ofO_some]
          walk_at "ev"
          refine ⟨_, setIx_ref e2 (by decide) (by decide : (2 : Int) < 3), ry_ret ?_⟩
          walk_at "ev"
          rw [gMod_ii h0, ofO_some]
          walk_at "ev"
          exact k _ _ (mod_lt h0).1 (mod_lt h0).2 ⟨ns, turn + 1, G / many, by rw [List.getElem?_set_self hl1]; rfl, by omega, by omega, Int.ediv_nonneg hG (by omega)⟩ (kp.trans Kp.set0)
      · exact main
    cases ns with
    | nil => rw [if_neg (by simp)]; refine ry_nil ?_; exact rest _
    | cons n0 ns =>
      rw [if_pos (by rfl)]
      refine ry_set ?_
      walk_at "ev"
      rw [ix0 e2, ofO_some]
      walk_at "ev"
      rw [ix0 e2, ofO_some]
      walk_at "ev"
      have hm : (0 : Int) < (((ns.map D.int).length + 1 : Nat) : Int) := by omega
      rw [gMod_ii hm, ofO_some]
      walk_at "ev"
      obtain ⟨a, q1, q2⟩ := atI_in (xs := D.int n0 :: ns.map D.int) (i := turn % (((ns.map D.int).length + 1 : Nat) : Int)) (mod_lt hm).1 (mod_lt hm).2
      have q3 : a ∈ (n0 :: ns).map D.int := List.mem_of_getElem? q2
      obtain ⟨mk, _, rfl⟩ := List.mem_map.mp q3
      rw [q1, ofO_some]
      exact rest mk
end LW
namespace LW
open PySem PySem.Spec PyProof.Rows L2 DL
abbrev abc : Str := "abcdefghijklmnopqrstuvwxyz"
theorem abc_len : abc.length = 26 := by decide +kernel
theorem abc_in {c : Nat} : c ∈ abc.cps.toList ↔ 97 ≤ c ∧ c ≤ 122 := by
  have e : abc.cps.toList = [97,98,99,100,101,102,103,104,105,106,107,108,109,110,111,112,113,114,115,116,117,118,119,120,121,122] := by decide +kernel
  rw [e]; simp only [List.mem_cons, List.not_mem_nil, or_false]; omega
/-- a plain value, without references -/
def pl : D → Bool
  | .non | .bl _ | .int _ | .str _ | .list _ | .tup _ | .dict _ => true
  | _ => false
theorem truB_bl {S : Store} {b : Bool} : truB S (.bl b) = some b := rfl
local macro_rules | `(tactic| walk_at "ev") => `(tactic| try simp only [eBin, eUn, eVar, eC, aCons, aNil, eLst, eTup, eCall, eIf, eFn, bofe_bl, bTru, bNot, bAnd, bOr, yes_ok, yes_bind, ofO_some, gAdd_ii, gSub_ii, gLt_ii, gLe_ii, gGt_ii, gGe_ii, gNeg_i, gAbs_i, gInt_b, gLen_l, gLen_t, gEqH_ii, gEqH_ss, gNeH_ss, gLe_ss, gIs_bb, gIx_l, gIx_t, truB_bl, List.getElem?_cons_zero, List.getElem?_cons_succ, List.set_cons_zero, List.set_cons_succ, List.map_cons, List.map_nil, List.length_cons, List.length_nil, List.replicate_succ, List.replicate_zero, List.cons_append, List.nil_append, Nat.reduceAdd, Nat.reduceSub, Nat.zero_le, Nat.reduceLeDiff, Bool.false_eq_true, Bool.not_false, Bool.not_true, reduceIte])
theorem yes_chain {g g' : D → D → Store → Option D} {f h k : Ev D} {ρ : Env'} {S : Store} {Q : D → Store → Prop} (e : Yes (f ρ S) fun x S => Yes (h ρ S) fun y S => ∃ b, g x y S = some (.bl b) ∧ if b = true then Yes (k ρ S) fun z S => ∃ c, g' y z S = some (.bl c) ∧ Q (.bl c) S else Q (.bl false) S) : Yes (eChain g g' f h k ρ S) Q := by
  unfold eChain
  rw [yes_bind]
  refine e.mono fun x S q => ?_
  rw [yes_bind]
  refine q.mono fun y S ⟨b, e1, q⟩ => ?_
  rw [e1]
  cases b with
  | false => rw [if_neg (by decide)] at q; exact q
  | true =>
    rw [if_pos rfl] at q
    dsimp only
    rw [yes_bind]
    refine q.mono fun z S ⟨c, e2, q⟩ => ?_
    rw [e2]
    exact q
def nameB (z : Str) : Bool := decide (1 ≤ z.length) && decide (z.length ≤ 8) && z.cps.toList.all fun c => decide (c ∈ abc.cps.toList)
def nameD : D → Bool
  | .str z => nameB z
  | _ => false
def isStrD : D → Bool
  | .str _ => true
  | _ => false
theorem isi_str {d : D} {S : Store} (h : pl d = true) : gIsi [d, .ty "str"] S = some (.bl (isStrD d)) := by
  cases d <;> first | rfl | cases h
theorem y_is_name {d : D} {S : Store} {Q : D → Store → Prop} (h : pl d = true) (hl : ∀ z, d = .str z → z.length ≤ 10000) (k : Q (.bl (nameD d)) S) : Yes (m_is_name [d] S) Q := by
  refine yes_fn ?_
  unfold b_is_name
  walk_at "ev"
  refine ry_seq (ry_if ?_)
  walk_at "ev"
  rw [isi_str h, ofO_some]
  walk_at "ev"
  cases d with
  | str z =>
    have hz := hl z rfl
    simp only [isStrD]
    walk_at "ev"
    refine yes_chain ?_
    walk_at "ev"
    rw [gLen_s (by omega), ofO_some]
    walk_at "ev"
    refine ⟨_, rfl, ?_⟩
    have e : nameD (.str z) = (decide ((1 : Int) ≤ (z.length : Int)) && decide ((z.length : Int) ≤ 8) && z.cps.toList.all fun c => decide (c ∈ abc.cps.toList)) := by
      show nameB z = _
      unfold nameB
      congr 2
      · exact decide_eq_decide.mpr (by omega)
      · exact decide_eq_decide.mpr (by omega)
    rw [e] at k
    by_cases c1 : (1 : Int) ≤ (z.length : Int)
    · rw [decide_eq_true c1] at k ⊢
      rw [if_pos rfl]
      refine ⟨_, rfl, ?_⟩
      by_cases c2 : (z.length : Int) ≤ 8
      · rw [decide_eq_true c2] at k ⊢
        walk_at "ev"
        refine ry_nil (ry_ret ?_)
        walk_at "ev"
        refine yes_lc_map (S := S) (ds := z.cps.toList.map fun c => D.str ⟨#[c]⟩) (ys := z.cps.toList.map fun c => D.bl (decide (c ∈ abc.cps.toList))) ?_ (yes_iany ?_) (by simp) (fun i d y e1 e2 => ⟨_, rfl, ?_⟩) ?_
        · have : z.cps.toList.length = z.length := by simp [Str.length]
          rw [List.length_map]; omega
        · walk_at "ev"
          exact ⟨by first | rfl | trivial, by first | rfl | trivial⟩
        · rw [List.getElem?_map] at e1 e2
          cases e : z.cps.toList[i]? with
          | none => rw [e] at e1; cases e1
          | some c =>
            rw [e] at e1 e2
            cases e1; cases e2
            unfold wipeD wipeD
            walk_at "ev"
            exact ⟨rfl, rfl⟩
        · have e : gAll [.list (z.cps.toList.map fun c => D.bl (decide (c ∈ abc.cps.toList)))] S = some (.bl (z.cps.toList.all fun c => decide (c ∈ abc.cps.toList))) := by
            unfold gAll
            dsimp only [itemsR, itemsL]
            rw [blsOf_map]
            simp [List.all_map, Function.comp_def]
          refine Yes.ofO e ?_
          simpa using k
      · rw [decide_eq_false c2] at k ⊢
        walk_at "ev"
        refine ry_ret ?_
        walk_at "ev"
        simpa using k
    · rw [decide_eq_false c1] at k ⊢
      rw [if_neg (by decide)]
      walk_at "ev"
      refine ry_ret ?_
      walk_at "ev"
      simpa using k
  | _ =>
    simp only [isStrD]
    walk_at "ev"
    exact ry_ret k
theorem nm_name {z : Str} (h : Nm z) : nameD (.str z) = true := by
  show nameB z = true
  unfold nameB
  rw [Bool.and_eq_true, Bool.and_eq_true, decide_eq_true_eq, decide_eq_true_eq, List.all_eq_true]
  exact ⟨⟨h.1, h.2.1⟩, fun c hc => decide_eq_true (abc_in.mpr (h.2.2 c hc))⟩
/-- what stood before stays -/
def K0 (S S' : Store) : Prop := S.length ≤ S'.length ∧ ∀ j, j < S.length → S'[j]? = S[j]?
theorem K0.refl (S : Store) : K0 S S := ⟨Nat.le_refl _, fun _ _ => rfl⟩
theorem K0.trans {S S1 S2 : Store} (h : K0 S S1) (k : K0 S1 S2) : K0 S S2 := ⟨Nat.le_trans h.1 k.1, fun j h0 => (k.2 j (Nat.lt_of_lt_of_le h0 h.1)).trans (h.2 j h0)⟩
theorem K0.push (S : Store) (o : SO) : K0 S (S ++ [o]) := ⟨by simp, fun j h0 => List.getElem?_append_left h0⟩
theorem K0.set {S S' : Store} (h : K0 S S') {r : Nat} {o : SO} (hr : S.length ≤ r) : K0 S (S'.set r o) := ⟨by rw [List.length_set]; exact h.1, fun j h0 => by rw [List.getElem?_set_ne (by omega)]; exact h.2 j h0⟩
theorem K0.kp {S S' : Store} (h : K0 S S') : Kp S S' := ⟨h.1, fun j _ h1 => h.2 j h1⟩
theorem K0.tp {S S' : Store} {n : Nat} (h : K0 S S') (t : Tp S n) : Tp S' n := by
  obtain ⟨a, b, c, e, r⟩ := t
  exact ⟨a, b, c, (h.2 1 (List.getElem?_eq_some_iff.mp e).1).trans e, r⟩
theorem putD_len (kvs : List (Key × D)) (k : Key) (v : D) : (putD kvs k v).length ≤ kvs.length + 1 := by
  unfold putD
  split <;> simp
def bads (ds : List D) : List D := ds.filter fun d => !nameD d
theorem bads_snoc (xs : List D) (d : D) : bads (xs ++ [d]) = bads xs ++ if nameD d = true then [] else [d] := by
  unfold bads
  rw [List.filter_append]
  cases h : nameD d <;> simp [h]
theorem bads_len (xs : List D) : (bads xs).length ≤ xs.length := List.length_filter_le _ _
theorem nmB {z : Str} (k : nameB z = true) : Nm z := by
  unfold nameB at k
  simp only [Bool.and_eq_true, decide_eq_true_eq, List.all_eq_true] at k
  exact ⟨k.1.1, k.1.2, fun c hc => abc_in.mp (k.2 c hc)⟩
theorem nameD_str {d : D} (h : nameD d = true) : ∃ z, d = .str z ∧ Nm z := by
  cases d <;> first | exact ⟨_, rfl, nmB h⟩ | (cases h)
theorem bads_nil : ∀ {ds : List D}, bads ds = [] → ∃ ns : List Str, ds = ns.map .str ∧ ∀ z ∈ ns, Nm z
  | [], _ => ⟨[], rfl, fun z hz => by cases hz⟩
  | d :: ds, h => by
    unfold bads at h
    cases e : nameD d with
    | false => rw [List.filter_cons_of_pos (by rw [e]; rfl)] at h; cases h
    | true =>
      rw [List.filter_cons_of_neg (by rw [e]; decide)] at h
      obtain ⟨ns, rfl, q⟩ := bads_nil (ds := ds) h
      obtain ⟨z, rfl, hz⟩ := nameD_str e
      exact ⟨z :: ns, rfl, fun w hw => by rcases List.mem_cons.mp hw with rfl | hw; exact hz; exact q w hw⟩
/-- the keys are names -/
def KN (kvs : List (Key × D)) : Prop := ∀ kv ∈ kvs, ∀ z, kv.1 = .inr z → nameB z = true
theorem KN.val {kvs : List (Key × D)} (h : KN kvs) {z : Str} (e : (valD kvs (.inr z)).isSome = true) : nameB z = true := by
  unfold valD at e
  rw [Option.isSome_map, List.find?_isSome] at e
  obtain ⟨kv, h1, h2⟩ := e
  exact h kv h1 z (of_decide_eq_true h2)
theorem KN.put {kvs : List (Key × D)} (h : KN kvs) {z : Str} {v : D} (hz : nameB z = true) : KN (putD kvs (.inr z) v) := by
  unfold putD
  split
  · intro kv hk w hw
    obtain ⟨kv', h1, rfl⟩ := List.mem_map.mp hk
    refine h kv' h1 w ?_
    revert hw
    split <;> exact id
  · intro kv hk w hw
    rcases List.mem_append.mp hk with hk | hk
    · exact h kv hk w hw
    · rw [List.mem_singleton.mp hk] at hw
      cases hw
      exact hz
end LW
namespace LW
open PySem PySem.Spec PyProof.Rows L2 DL
/-- what stands at other places than those told stays -/
def Kx (ex : List Nat) (S S' : Store) : Prop := S.length ≤ S'.length ∧ ∀ j, j < S.length → j ∉ ex → S'[j]? = S[j]?
theorem Kx.refl {ex : List Nat} (S : Store) : Kx ex S S := ⟨Nat.le_refl _, fun _ _ _ => rfl⟩
theorem Kx.trans {ex : List Nat} {S S1 S2 : Store} (h : Kx ex S S1) (k : Kx ex S1 S2) : Kx ex S S2 := ⟨Nat.le_trans h.1 k.1, fun j h0 hx => (k.2 j (Nat.lt_of_lt_of_le h0 h.1) hx).trans (h.2 j h0 hx)⟩
theorem Kx.set {ex : List Nat} {S S' : Store} {n : Nat} {o : SO} (h : Kx ex S S') (hn : n ∈ ex ∨ S.length ≤ n) : Kx ex S (S'.set n o) := ⟨by rw [List.length_set]; exact h.1, fun j h0 hx => by
  rw [List.getElem?_set_ne (fun e => by subst e; rcases hn with hn | hn; exact hx hn; omega)]; exact h.2 j h0 hx⟩
theorem Kx.push {ex : List Nat} {S S' : Store} {o : SO} (h : Kx ex S S') : Kx ex S (S' ++ [o]) := ⟨by rw [List.length_append]; have := h.1; omega, fun j h0 hx => by
  have h1 := h.1
  rw [List.getElem?_append_left (by omega)]; exact h.2 j h0 hx⟩
theorem Kx.mono {ex ex' : List Nat} {S S' : Store} (h : Kx ex S S') (i : ∀ j ∈ ex, j ∈ ex' ∨ S.length ≤ j) : Kx ex' S S' := ⟨h.1, fun j h0 hx => h.2 j h0 fun hj => by rcases i j hj with q | q; exact hx q; omega⟩
theorem Kx.at {ex : List Nat} {S S' : Store} {j : Nat} {o : SO} (h : Kx ex S S') (e : S[j]? = some o) (hx : j ∉ ex) : S'[j]? = some o := (h.2 j (List.getElem?_eq_some_iff.mp e).1 hx).trans e
theorem K0.kx {ex : List Nat} {S S' : Store} (h : K0 S S') : Kx ex S S' := ⟨h.1, fun j h0 _ => h.2 j h0⟩
theorem Kp.kx {S S' : Store} (h : Kp S S') : Kx [1] S S' := ⟨h.1, fun j h0 hx => h.2 j (by rw [List.mem_singleton] at hx; omega) h0⟩
theorem Kx.tp {ex : List Nat} {S' : Store} {n : Nat} (h : Kx ex S S') (t : Tp S n) (h0 : 1 ∉ ex) : Tp S' n := let ⟨a, b, c, e, q⟩ := t; ⟨a, b, c, h.at e h0, q⟩
theorem Kp.kx0 {S S' S0 : Store} (h : Kp S S') (k : Kx [1] S0 S) : Kx [1] S0 S' := k.trans h.kx
theorem eq_nilL {ds : List D} {S : Store} : gEqH (.list ds) (.list []) S = some (.bl ds.isEmpty) := by
  unfold gEqH
  rw [eqH_ll]; rfl
end LW
namespace LW
open PySem PySem.Spec PyProof.Rows L2 DL
local macro_rules | `(tactic| walk_at "ev") => `(tactic| try simp only [eBin, eUn, eVar, eC, aCons, aNil, eLst, eTup, eCall, eIf, eFn, bofe_bl, bTru, bNot, bAnd, bOr, yes_ok, yes_bind, ofO_some, gAdd_ii, gSub_ii, gLt_ii, gLe_ii, gGt_ii, gGe_ii, gNeg_i, gAbs_i, gInt_b, gLen_l, gLen_t, gEqH_ii, gEqH_ss, gNeH_ss, gLe_ss, gIs_bb, gIx_l, gIx_t, truB_bl, List.getElem?_cons_zero, List.getElem?_cons_succ, List.set_cons_zero, List.set_cons_succ, List.map_cons, List.map_nil, List.length_cons, List.length_nil, List.replicate_succ, List.replicate_zero, List.cons_append, List.nil_append, Nat.reduceAdd, Nat.reduceSub, Nat.zero_le, Nat.reduceLeDiff, Bool.false_eq_true, Bool.not_false, Bool.not_true, reduceIte])
local macro_rules | `(tactic| walk_at "evb") => `(tactic| try simp only [eVar, eC, aCons, aNil, eLst, eTup, eCall, eIf, eFn, bofe_bl, bTru, bNot, bAnd, bOr, yes_ok, yes_bind, ofO_some, gAdd_ii, gSub_ii, gLt_ii, gLe_ii, gGt_ii, gGe_ii, gNeg_i, gAbs_i, gInt_b, gLen_l, gLen_t, gEqH_ii, gEqH_ss, gNeH_ss, gLe_ss, gIs_bb, gIx_l, gIx_t, truB_bl, List.getElem?_cons_zero, List.getElem?_cons_succ, List.set_cons_zero, List.set_cons_succ, List.map_cons, List.map_nil, List.length_cons, List.length_nil, List.replicate_succ, List.replicate_zero, List.cons_append, List.nil_append, Nat.reduceAdd, Nat.reduceSub, Nat.zero_le, Nat.reduceLeDiff, Bool.false_eq_true, Bool.not_false, Bool.not_true, reduceIte])
local macro_rules | `(tactic| walk_at "zv") => `(tactic| try simp only [eBin, eUn, eVar, eC, aCons, aNil, eLst, eTup, eCall, eIf, eFn, yz_ok, yz_bind, ofO_some, gAdd_ii, gSub_ii, gLt_ii, gLe_ii, gLen_l, gLen_t, List.getElem?_cons_zero, List.getElem?_cons_succ, List.set_cons_zero, List.set_cons_succ, List.map_cons, List.map_nil, List.length_cons, List.length_nil, List.replicate_succ, List.replicate_zero, List.cons_append, List.nil_append, Nat.reduceAdd, Nat.reduceSub, Bool.false_eq_true, Bool.not_false, Bool.not_true, reduceIte])
section
variable {S : Store} {f : Ev D} {ρ : Env'} {Q : D → Store → Prop}
theorem y_isword {d : D} (h : pl d = true) (hl : ∀ z, d = .str z → z.length ≤ 10000) (k : Q (.bl (nameD d)) S) : Yes (m__law_is_word [d] S) Q := by
  refine yes_fn ?_
  unfold b__law_is_word
  walk_at "ev"
  refine ry_seq (ry_if ?_)
  walk_at "ev"
  rw [isi_str h, ofO_some]
  walk_at "ev"
  cases d with
  | str z =>
    have hz := hl z rfl
    simp only [isStrD]
    walk_at "ev"
    refine yes_chain ?_
    walk_at "ev"
    rw [gLen_s (by omega), ofO_some]
    walk_at "ev"
    refine ⟨_, rfl, ?_⟩
    have e : nameD (.str z) = (decide ((1 : Int) ≤ (z.length : Int)) && decide ((z.length : Int) ≤ 8) && z.cps.toList.all fun c => decide (c ∈ abc.cps.toList)) := by
      show nameB z = _
      unfold nameB
      congr 2
      · exact decide_eq_decide.mpr (by omega)
      · exact decide_eq_decide.mpr (by omega)
    rw [e] at k
    by_cases c1 : (1 : Int) ≤ (z.length : Int)
    · rw [decide_eq_true c1] at k ⊢
      rw [if_pos rfl]
      refine ⟨_, rfl, ?_⟩
      by_cases c2 : (z.length : Int) ≤ 8
      · rw [decide_eq_true c2] at k ⊢
        walk_at "ev"
        refine ry_nil (ry_ret ?_)
        walk_at "ev"
        have hw : ∀ d ∈ z.cps.toList.map fun c => D.str ⟨#[c]⟩, ∃ c ∈ z.cps.toList, d = .str ⟨#[c]⟩ := fun d hd => by
          obtain ⟨c, h1, h2⟩ := List.mem_map.mp hd
          exact ⟨c, h1, h2.symm⟩
        refine yes_lc_filter (S := S) (ds := z.cps.toList.map fun c => D.str ⟨#[c]⟩) (fun d => match d with | .str w => !(w.cps.toList.all fun c => decide (c ∈ abc.cps.toList)) | _ => false) ?_ (yes_iany ?_) (fun i d e1 => ⟨_, rfl, ?_⟩) ?_
        · rw [List.length_map, len_toList]; omega
        · walk_at "ev"
          exact ⟨by first | rfl | trivial, by first | rfl | trivial⟩
        · obtain ⟨c, hc, rfl⟩ := hw d (List.mem_of_getElem? e1)
          unfold wipeD wipeD
          walk_at "ev"
          rw [show gNotIn (.str ⟨#[c]⟩) (.str abc) S = some (.bl (!decide (c ∈ abc.cps.toList))) from rfl, ofO_some]
          walk_at "ev"
          exact ⟨by simp, by first | rfl | trivial, by first | rfl | trivial, by first | rfl | trivial⟩
        · rw [eq_nilL, ofO_some]
          have e2 : ((z.cps.toList.map fun c => D.str ⟨#[c]⟩).filter (fun d => match d with | .str w => !(w.cps.toList.all fun c => decide (c ∈ abc.cps.toList)) | _ => false)).isEmpty = z.cps.toList.all fun c => decide (c ∈ abc.cps.toList) := by
            generalize z.cps.toList = l
            induction l with
            | nil => rfl
            | cons c l ih =>
              rw [List.map_cons, List.all_cons]
              by_cases hc : c ∈ abc.cps.toList
              · have hc2 : c ∈ abc.cps := by simpa using hc
                rw [List.filter_cons_of_neg (by simp [hc2]), ih]; simp [hc2]
              · have hc2 : c ∉ abc.cps := by simpa using hc
                rw [List.filter_cons_of_pos (by simp [hc2])]; simp [hc2]
          rw [e2, yes_ok]
          simpa using k
      · rw [decide_eq_false c2] at k ⊢
        walk_at "ev"
        refine ry_ret ?_
        walk_at "ev"
        simpa using k
    · rw [decide_eq_false c1] at k ⊢
      rw [if_neg (by decide)]
      walk_at "ev"
      refine ry_ret ?_
      walk_at "ev"
      simpa using k
  | _ =>
    simp only [isStrD]
    walk_at "ev"
    exact ry_ret k
theorem sign_nm {c : Nat} (h : c ∈ abc.cps.toList) : Nm ⟨#[c]⟩ := ⟨Nat.le_refl _, (by decide : 1 ≤ 8), fun d hd => by
  have : d = c := by simpa using hd
  subst this
  exact abc_in.mp h⟩
theorem abc_nm : ∀ z ∈ DL.signs abc, Nm z := fun z hz => by
  unfold DL.signs at hz
  obtain ⟨c, hc, rfl⟩ := List.mem_map.mp hz
  exact sign_nm hc
theorem abc_sl : (DL.signs abc).length = 26 := by unfold DL.signs; rw [List.length_map, len_toList, abc_len]
def pwords : List Str := ["put", "run", "undo", "drop", "over", "at", "define", "withdraw", "back", "moving", "restless", "length"]
theorem pwords_nm : ∀ z ∈ pwords, Nm z := by
  have h : ∀ z ∈ pwords, nameB z = true := by decide +kernel
  exact fun z hz => nmB (h z hz)
theorem yes_listSR {f : Ev (List D)} {z : Str} (hf : f ρ S = .ok [.str z] S) (hl : z.length ≤ 16777216) (k : Q (.ref S.length) (S ++ [.lst ((DL.signs z).map .str)])) : Yes (eListSR f ρ S) Q := by
  unfold eListSR
  rw [hf, yes_bind, yes_ok]
  dsimp only
  rw [if_pos hl]
  exact k
theorem yes_addR {f h : Ev D} {xs ys : List D} (e : Yes (f ρ S) fun x S => Yes (h ρ S) fun y S => itemsL S x = some xs ∧ itemsL S y = some ys ∧ xs.length + ys.length ≤ 16777216 ∧ Q (.ref S.length) (S ++ [.lst (xs ++ ys)])) : Yes (eAddR f h ρ S) Q := by
  unfold eAddR
  rw [yes_bind]
  refine e.mono fun x S q => ?_
  rw [yes_bind]
  refine q.mono fun y S ⟨e1, e2, hl, q⟩ => ?_
  rw [e1, e2]
  dsimp only
  rw [if_pos hl]
  exact q
theorem map_erase {α β : Type} (f : α → β) : ∀ (l : List α) (i : Nat), (l.map f).eraseIdx i = (l.eraseIdx i).map f
  | [], _ => rfl
  | _ :: _, 0 => rfl
  | a :: l, i + 1 => by rw [List.map_cons, List.eraseIdx_cons_succ, List.eraseIdx_cons_succ, List.map_cons, map_erase f l i]
theorem y_pool {n m : Nat} (hm : m ≤ 13) (t : Tp S n) (hn : n ≤ 900000) (k : ∀ (ns : List Str) S', ns.length = m → (∀ z ∈ ns, Nm z) → Tp S' (n + 30) → Kx [1] S S' → Q (.list (ns.map .str)) S') : Yes (m__law_pool [.ref 1, .int (m : Nat)] S) Q := by
  have h0 : 1 < S.length := let ⟨_, _, _, e, _⟩ := t; (List.getElem?_eq_some_iff.mp e).1
  refine yes_fn ?_
  unfold b__law_pool
  obtain ⟨vm, hvm⟩ : ∃ d, d = D.int (m : Nat) := ⟨_, rfl⟩
  rw [← hvm]
  walk_at "ev"
  refine ry_seq (ry_set ?_)
  walk_at "ev"
  refine ry_seq (ry_set ?_)
  walk_at "ev"
  obtain ⟨v3, h3⟩ : ∃ d, d = D.list (pwords.map .str) := ⟨_, rfl⟩
  rw [show D.list [D.str "put", D.str "run", D.str "undo", D.str "drop", D.str "over", D.str "at", D.str "define", D.str "withdraw", D.str "back", D.str "moving", D.str "restless", D.str "length"] = v3 from h3.symm]
  refine ry_seq (ry_set ?_)
  walk_at "ev"
  refine y_draw t (by omega) (by decide) (by decide) fun mode S1 m0 m1 t1 k1 => ?_
  walk_at "ev"
  refine ry_seq (ry_set ?_)
  refine yes_mt ?_
  walk_at "ev"
  refine ⟨by first | rfl | trivial, ?_⟩
  refine yes_lcE (yes_range1 ?_)
  walk_at "ev"
  refine y_draw t1 (by omega) (by decide) (by decide) fun c S2 c0 c1 t2 k2 => ?_
  have kx2 : Kx [1] S S2 := k2.kx0 k1.kx
  have rl : ∀ x : Nat, (rangeD 0 x).length = x := fun x => by unfold rangeD; rw [List.length_map, List.length_range]
  refine ⟨_, rfl, by omega, by omega, by rw [rl]; omega, fun j acc S' => Tp S' (n + 2 + j) ∧ Kx [1] S S' ∧ ∃ ws : List Str, acc = ws.map .str ∧ ws.length = j ∧ ∀ w ∈ ws, Lt 1 w, ⟨t2, kx2, [], rfl, rfl, fun w hw => by cases hw⟩, fun j d acc S' e1 ⟨p1, p2, ws, p3, p4, p5⟩ => ?_, fun acc S3 ⟨p1, p2, ws, p3, p4, p5⟩ => ?_⟩
  · obtain ⟨rfl, hj⟩ := range0_get e1
    refine ⟨_, rfl, ?_⟩
    unfold wipeD wipeD
    show Yes (bYes _ S') _
    unfold bYes
    rw [yes_ok, if_pos rfl]
    walk_at "ev"
    refine y_draw p1 (by omega) (by decide) (by decide) fun r S3 r0 r1 t3 k3 => ?_
    rw [gIx_s (by rw [abc_len]; decide)]
    obtain ⟨a, g1, g2⟩ := atI_in (xs := abc.cps.toList) (i := r) r0 (by rw [len_toList, abc_len]; exact r1)
    rw [g1, Option.map_some, yes_ofO_some]
    refine ⟨t3.mono (by omega), k3.kx0 p2, ws ++ [⟨#[a]⟩], by rw [p3]; simp, by simp [p4], fun w hw => ?_⟩
    rcases List.mem_append.mp hw with hw | hw
    · exact p5 w hw
    · rw [List.mem_singleton.mp hw]
      exact ⟨rfl, (sign_nm (List.mem_of_getElem? g2)).2.2⟩
  · rw [rl] at p1 p4
    have hj := Lt.join p5
    rw [p4] at hj
    rw [p3]
    refine ⟨_, _, gJoin_l (n := 1) (fun w hw => (p5 w hw).ln) (by omega), ?_⟩
    generalize Txt.join "" ws = stem at hj
    clear p3 p5
    have hsl : stem.length ≤ 7 := by have := hj.1; omega
    have t3 : Tp S3 (n + 10) := p1.mono (by omega)
    walk_at "ev"
    refine ry_seq (ry_set ?_)
    walk_at "ev"
    rw [gLen_s (by omega), ofO_some]
    walk_at "ev"
    refine y_draw t3 (by omega) (by omega) (by omega) fun sp S4 s0 s1 t4 k4 => ?_
    have kx4 := k4.kx0 p2
    walk_at "ev"
    refine ry_seq (ry_set ?_)
    walk_at "ev"
    refine yes_listSR (z := abc) rfl (by rw [abc_len]; decide) ?_
    walk_at "ev"
    refine yes_addR (xs := pwords.map .str) (ys := (DL.signs abc).map .str) ?_
    walk_at "ev"
    refine yes_listSR (z := abc) rfl (by rw [abc_len]; decide) ?_
    have e5 : (S4 ++ [SO.lst ((DL.signs abc).map .str)])[S4.length]? = some (.lst ((DL.signs abc).map .str)) := by simp
    have kx5 : Kx [1] S (S4 ++ [SO.lst ((DL.signs abc).map .str)]) := kx4.push
    have t5 : Tp (S4 ++ [SO.lst ((DL.signs abc).map .str)]) (n + 11) := ((Kx.refl (ex := []) S4).push).tp t4 (by simp)
    have l5 : S.length ≤ S4.length := kx4.1
    have l5' : (S4 ++ [SO.lst ((DL.signs abc).map .str)]).length = S4.length + 1 := by simp
    generalize (S4 ++ [SO.lst ((DL.signs abc).map .str)]) = S5 at e5 kx5 t5 l5'
    refine ⟨by rw [h3]; rfl, by simp [itemsL], by rw [List.length_map, List.length_map, abc_sl]; decide, ?_⟩
    have e6 : ((S5 ++ [SO.lst ((DL.signs abc).map .str)]) ++ [SO.lst (pwords.map .str ++ (DL.signs abc).map .str)])[S4.length]? = some (.lst ((DL.signs abc).map .str)) := by
      rw [List.getElem?_append_left (by simp; omega), List.getElem?_append_left (by omega)]; exact e5
    have e7 : ((S5 ++ [SO.lst ((DL.signs abc).map .str)]) ++ [SO.lst (pwords.map .str ++ (DL.signs abc).map .str)])[(S5 ++ [SO.lst ((DL.signs abc).map .str)]).length]? = some (.lst (pwords.map .str ++ (DL.signs abc).map .str)) := by simp
    have kx6 : Kx [1] S ((S5 ++ [SO.lst ((DL.signs abc).map .str)]) ++ [SO.lst (pwords.map .str ++ (DL.signs abc).map .str)]) := kx5.push.push
    have t6 : Tp ((S5 ++ [SO.lst ((DL.signs abc).map .str)]) ++ [SO.lst (pwords.map .str ++ (DL.signs abc).map .str)]) (n + 11) := ((Kx.refl (ex := []) S5).push.push).tp t5 (by simp)
    have l6 : (S5 ++ [SO.lst ((DL.signs abc).map .str)]).length = S4.length + 2 := by simp; omega
    have l6' : ((S5 ++ [SO.lst ((DL.signs abc).map .str)]) ++ [SO.lst (pwords.map .str ++ (DL.signs abc).map .str)]).length = S4.length + 3 := by simp; omega
    rw [l6] at e7 ⊢
    generalize ((S5 ++ [SO.lst ((DL.signs abc).map .str)]) ++ [SO.lst (pwords.map .str ++ (DL.signs abc).map .str)]) = S6 at e6 e7 kx6 t6 l6'
    walk_at "ev"
    refine yes_lcR (yes_lc_map (S := S6) (ds := (DL.signs abc).map .str) (ys := (DL.signs abc).map fun z => D.str (cutS stem none (some sp) ++ z ++ cutS stem (some sp) none)) (by rw [List.length_map, abc_sl]; decide) (yes_iany ?_) (by rw [List.length_map, List.length_map]) (fun i d y e1 e2 => ?_) ?_)
    · walk_at "ev"
      exact ⟨by unfold DL.signs; rw [List.map_map]; rfl, by first | rfl | trivial⟩
    · rw [List.getElem?_map] at e1 e2
      cases e : (DL.signs abc)[i]? with
      | none => rw [e] at e1; cases e1
      | some z =>
        rw [e] at e1 e2
        cases e1; cases e2
        refine ⟨_, rfl, ?_⟩
        unfold wipeD wipeD
        walk_at "ev"
        have hz := abc_nm z (List.mem_of_getElem? e)
        refine yes_sl ?_
        walk_at "ev"
        refine yes_onone (yes_osome ?_)
        walk_at "ev"
        refine ⟨_, rfl, _, gSl_s (by omega), ?_⟩
        have c1 := cut_len stem none (some sp)
        have c2 := cut_len stem (some sp) none
        have hz2 := hz.2.1
        rw [gAdd_ss (by omega), yes_ofO_some]
        refine yes_sl ?_
        walk_at "ev"
        refine yes_osome ?_
        walk_at "ev"
        refine ⟨_, rfl, yes_onone ?_⟩
        refine ⟨_, gSl_s (by omega), ?_⟩
        rw [gAdd_ss (by rw [app_len]; omega), yes_ofO_some]
        exact ⟨by first | rfl | trivial, by first | rfl | trivial⟩
    · refine ⟨_, rfl, ?_⟩
      have em : ((DL.signs abc).map fun z => D.str (cutS stem none (some sp) ++ z ++ cutS stem (some sp) none)) = (((DL.signs abc).map fun z => cutS stem none (some sp) ++ z ++ cutS stem (some sp) none)).map .str := by rw [List.map_map]; rfl
      rw [em]
      have hms : ∀ w ∈ (DL.signs abc).map fun z => cutS stem none (some sp) ++ z ++ cutS stem (some sp) none, Nm w := fun w hw => by
        obtain ⟨z, hz, rfl⟩ := List.mem_map.mp hw
        have hzn := abc_nm z hz
        have hz1 : z.length = 1 := by
          unfold DL.signs at hz
          obtain ⟨c, hc, rfl⟩ := List.mem_map.mp hz
          rfl
        have c1 := cut_lo (z := stem) (k := sp) s0
        have c2 := cut_hi (z := stem) (k := sp) s0
        exact ⟨by rw [app_len, app_len]; omega, by rw [app_len, app_len]; omega, ((hj.2.cut _ _).app hzn.2.2).app (hj.2.cut _ _)⟩
      have hml : (((DL.signs abc).map fun z => cutS stem none (some sp) ++ z ++ cutS stem (some sp) none)).length = 26 := by rw [List.length_map, abc_sl]
      generalize ((DL.signs abc).map fun z => cutS stem none (some sp) ++ z ++ cutS stem (some sp) none) = ms3 at hms hml
      clear em
      have e8 : (S6 ++ [SO.lst (ms3.map .str)])[S4.length]? = some (.lst ((DL.signs abc).map .str)) := by rw [List.getElem?_append_left (by omega)]; exact e6
      have e9 : (S6 ++ [SO.lst (ms3.map .str)])[S4.length + 2]? = some (.lst ((pwords ++ DL.signs abc).map .str)) := by rw [List.getElem?_append_left (by omega), List.map_append]; exact e7
      have e10 : (S6 ++ [SO.lst (ms3.map .str)])[S4.length + 3]? = some (.lst (ms3.map .str)) := by rw [← l6']; simp
      have kx7 : Kx [1] S (S6 ++ [SO.lst (ms3.map .str)]) := kx6.push
      have t7 : Tp (S6 ++ [SO.lst (ms3.map .str)]) (n + 11) := ((Kx.refl (ex := []) S6).push).tp t6 (by simp)
      rw [l6']
      generalize S6 ++ [SO.lst (ms3.map .str)] = S7 at e8 e9 e10 kx7 t7
      walk_at "ev"
      have pick : ∃ (q : Nat) (ms : List Str), atI [D.ref S4.length, .ref (S4.length + 2), .ref (S4.length + 3)] mode = some (.ref q) ∧ S.length ≤ q ∧ S7[q]? = some (.lst (ms.map .str)) ∧ 26 ≤ ms.length ∧ ms.length ≤ 38 ∧ ∀ z ∈ ms, Nm z := by
        have hm : mode = 0 ∨ mode = 1 ∨ mode = 2 := by omega
        rcases hm with rfl | rfl | rfl
        · exact ⟨_, DL.signs abc, rfl, l5, e8, by rw [abc_sl]; omega, by rw [abc_sl]; omega, abc_nm⟩
        · exact ⟨_, pwords ++ DL.signs abc, rfl, by omega, e9, by rw [List.length_append, abc_sl]; omega, by rw [List.length_append, abc_sl]; decide, fun z hz => by rcases List.mem_append.mp hz with h | h; exact pwords_nm z h; exact abc_nm z h⟩
        · exact ⟨_, ms3, rfl, by omega, e10, by omega, by omega, hms⟩
      obtain ⟨q, ms, ep, hq, eq, hm1, hm2, hmn⟩ := pick
      rw [ep, ofO_some]
      walk_at "ev"
      clear ep e8 e9 e10 e6 e7 e5
      have b1 : (-1000000000 : Int) ≤ ((m : Nat) : Int) := by omega
      have b2 : ((m : Nat) : Int) < 1000000000 := by omega
      have b3 : (rangeD 0 ((m : Nat) : Int).toNat).length ≤ 16777216 := by rw [rl, Int.toNat_natCast]; exact Nat.le_trans hm (by decide)
      refine ry_ret ?_
      refine yes_lcE (yes_range1 ?_)
      walk_at "ev"
      rw [hvm]
      refine ⟨((m : Nat) : Int), rfl, b1, b2, b3, fun j acc S' => Tp S' (n + 11 + j) ∧ Kx [1] S S' ∧ (∃ ms : List Str, S'[q]? = some (.lst (ms.map .str)) ∧ 26 ≤ ms.length + j ∧ ms.length ≤ 38 ∧ ∀ z ∈ ms, Nm z) ∧ ∃ ns : List Str, acc = ns.map .str ∧ ns.length = j ∧ ∀ w ∈ ns, Nm w, ⟨t7, kx7, ⟨ms, eq, by omega, hm2, hmn⟩, [], rfl, rfl, fun w hw => by cases hw⟩, fun j d acc S' e1 ⟨p1, p2, ⟨ms, q1, q2, q3, q4⟩, ns, p3, p4, p5⟩ => ?_, fun acc S' ⟨p1, p2, _, ns, p3, p4, p5⟩ => ?_⟩
      · obtain ⟨rfl, hj⟩ := range0_get e1
        have hj13 : j < 13 := by have : j < ((m : Nat) : Int).toNat := hj; omega
        refine ⟨_, rfl, ?_⟩
        unfold wipeD wipeD
        show Yes (bYes _ S') _
        unfold bYes
        rw [yes_ok, if_pos rfl]
        refine yes_mt ?_
        walk_at "ev"
        refine ⟨tyD_ref q1, ?_⟩
        rw [gLen_ref q1, ofO_some]
        walk_at "ev"
        rw [List.length_map]
        refine y_draw p1 (by omega) (by omega) (by omega) fun r S8 r0 r1 t8 k8 => ?_
        have q5 := k8.at (by omega) q1
        obtain ⟨z, hz⟩ : ∃ z, ms[r.toNat]? = some z := ⟨ms[r.toNat]'(by omega), List.getElem?_eq_getElem (by omega)⟩
        walk_at "ev"
        refine ⟨.str z, S8.set q (.lst ((ms.eraseIdx r.toNat).map .str)), ?_, ?_⟩
        · unfold gPop
          dsimp only
          rw [q5]
          dsimp only
          rw [if_pos ⟨r0, by rw [List.length_map]; exact r1, by rw [List.length_map]; omega⟩, List.getElem?_map, hz]
          dsimp only [Option.map_some]
          rw [map_erase]
        · have hel : (ms.eraseIdx r.toNat).length = ms.length - 1 := List.length_eraseIdx_of_lt (by omega)
          refine ⟨((Kx.refl (ex := [q]) S8).set (.inl (by simp))).tp (t8.mono (by omega)) (by simp; omega), (k8.kx0 p2).set (.inr hq), ⟨ms.eraseIdx r.toNat, List.getElem?_set_self (List.getElem?_eq_some_iff.mp q5).1, by omega, by omega, fun w hw => q4 w (List.mem_of_mem_eraseIdx hw)⟩, ns ++ [z], by rw [p3]; simp, by simp [p4], fun w hw => ?_⟩
          rcases List.mem_append.mp hw with hw | hw
          · exact p5 w hw
          · rw [List.mem_singleton.mp hw]; exact q4 z (List.mem_of_getElem? hz)
      · rw [p3]
        rw [rl] at p1 p4
        rw [Int.toNat_natCast] at p1 p4
        exact k ns S' p4 p5 (p1.mono (by omega)) p2
end
end LW
namespace LW
open PySem PySem.Spec PyProof.Rows L2 DL
/-! reading texts, plain lists -/
def colB (h : Str) : Bool := decide (h.cps.toList.getLast? = some 58)
def nmOf (h : Str) : Str := cutS h none (some (-1))
def badW (ws : List Str) (p : Nat) : Bool := !(nameD (.str (ws.getD p ""))) || decide (8 ≤ p)
def firstBad (ws : List Str) : Option Nat := (List.range ws.length).find? (badW ws)
def badL (n : Nat) (acc : KB) (h : Str) (r : List Str) : Option Nat :=
  if colB h && nameB (nmOf h) && decide (nmOf h ∉ ksOf acc) && decide (n < 10) then (firstBad r).map (· + 1) else some 0
def rdL : Nat → KB → List Str → (Nat × Nat) ⊕ KB
  | _, acc, [] => .inr acc
  | n, acc, l :: ls => match Txt.split l " " with
    | [] => .inl (n, 0)
    | h :: r => match badL n acc h r with
      | some w => .inl (n, w)
      | none => rdL (n + 1) (putS acc (nmOf h) (.tup (r.map .str))) ls
def linesOf (z : Str) : List Str := if z = "" then [] else Txt.split z "\n"
def rdT (z : Str) : (Nat × Nat) ⊕ KB := rdL 0 [] (linesOf z)
theorem cut_nm (h : Str) : (nmOf h).cps.toList = h.cps.toList.dropLast := by
  unfold nmOf
  show (h.cps.toList.drop _).take _ = _
  have e1 : HT.sIx h.length 0 none = 0 := rfl
  have e2 : HT.sIx h.length h.length (some (-1)) = h.length - 1 := by
    show (if (-1 : Int) < 0 then ((-1 : Int) + (h.length : Int)).toNat else min (-1 : Int).toNat h.length) = _
    rw [if_pos (by decide)]; omega
  rw [e1, e2, List.drop_zero, Nat.sub_zero, ← len_toList, List.dropLast_eq_take]
theorem cut_last (h : Str) : (cutS h (some (-1)) none).cps.toList = h.cps.toList.drop (h.length - 1) := by
  show (h.cps.toList.drop _).take _ = _
  have e1 : HT.sIx h.length 0 (some (-1)) = h.length - 1 := by
    show (if (-1 : Int) < 0 then ((-1 : Int) + (h.length : Int)).toNat else min (-1 : Int).toNat h.length) = _
    rw [if_pos (by decide)]; omega
  have e2 : HT.sIx h.length h.length none = h.length := rfl
  rw [e1, e2]
  exact List.take_of_length_le (by rw [List.length_drop, len_toList]; omega)
theorem str_ext {x y : Str} (h : x.cps.toList = y.cps.toList) : x = y := TL.ext_tl h
theorem col_toList : (":" : Str).cps.toList = [58] := by decide +kernel
theorem last_col (h : Str) : decide (cutS h (some (-1)) none = (":" : Str)) = colB h := by
  unfold colB
  congr 1
  apply propext
  constructor
  · intro e
    have e2 := cut_last h
    rw [e, col_toList] at e2
    have hl : h.length ≠ 0 := fun z => by
      have : h.cps.toList = [] := List.length_eq_zero_iff.mp (by rw [len_toList]; exact z)
      rw [this] at e2; simp at e2
    have e3 : h.cps.toList = h.cps.toList.take (h.length - 1) ++ [58] := by rw [e2, List.take_append_drop]
    rw [e3]; simp
  · intro e
    refine str_ext ?_
    rw [cut_last, col_toList]
    obtain ⟨l, hl⟩ := List.getLast?_eq_some_iff.mp e
    have hlen : h.length = l.length + 1 := by rw [← len_toList, hl]; simp
    rw [hl, hlen]; simp
/-- what the law asks of a line's first word -/
theorem law_col (h : Str) : decide (h = (if h = "" then ("" : Str) else cutS h none (some ((h.length : Int) - 1))) ++ (":" : Str)) = colB h := by
  have e0 : ("" : Str).cps.toList = [] := by decide +kernel
  by_cases z : h = ""
  · rw [if_pos z, z]; decide +kernel
  · rw [if_neg z]
    have hl : h.length ≠ 0 := fun q => z (str_ext (by rw [e0]; exact List.length_eq_zero_iff.mp (by rw [len_toList]; exact q)))
    have en : cutS h none (some ((h.length : Int) - 1)) = nmOf h := by
      refine str_ext ?_
      rw [cut_nm]
      show (h.cps.toList.drop _).take _ = _
      have e1 : HT.sIx h.length 0 none = 0 := rfl
      have e2 : HT.sIx h.length h.length (some ((h.length : Int) - 1)) = h.length - 1 := by
        show (if (h.length : Int) - 1 < 0 then _ else min ((h.length : Int) - 1).toNat h.length) = _
        rw [if_neg (by omega)]; omega
      rw [e1, e2, List.drop_zero, Nat.sub_zero, ← len_toList, List.dropLast_eq_take]
    rw [en]
    unfold colB
    congr 1
    apply propext
    constructor
    · intro e
      have e1 : h.cps.toList = ((nmOf h) ++ (":" : Str)).cps.toList := congrArg (fun x : Str => x.cps.toList) e
      rw [show ((nmOf h) ++ (":" : Str)).cps.toList = (nmOf h).cps.toList ++ (":" : Str).cps.toList from TL.tl_append _ _, col_toList] at e1
      rw [e1]; simp
    · intro e
      obtain ⟨l, hl⟩ := List.getLast?_eq_some_iff.mp e
      refine str_ext ?_
      rw [show ((nmOf h) ++ (":" : Str)).cps.toList = (nmOf h).cps.toList ++ (":" : Str).cps.toList from TL.tl_append _ _, col_toList, cut_nm, hl]
      simp
theorem law_nm (h : Str) : (if h = "" then ("" : Str) else cutS h none (some ((h.length : Int) - 1))) = nmOf h := by
  by_cases z : h = ""
  · rw [if_pos z, z]; decide +kernel
  · rw [if_neg z]
    have e0 : ("" : Str).cps.toList = [] := by decide +kernel
    have hl : h.length ≠ 0 := fun q => z (str_ext (by rw [e0]; exact List.length_eq_zero_iff.mp (by rw [len_toList]; exact q)))
    refine str_ext ?_
    rw [cut_nm]
    show (h.cps.toList.drop _).take _ = _
    have e1 : HT.sIx h.length 0 none = 0 := rfl
    have e2 : HT.sIx h.length h.length (some ((h.length : Int) - 1)) = h.length - 1 := by
      show (if (h.length : Int) - 1 < 0 then _ else min ((h.length : Int) - 1).toNat h.length) = _
      rw [if_neg (by omega)]; omega
    rw [e1, e2, List.drop_zero, Nat.sub_zero, ← len_toList, List.dropLast_eq_take]
/-! split at one sign -/
theorem spl_cons (c d : Nat) (acc r : List Nat) : TL.spl [c] 0 acc (d :: r) = if d = c then acc :: TL.spl [c] 0 [] r else TL.spl [c] 0 (acc ++ [d]) r := by
  by_cases h : d = c
  · subst h
    rw [if_pos rfl, TL.spl_hit (by simp [TL.pre])]
    rfl
  · rw [if_neg h, TL.spl_miss (TL.pre_of_head [] r h)]
/-- the weight of parts: their signs and one for each part -/
def wt (ws : List (List Nat)) : Nat := (ws.map fun w => w.length + 1).sum
theorem spl_wt (c : Nat) : ∀ (l acc : List Nat), wt (TL.spl [c] 0 acc l) = acc.length + l.length + 1
  | [], acc => by rw [TL.spl_nil]; simp [wt]
  | d :: r, acc => by
    rw [spl_cons]
    by_cases h : d = c
    · rw [if_pos h]
      have := spl_wt c r []
      unfold wt at this ⊢
      rw [List.map_cons, List.sum_cons, this]; simp; omega
    · rw [if_neg h, spl_wt c r (acc ++ [d])]; simp; omega
theorem spl_ne (c : Nat) (l acc : List Nat) : TL.spl [c] 0 acc l ≠ [] := fun e => by
  have := spl_wt c l acc
  rw [e] at this; simp [wt] at this
theorem spl_in (c : Nat) : ∀ (l acc : List Nat) {w : List Nat}, w ∈ TL.spl [c] 0 acc l → ∀ x ∈ w, x ∈ acc ∨ x ∈ l
  | [], acc, w, h, x, hx => by
    rw [TL.spl_nil, List.mem_singleton] at h
    subst h; exact .inl hx
  | d :: r, acc, w, h, x, hx => by
    rw [spl_cons] at h
    by_cases e : d = c
    · rw [if_pos e] at h
      rcases List.mem_cons.mp h with h | h
      · subst h; exact .inl hx
      · rcases spl_in c r [] h x hx with z | z
        · cases z
        · exact .inr (List.mem_cons_of_mem _ z)
    · rw [if_neg e] at h
      rcases spl_in c r (acc ++ [d]) h x hx with z | z
      · rcases List.mem_append.mp z with z | z
        · exact .inl z
        · rw [List.mem_singleton.mp z]; exact .inr List.mem_cons_self
      · exact .inr (List.mem_cons_of_mem _ z)
def wS (ws : List Str) : Nat := (ws.map fun w => w.length + 1).sum
theorem wt_map (ws : List Str) : wt (ws.map TL.tl) = wS ws := by
  unfold wt wS
  rw [List.map_map]
  congr 1
theorem wS_mem : ∀ {ws : List Str} {w : Str}, w ∈ ws → w.length + 1 ≤ wS ws
  | a :: r, w, h => by
    unfold wS
    rw [List.map_cons, List.sum_cons]
    rcases List.mem_cons.mp h with h | h
    · subst h; omega
    · have := wS_mem h
      unfold wS at this; omega
theorem wS_len : ∀ (ws : List Str), ws.length ≤ wS ws
  | [] => Nat.zero_le _
  | a :: r => by
    have := wS_len r
    unfold wS at this ⊢
    rw [List.map_cons, List.sum_cons, List.length_cons]; omega
theorem wS_app (a b : List Str) : wS (a ++ b) = wS a + wS b := by unfold wS; rw [List.map_append, List.sum_append]
theorem wS_take (a : List Str) (n : Nat) : wS (a.take n) + wS (a.drop n) = wS a := by rw [← wS_app, List.take_append_drop]
structure SplOk (x : Str) (c : Nat) (y : Str) : Prop where
  ne : Txt.split x y ≠ []
  wt : wS (Txt.split x y) = x.length + 1
  mem : ∀ w ∈ Txt.split x y, ∀ s ∈ w.cps.toList, s ∈ x.cps.toList
theorem spl_ok {x y : Str} {c : Nat} (ey : TL.tl y = [c]) (hk : y.cps.all (· < 256) = true) : SplOk x c y := by
  have e := TL.split_spl x y (by rw [ey]; simp) (TL.kind_ok hk)
  rw [ey] at e
  refine ⟨fun z => ?_, ?_, fun w hw s hs => ?_⟩
  · rw [z] at e
    exact spl_ne c _ _ e.symm
  · rw [← wt_map, e, spl_wt, TL.len_tl]; simp
  · have : TL.tl w ∈ TL.spl [c] 0 [] (TL.tl x) := by rw [← e]; exact List.mem_map.mpr ⟨w, hw, rfl⟩
    rcases spl_in c _ _ this s hs with z | z
    · cases z
    · exact z
theorem sp_ok (x : Str) : SplOk x 32 " " := spl_ok (by decide +kernel) (by decide +kernel)
theorem nl_ok (x : Str) : SplOk x 10 "\n" := spl_ok (by decide +kernel) (by decide +kernel)
theorem join_wS (c : Nat) (y : Str) (ey : TL.tl y = [c]) : ∀ {ws : List Str}, ws ≠ [] → (Txt.join y ws).length + 1 = wS ws := fun {ws} hne => by
  rw [TL.join_eq, TL.len_tl, TL.tl_join, ey]
  induction ws with
  | nil => exact absurd rfl hne
  | cons a r ih =>
    cases r with
    | nil => simp [TL.joinL, wS, TL.len_tl]
    | cons b r =>
      have := ih (by simp)
      show (TL.tl a ++ ([c] ++ TL.joinL [c] ((b :: r).map TL.tl))).length + 1 = _
      unfold wS at this ⊢
      have e : ((a :: b :: r).map fun w => w.length + 1).sum = (a.length + 1) + ((b :: r).map fun w => w.length + 1).sum := by rw [List.map_cons, List.sum_cons]
      rw [e, ← this, TL.len_tl a]
      simp; omega
end LW
namespace LW
open PySem PySem.Spec PyProof.Rows L2 DL
local macro_rules | `(tactic| walk_at "ev") => `(tactic| try simp only [eBin, eUn, eVar, eC, aCons, aNil, eLst, eTup, eCall, eIf, eFn, bofe_bl, bTru, bNot, bAnd, bOr, yes_ok, yes_bind, ofO_some, gAdd_ii, gSub_ii, gLt_ii, gLe_ii, gGt_ii, gGe_ii, gNeg_i, gAbs_i, gInt_b, gLen_l, gLen_t, gEqH_ii, gEqH_ss, gNeH_ss, gLe_ss, gIs_bb, gIx_l, gIx_t, truB_bl, List.getElem?_cons_zero, List.getElem?_cons_succ, List.set_cons_zero, List.set_cons_succ, List.map_cons, List.map_nil, List.length_cons, List.length_nil, List.replicate_succ, List.replicate_zero, List.cons_append, List.nil_append, Nat.reduceAdd, Nat.reduceSub, Nat.zero_le, Nat.reduceLeDiff, Bool.false_eq_true, Bool.not_false, Bool.not_true, reduceIte])
local macro_rules | `(tactic| walk_at "evb") => `(tactic| try simp only [eVar, eC, aCons, aNil, eLst, eTup, eCall, eIf, eFn, bofe_bl, bTru, bNot, bAnd, bOr, yes_ok, yes_bind, ofO_some, gAdd_ii, gSub_ii, gLt_ii, gLe_ii, gGt_ii, gGe_ii, gNeg_i, gAbs_i, gInt_b, gLen_l, gLen_t, gEqH_ii, gEqH_ss, gNeH_ss, gLe_ss, gIs_bb, gIx_l, gIx_t, truB_bl, List.getElem?_cons_zero, List.getElem?_cons_succ, List.set_cons_zero, List.set_cons_succ, List.map_cons, List.map_nil, List.length_cons, List.length_nil, List.replicate_succ, List.replicate_zero, List.cons_append, List.nil_append, Nat.reduceAdd, Nat.reduceSub, Nat.zero_le, Nat.reduceLeDiff, Bool.false_eq_true, Bool.not_false, Bool.not_true, reduceIte])
local macro_rules | `(tactic| walk_at "zv") => `(tactic| try simp only [eBin, eUn, eVar, eC, aCons, aNil, eLst, eTup, eCall, eIf, eFn, yz_ok, yz_bind, ofO_some, gAdd_ii, gSub_ii, gLt_ii, gLe_ii, gLen_l, gLen_t, List.getElem?_cons_zero, List.getElem?_cons_succ, List.set_cons_zero, List.set_cons_succ, List.map_cons, List.map_nil, List.length_cons, List.length_nil, List.replicate_succ, List.replicate_zero, List.cons_append, List.nil_append, Nat.reduceAdd, Nat.reduceSub, Bool.false_eq_true, Bool.not_false, Bool.not_true, reduceIte])
section
variable {ρ : Env'} {S : Store} {f : Ev D}
theorem ry_asgN {g : Tg} {f : Ev D} {N B C : Env' → Store → Prop} {R : D → Store → Prop} (h : Yes (f ρ S) fun d S => ∃ ρ1, g d ρ = some ρ1 ∧ N ρ1 S) : RY (sAsg g f ρ S) N R B C := by
  refine ry_res (h.mono fun d S ⟨ρ1, e, k⟩ => ?_)
  show RY (match g d ρ with | some ρ1 => _ | none => _) N R B C
  rw [e]
  exact k
theorem yes_split {j : Nat} {z c : Str} {Q : D → Store → Prop} (h0 : ρ[j]? = some (some (.str z))) (hc : (c.length == 0) = false) (hl : z.length ≤ 10000000) (k : Q (.list ((Txt.split z c).map .str)) S) : Yes (eSplit (eVar j) (eC (.str c)) ρ S) Q := by
  unfold eSplit eVar eC
  rw [h0]
  dsimp only
  rw [yes_bind, yes_ok]
  dsimp only
  rw [yes_bind, yes_ok]
  dsimp only
  rw [if_pos ⟨hc, hl⟩]
  exact k
theorem yes_neg1 {Q : Option Int → Store → Prop} (k : Q (some (-1)) S) : Yes (oSome (eUn gNeg (eC (.int 1))) ρ S) Q := yes_osome (by
  unfold eUn eC
  rw [yes_bind, yes_ok]
  show Yes (ofO (some (D.int (-1))) S) _
  rw [ofO_some, yes_ok]
  exact ⟨_, rfl, k⟩)
/-- the lines of a text -/
theorem yes_lines {z : Str} {QL : List D → Store → Prop} (h0 : ρ[0]? = some (some (.str z))) (hl : z.length ≤ 10000000) (k : QL (enumD ((linesOf z).map .str)) S) : Yes (iEnumD (eIf (bOfE (eBin gNeH (eVar 0) (eC (.str "")))) (eSplit (eVar 0) (eC (.str "\n"))) (eLst aNil)) ρ S) QL := by
  unfold iEnumD
  rw [yes_bind]
  unfold eIf
  rw [yes_bind, bofe_bl]
  unfold eBin
  rw [yes_bind]
  have e0 : eVar 0 ρ S = .ok (.str z) S := by unfold eVar; rw [h0]
  have e1 : eC (.str "") ρ S = .ok (.str "") S := rfl
  rw [e0, yes_ok, yes_bind, e1, yes_ok, gNeH_ss, ofO_some, yes_ok]
  dsimp only
  by_cases hz : z = ""
  · rw [hz, decide_eq_true rfl, if_neg (by decide)]
    walk_at "ev"
    unfold linesOf at k
    rw [if_pos hz] at k
    exact k
  · rw [decide_eq_false hz, if_pos (by rfl)]
    refine yes_split h0 (by decide +kernel) hl ?_
    dsimp only
    rw [yes_ok]
    unfold linesOf at k
    rw [if_neg hz] at k
    exact k
theorem star_hr {h : Str} {r : List Str} {a b : Nat} : gnStarL 1 (gnCons (gnName a) (gnCons (gnName b) gnNil)) (.list ((h :: r).map .str)) ρ = some ((ρ.set a (some (.str h))).set b (some (.list (r.map .str)))) := by
  unfold gnStarL
  dsimp only
  rw [if_pos (by simp)]
  rfl
theorem rdL_bad {n w : Nat} {acc : KB} {l h : Str} {ls r : List Str} (e : Txt.split l " " = h :: r) (b : badL n acc h r = some w) : rdL n acc (l :: ls) = .inl (n, w) := by
  unfold rdL
  rw [e]
  dsimp only
  rw [b]
theorem rdL_step {n : Nat} {acc : KB} {l h : Str} {ls r : List Str} (e : Txt.split l " " = h :: r) (b : badL n acc h r = none) : rdL n acc (l :: ls) = rdL (n + 1) (putS acc (nmOf h) (.tup (r.map .str))) ls := by
  show (match Txt.split l " " with | [] => _ | h :: r => _) = _
  rw [e]
  dsimp only
  rw [b]
theorem badL_head {n : Nat} {acc : KB} {h : Str} {r : List Str} (b : (colB h && nameB (nmOf h) && decide (nmOf h ∉ ksOf acc) && decide (n < 10)) = false) : badL n acc h r = some 0 := by
  unfold badL
  rw [b]; rfl
theorem badL_rest {n : Nat} {acc : KB} {h : Str} {r : List Str} (b : (colB h && nameB (nmOf h) && decide (nmOf h ∉ ksOf acc) && decide (n < 10)) = true) : badL n acc h r = (firstBad r).map (· + 1) := by
  unfold badL
  rw [b]; rfl
theorem firstBad_at {r : List Str} {j : Nat} (hj : j < r.length) (hb : badW r j = true) (ha : ∀ p, p < j → badW r p = false) : firstBad r = some j := by
  unfold firstBad
  rw [List.find?_range_eq_some]
  exact ⟨hb, List.mem_range.mpr hj, fun p hp => by rw [ha p hp]; rfl⟩
theorem firstBad_no {r : List Str} (ha : ∀ p, p < r.length → badW r p = false) : firstBad r = none := by
  unfold firstBad
  rw [List.find?_range_eq_none]
  exact fun p hp => by rw [ha p hp]; rfl
theorem badW_at {r : List Str} {j : Nat} {w : Str} (e : r[j]? = some w) : badW r j = (!nameB w || decide (8 ≤ j)) := by
  unfold badW
  rw [List.getD_eq_getElem?_getD, e]
  rfl
/-- names and bodies that were read -/
def GA (acc : KB) (i : Nat) : Prop := (ksOf acc).Nodup ∧ (∀ p ∈ acc, Nm p.1 ∧ ∃ ns : List Str, p.2 = .tup (ns.map .str) ∧ ns.length ≤ 8 ∧ ∀ z ∈ ns, Nm z) ∧ acc.length ≤ i ∧ acc.length ≤ 10
theorem putS_le' (kv : KB) (x : Str) (d : D) : (putS kv x d).length ≤ kv.length + 1 := by
  rw [putS_len]; split <;> omega
theorem GA.step {acc : KB} {i : Nat} {h : Str} {r : List Str} (g : GA acc i) (b : (colB h && nameB (nmOf h) && decide (nmOf h ∉ ksOf acc) && decide (i < 10)) = true) (ha : ∀ p, p < r.length → badW r p = false) : GA (putS acc (nmOf h) (.tup (r.map .str))) (i + 1) := by
  simp only [Bool.and_eq_true, decide_eq_true_eq] at b
  obtain ⟨⟨⟨_, b2⟩, b3⟩, b4⟩ := b
  have hl := putS_le' acc (nmOf h) (.tup (r.map .str))
  have l3 := g.2.2.1
  refine ⟨putS_nodup g.1, ?_, by omega, by omega⟩
  refine putS_all (P := Nm) (R := fun d => ∃ ns : List Str, d = .tup (ns.map .str) ∧ ns.length ≤ 8 ∧ ∀ z ∈ ns, Nm z) g.2.1 (nmB b2) ⟨r, rfl, ?_, fun z hz => ?_⟩
  · rcases Nat.lt_or_ge 8 r.length with h9 | h9
    · have := ha 8 h9
      unfold badW at this
      simp at this
    · exact h9
  · obtain ⟨p, hp, e⟩ := List.mem_iff_getElem.mp hz
    have := ha p hp
    rw [badW_at (w := z) (by rw [List.getElem?_eq_getElem hp, e])] at this
    simp only [Bool.or_eq_false_iff, Bool.not_eq_false', decide_eq_false_iff_not] at this
    exact nmB this.1
end
section
variable {S : Store} {Q : D → Store → Prop} {E : EQ}
theorem yz_read {z : Str} (hl : z.length ≤ 9000) (k : ∀ kv S', rdT z = .inr kv → GA kv 100000 → Kx [] S S' → Q (.dict (toK kv)) S') (ke : ∀ l w S', rdT z = .inl (l, w) → Kx [] S S' → E "ParseError" [("word", .int w), ("line", .int l)] S') : Yz (m_read_bodies [.str z] S) Q E := by
  refine yz_fn ?_
  unfold b_read_bodies
  obtain ⟨v0, h0⟩ : ∃ d, d = D.str z := ⟨_, rfl⟩
  rw [← h0]
  walk_at "zv"
  refine rz_seq (rz_set ?_)
  unfold eDictR
  rw [yz_ok]
  have e1 : (S ++ [SO.dict []])[S.length]? = some (.dict (toK [])) := by simp [toK]
  have kx1 : Kx [] S (S ++ [SO.dict []]) := (Kx.refl S).push
  generalize S ++ [SO.dict []] = S1 at e1 kx1
  have hq : S.length ≤ S.length := Nat.le_refl _
  generalize hQ : S.length = q at e1 hq ⊢
  walk_at "zv"
  have lnl := (nl_ok z).wt
  have hln : ∀ l ∈ linesOf z, l.length ≤ 9000 := fun l hm => by
    unfold linesOf at hm
    split at hm
    · cases hm
    · have := wS_mem hm; omega
  have hnl : (linesOf z).length ≤ 9001 := by
    unfold linesOf
    split
    · exact Nat.zero_le _
    · have := wS_len (Txt.split z "\n"); omega
  refine rz_seq (rz_for (fun i ρ S' => (∃ x2 x3 x4 x5 x6 x7 x8, ρ = [some v0, some (.ref q), x2, x3, x4, x5, x6, x7, x8]) ∧ Kx [] S S' ∧ ∃ acc, S'[q]? = some (.dict (toK acc)) ∧ rdL i acc ((linesOf z).drop i) = rdT z ∧ GA acc i) (enumD ((linesOf z).map .str)) (yes_lines (by rw [h0]; rfl) (by omega) ⟨rfl, ⟨_, _, _, _, _, _, _, rfl⟩, kx1, [], e1, rfl, List.nodup_nil, (fun p hp => by cases hp), Nat.le_refl _, by decide⟩)
    (fun i d ρ S' e ⟨⟨x2, x3, x4, x5, x6, x7, x8, q1⟩, q2, acc, q3, q4, q5⟩ => ?_) fun ρ S' ⟨⟨x2, x3, x4, x5, x6, x7, x8, q1⟩, q2, acc, q3, q4, q5⟩ => ?_)
  · obtain ⟨x, ex, rfl⟩ := enumD_get e
    rw [List.getElem?_map] at ex
    cases el : (linesOf z)[i]? with
    | none => rw [el] at ex; cases ex
    | some line =>
      rw [el] at ex
      cases ex
      subst q1
      have hline := hln line (List.mem_of_getElem? el)
      have hi := (List.getElem?_eq_some_iff.mp el).1
      have hdrop : (linesOf z).drop i = line :: (linesOf z).drop (i + 1) := by
        rw [List.drop_eq_getElem_cons hi]
        congr 1
        rw [List.getElem?_eq_getElem hi] at el
        exact Option.some.inj el
      rw [hdrop] at q4
      refine ⟨[some v0, some (.ref q), some (.int i), some (.str line), x4, x5, x6, x7, x8], rfl, ?_⟩
      have sp := sp_ok line
      obtain ⟨h, r, ew⟩ : ∃ h r, Txt.split line " " = h :: r := by
        cases hh : Txt.split line " " with
        | nil => exact absurd hh sp.ne
        | cons h r => exact ⟨h, r, rfl⟩
      have hws : ∀ w ∈ h :: r, w.length ≤ 9000 := fun w hw => by
        rw [← ew] at hw
        have := wS_mem hw
        have := sp.wt
        omega
      refine rz_seq (RY.z (ry_asgN (yes_split rfl (by decide +kernel) (by omega) ?_)))
      rw [ew]
      refine ⟨_, star_hr, ?_⟩
      walk_at "zv"
      have hh := hws h List.mem_cons_self
      refine rz_seq (RY.z (ry_set (yes_sl ?_)))
      walk_at "ev"
      refine yes_onone (yes_neg1 ⟨.str (nmOf h), by rw [gSl_s (by omega)]; rfl, ?_⟩)
      have hnm : (nmOf h).length ≤ 10000 := by
        rw [← len_toList, cut_nm, List.length_dropLast, len_toList]; omega
      have cont : ∀ (c : Bool), (colB h && nameB (nmOf h) && decide (nmOf h ∉ ksOf acc) && decide (i < 10)) = c → ∀ {N' B' C' : Env' → Store → Prop}, (c = true → N' [some v0, some (.ref q), some (.int i), some (.str line), some (.str (nmOf h)), some (.str h), x6, x7, some (.list (r.map .str))] S') →
          RZ (sIf (bOr (bOfE (eBin gNeH (eSl (eVar 5) (oSome (eUn gNeg (eC (.int 1)))) oNone) (eC (.str ":")))) (bOr (bNot (bTru (eFn m_is_name (aCons (eVar 4) aNil)))) (bOr (bOfE (eBin gIn (eVar 4) (eVar 1))) (bOfE (eBin gGe (eVar 2) (eC (.int 10)))))))
 (sRaise "ParseError" ["line", "word"] (aCons (eVar 2) (aCons (eC (.int 0)) aNil)))
 sNil [some v0, some (.ref q), some (.int i), some (.str line), some (.str (nmOf h)), some (.str h), x6, x7, some (.list (r.map .str))] S') N' Q B' C' (fun Cn fs _ S => E Cn fs S) := by
        intro c hc N' B' C' kn
        have bad : c = false → E "ParseError" [("word", .int 0), ("line", .int (i : Nat))] S' := fun e => by
          subst e
          exact ke i 0 S' (by rw [← q4]; exact rdL_bad ew (badL_head hc)) q2
        have out : c = false → RZ (sRaise "ParseError" ["line", "word"] (aCons (eVar 2) (aCons (eC (.int 0)) aNil)) [some v0, some (.ref q), some (.int i), some (.str line), some (.str (nmOf h)), some (.str h), x6, x7, some (.list (r.map .str))] S') N' Q B' C' (fun Cn fs _ S => E Cn fs S) := fun e => by
          refine rz_raise ?_
          walk_at "ev"
          exact ⟨by first | rfl | trivial, by simp, bad e⟩
        refine rz_if (Yes.z ?_)
        unfold bOr
        rw [yes_bind, bofe_bl]
        unfold eBin
        rw [yes_bind]
        refine yes_sl ?_
        walk_at "ev"
        refine yes_neg1 (yes_onone ⟨_, gSl_s (by omega), ?_⟩)
        walk_at "ev"
        rw [last_col]
        cases h1 : colB h with
        | false =>
          walk_at "ev"
          exact out (by rw [← hc, h1]; rfl)
        | true =>
          walk_at "ev"
          refine y_is_name (d := .str (nmOf h)) rfl (fun z e => by injection e with e; rw [← e]; exact hnm) ?_
          walk_at "ev"
          rw [show nameD (.str (nmOf h)) = nameB (nmOf h) from rfl]
          cases h2 : nameB (nmOf h) with
          | false =>
            walk_at "ev"
            exact out (by rw [← hc, h1, h2]; rfl)
          | true =>
            walk_at "ev"
            rw [gIn_it (itemsK_ref q3) (fun z => by simp), toK_val, getS_isSome, ofO_some]
            walk_at "ev"
            by_cases h3 : nmOf h ∈ ksOf acc
            · rw [decide_eq_true h3]
              walk_at "ev"
              exact out (by rw [← hc, h1, h2, decide_eq_false (by simpa using h3)]; rfl)
            · rw [decide_eq_false h3]
              walk_at "ev"
              by_cases h4 : i < 10
              · rw [decide_eq_false (by omega), if_neg (by decide)]
                exact rz_nil (kn (by rw [← hc, h1, h2, decide_eq_true h3, decide_eq_true h4]; rfl))
              · rw [decide_eq_true (by omega), if_pos rfl]
                exact out (by rw [← hc, h1, h2, decide_eq_false h4]; simp)
      refine rz_seq (cont _ rfl fun hc => ?_)
      clear cont
      have hbl := badL_rest (n := i) (acc := acc) (h := h) (r := r) hc
      refine rz_seq (rz_for (fun j ρ S2 => (∃ x6 x7, ρ = [some v0, some (.ref q), some (.int i), some (.str line), some (.str (nmOf h)), some (.str h), x6, x7, some (.list (r.map .str))]) ∧ S2 = S' ∧ ∀ p, p < j → badW r p = false) (enumD (r.map .str)) ?_ (fun j d ρ S2 e2 ⟨⟨x6, x7, p1⟩, p2, p3⟩ => ?_) fun ρ S2 ⟨⟨x6, x7, p1⟩, p2, p3⟩ => ?_)
      · unfold iEnumD
        walk_at "ev"
        exact ⟨by first | rfl | trivial, ⟨_, _, rfl⟩, by first | rfl | trivial, fun p hp => by omega⟩
      · obtain ⟨y, ey, rfl⟩ := enumD_get e2
        rw [List.getElem?_map] at ey
        cases ewd : r[j]? with
        | none => rw [ewd] at ey; cases ey
        | some w =>
          rw [ewd] at ey
          cases ey
          subst p1 p2
          have hj := (List.getElem?_eq_some_iff.mp ewd).1
          have hw := hws w (List.mem_cons_of_mem _ (List.mem_of_getElem? ewd))
          refine ⟨[some v0, some (.ref q), some (.int i), some (.str line), some (.str (nmOf h)), some (.str h), some (.int j), some (.str w), some (.list (r.map .str))], rfl, ?_⟩
          have hbw := badW_at ewd
          have fin : ∀ {B2 C2 : Env' → Store → Prop}, badW r j = true → RZ (sRaise "ParseError" ["line", "word"] (aCons (eVar 2) (aCons (eBin gAdd (eVar 6) (eC (.int 1))) aNil)) [some v0, some (.ref q), some (.int i), some (.str line), some (.str (nmOf h)), some (.str h), some (.int j), some (.str w), some (.list (r.map .str))] S2) (fun ρ S2' => (∃ x6 x7, ρ = [some v0, some (.ref q), some (.int i), some (.str line), some (.str (nmOf h)), some (.str h), x6, x7, some (.list (r.map .str))]) ∧ S2' = S2 ∧ ∀ p, p < j + 1 → badW r p = false) Q B2 C2 (fun Cn fs _ S => E Cn fs S) := fun {B2 C2} hb => by
            refine rz_raise ?_
            walk_at "ev"
            refine ⟨by first | rfl | trivial, by simp, ?_⟩
            exact ke i (j + 1) S2 (by rw [← q4]; exact rdL_bad ew (by rw [hbl, firstBad_at hj hb p3]; rfl)) q2
          refine rz_if (Yes.z ?_)
          walk_at "ev"
          refine y_is_name (d := .str w) rfl (fun z e => by injection e with e; rw [← e]; omega) ?_
          walk_at "ev"
          rw [show nameD (.str w) = nameB w from rfl]
          cases h1 : nameB w with
          | false =>
            walk_at "ev"
            exact fin (by rw [hbw, h1]; rfl)
          | true =>
            walk_at "ev"
            by_cases h8 : 8 ≤ j
            · rw [decide_eq_true (by omega), if_pos rfl]
              exact fin (by rw [hbw, decide_eq_true h8]; simp)
            · rw [decide_eq_false (by omega), if_neg (by decide)]
              refine rz_nil ⟨⟨_, _, rfl⟩, rfl, fun p hp => ?_⟩
              rcases Nat.lt_or_ge p j with hp2 | hp2
              · exact p3 p hp2
              · have : p = j := by omega
                rw [this, hbw, h1, decide_eq_false h8]; rfl
      · subst p1 p2
        rw [enumD_len, List.length_map] at p3
        refine RY.z (ry_setIx ?_)
        walk_at "ev"
        rw [show gTuple [.list (r.map .str)] S2 = some (.tup (r.map .str)) from rfl, ofO_some]
        walk_at "ev"
        have hla := q5.2.2.2
        refine ⟨_, setIx_refK q3 (by rw [toK_len]; omega), ⟨_, _, _, _, _, _, _, rfl⟩, q2.set (.inr (by omega)), putS acc (nmOf h) (.tup (r.map .str)), ?_, ?_, q5.step hc p3⟩
        · rw [List.getElem?_set_self (List.getElem?_eq_some_iff.mp q3).1, toK_put]
        · rw [← q4]
          exact (rdL_step ew (by rw [hbl, firstBad_no p3]; rfl)).symm
  · subst q1
    refine RY.z (ry_frzK (n := q) rfl q3 (ry_ret ?_))
    walk_at "ev"
    have e9 : (enumD ((linesOf z).map D.str)).length = (linesOf z).length := by rw [enumD_len, List.length_map]
    rw [e9, List.drop_length] at q4
    exact k acc _ q4.symm ⟨q5.1, q5.2.1, by have := q5.2.2.2; omega, q5.2.2.2⟩ (q2.set (.inr (by omega)))
end
end LW
namespace LW
open PySem PySem.Spec PyProof.Rows L2 DL
local macro_rules | `(tactic| walk_at "ev") => `(tactic| try simp only [eBin, eUn, eVar, eC, aCons, aNil, eLst, eTup, eCall, eIf, eFn, bofe_bl, bTru, bNot, bAnd, bOr, yes_ok, yes_bind, ofO_some, gAdd_ii, gSub_ii, gLt_ii, gLe_ii, gGt_ii, gGe_ii, gNeg_i, gAbs_i, gInt_b, gLen_l, gLen_t, gEqH_ii, gEqH_ss, gNeH_ss, gLe_ss, gIs_bb, gIx_l, gIx_t, truB_bl, List.getElem?_cons_zero, List.getElem?_cons_succ, List.set_cons_zero, List.set_cons_succ, List.map_cons, List.map_nil, List.length_cons, List.length_nil, List.replicate_succ, List.replicate_zero, List.cons_append, List.nil_append, Nat.reduceAdd, Nat.reduceSub, Nat.zero_le, Nat.reduceLeDiff, Bool.false_eq_true, Bool.not_false, Bool.not_true, reduceIte])
local macro_rules | `(tactic| walk_at "evb") => `(tactic| try simp only [eVar, eC, aCons, aNil, eLst, eTup, eCall, eIf, eFn, bofe_bl, bTru, bNot, bAnd, bOr, yes_ok, yes_bind, ofO_some, gAdd_ii, gSub_ii, gLt_ii, gLe_ii, gGt_ii, gGe_ii, gNeg_i, gAbs_i, gInt_b, gLen_l, gLen_t, gEqH_ii, gEqH_ss, gNeH_ss, gLe_ss, gIs_bb, gIx_l, gIx_t, truB_bl, List.getElem?_cons_zero, List.getElem?_cons_succ, List.set_cons_zero, List.set_cons_succ, List.map_cons, List.map_nil, List.length_cons, List.length_nil, List.replicate_succ, List.replicate_zero, List.cons_append, List.nil_append, Nat.reduceAdd, Nat.reduceSub, Nat.zero_le, Nat.reduceLeDiff, Bool.false_eq_true, Bool.not_false, Bool.not_true, reduceIte])
local macro_rules | `(tactic| walk_at "zv") => `(tactic| try simp only [eBin, eUn, eVar, eC, aCons, aNil, eLst, eTup, eCall, eIf, eFn, yz_ok, yz_bind, ofO_some, gAdd_ii, gSub_ii, gLt_ii, gLe_ii, gLen_l, gLen_t, List.getElem?_cons_zero, List.getElem?_cons_succ, List.set_cons_zero, List.set_cons_succ, List.map_cons, List.map_nil, List.length_cons, List.length_nil, List.replicate_succ, List.replicate_zero, List.cons_append, List.nil_append, Nat.reduceAdd, Nat.reduceSub, Bool.false_eq_true, Bool.not_false, Bool.not_true, reduceIte])
def showR : (Nat × Nat) ⊕ KB → D
  | .inl (l, w) => .tup [.str "line", .int (l : Nat), .int (w : Nat)]
  | .inr kv => .tup [.str "read", .dict (toK kv)]
def OkR : (Nat × Nat) ⊕ KB → Prop
  | .inl (l, w) => l ≤ 100000 ∧ w ≤ 100000
  | .inr kv => GA kv 100000
theorem show_ok {R : (Nat × Nat) ⊕ KB} (h : OkR R) : ∃ w, ∀ S, gRepr [showR R] S = some (.str w) := by
  have big : (100001 : Nat) < 10 ^ 60 := by decide +kernel
  have hs : ∀ z : Str, (z.length = 4 ∧ ∀ c ∈ z.cps.toList, c < 128) → Ln 4 z := fun z h => ⟨Nat.le_of_eq h.1, h.2⟩
  cases R with
  | inl p =>
    obtain ⟨l, w⟩ := p
    obtain ⟨h1, h2⟩ := h
    have s1 : ShD 4 0 (.str "line") := ShD.str (hs _ (by decide +kernel))
    exact gRepr_ok (S := []) (ShD.tup (ShDs.cons s1 (ShDs.cons (ShD.int (by omega)) (ShDs.cons (ShD.int (by omega)) ShDs.nil)))) (by decide) (by decide)
  | inr kv =>
    obtain ⟨_, h2, _, h4⟩ := h
    have s0 : ∀ p ∈ kv, Ln 8 p.1 ∧ ShD 72 1 p.2 := fun p hp => by
      obtain ⟨hn, ns, e, hl, hw⟩ := h2 p hp
      refine ⟨Nm.ln hn, ?_⟩
      rw [e]
      exact (ShD.tup (ShDs.strs fun w hw' => Nm.ln (hw w hw'))).mono (by omega) (Nat.le_refl _)
    have s1 : ShD 4 0 (.str "read") := ShD.str (hs _ (by decide +kernel))
    have s2 : ShD 6000 2 (.dict (toK kv)) := (ShD.dict s0).mono (by omega) (by decide)
    exact gRepr_ok (S := []) (ShD.tup (ShDs.cons s1 (ShDs.cons s2 ShDs.nil))) (by decide) (by decide)
theorem yes_range2 {f g : Ev D} {ρ : Env'} {S : Store} {QL : List D → Store → Prop} {i : Int} {n : Nat} (h : Yes (f ρ S) fun d S => d = .int i ∧ Yes (g ρ S) fun d2 S => ∃ j : Int, d2 = .int j ∧ -100000 ≤ i ∧ i ≤ 100000 ∧ -100000 ≤ j ∧ j ≤ 100000 ∧ (j - i).toNat = n ∧ QL (rangeD i n) S) : Yes (iRange2 f g ρ S) QL := by
  unfold iRange2
  rw [yes_bind]
  refine h.mono fun d S ⟨e, h⟩ => ?_
  rw [yes_bind]
  refine h.mono fun d2 S ⟨j, e2, a1, a2, a3, a4, en, k⟩ => ?_
  subst e e2 en
  dsimp only
  rw [if_pos ⟨by omega, by omega, by omega, by omega⟩]
  exact k
theorem rng_filter (r : List Str) : (rangeD 1 r.length).filter (fun d => match d with | .int k => badW r (k.toNat - 1) | _ => false) = ((List.range r.length).filter (badW r)).map fun (i : Nat) => D.int (1 + (i : Int)) := by
  unfold rangeD
  rw [List.filter_map]
  congr 2
  funext i
  show badW r (((1 : Int) + (i : Int)).toNat - 1) = badW r i
  congr 1
  omega
section
variable {S : Store} {Q : D → Store → Prop}
theorem y_due {z : Str} (hl : z.length ≤ 9000) (k : ∀ w S', OkR (rdT z) → (∀ S, gRepr [showR (rdT z)] S = some (.str w)) → Kx [] S S' → Q (.str w) S') : Yes (m__law_due [.str z] S) Q := by
  refine yes_fn ?_
  unfold b__law_due
  obtain ⟨v0, h0⟩ : ∃ d, d = D.str z := ⟨_, rfl⟩
  rw [← h0]
  walk_at "ev"
  refine ry_seq (ry_set ?_)
  unfold eDictR
  rw [yes_ok]
  have e1 : (S ++ [SO.dict []])[S.length]? = some (.dict (toK [])) := by simp [toK]
  have kx1 : Kx [] S (S ++ [SO.dict []]) := (Kx.refl S).push
  generalize S ++ [SO.dict []] = S1 at e1 kx1
  have hq : S.length ≤ S.length := Nat.le_refl _
  generalize hQ : S.length = q at e1 hq ⊢
  walk_at "ev"
  have lnl := (nl_ok z).wt
  have hln : ∀ l ∈ linesOf z, l.length ≤ 9000 := fun l hm => by
    unfold linesOf at hm
    split at hm
    · cases hm
    · have := wS_mem hm; omega
  have hnl : (linesOf z).length ≤ 9001 := by
    unfold linesOf
    split
    · exact Nat.zero_le _
    · have := wS_len (Txt.split z "\n"); omega
  have give : ∀ (R : (Nat × Nat) ⊕ KB) S', rdT z = R → OkR R → Kx [] S S' → ∀ d, d = showR R → Yes (ofO (gRepr [d] S') S') Q := fun R S' e ok kx d ed => by
    subst e ed
    obtain ⟨w, hw⟩ := show_ok ok
    rw [hw, ofO_some, yes_ok]
    exact k w S' ok hw kx
  refine ry_seq (ry_for (fun i ρ S' => (∃ x2 x3 x4 x5 x6 x7, ρ = [some v0, some (.ref q), x2, x3, x4, x5, x6, x7]) ∧ Kx [] S S' ∧ ∃ acc, S'[q]? = some (.dict (toK acc)) ∧ rdL i acc ((linesOf z).drop i) = rdT z ∧ GA acc i) (enumD ((linesOf z).map .str)) (yes_lines (by rw [h0]; rfl) (by omega) ⟨rfl, ⟨_, _, _, _, _, _, rfl⟩, kx1, [], e1, rfl, List.nodup_nil, (fun p hp => by cases hp), Nat.le_refl _, by decide⟩)
    (fun i d ρ S' e ⟨⟨x2, x3, x4, x5, x6, x7, q1⟩, q2, acc, q3, q4, q5⟩ => ?_) fun ρ S' ⟨⟨x2, x3, x4, x5, x6, x7, q1⟩, q2, acc, q3, q4, q5⟩ => ?_)
  · obtain ⟨x, ex, rfl⟩ := enumD_get e
    rw [List.getElem?_map] at ex
    cases el : (linesOf z)[i]? with
    | none => rw [el] at ex; cases ex
    | some line =>
      rw [el] at ex
      cases ex
      subst q1
      have hline := hln line (List.mem_of_getElem? el)
      have hi := (List.getElem?_eq_some_iff.mp el).1
      have hdrop : (linesOf z).drop i = line :: (linesOf z).drop (i + 1) := by
        rw [List.drop_eq_getElem_cons hi]
        congr 1
        rw [List.getElem?_eq_getElem hi] at el
        exact Option.some.inj el
      rw [hdrop] at q4
      refine ⟨[some v0, some (.ref q), some (.int i), some (.str line), x4, x5, x6, x7], rfl, ?_⟩
      have sp := sp_ok line
      obtain ⟨h, r, ew⟩ : ∃ h r, Txt.split line " " = h :: r := by
        cases hh : Txt.split line " " with
        | nil => exact absurd hh sp.ne
        | cons h r => exact ⟨h, r, rfl⟩
      have hrl : r.length ≤ 9001 := by
        have := wS_len (Txt.split line " ")
        rw [ew, List.length_cons] at this
        have := sp.wt
        rw [ew] at this
        omega
      have hws : ∀ w ∈ h :: r, w.length ≤ 9000 := fun w hw => by
        rw [← ew] at hw
        have := wS_mem hw
        have := sp.wt
        omega
      refine ry_seq (ry_set (yes_split rfl (by decide +kernel) (by omega) ?_))
      rw [ew]
      obtain ⟨v4, h4⟩ : ∃ d, d = D.list ((h :: r).map .str) := ⟨_, rfl⟩
      have ix0 : ∀ {S : Store}, gIx v4 (.int 0) S = some (.str h) := fun {S} => by
        rw [h4, gIx_l]
        unfold atI ixN
        rw [if_pos (by decide), if_pos (by simp only [List.length_map, List.length_cons]; omega)]
        rfl
      have gl4 : ∀ {S : Store}, gLen [v4] S = some (.int ((r.length + 1 : Nat) : Int)) := fun {S} => by rw [h4, gLen_l, List.length_map, List.length_cons]
      have ixp : ∀ {S : Store} {p : Nat} {w : Str}, r[p]? = some w → gIx v4 (.int (1 + (p : Int))) S = some (.str w) := fun {S p w} e => by
        rw [h4, gIx_l]
        unfold atI ixN
        have hp := (List.getElem?_eq_some_iff.mp e).1
        rw [if_pos (by omega), if_pos (by simp only [List.length_map, List.length_cons]; omega)]
        show (((h :: r).map D.str)[((1 : Int) + (p : Int)).toNat]?) = _
        rw [show ((1 : Int) + (p : Int)).toNat = p + 1 by omega, List.getElem?_map, List.getElem?_cons_succ, e]
        rfl
      rw [← h4]
      walk_at "ev"
      have hh := hws h List.mem_cons_self
      have hnm : (nmOf h).length ≤ 10000 := by
        rw [← len_toList, cut_nm, List.length_dropLast, len_toList]; omega
      refine ry_seq (ry_set ?_)
      have one : ∀ {Q2 : D → Store → Prop}, Q2 (.str (nmOf h)) S' → Yes (eIf (bOfE (eBin gNeH (eBin gIx (eVar 4) (eC (.int 0))) (eC (.str "")))) (eSl (eBin gIx (eVar 4) (eC (.int 0))) oNone (oSome (eBin gSub (eCall gLen (aCons (eBin gIx (eVar 4) (eC (.int 0))) aNil)) (eC (.int 1))))) (eC (.str "")) [some v0, some (.ref q), some (.int i), some (.str line), some v4, x5, x6, x7] S') Q2 := fun {Q2} kq => by
        unfold eIf
        rw [yes_bind, bofe_bl]
        unfold eBin
        rw [yes_bind]
        walk_at "evb"
        rw [ix0, ofO_some]
        walk_at "ev"
        rw [← law_nm] at kq
        by_cases hz : h = ""
        · rw [if_pos hz] at kq
          rw [decide_eq_true hz]
          walk_at "ev"
          exact kq
        · rw [if_neg hz] at kq
          rw [decide_eq_false hz]
          walk_at "ev"
          refine yes_sl ?_
          walk_at "ev"
          rw [ix0, ofO_some]
          walk_at "ev"
          refine yes_onone (yes_osome ?_)
          walk_at "ev"
          rw [ix0, ofO_some]
          walk_at "ev"
          rw [gLen_s (by omega), ofO_some]
          walk_at "ev"
          exact ⟨_, by first | rfl | trivial, _, gSl_s (by omega), kq⟩
      refine one ?_
      walk_at "ev"
      have fin0 : ∀ c : Bool, (colB h && nameB (nmOf h) && decide (nmOf h ∉ ksOf acc) && decide (i < 10)) = c → c = false → ∀ {N' B' C' : Env' → Store → Prop}, RY (sRet (eCall gRepr (aCons (eTup (aCons (eC (.str "line")) (aCons (eVar 2) (aCons (eC (.int 0)) aNil)))) aNil)) [some v0, some (.ref q), some (.int i), some (.str line), some v4, some (.str (nmOf h)), x6, x7] S') N' Q B' C' := fun c hc e => by
        subst e
        refine ry_ret ?_
        unfold eCall
        walk_at "ev"
        exact give (.inl (i, 0)) S' (by rw [← q4]; exact rdL_bad ew (badL_head hc)) ⟨by omega, by decide⟩ q2 _ rfl
      refine ry_seq (ry_if ?_)
      walk_at "ev"
      by_cases h9 : i < 10
      · rw [decide_eq_false (by omega)]
        walk_at "ev"
        rw [ix0, ofO_some]
        walk_at "ev"
        rw [gAdd_ss (by rw [show (":" : Str).length = 1 by decide +kernel]; omega), ofO_some]
        walk_at "ev"
        rw [show decide (h = nmOf h ++ (":" : Str)) = colB h from by have := law_col h; rw [law_nm] at this; exact this]
        cases h1 : colB h with
        | false =>
          walk_at "ev"
          exact fin0 _ rfl (by rw [h1]; rfl)
        | true =>
          walk_at "ev"
          refine y_isword (d := .str (nmOf h)) rfl (fun z e => by injection e with e; rw [← e]; exact hnm) ?_
          walk_at "ev"
          rw [show nameD (.str (nmOf h)) = nameB (nmOf h) from rfl]
          cases h2 : nameB (nmOf h) with
          | false =>
            walk_at "ev"
            exact fin0 _ rfl (by rw [h1, h2]; rfl)
          | true =>
            walk_at "ev"
            rw [gIn_it (itemsK_ref q3) (fun z => by simp), toK_val, getS_isSome, ofO_some]
            walk_at "ev"
            by_cases h3 : nmOf h ∈ ksOf acc
            · rw [decide_eq_true h3, if_pos rfl]
              exact fin0 _ rfl (by rw [h1, h2, decide_eq_false (by simpa using h3)]; rfl)
            · rw [decide_eq_false h3, if_neg (by decide)]
              have hc : (colB h && nameB (nmOf h) && decide (nmOf h ∉ ksOf acc) && decide (i < 10)) = true := by rw [h1, h2, decide_eq_true h3, decide_eq_true h9]; rfl
              have hbl := badL_rest (n := i) (acc := acc) (h := h) (r := r) hc
              refine ry_nil (ry_seq (ry_set ?_))
              refine yes_lc_filter (ds := rangeD 1 r.length) (fun d => match d with | .int k => badW r (k.toNat - 1) | _ => false) (by rw [show (rangeD 1 r.length).length = r.length from by unfold rangeD; rw [List.length_map, List.length_range]]; omega) ?_ (fun j d e2 => ?_) ?_
              · refine yes_range2 (i := 1) (n := r.length) ?_
                walk_at "ev"
                rw [gl4, ofO_some]
                walk_at "ev"
                exact ⟨by first | rfl | trivial, _, rfl, by decide, by decide, by omega, by omega, by omega, by first | rfl | trivial, by first | rfl | trivial⟩
              · have hj : j < r.length := by
                  have := (List.getElem?_eq_some_iff.mp e2).1
                  unfold rangeD at this
                  rw [List.length_map, List.length_range] at this
                  exact this
                have ed : d = .int (1 + (j : Int)) := by
                  unfold rangeD at e2
                  rw [List.getElem?_map, List.getElem?_range hj] at e2
                  exact (Option.some.inj e2).symm
                subst ed
                obtain ⟨w, ewd⟩ : ∃ w, r[j]? = some w := ⟨_, List.getElem?_eq_getElem hj⟩
                have hw := hws w (List.mem_cons_of_mem _ (List.mem_of_getElem? ewd))
                refine ⟨[some v0, some (.ref q), some (.int i), some (.str line), some v4, some (.str (nmOf h)), x6, some (.int (1 + (j : Int)))], rfl, ?_⟩
                have hb : badW r (((1 : Int) + (j : Int)).toNat - 1) = (!nameB w || decide (8 ≤ j)) := by rw [show ((1 : Int) + (j : Int)).toNat - 1 = j by omega]; exact badW_at ewd
                dsimp only
                rw [hb]
                walk_at "ev"
                by_cases h8 : 8 ≤ j
                · rw [decide_eq_true (show (8 : Int) < 1 + (j : Int) by omega), decide_eq_true h8]
                  walk_at "ev"
                  exact ⟨by simp, by first | rfl | trivial, by first | rfl | trivial, by first | rfl | trivial⟩
                · rw [decide_eq_false (show ¬ (8 : Int) < 1 + (j : Int) by omega), decide_eq_false h8]
                  walk_at "ev"
                  rw [ixp ewd, ofO_some]
                  walk_at "ev"
                  refine y_isword (d := .str w) rfl (fun z e => by injection e with e; rw [← e]; omega) ?_
                  walk_at "ev"
                  rw [show nameD (.str w) = nameB w from rfl]
                  exact ⟨by simp, by first | rfl | trivial, by first | rfl | trivial, by first | rfl | trivial⟩
              · rw [rng_filter]
                have hfb : firstBad r = ((List.range r.length).filter (badW r)).head? := by
                  unfold firstBad
                  rw [List.head?_filter]
                obtain ⟨F, hF⟩ : ∃ F, F = (List.range r.length).filter (badW r) := ⟨_, rfl⟩
                rw [← hF] at hfb ⊢
                obtain ⟨v6, h6⟩ : ∃ d, d = D.list (F.map fun (i : Nat) => D.int (1 + (i : Int))) := ⟨_, rfl⟩
                rw [← h6]
                refine ry_seq (ry_if ?_)
                walk_at "ev"
                rw [show gNeH v6 (.list []) S' = some (.bl (!(F.map fun (i : Nat) => D.int (1 + (i : Int))).isEmpty)) from by rw [h6]; unfold gNeH; rw [eqH_ll]; rfl, ofO_some]
                walk_at "ev"
                cases F with
                | cons j t =>
                  rw [if_pos (by rfl)]
                  have hfj : firstBad r = some j := hfb
                  have hjm : j ∈ (List.range r.length).filter (badW r) := by rw [← hF]; exact List.mem_cons_self
                  have hjl : j < r.length := List.mem_range.mp (List.mem_filter.mp hjm).1
                  refine ry_ret ?_
                  unfold eCall
                  walk_at "ev"
                  rw [show gIx v6 (.int 0) S' = some (.int (1 + (j : Int))) from by
                    rw [h6, gIx_l]
                    unfold atI ixN
                    rw [if_pos (by decide), if_pos (by simp only [List.length_map, List.length_cons]; omega)]
                    rfl, ofO_some]
                  walk_at "ev"
                  refine give (.inl (i, j + 1)) S' (by rw [← q4]; exact rdL_bad ew (by rw [hbl, hfj]; rfl)) ⟨by omega, by omega⟩ q2 _ ?_
                  show D.tup [.str "line", .int (i : Nat), .int (1 + (j : Int))] = .tup [.str "line", .int (i : Nat), .int ((j + 1 : Nat) : Int)]
                  rw [show (1 + (j : Int)) = ((j + 1 : Nat) : Int) by omega]
                | nil =>
                  rw [if_neg (by decide)]
                  have hno : firstBad r = none := hfb
                  have p3 : ∀ p, p < r.length → badW r p = false := fun p hp => by
                    cases hb : badW r p with
                    | false => rfl
                    | true =>
                      have : p ∈ (List.range r.length).filter (badW r) := List.mem_filter.mpr ⟨List.mem_range.mpr hp, hb⟩
                      rw [← hF] at this
                      cases this
                  refine ry_nil (ry_setIx ?_)
                  walk_at "ev"
                  refine yes_sl ?_
                  walk_at "ev"
                  refine yes_osome ?_
                  walk_at "ev"
                  refine ⟨1, rfl, yes_onone ⟨.list (r.map .str), ?_, ?_⟩⟩
                  · rw [h4]
                    show some (D.list (DL.cutD ((h :: r).map D.str) (some 1) none)) = _
                    unfold DL.cutD
                    rw [sIx_pos (by decide)]
                    have e2 : HT.sIx ((h :: r).map D.str).length ((h :: r).map D.str).length none = ((h :: r).map D.str).length := rfl
                    rw [e2, List.length_map, List.length_cons]
                    show some (D.list ((((h :: r).map D.str).drop (min 1 (r.length + 1))).take (r.length + 1 - min 1 (r.length + 1)))) = _
                    rw [show min 1 (r.length + 1) = 1 by omega, List.map_cons, List.drop_succ_cons, List.drop_zero, List.take_of_length_le (by rw [List.length_map]; omega)]
                  · walk_at "ev"
                    rw [show gTuple [.list (r.map .str)] S' = some (.tup (r.map .str)) from rfl, ofO_some]
                    walk_at "ev"
                    have hla := q5.2.2.2
                    refine ⟨_, setIx_refK q3 (by rw [toK_len]; omega), ⟨_, _, _, _, _, _, rfl⟩, q2.set (.inr (by omega)), putS acc (nmOf h) (.tup (r.map .str)), ?_, ?_, q5.step hc p3⟩
                    · rw [List.getElem?_set_self (List.getElem?_eq_some_iff.mp q3).1, toK_put]
                    · rw [← q4]
                      exact (rdL_step ew (by rw [hbl, firstBad_no p3]; rfl)).symm
      · rw [decide_eq_true (by omega)]
        walk_at "ev"
        exact fin0 _ rfl (by rw [decide_eq_false h9]; simp)
  · subst q1
    refine ry_frzK (n := q) rfl q3 (ry_ret ?_)
    unfold eCall
    walk_at "ev"
    have e9 : (enumD ((linesOf z).map D.str)).length = (linesOf z).length := by rw [enumD_len, List.length_map]
    rw [e9, List.drop_length] at q4
    exact give (.inr acc) _ q4.symm ⟨q5.1, q5.2.1, by have := q5.2.2.2; omega, q5.2.2.2⟩ (q2.set (.inr (by omega))) _ rfl
end
end LW
namespace LW
open PySem PySem.Spec PyProof.Rows L2 DL
local macro_rules | `(tactic| walk_at "ev") => `(tactic| try simp only [eBin, eUn, eVar, eC, aCons, aNil, eLst, eTup, eCall, eIf, eFn, bofe_bl, bTru, bNot, bAnd, bOr, yes_ok, yes_bind, ofO_some, gAdd_ii, gSub_ii, gLt_ii, gLe_ii, gGt_ii, gGe_ii, gNeg_i, gAbs_i, gInt_b, gLen_l, gLen_t, gEqH_ii, gEqH_ss, gNeH_ss, gLe_ss, gIs_bb, gIx_l, gIx_t, truB_bl, List.getElem?_cons_zero, List.getElem?_cons_succ, List.set_cons_zero, List.set_cons_succ, List.map_cons, List.map_nil, List.length_cons, List.length_nil, List.replicate_succ, List.replicate_zero, List.cons_append, List.nil_append, Nat.reduceAdd, Nat.reduceSub, Nat.zero_le, Nat.reduceLeDiff, Bool.false_eq_true, Bool.not_false, Bool.not_true, reduceIte])
local macro_rules | `(tactic| walk_at "evb") => `(tactic| try simp only [eVar, eC, aCons, aNil, eLst, eTup, eCall, eIf, eFn, bofe_bl, bTru, bNot, bAnd, bOr, yes_ok, yes_bind, ofO_some, gAdd_ii, gSub_ii, gLt_ii, gLe_ii, gGt_ii, gGe_ii, gNeg_i, gAbs_i, gInt_b, gLen_l, gLen_t, gEqH_ii, gEqH_ss, gNeH_ss, gLe_ss, gIs_bb, gIx_l, gIx_t, truB_bl, List.getElem?_cons_zero, List.getElem?_cons_succ, List.set_cons_zero, List.set_cons_succ, List.map_cons, List.map_nil, List.length_cons, List.length_nil, List.replicate_succ, List.replicate_zero, List.cons_append, List.nil_append, Nat.reduceAdd, Nat.reduceSub, Nat.zero_le, Nat.reduceLeDiff, Bool.false_eq_true, Bool.not_false, Bool.not_true, reduceIte])
local macro_rules | `(tactic| walk_at "zv") => `(tactic| try simp only [eBin, eUn, eVar, eC, aCons, aNil, eLst, eTup, eCall, eIf, eFn, yz_ok, yz_bind, ofO_some, gAdd_ii, gSub_ii, gLt_ii, gLe_ii, gLen_l, gLen_t, List.getElem?_cons_zero, List.getElem?_cons_succ, List.set_cons_zero, List.set_cons_succ, List.map_cons, List.map_nil, List.length_cons, List.length_nil, List.replicate_succ, List.replicate_zero, List.cons_append, List.nil_append, Nat.reduceAdd, Nat.reduceSub, Bool.false_eq_true, Bool.not_false, Bool.not_true, reduceIte])
section
variable {S : Store} {ρ : Env'} {Q : D → Store → Prop}
theorem yes_fnL {n : Nat} {s : Stm} (h : RY (s (List.replicate n none) S) (fun _ S => Q .non S) Q no2 no2) : Yes (fnL n s S) Q := by
  unfold fnL
  cases e : s (List.replicate n none) S <;> rw [e] at h <;> exact h
theorem yes_lam {n : Nat} {y : Str} {mL : (Store → Out D) → Store → Out D} {fb : Ev D} (hn : S[n]? = some (.tab y)) (h : Yes (mL (fun S' => fb ρ S') S) Q) : Yes (eLam n y mL fb ρ S) Q := by
  unfold eLam
  rw [hn]
  dsimp only
  rw [if_pos rfl]
  exact h
/-- what a thunk that reads comes to -/
theorem y_heard {th : Store → Out D} {R : (Nat × Nat) ⊕ KB} {P : Store → Prop} (h : Yz (th S) (fun d S' => ∃ kv, R = .inr kv ∧ d = .dict (toK kv) ∧ P S') (fun Cn fs S' => ∃ l w, R = .inl (l, w) ∧ Cn = "ParseError" ∧ fs = [(("word" : Str), D.int (w : Nat)), (("line" : Str), D.int (l : Nat))] ∧ P S')) {w : Str} (hw : ∀ S, gRepr [showR R] S = some (.str w)) (k : ∀ S', P S' → Q (.str w) S') : Yes (mL__law_heard th S) Q := by
  refine yes_fnL ?_
  unfold b__law_heard
  simp only [List.replicate_succ, List.replicate_zero]
  refine ry_seq (ry_set ?_)
  walk_at "ev"
  refine ry_seq (ry_try (rz_set ?_))
  unfold eCall eTup eAsk
  walk_at "zv"
  refine h.mono (fun d S' ⟨kv, e1, e2, p⟩ => ?_) fun Cn fs S' ⟨l, w', e1, e2, e3, p⟩ => ?_
  · subst e1 e2
    rw [if_pos (by decide), yz_ok, show gRepr [.tup [.str "read", .dict (toK kv)]] S' = some (.str w) from hw S', ofO_some, yz_ok]
    refine ry_ret ?_
    walk_at "ev"
    exact k S' p
  · subst e1 e2 e3
    refine ry_hit rfl (ry_seq (ry_set ?_))
    walk_at "ev"
    rw [show gIsiA sO_cs sO_t sE_t sB_t [.exc "ParseError" [(("word" : Str), D.int (w' : Nat)), (("line" : Str), D.int (l : Nat))], .tup [.cls "Clash", .cls "Doubling", .cls "InvalidBody", .cls "InvalidCapacity", .cls "InvalidEdit", .cls "InvalidName"]] S' = some (.bl false) from rfl, ofO_some]
    walk_at "ev"
    refine ry_if ?_
    walk_at "ev"
    rw [show gIsiA sO_cs sO_t sE_t sB_t [.exc "ParseError" [(("word" : Str), D.int (w' : Nat)), (("line" : Str), D.int (l : Nat))], .cls "ParseError"] S' = some (.bl true) from rfl, ofO_some]
    walk_at "ev"
    rw [show gIsiA sO_cs sO_t sE_t sB_t [.exc "ParseError" [(("word" : Str), D.int (w' : Nat)), (("line" : Str), D.int (l : Nat))], .tup [.cls "InvalidTrail", .cls "Taken", .cls "UnknownCommand"]] S' = some (.bl false) from rfl, ofO_some]
    walk_at "ev"
    refine ry_set ?_
    unfold eXf
    walk_at "ev"
    rw [if_pos (by decide), show List.lookup ("line" : Str) [(("word" : Str), D.int (w' : Nat)), (("line" : Str), D.int (l : Nat))] = some (.int (l : Nat)) from rfl, ofO_some, yes_ok]
    walk_at "ev"
    rw [if_pos (by decide), show List.lookup ("word" : Str) [(("word" : Str), D.int (w' : Nat)), (("line" : Str), D.int (l : Nat))] = some (.int (w' : Nat)) from rfl, ofO_some, yes_ok]
    walk_at "ev"
    rw [show gRepr [.tup [.str "line", .int (l : Nat), .int (w' : Nat)]] S' = some (.str w) from hw S', ofO_some]
    walk_at "ev"
    refine ry_ret ?_
    walk_at "ev"
    exact k S' p
end
end LW
namespace LW
open PySem PySem.Spec PyProof.Rows L2 DL
local macro_rules | `(tactic| walk_at "ev") => `(tactic| try simp only [eBin, eUn, eVar, eC, aCons, aNil, eLst, eTup, eCall, eIf, eFn, bofe_bl, bTru, bNot, bAnd, bOr, yes_ok, yes_bind, ofO_some, gAdd_ii, gSub_ii, gLt_ii, gLe_ii, gGt_ii, gGe_ii, gNeg_i, gAbs_i, gInt_b, gLen_l, gLen_t, gEqH_ii, gEqH_ss, gNeH_ss, gLe_ss, gIs_bb, gIx_l, gIx_t, truB_bl, List.getElem?_cons_zero, List.getElem?_cons_succ, List.set_cons_zero, List.set_cons_succ, List.map_cons, List.map_nil, List.length_cons, List.length_nil, List.replicate_succ, List.replicate_zero, List.cons_append, List.nil_append, Nat.reduceAdd, Nat.reduceSub, Nat.zero_le, Nat.reduceLeDiff, Bool.false_eq_true, Bool.not_false, Bool.not_true, reduceIte])
local macro_rules | `(tactic| walk_at "evb") => `(tactic| try simp only [eVar, eC, aCons, aNil, eLst, eTup, eCall, eIf, eFn, bofe_bl, bTru, bNot, bAnd, bOr, yes_ok, yes_bind, ofO_some, gAdd_ii, gSub_ii, gLt_ii, gLe_ii, gGt_ii, gGe_ii, gNeg_i, gAbs_i, gInt_b, gLen_l, gLen_t, gEqH_ii, gEqH_ss, gNeH_ss, gLe_ss, gIs_bb, gIx_l, gIx_t, truB_bl, List.getElem?_cons_zero, List.getElem?_cons_succ, List.set_cons_zero, List.set_cons_succ, List.map_cons, List.map_nil, List.length_cons, List.length_nil, List.replicate_succ, List.replicate_zero, List.cons_append, List.nil_append, Nat.reduceAdd, Nat.reduceSub, Nat.zero_le, Nat.reduceLeDiff, Bool.false_eq_true, Bool.not_false, Bool.not_true, reduceIte])
local macro_rules | `(tactic| walk_at "zv") => `(tactic| try simp only [eBin, eUn, eVar, eC, aCons, aNil, eLst, eTup, eCall, eIf, eFn, yz_ok, yz_bind, ofO_some, gAdd_ii, gSub_ii, gLt_ii, gLe_ii, gLen_l, gLen_t, List.getElem?_cons_zero, List.getElem?_cons_succ, List.set_cons_zero, List.set_cons_succ, List.map_cons, List.map_nil, List.length_cons, List.length_nil, List.replicate_succ, List.replicate_zero, List.cons_append, List.nil_append, Nat.reduceAdd, Nat.reduceSub, Bool.false_eq_true, Bool.not_false, Bool.not_true, reduceIte])
theorem y_pen {ns : List Int} {S : Store} {Q : D → Store → Prop} (k : Q (.ref S.length) (S ++ [tape (ns.take 63) 0 0])) : Yes (m__law_pen [.rd (ns.map .int)] S) Q := by
  refine yes_fn ?_
  unfold b__law_pen
  refine ry_ret (yes_lstR ?_)
  walk_at "ev"
  refine yes_sl ?_
  walk_at "ev"
  refine yes_onone (yes_osome ?_)
  walk_at "ev"
  refine ⟨_, rfl, .list ((ns.take 63).map .int), ?_, ?_⟩
  · show some (D.list (DL.cutD (ns.map D.int) none (some 63))) = _
    have e : DL.cutD (ns.map D.int) none (some 63) = (ns.take 63).map .int := by
      unfold DL.cutD
      have e1 : HT.sIx (ns.map D.int).length 0 none = 0 := rfl
      have e2 : HT.sIx (ns.map D.int).length (ns.map D.int).length (some 63) = min 63 ns.length := by
        rw [List.length_map]; exact HT.sIx_nat _ _ 63
      rw [e1, e2, List.drop_zero, ← List.map_take, Nat.sub_zero]
      congr 1
      rw [List.take_eq_take_iff]
      omega
    rw [e]
  · have e : gList [.list ((ns.take 63).map D.int)] S = some (.list ((ns.take 63).map D.int)) := rfl
    rw [e, ofO_some]
    walk_at "ev"
    exact ⟨by decide, k⟩
theorem joinL_in {c : Nat} : ∀ {l : List (List Nat)} {s : Nat}, s ∈ TL.joinL [c] l → s = c ∨ ∃ w ∈ l, s ∈ w
  | [], s, h => by cases h
  | [w], s, h => .inr ⟨w, List.mem_cons_self, h⟩
  | w :: v :: r, s, h => by
    have h : s ∈ w ++ ([c] ++ TL.joinL [c] (v :: r)) := h
    rcases List.mem_append.mp h with h | h
    · exact .inr ⟨w, List.mem_cons_self, h⟩
    · rcases List.mem_append.mp h with h | h
      · exact .inl (List.mem_singleton.mp h)
      · rcases joinL_in h with h | ⟨u, h1, h2⟩
        · exact .inl h
        · exact .inr ⟨u, List.mem_cons_of_mem _ h1, h2⟩
theorem join_ln {a : Str} {c n : Nat} (ea : TL.tl a = [c]) (hc : c < 128) {ws : List Str} (h : ∀ w ∈ ws, Ln n w) {m : Nat} (hm : wS ws ≤ m + 1) : Ln m (Txt.join a ws) := by
  cases ws with
  | nil => exact ⟨Nat.zero_le _, fun s hs => by cases hs⟩
  | cons x r =>
    have e := join_wS c a ea (ws := x :: r) (by simp)
    refine ⟨by omega, fun s hs => ?_⟩
    have hs : s ∈ TL.tl (Txt.join a (x :: r)) := hs
    rw [TL.join_eq, TL.tl_join, ea] at hs
    rcases joinL_in hs with q | ⟨u, h1, h2⟩
    · rw [q]; exact hc
    · obtain ⟨w, hw, rfl⟩ := List.mem_map.mp h1
      exact (h w hw).2 s h2
theorem wS_sum : ∀ (ws : List Str), wS ws = (ws.map (·.length)).sum + ws.length
  | [] => rfl
  | w :: r => by
    have := wS_sum r
    unfold wS at this ⊢
    rw [List.map_cons, List.sum_cons, this, List.map_cons, List.sum_cons, List.length_cons]; omega
theorem wS_le {n : Nat} : ∀ {ws : List Str}, (∀ w ∈ ws, Ln n w) → wS ws ≤ (n + 1) * ws.length
  | [], _ => Nat.zero_le _
  | w :: r, h => by
    have h1 := wS_le (ws := r) fun x hx => h x (List.mem_cons_of_mem _ hx)
    have h2 := (h w List.mem_cons_self).1
    unfold wS at h1 ⊢
    rw [List.map_cons, List.sum_cons, List.length_cons, Nat.mul_add]; omega
theorem gJoin_wS {a : Str} (ha : a.length = 1) {ws : List Str} (h : wS ws ≤ 1000000) {S : Store} : gJoin (.str a) [.list (ws.map .str)] S = some (.str (Txt.join a ws), S) := by
  have e : (ws.map (·.length)).sum + ws.length * a.length ≤ 16777216 := by
    rw [wS_sum] at h
    rw [ha]; omega
  simp only [gJoin, itemsS, itemsR, itemsL, strsOf_map, e]
  rfl
theorem sp_tl : TL.tl (" " : Str) = [32] := by decide +kernel
theorem nl_tl : TL.tl ("\n" : Str) = [10] := by decide +kernel
theorem Ln.upper {n : Nat} {z : Str} (h : Ln n z) : Ln n (Txt.upper z) := by
  have e := upper_list h.2
  refine ⟨?_, fun c hc => ?_⟩
  · have := h.1
    rw [← len_toList, e, List.length_map, len_toList]; exact this
  · rw [e] at hc
    obtain ⟨x, hx, rfl⟩ := List.mem_map.mp hc
    have := h.2 x hx
    split <;> omega
theorem cutD_map (ws : List Str) (lo hi : Option Int) : ∃ a b, DL.cutD (ws.map D.str) lo hi = ((ws.drop a).take b).map D.str := by
  unfold DL.cutD
  exact ⟨_, _, by rw [List.map_take, List.map_drop]⟩
theorem cutD_lo (ws : List Str) {i : Int} (h : 0 ≤ i) : DL.cutD (ws.map D.str) none (some i) = (ws.take i.toNat).map D.str := by
  unfold DL.cutD
  have e1 : HT.sIx (ws.map D.str).length 0 none = 0 := rfl
  have e2 : HT.sIx (ws.map D.str).length (ws.map D.str).length (some i) = min i.toNat ws.length := by
    rw [List.length_map]
    show (if i < 0 then _ else min i.toNat ws.length) = _
    rw [if_neg (by omega)]
  rw [e1, e2, List.drop_zero, Nat.sub_zero, ← List.map_take]
  congr 1
  rw [List.take_eq_take_iff]
  omega
theorem cutD_hi (ws : List Str) {i : Int} (h : 0 ≤ i) : DL.cutD (ws.map D.str) (some i) none = (ws.drop i.toNat).map D.str := by
  unfold DL.cutD
  have e1 : HT.sIx (ws.map D.str).length 0 (some i) = min i.toNat ws.length := by
    rw [List.length_map]
    show (if i < 0 then _ else min i.toNat ws.length) = _
    rw [if_neg (by omega)]
  have e2 : HT.sIx (ws.map D.str).length (ws.map D.str).length none = ws.length := List.length_map ..
  rw [e1, e2, ← List.map_drop, ← List.map_take]
  congr 1
  rcases Nat.le_total i.toNat ws.length with hh | hh
  · rw [Nat.min_eq_left hh]
    exact List.take_of_length_le (by rw [List.length_drop]; omega)
  · rw [Nat.min_eq_right hh, List.drop_length, List.drop_of_length_le hh, List.take_nil]
section
variable {S : Store} {f : Ev D} {ρ : Env'} {Q : D → Store → Prop}
theorem y_told {n : Nat} (t : Tp S n) (hn : n ≤ 900000) (k : ∀ z S', Ln 400 z → Tp S' (n + 100) → Kx [1] S S' → Q (.str z) S') : Yes (m__law_told [.ref 1] S) Q := by
  have h0 : 1 < S.length := let ⟨_, _, _, e, _⟩ := t; (List.getElem?_eq_some_iff.mp e).1
  refine yes_fn ?_
  unfold b__law_told
  walk_at "ev"
  refine ry_seq (ry_set ?_)
  walk_at "ev"
  refine y_pool (m := 6) (by decide) t hn fun ns S1 hl hnm t1 kx1 => ?_
  obtain ⟨v1, h1⟩ : ∃ d, d = D.list (ns.map .str) := ⟨_, rfl⟩
  rw [← h1]
  walk_at "ev"
  refine ry_seq (ry_set (yes_lstR ?_))
  walk_at "ev"
  refine ⟨by decide, ?_⟩
  have e1 : (S1 ++ [SO.lst []])[S1.length]? = some (.lst (([] : List Str).map .str)) := by simp
  have kx2 : Kx [1] S (S1 ++ [SO.lst []]) := kx1.push
  have t2 : Tp (S1 ++ [SO.lst []]) (n + 30) := ((Kx.refl (ex := []) S1).push).tp t1 (by simp)
  have hq : S.length ≤ S1.length := kx1.1
  generalize S1 ++ [SO.lst []] = S2 at e1 kx2 t2
  generalize S1.length = q at e1 hq ⊢
  walk_at "ev"
  refine ry_seq (ry_forE (yes_iany ?_))
  refine yes_sl ?_
  walk_at "ev"
  refine yes_onone (yes_osome ?_)
  walk_at "ev"
  refine y_draw t2 (by omega) (by decide) (by decide) fun r S3 r0 r1 t3 k3 => ?_
  rw [gAdd_ii, ofO_some, yes_ok]
  refine ⟨_, rfl, .list ((ns.take (1 + r).toNat).map .str), by rw [h1]; show some (D.list (DL.cutD _ _ _)) = _; rw [cutD_lo _ (by omega)], ?_⟩
  have e3 := k3.at (by omega) e1
  refine ⟨fun j ρ S' => (∃ x3 x4 x5, ρ = [some (.ref 1), some v1, some (.ref q), x3, x4, x5]) ∧ Tp S' (n + 31 + 13 * j) ∧ Kx [1] S S' ∧ ∃ ls : List Str, S'[q]? = some (.lst (ls.map .str)) ∧ ls.length = j ∧ ∀ w ∈ ls, Ln 99 w, ⟨⟨_, _, _, rfl⟩, t3, k3.kx0 kx2, [], e3, rfl, fun w hw => by cases hw⟩, fun j d ρ S' e ⟨⟨x3, x4, x5, q1⟩, q2, q3, ls, q4, q5, q6⟩ => ?_, fun ρ S' ⟨⟨x3, x4, x5, q1⟩, q2, q3, ls, q4, q5, q6⟩ => ?_⟩
  · have hj4 : j < 4 := by
      have := (List.getElem?_eq_some_iff.mp e).1
      rw [List.length_map, List.length_take] at this
      omega
    rw [List.getElem?_map] at e
    cases ez : (ns.take (1 + r).toNat)[j]? with
    | none => rw [ez] at e; cases e
    | some z =>
      rw [ez] at e
      cases e
      subst q1
      have hz := hnm z (List.mem_of_mem_take (List.mem_of_getElem? ez))
      refine ⟨[some (.ref 1), some v1, some (.ref q), some (.str z), x4, x5], rfl, ?_⟩
      refine ry_seq (ry_set ?_)
      walk_at "ev"
      refine y_draw q2 (by omega) (by decide) (by decide) fun d1 S4 a0 a1 t4 k4 => ?_
      walk_at "ev"
      refine y_draw t4 (by omega) (by decide) (by decide) fun d2 S5 b0 b1 t5 k5 => ?_
      walk_at "ev"
      refine y_draw t5 (by omega) (by decide) (by decide) fun d3 S6 c0 c1 t6 k6 => ?_
      have kx6 := k6.kx0 (k5.kx0 (k4.kx0 q3))
      have e6 := k6.at (by omega) (k5.at (by omega) (k4.at (by omega) q4))
      obtain ⟨v, g1, g2⟩ : ∃ v : Int, atI [D.int d1, .int 8, .int d2] d3 = some (.int v) ∧ 0 ≤ v ∧ v < 10 := by
        have hm : d3 = 0 ∨ d3 = 1 ∨ d3 = 2 := by omega
        rcases hm with rfl | rfl | rfl
        · exact ⟨d1, rfl, by omega⟩
        · exact ⟨8, rfl, by omega⟩
        · exact ⟨d2, rfl, by omega⟩
      walk_at "ev"
      rw [g1, ofO_some]
      walk_at "ev"
      clear g1
      refine ry_expr (yes_mt ?_)
      walk_at "ev"
      refine ⟨tyD_ref e6, ?_⟩
      refine yes_mt ?_
      walk_at "ev"
      refine ⟨by first | rfl | trivial, ?_⟩
      rw [gAdd_ss (by have := hz.2.1; rw [show (":" : Str).length = 1 from by decide +kernel]; omega), ofO_some]
      walk_at "ev"
      refine yes_lcE (yes_range1 ?_)
      walk_at "ev"
      have rl : ∀ x : Nat, (rangeD 0 x).length = x := fun x => by unfold rangeD; rw [List.length_map, List.length_range]
      refine ⟨v, rfl, by omega, by omega, by rw [rl]; omega, fun i acc S' => Tp S' (n + 31 + 13 * j + 3 + i) ∧ Kx [1] S6 S' ∧ ∃ ws : List Str, acc = ws.map .str ∧ ws.length = i ∧ ∀ w ∈ ws, Ln 9 w, ⟨t6.mono (by omega), Kx.refl S6, [], rfl, rfl, fun w hw => by cases hw⟩, fun i d acc S' e1 ⟨p1, p2, ws, p3, p4, p5⟩ => ?_, fun acc S7 ⟨p1, p2, ws, p3, p4, p5⟩ => ?_⟩
      · obtain ⟨rfl, hi⟩ := range0_get e1
        refine ⟨_, rfl, ?_⟩
        unfold wipeD wipeD
        show Yes (bYes _ S') _
        unfold bYes
        rw [yes_ok, if_pos rfl]
        walk_at "ev"
        refine y_draw p1 (by omega) (by decide) (by decide) fun c S8 c0 c1 t8 k8 => ?_
        obtain ⟨w, hw⟩ : ∃ w, ns[c.toNat]? = some w := ⟨ns[c.toNat]'(by omega), List.getElem?_eq_getElem (by omega)⟩
        have ew : gIx v1 (.int c) S8 = some (.str w) := by
          rw [h1, gIx_l]
          unfold atI ixN
          rw [if_pos c0, if_pos (by rw [List.length_map, hl]; omega)]
          show ((ns.map D.str)[c.toNat]?) = _
          rw [List.getElem?_map, hw]; rfl
        rw [ew, ofO_some, yes_ok]
        refine ⟨t8, k8.kx0 p2, ws ++ [w], by rw [p3]; simp, by simp [p4], fun u hu => ?_⟩
        rcases List.mem_append.mp hu with hu | hu
        · exact p5 u hu
        · rw [List.mem_singleton.mp hu]; exact (hnm w (List.mem_of_getElem? hw)).ln.mono (by omega)
      · rw [rl] at p1 p4
        rw [p3]
        have e7 := p2.at e6 (by simp; omega)
        have hws : ∀ w ∈ (z ++ (":" : Str)) :: ws, Ln 9 w := fun w hw => by
          rcases List.mem_cons.mp hw with hw | hw
          · rw [hw]; exact hz.ln.app (m := 1) ⟨by decide +kernel, by decide +kernel⟩
          · exact p5 w hw
        have hwl : wS ((z ++ (":" : Str)) :: ws) ≤ 100 := Nat.le_trans (wS_le hws) (by rw [List.length_cons]; omega)
        rw [gAdd_ll (by rw [List.length_map]; simp; omega), ofO_some]
        walk_at "ev"
        refine ⟨_, _, gJoin_wS (ws := (z ++ (":" : Str)) :: ws) (by decide +kernel) (by omega), ?_⟩
        have hj := join_ln (m := 99) sp_tl (by decide) hws (by omega)
        generalize Txt.join " " ((z ++ (":" : Str)) :: ws) = line at hj
        refine ⟨_, _, gAppend_ref e7 (by rw [List.length_map]; omega), ⟨_, _, _, rfl⟩, ?_, ?_, ls ++ [line], ?_, by simp [q5], fun w hw => ?_⟩
        · exact ((Kx.refl (ex := [q]) S7).set (.inl (by simp))).tp (p1.mono (by omega)) (by simp; omega)
        · exact (kx6.trans p2).set (.inr hq)
        · rw [List.getElem?_set_self (List.getElem?_eq_some_iff.mp e7).1]; simp
        · rcases List.mem_append.mp hw with hw | hw
          · exact q6 w hw
          · rw [List.mem_singleton.mp hw]; exact hj
  · subst q1
    have hls : ls.length ≤ 4 := by
      rw [q5, List.length_map, List.length_take]; omega
    rw [List.length_map, List.length_take] at q2
    refine ry_frz (n := q) (xs := ls.map .str) rfl q4 (ry_ret (yes_mt ?_))
    walk_at "ev"
    refine ⟨by first | rfl | trivial, ?_⟩
    have hwl : wS ls ≤ 400 := Nat.le_trans (wS_le q6) (by omega)
    refine ⟨_, _, gJoin_wS (by decide +kernel) (by omega), ?_⟩
    refine k _ _ (join_ln nl_tl (by decide) q6 (by omega)) ?_ (q3.set (.inr hq))
    exact ((Kx.refl (ex := [q]) S').set (.inl (by simp))).tp (q2.mono (by omega)) (by simp; omega)
end
end LW
namespace LW
open PySem PySem.Spec PyProof.Rows L2 DL
local macro_rules | `(tactic| walk_at "ev") => `(tactic| try simp only [eBin, eUn, eVar, eC, aCons, aNil, eLst, eTup, eCall, eIf, eFn, bofe_bl, bTru, bNot, bAnd, bOr, yes_ok, yes_bind, ofO_some, gAdd_ii, gSub_ii, gLt_ii, gLe_ii, gGt_ii, gGe_ii, gNeg_i, gAbs_i, gInt_b, gLen_l, gLen_t, gEqH_ii, gEqH_ss, gNeH_ss, gLe_ss, gIs_bb, gIx_l, gIx_t, truB_bl, List.getElem?_cons_zero, List.getElem?_cons_succ, List.set_cons_zero, List.set_cons_succ, List.map_cons, List.map_nil, List.length_cons, List.length_nil, List.replicate_succ, List.replicate_zero, List.cons_append, List.nil_append, Nat.reduceAdd, Nat.reduceSub, Nat.zero_le, Nat.reduceLeDiff, Bool.false_eq_true, Bool.not_false, Bool.not_true, reduceIte])
local macro_rules | `(tactic| walk_at "evb") => `(tactic| try simp only [eVar, eC, aCons, aNil, eLst, eTup, eCall, eIf, eFn, bofe_bl, bTru, bNot, bAnd, bOr, yes_ok, yes_bind, ofO_some, gAdd_ii, gSub_ii, gLt_ii, gLe_ii, gGt_ii, gGe_ii, gNeg_i, gAbs_i, gInt_b, gLen_l, gLen_t, gEqH_ii, gEqH_ss, gNeH_ss, gLe_ss, gIs_bb, gIx_l, gIx_t, truB_bl, List.getElem?_cons_zero, List.getElem?_cons_succ, List.set_cons_zero, List.set_cons_succ, List.map_cons, List.map_nil, List.length_cons, List.length_nil, List.replicate_succ, List.replicate_zero, List.cons_append, List.nil_append, Nat.reduceAdd, Nat.reduceSub, Nat.zero_le, Nat.reduceLeDiff, Bool.false_eq_true, Bool.not_false, Bool.not_true, reduceIte])
local macro_rules | `(tactic| walk_at "zv") => `(tactic| try simp only [eBin, eUn, eVar, eC, aCons, aNil, eLst, eTup, eCall, eIf, eFn, yz_ok, yz_bind, ofO_some, gAdd_ii, gSub_ii, gLt_ii, gLe_ii, gLen_l, gLen_t, List.getElem?_cons_zero, List.getElem?_cons_succ, List.set_cons_zero, List.set_cons_succ, List.map_cons, List.map_nil, List.length_cons, List.length_nil, List.replicate_succ, List.replicate_zero, List.cons_append, List.nil_append, Nat.reduceAdd, Nat.reduceSub, Bool.false_eq_true, Bool.not_false, Bool.not_true, reduceIte])
theorem wS_cons (a : Str) (r : List Str) : wS (a :: r) = a.length + 1 + wS r := by unfold wS; rw [List.map_cons, List.sum_cons]
theorem wS_tk (a : List Str) (n : Nat) : wS (a.take n) ≤ wS a := by have := wS_take a n; omega
theorem wS_dr (a : List Str) (n : Nat) : wS (a.drop n) ≤ wS a := by have := wS_take a n; omega
theorem wS_td (a : List Str) (n : Nat) : wS (a.take n) + wS (a.drop (n + 1)) ≤ wS a := by
  have h1 := wS_take a n
  have h2 := wS_dr (a.drop n) 1
  rw [List.drop_drop] at h2
  omega
def odds : Str := " :\nabz  ::A0-_.,;\n"
theorem odds_ok : odds.length = 18 ∧ ∀ c ∈ odds.cps.toList, c < 128 := by decide +kernel
def bws : List Str := ["", ":", "p:", "p::", "P:", "abcdefghi", "abcdefghi:", "p\n", "1", "p1:", "-", "p:p"]
theorem bws_ok : ∀ w ∈ bws, w.length ≤ 10 ∧ ∀ c ∈ w.cps.toList, c < 128 := by decide +kernel
theorem atI_map {α : Type} {f : α → D} {xs : List α} {i : Int} {a : α} (h : atI xs i = some a) : atI (xs.map f) i = some (f a) := by
  unfold atI at h ⊢
  rw [List.length_map]
  cases e : ixN xs.length i with
  | none => rw [e] at h; cases h
  | some j =>
    rw [e] at h
    have h : xs[j]? = some a := h
    show (xs.map f)[j]? = _
    rw [List.getElem?_map, h]; rfl
section
variable {S : Store} {f : Ev D} {ρ : Env'} {Q : D → Store → Prop}
theorem yes_upper {z : Str} {j : Nat} (h0 : ρ[j]? = some (some (.str z))) (hl : z.length ≤ 100000) (k : Q (.str (Txt.upper z)) S) : Yes (eUpper (eVar j) ρ S) Q := by
  unfold eUpper eVar
  rw [h0]
  dsimp only
  rw [yes_bind, yes_ok]
  dsimp only
  rw [if_pos (by omega)]
  exact k
theorem y_bent {n m : Nat} {z : Str} (hz : Ln m z) (hm : m ≤ 2000) (t : Tp S n) (hn : n ≤ 900000) (k : ∀ w S', Ln (3 * m + 30) w → Tp S' (n + 10) → Kp S S' → Q (.str w) S') : Yes (m__law_bent [.ref 1, .str z] S) Q := by
  refine yes_fn ?_
  unfold b__law_bent
  obtain ⟨v1, h1⟩ : ∃ d, d = D.str z := ⟨_, rfl⟩
  have hl := hz.1
  have gl : ∀ {S : Store}, gLen [v1] S = some (.int (z.length : Nat)) := fun {S} => by rw [h1]; exact gLen_s (by omega)
  have gs : ∀ {S : Store} {lo hi : Option Int}, gSl S v1 lo hi = some (.str (cutS z lo hi)) := fun {S lo hi} => by rw [h1]; exact gSl_s (by omega)
  rw [← h1]
  walk_at "ev"
  refine ry_seq (ry_set ?_)
  walk_at "ev"
  rw [gl, ofO_some]
  walk_at "ev"
  refine y_draw t (by omega) (by omega) (by omega) fun a S1 a0 a1 t1 k1 => ?_
  walk_at "ev"
  refine ry_seq (ry_set ?_)
  obtain ⟨v3, h3⟩ : ∃ d, d = D.str odds := ⟨_, rfl⟩
  rw [show D.str " :\nabz  ::A0-_.,;\n" = v3 from h3.symm]
  walk_at "ev"
  refine ry_seq (ry_set ?_)
  walk_at "ev"
  rw [show gLen [v3] S1 = some (.int 18) by rw [h3, gLen_s (by rw [odds_ok.1]; decide), odds_ok.1]; rfl, ofO_some]
  walk_at "ev"
  refine y_draw t1 (by omega) (by omega) (by omega) fun b S2 b0 b1 t2 k2 => ?_
  obtain ⟨o, go, ho⟩ : ∃ o, gIx v3 (.int b) S2 = some (.str o) ∧ Ln 1 o := by
    rw [h3]; exact gIx_sign (by rw [odds_ok.1]; decide) b0 (by rw [odds_ok.1]; exact b1) odds_ok.2
  rw [go, ofO_some]
  walk_at "ev"
  refine ry_seq (ry_set (yes_split (z := z) (by rw [h1]; rfl) (by decide +kernel) (by omega) ?_))
  have sp := sp_ok z
  have swt := sp.wt
  have hws : ∀ w ∈ Txt.split z " ", Ln m w := fun w hw => ⟨by have := wS_mem hw; omega, fun c hc => hz.2 c (sp.mem w hw c hc)⟩
  have hne : 0 < (Txt.split z " ").length := List.length_pos_iff.mpr sp.ne
  have hln := wS_len (Txt.split z " ")
  generalize Txt.split z " " = ws at swt hws hne hln
  obtain ⟨v5, h5⟩ : ∃ d, d = D.list (ws.map .str) := ⟨_, rfl⟩
  rw [← h5]
  walk_at "ev"
  refine ry_seq (ry_set ?_)
  walk_at "ev"
  rw [show gLen [v5] S2 = some (.int (ws.length : Nat)) by rw [h5, gLen_l, List.length_map], ofO_some]
  walk_at "ev"
  refine y_draw t2 (by omega) (by omega) (by omega) fun c S3 c0 c1 t3 k3 => ?_
  walk_at "ev"
  refine ry_seq (ry_set ?_)
  walk_at "ev"
  refine y_draw t3 (by omega) (by decide) (by decide) fun e S4 e0 e1 t4 k4 => ?_
  obtain ⟨p, gp, hp⟩ := atI_in (xs := bws) (i := e) e0 (by exact e1)
  have gp : atI [D.str "", .str ":", .str "p:", .str "p::", .str "P:", .str "abcdefghi", .str "abcdefghi:", .str "p\n", .str "1", .str "p1:", .str "-", .str "p:p"] e = some (.str p) := atI_map gp
  have hp : Ln 10 p := bws_ok p (List.mem_of_getElem? hp)
  walk_at "ev"
  rw [gp, ofO_some]
  walk_at "ev"
  clear gp
  refine ry_seq (ry_set ?_)
  walk_at "ev"
  refine y_draw t4 (by omega) (by decide) (by decide) fun g S5 g0 g1 t5 k5 => ?_
  walk_at "ev"
  have kk : Kp S S5 := (((k1.trans k2).trans k3).trans k4).trans k5
  have give : ∀ w : Str, Ln (3 * m + 30) w → Q (.str w) S5 := fun w hw => k w S5 hw (t5.mono (by omega)) kk
  clear h3 go hne
  obtain ⟨v2, h2⟩ : ∃ d, d = D.int a := ⟨_, rfl⟩
  obtain ⟨v4, h4⟩ : ∃ d, d = D.str o := ⟨_, rfl⟩
  obtain ⟨v6, h6⟩ : ∃ d, d = D.int c := ⟨_, rfl⟩
  obtain ⟨v7, h7⟩ : ∃ d, d = D.str p := ⟨_, rfl⟩
  rw [← h2, ← h4, ← h6, ← h7]
  have len : ∀ {w : Str} {j : Nat}, Ln j w → w.length ≤ j := fun h => h.1
  refine ry_seq (ry_if ?_)
  walk_at "ev"
  have hlo := hz.cut none (some a)
  have hhi := hz.cut (some a) none
  have hhi2 := hz.cut (some (a + 1)) none
  by_cases g2 : g < 2
  · rw [decide_eq_true g2, if_pos rfl]
    refine ry_ret ?_
    walk_at "ev"
    refine yes_sl ?_
    walk_at "ev"
    refine yes_onone (yes_osome ?_)
    walk_at "ev"
    refine ⟨_, h2, _, gs, ?_⟩
    rw [h4, gAdd_ss (by have := len hlo; have := len ho; omega), ofO_some, yes_ok]
    refine yes_sl ?_
    walk_at "ev"
    refine yes_osome ?_
    walk_at "ev"
    refine ⟨_, h2, yes_onone ⟨_, gs, ?_⟩⟩
    have hx := (hlo.app ho).app hhi
    rw [gAdd_ss (by have := len (hlo.app ho); have := len hhi; omega), ofO_some, yes_ok]
    exact give _ (hx.mono (by omega))
  rw [decide_eq_false g2, if_neg (by decide)]
  refine ry_nil (ry_seq (ry_if ?_))
  walk_at "ev"
  by_cases g3 : g = 2
  · rw [decide_eq_true g3, if_pos rfl]
    refine ry_ret ?_
    walk_at "ev"
    refine yes_sl ?_
    walk_at "ev"
    refine yes_onone (yes_osome ?_)
    walk_at "ev"
    refine ⟨_, h2, _, gs, ?_⟩
    rw [h4, gAdd_ss (by have := len hlo; have := len ho; omega), ofO_some, yes_ok]
    refine yes_sl ?_
    walk_at "ev"
    refine yes_osome ?_
    rw [h2]
    walk_at "ev"
    refine ⟨_, rfl, yes_onone ⟨_, gs, ?_⟩⟩
    have hx := (hlo.app ho).app hhi2
    rw [gAdd_ss (by have := len (hlo.app ho); have := len hhi2; omega), ofO_some, yes_ok]
    exact give _ (hx.mono (by omega))
  rw [decide_eq_false g3, if_neg (by decide)]
  refine ry_nil (ry_seq (ry_if ?_))
  walk_at "ev"
  by_cases g4 : g = 3
  · rw [decide_eq_true g4, if_pos rfl]
    refine ry_ret ?_
    walk_at "ev"
    refine yes_sl ?_
    walk_at "ev"
    refine yes_onone (yes_osome ?_)
    walk_at "ev"
    refine ⟨_, h2, _, gs, ?_⟩
    refine yes_sl ?_
    walk_at "ev"
    refine yes_osome ?_
    rw [h2]
    walk_at "ev"
    refine ⟨_, rfl, yes_onone ⟨_, gs, ?_⟩⟩
    have hx := hlo.app hhi2
    rw [gAdd_ss (by have := len hlo; have := len hhi2; omega), ofO_some, yes_ok]
    exact give _ (hx.mono (by omega))
  rw [decide_eq_false g4, if_neg (by decide)]
  refine ry_nil (ry_seq (ry_if ?_))
  walk_at "ev"
  have slo : ∀ {S : Store}, gSl S v5 none (some c) = some (.list ((ws.take c.toNat).map .str)) := fun {S} => by
    rw [h5]; show some (D.list (DL.cutD _ _ _)) = _; rw [cutD_lo _ c0]
  have shi : ∀ {S : Store}, gSl S v5 (some (c + 1)) none = some (.list ((ws.drop (c.toNat + 1)).map .str)) := fun {S} => by
    rw [h5]; show some (D.list (DL.cutD _ _ _)) = _; rw [cutD_hi _ (by omega), show (c + 1).toNat = c.toNat + 1 by omega]
  have htd := wS_td ws c.toNat
  have hl1 := wS_len (ws.take c.toNat)
  have hl2 := wS_len (ws.drop (c.toNat + 1))
  by_cases g5 : g = 4
  · rw [decide_eq_true g5, if_pos rfl]
    refine ry_ret (yes_mt ?_)
    walk_at "ev"
    refine ⟨by first | rfl | trivial, ?_⟩
    refine yes_sl ?_
    walk_at "ev"
    refine yes_onone (yes_osome ?_)
    walk_at "ev"
    refine ⟨_, h6, _, slo, ?_⟩
    walk_at "ev"
    rw [h7, gAdd_ll (by rw [List.length_map]; simp; omega), ofO_some]
    walk_at "ev"
    refine yes_sl ?_
    walk_at "ev"
    refine yes_osome ?_
    rw [h6]
    walk_at "ev"
    refine ⟨_, rfl, yes_onone ⟨_, shi, ?_⟩⟩
    rw [gAdd_ll (by simp; omega), ofO_some]
    walk_at "ev"
    have ej : (ws.take c.toNat).map D.str ++ [D.str p] ++ (ws.drop (c.toNat + 1)).map D.str = (ws.take c.toNat ++ [p] ++ ws.drop (c.toNat + 1)).map D.str := by simp
    rw [ej]
    have hw : wS (ws.take c.toNat ++ [p] ++ ws.drop (c.toNat + 1)) ≤ m + 12 := by
      rw [wS_app, wS_app, wS_cons]
      have := len hp
      have : wS [] = 0 := rfl
      omega
    refine ⟨_, _, gJoin_wS (by decide +kernel) (by omega), give _ (join_ln (n := m + 10) sp_tl (by decide) (fun w hw => ?_) (by omega))⟩
    rcases List.mem_append.mp hw with hw | hw
    · rcases List.mem_append.mp hw with hw | hw
      · exact (hws w (List.mem_of_mem_take hw)).mono (by omega)
      · rw [List.mem_singleton.mp hw]; exact hp.mono (by omega)
    · exact (hws w (List.mem_of_mem_drop hw)).mono (by omega)
  rw [decide_eq_false g5, if_neg (by decide)]
  refine ry_nil (ry_seq (ry_if ?_))
  walk_at "ev"
  by_cases g6 : g = 5
  · rw [decide_eq_true g6, if_pos rfl]
    refine ry_ret (yes_mt ?_)
    walk_at "ev"
    refine ⟨by first | rfl | trivial, ?_⟩
    refine yes_sl ?_
    walk_at "ev"
    refine yes_onone (yes_osome ?_)
    walk_at "ev"
    refine ⟨_, h6, _, slo, ?_⟩
    walk_at "ev"
    refine yes_sl ?_
    walk_at "ev"
    refine yes_osome ?_
    walk_at "ev"
    refine ⟨_, h6, yes_osome ?_⟩
    rw [h6]
    walk_at "ev"
    obtain ⟨x, y, exy⟩ := cutD_map ws (some c) (some (c + 1))
    refine ⟨_, rfl, .list (((ws.drop x).take y).map .str), by rw [h5, ← exy]; rfl, ?_⟩
    refine y_draw t5 (by omega) (by decide) (by decide) fun r S6 r0 r1 t6 k6 => ?_
    rw [gMul_ii (.inl (by decide)), ofO_some]
    walk_at "ev"
    have hl3 := wS_len ((ws.drop x).take y)
    have hw3 : wS ((ws.drop x).take y) ≤ m + 1 := by
      have h1 := wS_tk (ws.drop x) y
      have h2 := wS_dr ws x
      omega
    have hm3 : ∀ w ∈ (ws.drop x).take y, Ln m w := fun w hw => hws w (List.mem_of_mem_drop (List.mem_of_mem_take hw))
    generalize (ws.drop x).take y = us at hl3 hw3 hm3
    obtain ⟨vs, e8, e9, e10⟩ : ∃ vs : List Str, (List.replicate (2 * r).toNat (us.map D.str)).flatten = vs.map D.str ∧ wS vs ≤ 2 * (m + 1) ∧ ∀ w ∈ vs, Ln m w := by
      have hr : r = 0 ∨ r = 1 := by omega
      rcases hr with rfl | rfl
      · exact ⟨[], rfl, Nat.zero_le _, fun w hw => by cases hw⟩
      · refine ⟨us ++ us, ?_, by rw [wS_app]; omega, fun w hw => ?_⟩
        · show (List.replicate 2 (us.map D.str)).flatten = _
          simp [List.replicate_succ]
        · rcases List.mem_append.mp hw with hw | hw <;> exact hm3 w hw
    have hl4 := wS_len vs
    rw [gMul_li (by omega) (by omega) (by
      rw [List.length_map]
      have : (2 * r).toNat ≤ 2 := by omega
      exact Nat.le_trans (Nat.mul_le_mul (by omega : us.length ≤ 3000) this) (by decide)), ofO_some]
    walk_at "ev"
    rw [e8, gAdd_ll (by simp; omega), ofO_some]
    walk_at "ev"
    refine yes_sl ?_
    walk_at "ev"
    refine yes_osome ?_
    walk_at "ev"
    refine ⟨_, rfl, yes_onone ⟨_, shi, ?_⟩⟩
    rw [gAdd_ll (by simp; omega), ofO_some]
    walk_at "ev"
    have ej : (ws.take c.toNat).map D.str ++ vs.map D.str ++ (ws.drop (c.toNat + 1)).map D.str = (ws.take c.toNat ++ vs ++ ws.drop (c.toNat + 1)).map D.str := by simp
    rw [ej]
    have hw : wS (ws.take c.toNat ++ vs ++ ws.drop (c.toNat + 1)) ≤ 3 * m + 3 := by
      rw [wS_app, wS_app]
      omega
    refine ⟨_, _, gJoin_wS (by decide +kernel) (by omega), k _ _ (join_ln (n := m) sp_tl (by decide) (fun w hw => ?_) (by omega)) (t6.mono (by omega)) (kk.trans k6)⟩
    rcases List.mem_append.mp hw with hw | hw
    · rcases List.mem_append.mp hw with hw | hw
      · exact hws w (List.mem_of_mem_take hw)
      · exact e10 w hw
    · exact hws w (List.mem_of_mem_drop hw)
  rw [decide_eq_false g6, if_neg (by decide)]
  refine ry_nil (ry_ret ?_)
  have nl : Ln 1 ("\n" : Str) := ⟨by decide +kernel, by decide +kernel⟩
  have sg : Ln 1 (" " : Str) := ⟨by decide +kernel, by decide +kernel⟩
  have o1 := hz.app nl
  have o2 := nl.app hz
  have o3 := hz.app sg
  have o4 := sg.app hz
  have o5 := Ln.upper hz
  have o6 := o1.app hz
  walk_at "ev"
  rw [h1]
  rw [gAdd_ss (by have := len nl; omega), ofO_some]
  walk_at "ev"
  rw [gAdd_ss (by have := len nl; omega), ofO_some]
  walk_at "ev"
  rw [gAdd_ss (by have := len sg; omega), ofO_some]
  walk_at "ev"
  rw [gAdd_ss (by have := len sg; omega), ofO_some]
  walk_at "ev"
  refine yes_upper (z := z) rfl (by omega) ?_
  walk_at "ev"
  rw [gAdd_ss (by have := len nl; omega), ofO_some]
  walk_at "ev"
  rw [gAdd_ss (by have := len o1; omega), ofO_some]
  walk_at "ev"
  refine y_draw t5 (by omega) (by decide) (by decide) fun r S6 r0 r1 t6 k6 => ?_
  obtain ⟨w, gw, hw⟩ := atI_in (xs := [z ++ "\n", "\n" ++ z, z ++ " ", " " ++ z, Txt.upper z, z ++ "\n" ++ z]) (i := r) r0 (by exact r1)
  have gw : atI [D.str (z ++ "\n"), .str ("\n" ++ z), .str (z ++ " "), .str (" " ++ z), .str (Txt.upper z), .str (z ++ "\n" ++ z)] r = some (.str w) := atI_map gw
  rw [gIx_l, gw, ofO_some, yes_ok]
  refine k w S6 ?_ (t6.mono (by omega)) (kk.trans k6)
  have hw := List.mem_of_getElem? hw
  simp only [List.mem_cons, List.not_mem_nil, or_false] at hw
  rcases hw with rfl | rfl | rfl | rfl | rfl | rfl
  · exact o1.mono (by omega)
  · exact o2.mono (by omega)
  · exact o3.mono (by omega)
  · exact o4.mono (by omega)
  · exact o5.mono (by omega)
  · exact o6.mono (by omega)
end
end LW
namespace LW
open PySem PySem.Spec PyProof.Rows L2 DL
local macro_rules | `(tactic| walk_at "ev") => `(tactic| try simp only [eBin, eUn, eVar, eC, aCons, aNil, eLst, eTup, eCall, eIf, eFn, bofe_bl, bTru, bNot, bAnd, bOr, yes_ok, yes_bind, ofO_some, gAdd_ii, gSub_ii, gLt_ii, gLe_ii, gGt_ii, gGe_ii, gNeg_i, gAbs_i, gInt_b, gLen_l, gLen_t, gEqH_ii, gEqH_ss, gNeH_ss, gLe_ss, gIs_bb, gIx_l, gIx_t, truB_bl, List.getElem?_cons_zero, List.getElem?_cons_succ, List.set_cons_zero, List.set_cons_succ, List.map_cons, List.map_nil, List.length_cons, List.length_nil, List.replicate_succ, List.replicate_zero, List.cons_append, List.nil_append, Nat.reduceAdd, Nat.reduceSub, Nat.zero_le, Nat.reduceLeDiff, Bool.false_eq_true, Bool.not_false, Bool.not_true, reduceIte])
local macro_rules | `(tactic| walk_at "evb") => `(tactic| try simp only [eVar, eC, aCons, aNil, eLst, eTup, eCall, eIf, eFn, bofe_bl, bTru, bNot, bAnd, bOr, yes_ok, yes_bind, ofO_some, gAdd_ii, gSub_ii, gLt_ii, gLe_ii, gGt_ii, gGe_ii, gNeg_i, gAbs_i, gInt_b, gLen_l, gLen_t, gEqH_ii, gEqH_ss, gNeH_ss, gLe_ss, gIs_bb, gIx_l, gIx_t, truB_bl, List.getElem?_cons_zero, List.getElem?_cons_succ, List.set_cons_zero, List.set_cons_succ, List.map_cons, List.map_nil, List.length_cons, List.length_nil, List.replicate_succ, List.replicate_zero, List.cons_append, List.nil_append, Nat.reduceAdd, Nat.reduceSub, Nat.zero_le, Nat.reduceLeDiff, Bool.false_eq_true, Bool.not_false, Bool.not_true, reduceIte])
local macro_rules | `(tactic| walk_at "zv") => `(tactic| try simp only [eBin, eUn, eVar, eC, aCons, aNil, eLst, eTup, eCall, eIf, eFn, yz_ok, yz_bind, ofO_some, gAdd_ii, gSub_ii, gLt_ii, gLe_ii, gLen_l, gLen_t, List.getElem?_cons_zero, List.getElem?_cons_succ, List.set_cons_zero, List.set_cons_succ, List.map_cons, List.map_nil, List.length_cons, List.length_nil, List.replicate_succ, List.replicate_zero, List.cons_append, List.nil_append, Nat.reduceAdd, Nat.reduceSub, Bool.false_eq_true, Bool.not_false, Bool.not_true, reduceIte])
theorem read_pre {kv : KB} {w : Str} (h : gRepr [showR (.inr kv)] [] = some (.str w)) : ∃ r, w.cps.toList = ("('read" : Str).cps.toList ++ r := by
  have h : (match toPyR (.tup [.str "read", .dict (toK kv)]) with | some p => if showOk p then some (D.str p.shown) else none | none => none) = some (.str w) := h
  have e : toPyR (.tup [.str "read", .dict (toK kv)]) = ((toPyKR (toK kv)).map PyData.dict).map fun d => PyData.tuple [.str "read", d] := by
    simp only [toPyR, toPysR]
    cases toPyKR (toK kv) <;> rfl
  rw [e] at h
  cases e2 : toPyKR (toK kv) with
  | none => rw [e2] at h; cases h
  | some kvs =>
    rw [e2] at h
    have h : (if showOk (.tuple [.str "read", .dict kvs]) then some (D.str (PyData.shown (.tuple [.str "read", .dict kvs]))) else none) = some (.str w) := h
    split at h
    · have h : PyData.shown (.tuple [.str "read", .dict kvs]) = w := by injection h with h; injection h
      rw [← h]
      have e3 : PyData.shown (.tuple [.str "read", .dict kvs]) = (("(" : Str) ++ (reprText "read" ++ (", " : Str) ++ dictText (PyData.shownKv kvs))) ++ (")" : Str) := rfl
      rw [e3]
      have tla : ∀ a b : Str, (a ++ b).cps.toList = a.cps.toList ++ b.cps.toList := fun a b => TL.tl_append a b
      rw [tla, tla, tla, tla]
      have e4 : ("(" : Str).cps.toList ++ (reprText "read").cps.toList = ("('read" : Str).cps.toList ++ [39] := by decide +kernel
      simp only [← List.append_assoc]
      rw [e4]
      simp only [List.append_assoc]
      exact ⟨_, rfl⟩
    · cases h
theorem not_line {kv : KB} {w : Str} (h : gRepr [showR (.inr kv)] [] = some (.str w)) : cutS w none (some 6) ≠ ("('line" : Str) := fun e => by
  obtain ⟨r, er⟩ := read_pre h
  have e1 : (cutS w none (some 6)).cps.toList = (w.cps.toList.drop 0).take (min 6 w.length) := by
    show (w.cps.toList.drop (HT.sIx w.length 0 none)).take (HT.sIx w.length w.length (some 6) - HT.sIx w.length 0 none) = _
    have a1 : HT.sIx w.length 0 none = 0 := rfl
    have a2 : HT.sIx w.length w.length (some 6) = min 6 w.length := HT.sIx_nat _ _ 6
    rw [a1, a2, Nat.sub_zero]
  have hl : 6 ≤ w.length := by
    rw [← len_toList, er, List.length_append]
    have : ("('read" : Str).cps.toList.length = 6 := by decide +kernel
    omega
  rw [e, List.drop_zero, Nat.min_eq_left hl, er, List.take_append_of_le_length (by decide +kernel)] at e1
  revert e1
  decide +kernel
theorem y_bl {o : Out D} {Q : D → Store → Prop} {b : D} (h : Yes o fun d S => Q d S) : Yes o Q := h
section
variable {S : Store} {f : Ev D} {ρ : Env'} {Q : D → Store → Prop}
/-- what is heard of a text by read_bodies -/
theorem y_lam_read {z w : Str} (hl : z.length ≤ 9000) (e6 : ρ[6]? = some (some (.str z))) (ht : S[0]? = some (.tab "law")) (hw : ∀ S, gRepr [showR (rdT z)] S = some (.str w)) (k : ∀ S', Kx [] S S' → Q (.str w) S') : Yes (eLam 0 "law" mL__law_heard (eFn m_read_bodies (aCons (eVar 6) aNil)) ρ S) Q := by
  refine yes_lam ht (y_heard (R := rdT z) (P := Kx [] S) ?_ hw k)
  unfold eFn aCons eVar aNil
  rw [e6]
  walk_at "zv"
  exact yz_read hl (fun kv S' e _ kx => ⟨kv, e, rfl, kx⟩) fun l w' S' e kx => ⟨l, w', e, rfl, rfl, kx⟩
theorem y_lam_table {z w : Str} {l w' : Nat} (hl : z.length ≤ 9000) (e6 : ρ[6]? = some (some (.str z))) (ht : S[0]? = some (.tab "law")) (hr : rdT z = .inl (l, w')) (hw : ∀ S, gRepr [showR (rdT z)] S = some (.str w)) (k : ∀ S', Kx [] S S' → Q (.str w) S') : Yes (eLam 0 "law" mL__law_heard (eCMeth "Table" (mN 2 m_Table_read) (eC (.cls "Table")) (aCons (eVar 6) aNil)) ρ S) Q := by
  refine yes_lam ht (y_heard (R := rdT z) (P := Kx [] S) ?_ hw k)
  unfold eCMeth aCons eVar aNil
  rw [e6]
  walk_at "zv"
  unfold mN
  rw [if_pos (by rfl)]
  refine yz_fn ?_
  unfold b_Table_read
  walk_at "zv"
  refine rz_seq (rz_set ?_)
  unfold eFn aCons eVar aNil
  walk_at "zv"
  refine yz_read hl (fun kv S' e _ kx => ?_) fun l w' S' e kx => ⟨l, w', e, rfl, rfl, kx⟩
  rw [hr] at e
  cases e
/-- what is done with one text -/
def turn : Stm := (sSeq (sSet 7 (eFn m__law_due (aCons (eVar 6) aNil)))
 (sSeq (sIf (bOfE (eBin gNeH (eLam 0 "law" mL__law_heard (eFn m_read_bodies (aCons (eVar 6) aNil))) (eVar 7)))
 (sRet (eC (.bl false)))
 sNil)
 (sSeq (sIf (bOfE (eBin gNeH (eLam 0 "law" mL__law_heard (eFn m_read_bodies (aCons (eVar 6) aNil))) (eVar 7)))
 (sRet (eC (.bl false)))
 sNil)
 (sIf (bAnd (bOfE (eBin gEqH (eSl (eVar 7) oNone (oSome (eC (.int 6)))) (eC (.str "('line")))) (bOfE (eBin gNeH (eLam 0 "law" mL__law_heard (eCMeth "Table" (mN 2 m_Table_read) (eC (.cls "Table")) (aCons (eVar 6) aNil))) (eVar 7))))
 (sRet (eC (.bl false)))
 sNil))))
theorem ry_turn {z : Str} {x0 x1 x2 x3 x4 x5 x7 x8 x9 : Option D} {N B C : Env' → Store → Prop} (hl : z.length ≤ 9000) (ht : S[0]? = some (.tab "law"))
    (k : ∀ w S', Kx [] S S' → N [x0, x1, x2, x3, x4, x5, some (.str z), some (.str w), x8, x9] S') : RY (turn [x0, x1, x2, x3, x4, x5, some (.str z), x7, x8, x9] S) N Q B C := by
  unfold turn
  obtain ⟨v6, h6⟩ : ∃ d, d = D.str z := ⟨_, rfl⟩
  rw [← h6]
  refine ry_seq (ry_set ?_)
  walk_at "ev"
  rw [h6]
  refine y_due hl fun w S1 ok hw k1 => ?_
  rw [← h6]
  walk_at "ev"
  obtain ⟨v7, h7⟩ : ∃ d, d = D.str w := ⟨_, rfl⟩
  rw [← h7]
  have ne : ∀ {S : Store}, gNeH (.str w) v7 S = some (.bl false) := fun {S} => by rw [h7, gNeH_ss]; simp
  have t1 := k1.at ht (by simp)
  refine ry_seq (ry_if ?_)
  rw [bofe_bl]
  unfold eBin
  rw [yes_bind]
  refine y_lam_read hl (by rw [h6]; rfl) t1 hw fun S2 k2 => ?_
  walk_at "ev"
  rw [ne, ofO_some]
  walk_at "ev"
  have t2 := k2.at t1 (by simp)
  refine ry_nil (ry_seq (ry_if ?_))
  rw [bofe_bl, yes_bind]
  refine y_lam_read hl (by rw [h6]; rfl) t2 hw fun S3 k3 => ?_
  walk_at "ev"
  rw [ne, ofO_some]
  walk_at "ev"
  have t3 := k3.at t2 (by simp)
  have kx3 := (k1.trans k2).trans k3
  refine ry_nil (ry_if ?_)
  unfold bAnd
  rw [yes_bind, bofe_bl, yes_bind]
  have hwl : w.length ≤ 16777216 := by
    have h := hw []
    unfold gRepr at h
    dsimp only at h
    split at h
    · split at h
      · next p _ hs =>
        have h : p.shown = w := by injection h with h; injection h
        unfold showOk at hs
        simp only [Bool.and_eq_true, decide_eq_true_eq] at hs
        rw [← h]; exact hs.2
      · cases h
    · cases h
  refine yes_sl ?_
  walk_at "ev"
  refine yes_onone (yes_osome ?_)
  walk_at "ev"
  refine ⟨_, rfl, .str (cutS w none (some 6)), by rw [h7]; exact gSl_s hwl, ?_⟩
  walk_at "ev"
  have fin : ∀ S', Kx [] S S' → RY (sNil [x0, x1, x2, x3, x4, x5, some v6, some v7, x8, x9] S') N Q B C := fun S' kx => ry_nil (by rw [h6, h7]; exact k w S' kx)
  cases hr : rdT z with
  | inr kv =>
    rw [hr] at hw
    rw [decide_eq_false (not_line (hw []))]
    walk_at "ev"
    exact fin _ kx3
  | inl p =>
    obtain ⟨l, w'⟩ := p
    by_cases e : cutS w none (some 6) = ("('line" : Str)
    · rw [decide_eq_true e]
      walk_at "ev"
      refine y_lam_table hl (by rw [h6]; rfl) t3 hr hw fun S4 k4 => ?_
      rw [h7, gNeH_ss, ofO_some]
      walk_at "ev"
      rw [decide_eq_true True.intro]
      walk_at "ev"
      rw [← h7]
      exact fin _ (kx3.trans k4)
    · rw [decide_eq_false e]
      walk_at "ev"
      exact fin _ kx3
end
def six : List Str := ["\n", "p:  q", "p: q ", ":", "p :", "p: p p p p p p p p p"]
def six_w : List Str := ["('line', 0, 0)", "('line', 0, 1)", "('line', 0, 2)", "('line', 0, 0)", "('line', 0, 0)", "('line', 0, 9)"]
def six_r : List (Nat × Nat) := [(0, 0), (0, 1), (0, 2), (0, 0), (0, 0), (0, 9)]
end LW
namespace LW
open PySem PySem.Spec PyProof.Rows L2 DL
local macro_rules | `(tactic| walk_at "ev") => `(tactic| try simp only [eBin, eUn, eVar, eC, aCons, aNil, eLst, eTup, eCall, eIf, eFn, bofe_bl, bTru, bNot, bAnd, bOr, yes_ok, yes_bind, ofO_some, gAdd_ii, gSub_ii, gLt_ii, gLe_ii, gGt_ii, gGe_ii, gNeg_i, gAbs_i, gInt_b, gLen_l, gLen_t, gEqH_ii, gEqH_ss, gNeH_ss, gLe_ss, gIs_bb, gIx_l, gIx_t, truB_bl, List.getElem?_cons_zero, List.getElem?_cons_succ, List.set_cons_zero, List.set_cons_succ, List.map_cons, List.map_nil, List.length_cons, List.length_nil, List.replicate_succ, List.replicate_zero, List.cons_append, List.nil_append, Nat.reduceAdd, Nat.reduceSub, Nat.zero_le, Nat.reduceLeDiff, Bool.false_eq_true, Bool.not_false, Bool.not_true, reduceIte])
local macro_rules | `(tactic| walk_at "evb") => `(tactic| try simp only [eVar, eC, aCons, aNil, eLst, eTup, eCall, eIf, eFn, bofe_bl, bTru, bNot, bAnd, bOr, yes_ok, yes_bind, ofO_some, gAdd_ii, gSub_ii, gLt_ii, gLe_ii, gGt_ii, gGe_ii, gNeg_i, gAbs_i, gInt_b, gLen_l, gLen_t, gEqH_ii, gEqH_ss, gNeH_ss, gLe_ss, gIs_bb, gIx_l, gIx_t, truB_bl, List.getElem?_cons_zero, List.getElem?_cons_succ, List.set_cons_zero, List.set_cons_succ, List.map_cons, List.map_nil, List.length_cons, List.length_nil, List.replicate_succ, List.replicate_zero, List.cons_append, List.nil_append, Nat.reduceAdd, Nat.reduceSub, Nat.zero_le, Nat.reduceLeDiff, Bool.false_eq_true, Bool.not_false, Bool.not_true, reduceIte])
local macro_rules | `(tactic| walk_at "zv") => `(tactic| try simp only [eBin, eUn, eVar, eC, aCons, aNil, eLst, eTup, eCall, eIf, eFn, yz_ok, yz_bind, ofO_some, gAdd_ii, gSub_ii, gLt_ii, gLe_ii, gLen_l, gLen_t, List.getElem?_cons_zero, List.getElem?_cons_succ, List.set_cons_zero, List.set_cons_succ, List.map_cons, List.map_nil, List.length_cons, List.length_nil, List.replicate_succ, List.replicate_zero, List.cons_append, List.nil_append, Nat.reduceAdd, Nat.reduceSub, Bool.false_eq_true, Bool.not_false, Bool.not_true, reduceIte])
def isL : (Nat × Nat) ⊕ KB → Nat × Nat → Bool
  | .inl p, q => p == q
  | _, _ => false
theorem six_rd {i : Nat} {z : Str} {p : Nat × Nat} (e1 : six[i]? = some z) (e2 : six_r[i]? = some p) : rdT z = .inl p := by
  have h : ∀ q ∈ six.zip six_r, isL (rdT q.1) q.2 = true := by decide +kernel
  have hz : (six.zip six_r)[i]? = some (z, p) := List.getElem?_zip_eq_some.mpr ⟨e1, e2⟩
  have h := h _ (List.mem_of_getElem? hz)
  dsimp only at h
  cases e : rdT z with
  | inl a =>
    rw [e] at h
    have h : (a == p) = true := h
    rw [eq_of_beq h]
  | inr kv => rw [e] at h; cases h
theorem six_sh {i : Nat} {p : Nat × Nat} {w : Str} (e1 : six_r[i]? = some p) (e2 : six_w[i]? = some w) {S : Store} : gRepr [showR (.inl p)] S = some (.str w) := by
  have h : ∀ q ∈ six_r.zip six_w, (match toPyR (showR (.inl q.1)) with | some p => if showOk p then some p.shown else none | none => none) = some q.2 := by decide +kernel
  have hz : (six_r.zip six_w)[i]? = some (p, w) := List.getElem?_zip_eq_some.mpr ⟨e1, e2⟩
  have h := h _ (List.mem_of_getElem? hz)
  show (match toPyR (showR (.inl p)) with | some p => if showOk p then some (D.str p.shown) else none | none => none) = _
  dsimp only at h
  cases e : toPyR (showR (.inl p)) with
  | none => rw [e] at h; cases h
  | some q =>
    rw [e] at h
    dsimp only at h ⊢
    split at h
    · next hs => rw [if_pos hs]; injection h with h; rw [h]
    · cases h
theorem six_okc : ∀ z ∈ six_w, Okc z := by
  have h : ∀ z ∈ six_w, ∀ c ∈ z.cps.toList, c < 1114112 := by decide +kernel
  exact h
theorem yes_fin {o : Out D} (h : Yes o fun d S => d = .bl true) : ∃ S, o = .ok (.bl true) S := by
  cases o with
  | ok a S => have h : a = .bl true := h; subst h; exact ⟨S, rfl⟩
  | _ => exact h.elim
theorem good : GoodT 63 tabYs m_law := by
  intro ns hn
  have main : Yes (m_law [.rd (ns.map .int)] (tabYs.map .tab)) fun d S => d = .bl true := by
    refine yes_fn ?_
    unfold b_law
    walk_at "ev"
    refine ry_seq (ry_set ?_)
    walk_at "ev"
    refine y_pen ?_
    walk_at "ev"
    have t0 : Tp (tabYs.map .tab ++ [tape (ns.take 63) 0 0]) (200 * 0) := ⟨_, 0, 0, rfl, by decide, by decide, by decide⟩
    have b0 : (tabYs.map SO.tab ++ [tape (ns.take 63) 0 0])[0]? = some (.tab "law") := rfl
    show RY _ _ _ _ _
    have el : (tabYs.map SO.tab).length = 1 := rfl
    rw [el]
    generalize tabYs.map SO.tab ++ [tape (ns.take 63) 0 0] = S0 at t0 b0
    refine ry_seq (ry_for (fun i ρ S => (∃ x2 x3 x4 x5 x6 x7 x8 x9, ρ = [some (.rd (ns.map .int)), some (.ref 1), x2, x3, x4, x5, x6, x7, x8, x9]) ∧ Tp S (200 * i) ∧ S[0]? = some (.tab "law")) (rangeD 0 12) (yes_range1 ?_) (fun i d ρ S e ⟨⟨x2, x3, x4, x5, x6, x7, x8, x9, q1⟩, q2, q3⟩ => ?_) fun ρ S ⟨⟨x2, x3, x4, x5, x6, x7, x8, x9, q1⟩, q2, q3⟩ => ?_)
    · walk_at "ev"
      exact ⟨_, by first | rfl | trivial, by decide, by decide, by first | rfl | trivial, ⟨_, _, _, _, _, _, _, _, rfl⟩, t0, b0⟩
    · obtain ⟨rfl, hlt⟩ := range0_get e
      have hi : i < 12 := hlt
      subst q1
      refine ⟨_, rfl, ?_⟩
      walk_at "ev"
      refine ry_seq (ry_set ?_)
      walk_at "ev"
      refine y_told q2 (by omega) fun z1 S1 l1 t1 k1 => ?_
      obtain ⟨v1, h1⟩ : ∃ d, d = D.str z1 := ⟨_, rfl⟩
      rw [← h1]
      walk_at "ev"
      refine ry_seq (ry_set ?_)
      walk_at "ev"
      rw [h1]
      refine y_bent l1 (by decide) t1 (by omega) fun z2 S2 l2 t2 k2 => ?_
      obtain ⟨v2, h2⟩ : ∃ d, d = D.str z2 := ⟨_, rfl⟩
      rw [← h1, ← h2]
      walk_at "ev"
      refine ry_forE (yes_iany ?_)
      walk_at "ev"
      rw [h2]
      refine y_bent l2 (by decide) t2 (by omega) fun z3 S3 l3 t3 k3 => ?_
      walk_at "ev"
      have q4 : S3[0]? = some (.tab "law") := k3.at (by decide) (k2.at (by decide) (k1.at q3 (by decide)))
      refine ⟨fun j ρ S => (∃ x6 x7 x8 x9, ρ = [some (.rd (ns.map .int)), some (.ref 1), some (.int (i : Nat)), some v1, x4, some v2, x6, x7, x8, x9]) ∧ Tp S (200 * (i + 1)) ∧ S[0]? = some (.tab "law"), ⟨⟨_, _, _, _, by rw [h2]⟩, t3.mono (by omega), q4⟩, fun j d ρ S e ⟨⟨x6, x7, x8, x9, p1⟩, p2, p3⟩ => ?_, fun ρ S ⟨⟨x6, x7, x8, x9, p1⟩, p2, p3⟩ => ?_⟩
      · obtain ⟨z, hz, rfl⟩ : ∃ z : Str, z.length ≤ 9000 ∧ d = .str z := by
          have hd := List.mem_of_getElem? e
          rw [h1] at hd
          simp only [List.mem_cons, List.not_mem_nil, or_false] at hd
          rcases hd with rfl | rfl | rfl
          · exact ⟨z1, by have := l1.1; omega, rfl⟩
          · exact ⟨z2, by have := l2.1; omega, rfl⟩
          · exact ⟨z3, by have := l3.1; omega, rfl⟩
        subst p1
        refine ⟨[some (.rd (ns.map .int)), some (.ref 1), some (.int (i : Nat)), some v1, x4, some v2, some (.str z), x7, x8, x9], rfl, ?_⟩
        exact ry_turn hz p3 fun w S' kx => ⟨⟨_, _, _, _, rfl⟩, kx.tp p2 (by simp), kx.at p3 (by simp)⟩
      · subst p1
        exact ⟨⟨_, _, _, _, _, _, _, _, rfl⟩, p2, p3⟩
    · subst q1
      have rl : ∀ x : Nat, (rangeD 0 x).length = x := fun x => by unfold rangeD; rw [List.length_map, List.length_range]
      refine ry_seq (ry_set (yes_lcE (yes_iany ?_)))
      walk_at "ev"
      refine ⟨by decide, fun i acc S => acc = (six_w.take i).map .str, rfl, fun i d acc S e p => ?_, fun acc S p => ?_⟩
      · have e : (six.map D.str)[i]? = some d := e
        rw [List.getElem?_map] at e
        cases ez : six[i]? with
        | none => rw [ez] at e; cases e
        | some z =>
          rw [ez] at e
          cases e
          have hi : i < 6 := (List.getElem?_eq_some_iff.mp ez).1
          obtain ⟨w, ew⟩ : ∃ w, six_w[i]? = some w := ⟨six_w[i]'hi, List.getElem?_eq_getElem hi⟩
          obtain ⟨r, er⟩ : ∃ r, six_r[i]? = some r := ⟨six_r[i]'hi, List.getElem?_eq_getElem hi⟩
          have erd : rdT z = .inl r := six_rd ez er
          refine ⟨_, rfl, ?_⟩
          unfold wipeD wipeD
          show Yes (bYes _ S) _
          unfold bYes
          rw [yes_ok, if_pos rfl]
          walk_at "ev"
          refine y_due ?_ fun w' S' _ hw _ => ?_
          · have h : ∀ z ∈ six, z.length ≤ 9000 := by decide +kernel
            exact h z (List.mem_of_getElem? ez)
          · have h := hw []
            rw [erd, six_sh er ew] at h
            have h : w = w' := by injection h with h; injection h
            subst h
            rw [p, List.take_add_one, ew]
            simp
      · have p : acc = six_w.map .str := p
        subst p
        obtain ⟨v3, h3⟩ : ∃ d, d = D.list (six_w.map .str) := ⟨_, rfl⟩
        rw [← h3]
        walk_at "ev"
        refine ry_seq (ry_set ?_)
        walk_at "ev"
        refine ry_ret ?_
        walk_at "ev"
        refine yes_lcE (yes_iany ?_)
        walk_at "ev"
        refine ⟨by decide, fun i acc S => acc = (six_w.take i).map .str, rfl, fun i d acc S e p => ?_, fun acc S p => ?_⟩
        · have e : (six_r.map fun p => D.tup [.int (p.1 : Nat), .int (p.2 : Nat)])[i]? = some d := e
          rw [List.getElem?_map] at e
          cases er : six_r[i]? with
          | none => rw [er] at e; cases e
          | some r =>
            rw [er] at e
            cases e
            have hi : i < 6 := (List.getElem?_eq_some_iff.mp er).1
            obtain ⟨w, ew⟩ : ∃ w, six_w[i]? = some w := ⟨six_w[i]'hi, List.getElem?_eq_getElem hi⟩
            refine ⟨[some (.rd (ns.map .int)), some (.ref 1), x2, some v3, some (.list (six_r.map fun p => D.tup [.int (p.1 : Nat), .int (p.2 : Nat)])), x5, x6, x7, some (.int (r.1 : Nat)), some (.int (r.2 : Nat))], rfl, ?_⟩
            show Yes (bYes _ S) _
            unfold bYes
            rw [yes_ok, if_pos rfl]
            walk_at "ev"
            rw [show gRepr [D.tup [.str "line", .int (r.1 : Nat), .int (r.2 : Nat)]] S = some (.str w) from six_sh er ew, ofO_some, yes_ok]
            rw [p, List.take_add_one, ew]
            simp
        · have p : acc = six_w.map .str := p
          subst p
          rw [h3]
          unfold gEqH
          rw [eqH_lists six_okc six_okc]
          walk_at "ev"
          simp
          rfl
  exact yes_fin main
end LW
namespace EW
open PySem PySem.Spec PyProof.Rows L2 DL
def ch0 : List (PySem.W.Frag → Bool) := [fun K => He.eqO (PySem.W.nsIn K mainGlobals "Table") (some (some (.ref (He.ga K "Table")))),
  fun K => PySem.W.plainGet K (He.ga K "Table") Str.empty,
  fun K => PySem.W.hasDictIn K (He.ga K "Table"),
  fun K => PySem.W.plainOver K (He.ga K "Table"),
  fun K => He.eqO (PySem.W.findIn K (.ref (He.ga K "Table")) "__setattr__") (some (some (.builtin "object.__setattr__"))),
  fun K => He.eqO (PySem.W.nsIn K mainGlobals "Clash") (some (some (.ref (He.ga K "Clash")))),
  fun K => He.eqO (PySem.W.nsIn K mainGlobals "Doubling") (some (some (.ref (He.ga K "Doubling")))),
  fun K => He.eqO (PySem.W.nsIn K mainGlobals "InvalidBody") (some (some (.ref (He.ga K "InvalidBody")))),
  fun K => He.eqO (PySem.W.nsIn K mainGlobals "InvalidCapacity") (some (some (.ref (He.ga K "InvalidCapacity")))),
  fun K => He.eqO (PySem.W.nsIn K mainGlobals "InvalidEdit") (some (some (.ref (He.ga K "InvalidEdit")))),
  fun K => He.eqO (PySem.W.nsIn K mainGlobals "InvalidName") (some (some (.ref (He.ga K "InvalidName")))),
  fun K => He.eqO (PySem.W.nsIn K mainGlobals "InvalidTrail") (some (some (.ref (He.ga K "InvalidTrail")))),
  fun K => He.eqO (PySem.W.nsIn K mainGlobals "ParseError") (some (some (.ref (He.ga K "ParseError")))),
  fun K => He.eqO (PySem.W.nsIn K mainGlobals "PassError") (some (some (.ref (He.ga K "PassError")))),
  fun K => He.eqO (PySem.W.nsIn K mainGlobals "Taken") (some (some (.ref (He.ga K "Taken")))),
  fun K => He.eqO (PySem.W.nsIn K mainGlobals "UnknownCommand") (some (some (.ref (He.ga K "UnknownCommand")))),
  fun K => He.eqO (PySem.W.specialIn K (.builtin "object.__class__") "__get__") (some (some (.builtin "getset_descriptor.__get__"))),
  fun K => HB.eqB (PySem.W.takesIn K (.builtin "object.__class__")) (some true),
  fun K => PySem.W.hasDictIn K (He.ga K "ParseError"),
  fun K => HB.eqB (PySem.W.subIn K (.ref (He.ga K "ParseError")) (.type "BaseException")) (some true),
  fun K => HB.eqV (PySem.W.typeIn K (.ref (He.ga K "ParseError"))) (some (.type "type")),
  fun K => PySem.W.keepIn K (.ref (He.ga K "ParseError")),
  fun K => PySem.W.isClsIn K (He.ga K "ParseError"),
  fun K => He.eqO (PySem.W.findIn K (.ref (He.ga K "ParseError")) "__getattribute__") (some (some (.builtin "BaseException.__getattribute__"))),
  fun K => He.eqO (PySem.W.findIn K (.ref (He.ga K "ParseError")) "__getattr__") (some none),
  fun K => He.eqO (PySem.W.findIn K (.ref (He.ga K "ParseError")) "__class__") (some (some (.builtin "object.__class__"))),
  fun K => HB.eqB (PySem.W.mroIn K (He.ga K "ParseError") (.type "object")) (some true),
  fun K => PySem.W.excInitIn K (He.ga K "ParseError") bmV "ValueError.__new__",
  fun K => PySem.W.excOver K (He.ga K "ParseError") bmV,
  fun K => He.eqO (PySem.W.findIn K (.ref (He.ga K "ParseError")) "__setattr__") (some (some (.builtin "object.__setattr__")))]
def ch1 : List (PySem.W.Frag → Bool) := [fun K => He.eqO (PySem.W.findIn K (.ref (He.ga K "ParseError")) "__init__") (some (some (.ref (He.ma K (He.ga K "ParseError") "__init__")))),
  fun K => HB.eqV (PySem.W.typeIn K (.ref (He.ma K (He.ga K "ParseError") "__init__"))) (some (.type "function")),
  fun K => PySem.W.keepIn K (.ref (He.ma K (He.ga K "ParseError") "__init__")),
  fun K => He.eqO (PySem.W.findIn K (.ref (He.ga K "ParseError")) "line") (some none),
  fun K => He.eqO (PySem.W.findIn K (.ref (He.ga K "ParseError")) "word") (some none),
  fun K => HB.eqB (PySem.W.exmAny K (.ref (He.ga K "ParseError")) [.ref (He.ga K "PassError")]) (some true),
  fun K => HB.eqB (PySem.W.kitOne K (.ref (He.ga K "ParseError")) (.ref (He.ga K "Clash"))) (some false),
  fun K => HB.eqB (PySem.W.kitOne K (.ref (He.ga K "ParseError")) (.ref (He.ga K "Doubling"))) (some false),
  fun K => HB.eqB (PySem.W.kitOne K (.ref (He.ga K "ParseError")) (.ref (He.ga K "InvalidBody"))) (some false),
  fun K => HB.eqB (PySem.W.kitOne K (.ref (He.ga K "ParseError")) (.ref (He.ga K "InvalidCapacity"))) (some false),
  fun K => HB.eqB (PySem.W.kitOne K (.ref (He.ga K "ParseError")) (.ref (He.ga K "InvalidEdit"))) (some false),
  fun K => HB.eqB (PySem.W.kitOne K (.ref (He.ga K "ParseError")) (.ref (He.ga K "InvalidName"))) (some false),
  fun K => HB.eqB (PySem.W.kitOne K (.ref (He.ga K "ParseError")) (.ref (He.ga K "InvalidTrail"))) (some false),
  fun K => HB.eqB (PySem.W.kitOne K (.ref (He.ga K "ParseError")) (.ref (He.ga K "ParseError"))) (some true),
  fun K => HB.eqB (PySem.W.kitOne K (.ref (He.ga K "ParseError")) (.ref (He.ga K "Taken"))) (some false),
  fun K => HB.eqB (PySem.W.kitOne K (.ref (He.ga K "ParseError")) (.ref (He.ga K "UnknownCommand"))) (some false),
  fun K => He.eqO (PySem.W.nsIn K mainGlobals "is_name") (some (some (.ref (He.ga K "is_name")))),
  fun K => PySem.W.keepIn K (.ref (He.ga K "is_name")),
  fun K => He.eqO (PySem.W.nsIn K mainGlobals "read_bodies") (some (some (.ref (He.ga K "read_bodies")))),
  fun K => PySem.W.keepIn K (.ref (He.ga K "read_bodies")),
  fun K => PySem.W.readsIn K (He.ga K "Table") (.type "type"),
  fun K => He.eqO (PySem.W.specialIn K (.ref (He.ga K "Table")) "__getattribute__") (some (some (.builtin "type.__getattribute__"))),
  fun K => HB.cmB K (He.ga K "Table") "read",
  fun K => HB.recB K (HB.cmA K (He.ga K "Table") "read") "classmethod",
  fun K => PySem.W.fnIn K (HB.recA K (HB.cmA K (He.ga K "Table") "read") "classmethod"),
  fun K => PySem.W.keepIn K (.ref (HB.recA K (HB.cmA K (He.ga K "Table") "read") "classmethod")),
  fun K => He.eqO (PySem.W.nsIn K mainGlobals "_law_draw") (some (some (.ref (He.ga K "_law_draw")))),
  fun K => PySem.W.keepIn K (.ref (He.ga K "_law_draw")),
  fun K => He.eqO (PySem.W.nsIn K mainGlobals "_law_bent") (some (some (.ref (He.ga K "_law_bent")))),
  fun K => PySem.W.keepIn K (.ref (He.ga K "_law_bent"))]
def ch2 : List (PySem.W.Frag → Bool) := [fun K => He.eqO (PySem.W.nsIn K mainGlobals "_law_is_word") (some (some (.ref (He.ga K "_law_is_word")))),
  fun K => PySem.W.keepIn K (.ref (He.ga K "_law_is_word")),
  fun K => He.eqO (PySem.W.nsIn K mainGlobals "_law_due") (some (some (.ref (He.ga K "_law_due")))),
  fun K => PySem.W.keepIn K (.ref (He.ga K "_law_due")),
  fun K => He.eqO (PySem.W.nsIn K mainGlobals "_law_heard") (some (some (.ref (He.ga K "_law_heard")))),
  fun K => PySem.W.keepIn K (.ref (He.ga K "_law_heard")),
  fun K => He.eqO (PySem.W.nsIn K mainGlobals "_law_pen") (some (some (.ref (He.ga K "_law_pen")))),
  fun K => PySem.W.keepIn K (.ref (He.ga K "_law_pen")),
  fun K => He.eqO (PySem.W.nsIn K mainGlobals "_law_pool") (some (some (.ref (He.ga K "_law_pool")))),
  fun K => PySem.W.keepIn K (.ref (He.ga K "_law_pool")),
  fun K => He.eqO (PySem.W.nsIn K mainGlobals "_law_told") (some (some (.ref (He.ga K "_law_told")))),
  fun K => PySem.W.keepIn K (.ref (He.ga K "_law_told")),
  fun K => He.eqO (PySem.W.nsIn K mainGlobals "law") (some (some (.ref (He.ga K "law")))),
  fun K => PySem.W.keepIn K (.ref (He.ga K "law")),
  fun K => HB.strB (PySem.W.nsIn K mainGlobals "LETTERS") "abcdefghijklmnopqrstuvwxyz",
  fun K => HB.intB (PySem.W.nsIn K mainGlobals "MOST_DEFINED") 10,
  fun K => HB.intB (PySem.W.nsIn K mainGlobals "MOST_LETTERS") 8,
  fun K => HB.intB (PySem.W.nsIn K mainGlobals "MOST_PLACES") 8,
  fun K => He.eqO (PySem.W.nsIn K mainGlobals "abs") (some none),
  fun K => He.eqO (PySem.W.nsIn K mainGlobals "all") (some none),
  fun K => He.eqO (PySem.W.nsIn K mainGlobals "enumerate") (some none),
  fun K => He.eqO (PySem.W.nsIn K mainGlobals "int") (some none),
  fun K => He.eqO (PySem.W.nsIn K mainGlobals "isinstance") (some none),
  fun K => He.eqO (PySem.W.nsIn K mainGlobals "len") (some none),
  fun K => He.eqO (PySem.W.nsIn K mainGlobals "list") (some none),
  fun K => He.eqO (PySem.W.nsIn K mainGlobals "range") (some none),
  fun K => He.eqO (PySem.W.nsIn K mainGlobals "repr") (some none),
  fun K => He.eqO (PySem.W.nsIn K mainGlobals "str") (some none),
  fun K => He.eqO (PySem.W.nsIn K mainGlobals "tuple") (some none)]
def fn0 : List (HB.FnO) := [⟨fun K => (He.ma K (He.ga K "ParseError") "__init__"), "__init__", "ParseError.__init__", defArgs LW.s_ParseError___init__, defBody LW.s_ParseError___init__, defScope LW.s_ParseError___init__⟩,
  ⟨fun K => (He.ga K "is_name"), "is_name", "is_name", defArgs LW.s_is_name, defBody LW.s_is_name, defScope LW.s_is_name⟩,
  ⟨fun K => (He.ga K "read_bodies"), "read_bodies", "read_bodies", defArgs LW.s_read_bodies, defBody LW.s_read_bodies, defScope LW.s_read_bodies⟩,
  ⟨fun K => (HB.recA K (HB.cmA K (He.ga K "Table") "read") "classmethod"), "read", "Table.read", defArgs LW.s_Table_read, defBody LW.s_Table_read, defScope LW.s_Table_read⟩,
  ⟨fun K => (He.ga K "_law_draw"), "_law_draw", "_law_draw", defArgs LW.s__law_draw, defBody LW.s__law_draw, defScope LW.s__law_draw⟩,
  ⟨fun K => (He.ga K "_law_bent"), "_law_bent", "_law_bent", defArgs LW.s__law_bent, defBody LW.s__law_bent, defScope LW.s__law_bent⟩,
  ⟨fun K => (He.ga K "_law_is_word"), "_law_is_word", "_law_is_word", defArgs LW.s__law_is_word, defBody LW.s__law_is_word, defScope LW.s__law_is_word⟩,
  ⟨fun K => (He.ga K "_law_due"), "_law_due", "_law_due", defArgs LW.s__law_due, defBody LW.s__law_due, defScope LW.s__law_due⟩,
  ⟨fun K => (He.ga K "_law_heard"), "_law_heard", "_law_heard", defArgs LW.s__law_heard, defBody LW.s__law_heard, defScope LW.s__law_heard⟩,
  ⟨fun K => (He.ga K "_law_pen"), "_law_pen", "_law_pen", defArgs LW.s__law_pen, defBody LW.s__law_pen, defScope LW.s__law_pen⟩,
  ⟨fun K => (He.ga K "_law_pool"), "_law_pool", "_law_pool", defArgs LW.s__law_pool, defBody LW.s__law_pool, defScope LW.s__law_pool⟩,
  ⟨fun K => (He.ga K "_law_told"), "_law_told", "_law_told", defArgs LW.s__law_told, defBody LW.s__law_told, defScope LW.s__law_told⟩,
  ⟨fun K => (He.ga K "law"), "law", "law", defArgs LW.s_law, defBody LW.s_law, defScope LW.s_law⟩]
def lo0 : List (PySem.Str) := ["_wall",
  "PassError",
  "InvalidName",
  "InvalidBody",
  "InvalidCapacity",
  "InvalidTrail",
  "InvalidEdit",
  "Doubling",
  "Clash",
  "Taken",
  "ParseError",
  "UnknownCommand",
  "SizeError",
  "TooLong",
  "Full",
  "AbsentError",
  "NotDefined",
  "NoPlace",
  "UndoError",
  "NothingToUndo",
  "MOST_LETTERS",
  "MOST_PLACES",
  "MOST_DEFINED",
  "MOST_NAMES",
  "sized",
  "LETTERS",
  "is_integer",
  "is_name",
  "is_body",
  "wrong_names"]
def lo1 : List (PySem.Str) := ["read_bodies",
  "Text",
  "below",
  "Within",
  "Weighed",
  "passed",
  "Table",
  "_law_pen",
  "_law_draw",
  "_law_pool",
  "_law_is_word",
  "_law_heard",
  "_law_due",
  "_law_bent",
  "_law_told"]
def ch : List (List (PySem.W.Frag → Bool)) := [ch0, ch1, ch2]
def fn : List HB.FnO := fn0
def lo : List PySem.Str := lo0 ++ lo1
abbrev R : PySem.W.OpenRow := PySem.W.OpenLaw.row PySem.Challenge.rw_settlepass_k70_lines_that_are_wrong
abbrev hk : PySem.W.Hook := HB.hookT 20000 ch fn LW.tabYs
def ob (s : PySem.W.SharedT) : HB.AlT := HB.obsRT 20000 ch fn LW.tabYs (HandSHeadRun.getT s)
theorem ob_eq (s : PySem.W.SharedT) : ob s = hk.obs s.abs := HB.obsT_eq (HandSHeadRun.getT_eq s)
theorem run (w : World) : HandSHeadRun.RunEq R (PySem.W.view R.prog [53]) hk ob 20000 lo w := by
  intro os
  kernel_rfl
theorem facts {P : Program} {w : World} {K : PySem.W.Frag} {h : Heap} {mg : Str → Option Value} {fa : Addr} (X : K.In h) (G : h.Ns mainGlobals mg) (hfa : mg "law" = some (.ref fa)) (c : HB.Says ch fn K) :
    ∃ fd : FuncData, (∀ (s : Shared) (v : Value), BindsTo s fd ⟨[v], []⟩ [("_law_script", v)]) ∧ ∀ base : Heap, K.In base → base.Ns mainGlobals mg → (∃ mm, base.Ns sysModules mm) → (∀ y ∈ LW.tabYs, DL.TabM K mg base y) → DL.FnG true P w K mg base 10 fa fd ["_law_script"] (DL.spD K mg 1 LW.m_law) := by
  have h0 := c.part 0 (l := ch0)
  have h1 := c.part 1 (l := ch1)
  have h2 := c.part 2 (l := ch2)
  obtain ⟨_, _, _, _, _, _, _, _, _, l0, d0⟩ := c.def_ 0
  obtain ⟨_, _, _, _, _, _, _, _, _, l1, d1⟩ := c.def_ 1
  obtain ⟨_, _, _, _, _, _, _, _, _, l2, d2⟩ := c.def_ 2
  obtain ⟨_, _, _, _, _, _, _, _, _, l3, d3⟩ := c.def_ 3
  obtain ⟨_, _, _, _, _, _, _, _, _, l4, d4⟩ := c.def_ 4
  obtain ⟨_, _, _, _, _, _, _, _, _, l5, d5⟩ := c.def_ 5
  obtain ⟨_, _, _, _, _, _, _, _, _, l6, d6⟩ := c.def_ 6
  obtain ⟨_, _, _, _, _, _, _, _, _, l7, d7⟩ := c.def_ 7
  obtain ⟨_, _, _, _, _, _, _, _, _, l8, d8⟩ := c.def_ 8
  obtain ⟨_, _, _, _, _, _, _, _, _, l9, d9⟩ := c.def_ 9
  obtain ⟨_, _, _, _, _, _, _, _, _, l10, d10⟩ := c.def_ 10
  obtain ⟨_, _, _, _, _, _, _, _, _, l11, d11⟩ := c.def_ 11
  obtain ⟨_, _, _, _, _, _, _, _, _, l12, d12⟩ := c.def_ 12
  exact LW.all_mk X G hfa
    (He.eqO_ok (HB.fx h0 0))
    (HB.fx h0 1)
    (HB.fx h0 2)
    (HB.fx h0 3)
    (He.eqO_ok (HB.fx h0 4))
    (He.eqO_ok (HB.fx h0 5))
    (He.eqO_ok (HB.fx h0 6))
    (He.eqO_ok (HB.fx h0 7))
    (He.eqO_ok (HB.fx h0 8))
    (He.eqO_ok (HB.fx h0 9))
    (He.eqO_ok (HB.fx h0 10))
    (He.eqO_ok (HB.fx h0 11))
    (He.eqO_ok (HB.fx h0 12))
    (He.eqO_ok (HB.fx h0 13))
    (He.eqO_ok (HB.fx h0 14))
    (He.eqO_ok (HB.fx h0 15))
    (He.eqO_ok (HB.fx h0 16))
    (HB.eqB_ok (HB.fx h0 17))
    (HB.fx h0 18)
    (HB.eqB_ok (HB.fx h0 19))
    (HB.eqV_ok (HB.fx h0 20))
    (HB.fx h0 21)
    (HB.fx h0 22)
    (He.eqO_ok (HB.fx h0 23))
    (He.eqO_ok (HB.fx h0 24))
    (He.eqO_ok (HB.fx h0 25))
    (HB.eqB_ok (HB.fx h0 26))
    (HB.fx h0 27)
    (HB.fx h0 28)
    (He.eqO_ok (HB.fx h0 29))
    (He.eqO_ok (HB.fx h1 0))
    (HB.eqV_ok (HB.fx h1 1))
    l0
    d0
    (HB.fx h1 2)
    (He.eqO_ok (HB.fx h1 3))
    (He.eqO_ok (HB.fx h1 4))
    (HB.eqB_ok (HB.fx h1 5))
    (HB.eqB_ok (HB.fx h1 6))
    (HB.eqB_ok (HB.fx h1 7))
    (HB.eqB_ok (HB.fx h1 8))
    (HB.eqB_ok (HB.fx h1 9))
    (HB.eqB_ok (HB.fx h1 10))
    (HB.eqB_ok (HB.fx h1 11))
    (HB.eqB_ok (HB.fx h1 12))
    (HB.eqB_ok (HB.fx h1 13))
    (HB.eqB_ok (HB.fx h1 14))
    (HB.eqB_ok (HB.fx h1 15))
    (He.eqO_ok (HB.fx h1 16))
    l1
    d1
    (HB.fx h1 17)
    (He.eqO_ok (HB.fx h1 18))
    l2
    d2
    (HB.fx h1 19)
    (HB.fx h1 20)
    (He.eqO_ok (HB.fx h1 21))
    (HB.cmB_ok (HB.fx h1 22))
    (HB.recB_ok (HB.fx h1 23)).choose_spec
    (HB.fx h1 24)
    l3
    d3
    (HB.fx h1 25)
    (He.eqO_ok (HB.fx h1 26))
    l4
    d4
    (HB.fx h1 27)
    (He.eqO_ok (HB.fx h1 28))
    l5
    d5
    (HB.fx h1 29)
    (He.eqO_ok (HB.fx h2 0))
    l6
    d6
    (HB.fx h2 1)
    (He.eqO_ok (HB.fx h2 2))
    l7
    d7
    (HB.fx h2 3)
    (He.eqO_ok (HB.fx h2 4))
    l8
    d8
    (HB.fx h2 5)
    (He.eqO_ok (HB.fx h2 6))
    l9
    d9
    (HB.fx h2 7)
    (He.eqO_ok (HB.fx h2 8))
    l10
    d10
    (HB.fx h2 9)
    (He.eqO_ok (HB.fx h2 10))
    l11
    d11
    (HB.fx h2 11)
    (He.eqO_ok (HB.fx h2 12))
    l12
    d12
    (HB.fx h2 13)
    (HB.strB_ok (HB.fx h2 14)).choose_spec
    (HB.intB_ok (HB.fx h2 15)).choose_spec
    (HB.intB_ok (HB.fx h2 16)).choose_spec
    (HB.intB_ok (HB.fx h2 17)).choose_spec
    (He.eqO_ok (HB.fx h2 18))
    (He.eqO_ok (HB.fx h2 19))
    (He.eqO_ok (HB.fx h2 20))
    (He.eqO_ok (HB.fx h2 21))
    (He.eqO_ok (HB.fx h2 22))
    (He.eqO_ok (HB.fx h2 23))
    (He.eqO_ok (HB.fx h2 24))
    (He.eqO_ok (HB.fx h2 25))
    (He.eqO_ok (HB.fx h2 26))
    (He.eqO_ok (HB.fx h2 27))
    (He.eqO_ok (HB.fx h2 28))
end EW
open PySem PySem.W PySem.Calls PyProof.Rows
set_option maxRecDepth 100000 in
set_option maxHeartbeats 0 in
theorem PySem.Challenge.cw_settlepass_k70_lines_that_are_wrong_holds : PySem.Challenge.rw_settlepass_k70_lines_that_are_wrong.Holds := by
  w_on; o_law
  refine HandSHeadRun.head_any (r := EW.R) (q := view EW.R.prog [53]) (H := EW.hk) (ob := EW.ob) (M := 20000) (loose := EW.lo) (d := HandSHeadRun.topDef EW.R.prog 53) (kwd := []) EW.ob_eq
    (by kernel_rfl) (fun s => by kernel_rfl) EW.run (by kernel_rfl) (by kernel_rfl) (by kernel_rfl) (by rfl) (by first | assumption | decide +kernel) (by decide +kernel) ⟨rfl, rfl, rfl, rfl, rfl, by decide +kernel⟩ ?hw ?hc
  case hw => w_witness2
  case hc =>
    refine DL.law_endT (ys := LW.tabYs) (gf := true) (x := "_law_script") (l := PySem.Challenge.rw_settlepass_k70_lines_that_are_wrong) (m := LW.m_law) (k := 10) rfl (by decide) (by kernel_rfl) ⟨rfl, by decide, by decide⟩ (by first | rfl | decide +kernel) ?F LW.good
    intro w mg fa h Y G hmg0
    obtain ⟨K, KX, c, tk⟩ := Y
    have hmg : mg ("law" : PySem.Str) = some (.ref fa) := by
      have e : (HandSHeadRun.topDef EW.R.prog 53).name = ("law" : PySem.Str) := by kernel_rfl
      rw [← e]
      exact hmg0
    exact ⟨K, KX, tk, EW.facts KX G hmg c⟩
