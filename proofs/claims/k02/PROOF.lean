import PyProof.Rows.All
import Wide.All
import OpenK.AllK
import Wide.FinOn
import HandS.ForExc
import HandS.ForMost
import HandS.CallSlots
import HandS.Lambda
import HandS.TupAny
import HandS.Style
import HandS.Deep
import HandS.Wide
import HandS.IsInst
import HandS.Walk
import KE.GoesEnum
import HandS.Zip
import HandS.WordsExc
import HandS.Comp
import HandS.Dict
import PyProof.ReprRoads
import PyProof.Rows.StrBoot
import HandS.ExcInit
import HandS.ExcOwn
import KE.KExcSuper
import HandS.TryOnly
import HandS.ExcField
import HandS.ExcIs
import KE.KExcIs
import HandS.Ends
import PyProof.StrLawsRepr
import PyProof.ReprLen
import HandS.MakeKwOnly
import HandS.Property
import HandS.EndTab
import HandS.Strs
import HandS.SetFor
import HandS.SortInts
import HandS.NoneIn
import KE.GoesMore
import HandS.Star
import PySem.Challenge.RW_fieldfence_k02_signs_of_dialects
set_option Elab.async false
set_option linter.all false
set_option maxRecDepth 100000
namespace DS
open PySem PySem.Spec PyProof.Rows L2

/-! ### data -/
inductive D where
  | non | bl (b : Bool) | int (i : Int) | str (x : Str) | ty (n : String)
  | tup (xs : List D) | lst (xs : List D) | dct (kvs : List (D × D))
  | obj (c : Str) (fs : List (Str × D))
  | exc (c : Str) (fs : List (Str × D))
  | glo (x : Str)
  | scr (ns : List Int)

def keyD : Key → D
  | .inl i => .int i
  | .inr x => .str x

/-- an exception that is kept: its class and its dict -/
def XcP (a : Addr) (cls : Value) (d : Option Addr) : Heap → Prop := fun h => ∃ oe vs, h.get? a = some oe ∧ Zc cls d oe ∧ oe.data = .fields vs

mutual
def Rep (K : PySem.W.Frag) (mg : Str → Option Value) (G : Hp) : D → V → Prop
  | .non, v => v = .non
  | .bl b, v => v = .bl b
  | .int i, v => v = .int i
  | .str x, v => v = .str x ∧ PyData.strOk x = true
  | .ty n, v => v = .ty n
  | .tup ds, v => ∃ a vs, v = .ref a ∧ SqT K G a vs ∧ RepL K mg G ds vs
  | .lst ds, v => ∃ a vs, v = .ref a ∧ G a = some (.lst vs) ∧ RepL K mg G ds vs
  | .dct kvs, v => ∃ a ws, v = .ref a ∧ G a = some (.dK ws) ∧ RepK K mg G kvs ws
  | .obj c fs, v => ∃ a C dx ws, v = .ref a ∧ mg c = some (.ref C) ∧ G a = some (.ins C dx ws) ∧ RepF K mg G fs ws
  | .exc c fs, v => ∃ a C, v = .ref a ∧ mg c = some (.ref C) ∧ ((fs = [] ∧ G a = some (.ext (XcP a (.ref C) none))) ∨ ∃ dd ws, G a = some (.ext (XcP a (.ref C) (some dd))) ∧ G dd = some (.xd ws) ∧ RepF K mg G fs ws)
  | .glo x, v => ∃ a, v = .ref a ∧ mg x = some (.ref a)
  | .scr ns, v => ∃ a, v = .ref a ∧ SqL K G a (ns.map V.int)
def RepL (K : PySem.W.Frag) (mg : Str → Option Value) (G : Hp) : List D → List V → Prop
  | [], vs => vs = []
  | d :: ds, vs => ∃ v vs', vs = v :: vs' ∧ Rep K mg G d v ∧ RepL K mg G ds vs'
def RepK (K : PySem.W.Frag) (mg : Str → Option Value) (G : Hp) : List (D × D) → List (Key × V) → Prop
  | [], ws => ws = []
  | (k, d) :: r, ws => ∃ kk v ws', ws = (kk, v) :: ws' ∧ k = keyD kk ∧ Rep K mg G d v ∧ RepK K mg G r ws'
def RepF (K : PySem.W.Frag) (mg : Str → Option Value) (G : Hp) : List (Str × D) → List (Str × V) → Prop
  | [], ws => ws = []
  | (f, d) :: r, ws => ∃ v ws', ws = (f, v) :: ws' ∧ Rep K mg G d v ∧ RepF K mg G r ws'
end

theorem Same.sqt {K : PySem.W.Frag} {H H' : Hp} {a : Addr} {xs : List V} (e : Same H H') (h : SqT K H a xs) : SqT K H' a xs := by
  rcases h with (h | ⟨o, h⟩) | h
  · exact .inl (.inl (e _ _ h))
  · exact .inl (.inr ⟨o, e _ _ h⟩)
  · exact .inr h

section
variable {K : PySem.W.Frag} {mg : Str → Option Value} {G G' : Hp}
mutual
theorem Rep.mono (e : Same G G') : ∀ (d : D) (v : V), Rep K mg G d v → Rep K mg G' d v
  | .non, v, h => by unfold Rep at h ⊢; exact h
  | .bl b, v, h => by unfold Rep at h ⊢; exact h
  | .int i, v, h => by unfold Rep at h ⊢; exact h
  | .str x, v, h => by unfold Rep at h ⊢; exact h
  | .ty n, v, h => by unfold Rep at h ⊢; exact h
  | .tup ds, v, h => by
    unfold Rep at h ⊢
    obtain ⟨a, vs, h1, h2, h3⟩ := h
    exact ⟨a, vs, h1, Same.sqt e h2, RepL.mono e ds vs h3⟩
  | .lst ds, v, h => by
    unfold Rep at h ⊢
    obtain ⟨a, vs, h1, h2, h3⟩ := h
    exact ⟨a, vs, h1, e _ _ h2, RepL.mono e ds vs h3⟩
  | .scr ns, v, h => by
    unfold Rep at h ⊢
    obtain ⟨a, h1, h2⟩ := h
    exact ⟨a, h1, Same.seq e h2⟩
  | .dct ds, v, h => by
    unfold Rep at h ⊢
    obtain ⟨a, vs, h1, h2, h3⟩ := h
    exact ⟨a, vs, h1, e _ _ h2, RepK.mono e ds vs h3⟩
  | .obj c fs, v, h => by
    unfold Rep at h ⊢
    obtain ⟨a, C, dx, ws, h1, h2, h3, h4⟩ := h
    exact ⟨a, C, dx, ws, h1, h2, e _ _ h3, RepF.mono e fs ws h4⟩
  | .exc c fs, v, h => by
    unfold Rep at h ⊢
    obtain ⟨a, C, h1, h2, h3⟩ := h
    refine ⟨a, C, h1, h2, ?_⟩
    rcases h3 with ⟨h3, h4⟩ | ⟨dd, ws, h3, h4, h5⟩
    · exact .inl ⟨h3, e _ _ h4⟩
    · exact .inr ⟨dd, ws, e _ _ h3, e _ _ h4, RepF.mono e fs ws h5⟩
  | .glo x, v, h => by unfold Rep at h ⊢; exact h
theorem RepL.mono (e : Same G G') : ∀ (ds : List D) (vs : List V), RepL K mg G ds vs → RepL K mg G' ds vs
  | [], vs, h => by unfold RepL at h ⊢; exact h
  | d :: ds, vs, h => by
    unfold RepL at h ⊢
    obtain ⟨v, vs', h1, h2, h3⟩ := h
    exact ⟨v, vs', h1, Rep.mono e d v h2, RepL.mono e ds vs' h3⟩
theorem RepK.mono (e : Same G G') : ∀ (ds : List (D × D)) (vs : List (Key × V)), RepK K mg G ds vs → RepK K mg G' ds vs
  | [], vs, h => by unfold RepK at h ⊢; exact h
  | (k, d) :: ds, vs, h => by
    unfold RepK at h ⊢
    obtain ⟨kk, v, vs', h1, h2, h3, h4⟩ := h
    exact ⟨kk, v, vs', h1, h2, Rep.mono e d v h3, RepK.mono e ds vs' h4⟩
theorem RepF.mono (e : Same G G') : ∀ (ds : List (Str × D)) (vs : List (Str × V)), RepF K mg G ds vs → RepF K mg G' ds vs
  | [], vs, h => by unfold RepF at h ⊢; exact h
  | (k, d) :: ds, vs, h => by
    unfold RepF at h ⊢
    obtain ⟨v, vs', h1, h2, h3⟩ := h
    exact ⟨v, vs', h1, Rep.mono e d v h2, RepF.mono e ds vs' h3⟩
end

theorem RepL.length : ∀ {ds : List D} {vs : List V}, RepL K mg G ds vs → vs.length = ds.length
  | [], vs, h => by unfold RepL at h; subst h; rfl
  | d :: ds, vs, h => by
    unfold RepL at h
    obtain ⟨v, vs', rfl, _, h3⟩ := h
    simp [RepL.length h3]
theorem RepL.append : ∀ {ds es : List D} {vs ws : List V}, RepL K mg G ds vs → RepL K mg G es ws → RepL K mg G (ds ++ es) (vs ++ ws)
  | [], es, vs, ws, h, h' => by unfold RepL at h; subst h; exact h'
  | d :: ds, es, vs, ws, h, h' => by
    unfold RepL at h
    obtain ⟨v, vs', rfl, h2, h3⟩ := h
    rw [List.cons_append, List.cons_append]
    unfold RepL
    exact ⟨v, _, rfl, h2, RepL.append h3 h'⟩
theorem RepL.get : ∀ {ds : List D} {vs : List V} {i : Nat} {d : D}, RepL K mg G ds vs → ds[i]? = some d → ∃ v, vs[i]? = some v ∧ Rep K mg G d v
  | [], vs, i, d, h, e => by simp at e
  | d0 :: ds, vs, i, d, h, e => by
    unfold RepL at h
    obtain ⟨v, vs', rfl, h2, h3⟩ := h
    cases i with
    | zero => simp at e; subst e; exact ⟨v, rfl, h2⟩
    | succ i => exact RepL.get (i := i) h3 (by simpa using e)
theorem RepL.getV : ∀ {ds : List D} {vs : List V} {i : Nat} {v : V}, RepL K mg G ds vs → vs[i]? = some v → ∃ d, ds[i]? = some d ∧ Rep K mg G d v
  | [], vs, i, v, h, e => by unfold RepL at h; subst h; simp at e
  | d0 :: ds, vs, i, v, h, e => by
    unfold RepL at h
    obtain ⟨v0, vs', rfl, h2, h3⟩ := h
    cases i with
    | zero => simp at e; subst e; exact ⟨d0, rfl, h2⟩
    | succ i => exact RepL.getV (i := i) h3 (by simpa using e)
theorem RepL.take : ∀ {ds : List D} {vs : List V} (n : Nat), RepL K mg G ds vs → RepL K mg G (ds.take n) (vs.take n)
  | [], vs, n, h => by unfold RepL at h; subst h; simp [RepL]
  | d :: ds, vs, 0, h => by simp [RepL]
  | d :: ds, vs, n + 1, h => by
    unfold RepL at h
    obtain ⟨v, vs', rfl, h2, h3⟩ := h
    rw [List.take_succ_cons, List.take_succ_cons]
    unfold RepL
    exact ⟨v, _, rfl, h2, RepL.take n h3⟩
theorem RepL.drop : ∀ {ds : List D} {vs : List V} (n : Nat), RepL K mg G ds vs → RepL K mg G (ds.drop n) (vs.drop n)
  | [], vs, n, h => by unfold RepL at h; subst h; simp [RepL]
  | d :: ds, vs, 0, h => by simpa using h
  | d :: ds, vs, n + 1, h => by
    unfold RepL at h
    obtain ⟨v, vs', rfl, h2, h3⟩ := h
    simpa using RepL.drop n h3
theorem RepL.one {d : D} {v : V} (h : Rep K mg G d v) : RepL K mg G [d] [v] := by
  unfold RepL; exact ⟨v, [], rfl, h, by unfold RepL; rfl⟩
theorem RepL.cons {d : D} {v : V} {ds : List D} {vs : List V} (h : Rep K mg G d v) (t : RepL K mg G ds vs) : RepL K mg G (d :: ds) (v :: vs) := by
  unfold RepL; exact ⟨v, vs, rfl, h, t⟩
theorem RepL.nil : RepL K mg G [] [] := by unfold RepL; rfl
theorem RepL.ints : ∀ (ns : List Int), RepL K mg G (ns.map D.int) (ns.map V.int)
  | [] => RepL.nil
  | n :: ns => RepL.cons (by unfold Rep; rfl) (RepL.ints ns)
theorem RepL.set : ∀ {ds : List D} {vs : List V} {d : D} {v : V} (n : Nat), RepL K mg G ds vs → Rep K mg G d v → RepL K mg G (ds.set n d) (vs.set n v)
  | [], vs, d, v, n, h, _ => by unfold RepL at h; subst h; simp [RepL]
  | d0 :: ds, vs, d, v, 0, h, r => by
    unfold RepL at h
    obtain ⟨v0, vs', rfl, h2, h3⟩ := h
    exact RepL.cons r h3
  | d0 :: ds, vs, d, v, n + 1, h, r => by
    unfold RepL at h
    obtain ⟨v0, vs', rfl, h2, h3⟩ := h
    exact RepL.cons h2 (RepL.set n h3 r)
end

/-! ### slots of a frame -/
/-- what the laws' draws hold -/
structure Dw where
  large : List Int
  cells : List Int
  rest : Int
  turn : Int
def kLg : Str := "large"
def kCe : Str := "cells"
def kRe : Str := "rest"
def kTu : Str := "turn"
def Dw.kvs (s : Dw) (l c : Addr) : List (Key × V) := [(.inr kLg, .ref l), (.inr kCe, .ref c), (.inr kRe, .int s.rest), (.inr kTu, .int s.turn)]
def DrawAt (a : Addr) (G h : Hp) (s : Dw) : Prop := ∃ l c, h a = some (.dK (s.kvs l c)) ∧ h l = some (.lst (s.large.map V.int)) ∧ G c = some (.lst (s.cells.map V.int))
theorem DrawAt.mono {a : Addr} {G G' h : Hp} {s : Dw} (e : Same G G') (x : DrawAt a G h s) : DrawAt a G' h s := by
  obtain ⟨l, c, h1, h2, h3⟩ := x
  exact ⟨l, c, h1, h2, e _ _ h3⟩
abbrev Rsc := Dw
structure Exn where
  cls : Str
  fs : List (Str × D)
/-- of a thunk: its function, its code object, the maker's frame -/
structure ThD where
  f : Addr
  c : Addr
  q : Str
  ar : Nat → Option Addr
  er : Option (Addr × Value × Option Addr)
  tb : List (Addr × Str)
  σ : L2.St
/-- names of arguments; the exception that a suite holds; the thunk; the tables of code objects -/
structure Tau where
  ar : Nat → Option Addr
  er : Option (Addr × Value × Option Addr)
  th : Option ThD
  tb : List (Addr × Str)
/-- an exception's class and its own dict -/
def RepX (K : PySem.W.Frag) (mg : Str → Option Value) (G : Hp) (x : Exn) (cls : Value) (d : Option Addr) : Prop :=
  ∃ C, mg x.cls = some (.ref C) ∧ cls = .ref C ∧ ((x.fs = [] ∧ d = none) ∨ ∃ dd ws, d = some dd ∧ G dd = some (.xd ws) ∧ RepF K mg G x.fs ws)
theorem RepX.mono {K : PySem.W.Frag} {mg : Str → Option Value} {G G' : Hp} {x : Exn} {cls : Value} {d : Option Addr} (e : Same G G') (h : RepX K mg G x cls d) : RepX K mg G' x cls d := by
  obtain ⟨C, h1, h2, h3⟩ := h
  refine ⟨C, h1, h2, ?_⟩
  rcases h3 with h3 | ⟨dd, ws, h3, h4, h5⟩
  · exact .inl h3
  · exact .inr ⟨dd, ws, h3, e _ _ h4, RepF.mono e _ _ h5⟩
inductive Sl where
  | no
  | sh (d : D)
  | ow (t : Option Nat) (d : D)
  | rs (t : Option Nat) (R : Rsc)
  | er (x : Exn)
  | th (ρ : List Sl)
  | td (ρ : List Sl)
  | tb

/-- a container of one's own, by what stands there -/
inductive TopOk (K : PySem.W.Frag) (mg : Str → Option Value) (G : Hp) : D → HO → Prop
  | lst {ds : List D} {vs : List V} : RepL K mg G ds vs → TopOk K mg G (.lst ds) (.lst vs)
  | dct {kvs : List (D × D)} {ws : List (Key × V)} : RepK K mg G kvs ws → TopOk K mg G (.dct kvs) (.dK ws)
  | obj {c : Str} {C dx : Addr} {fs : List (Str × D)} {ws : List (Str × V)} : mg c = some (.ref C) → RepF K mg G fs ws → TopOk K mg G (.obj c fs) (.ins C dx ws)
theorem TopOk.mono {K : PySem.W.Frag} {mg : Str → Option Value} {G G' : Hp} (e : Same G G') {d : D} {o : HO} (h : TopOk K mg G d o) : TopOk K mg G' d o := by
  cases h with
  | lst h => exact .lst (RepL.mono e _ _ h)
  | dct h => exact .dct (RepK.mono e _ _ h)
  | obj h1 h2 => exact .obj h1 (RepF.mono e _ _ h2)
theorem TopOk.rep {K : PySem.W.Frag} {mg : Str → Option Value} {G : Hp} {a : Addr} {d : D} {o : HO} (h : TopOk K mg G d o) (e : G a = some o) : Rep K mg G d (.ref a) := by
  cases h with
  | lst h => unfold Rep; exact ⟨a, _, rfl, e, h⟩
  | dct h => unfold Rep; exact ⟨a, _, rfl, e, h⟩
  | obj h1 h2 => unfold Rep; exact ⟨a, _, _, _, rfl, h1, e, h2⟩

/-- the part of H that i owns -/
def own (O : Addr → Option Nat) (i : Nat) (H : Hp) : Hp := fun a => if O a = some i then H a else none

/-- t names the address a -/
def tg (τ : Tau) (t : Option Nat) (a : Addr) : Prop := ∀ k, t = some k → τ.ar k = some a
/-- the tables of code objects -/
def TabG (G h : Hp) (P : Addr) (q : Str) : Prop := ∃ ps : Array Value, h P = some (.tbl ps) ∧ TriplesOk ps.toList ∧ ∀ (pos : Pos) (cv : Value), codeAmong pos ps.toList = some cv → ∃ c, cv = .ref c ∧ G c = some (LamX.CodeO c q)
theorem TabG.mono {G G' h : Hp} {P : Addr} {q : Str} (e : Same G G') (x : TabG G h P q) : TabG G' h P q := by
  obtain ⟨ps, h1, h2, h3⟩ := x
  exact ⟨ps, h1, h2, fun pos cv hc => let ⟨c, e1, e2⟩ := h3 pos cv hc; ⟨c, e1, e _ _ e2⟩⟩
/-- slots but thunks -/
def SlOk1 (K : PySem.W.Frag) (mg : Str → Option Value) (τ : Tau) (G h : Hp) : Sl → Option V → Prop
  | .no, _ => True
  | .sh d, v => ∃ u, v = some u ∧ Rep K mg G d u
  | .ow t d, v => ∃ a o, v = some (.ref a) ∧ tg τ t a ∧ h a = some o ∧ TopOk K mg G d o
  | .rs t R, v => ∃ a, v = some (.ref a) ∧ tg τ t a ∧ DrawAt a G h R
  | .er x, v => ∃ a cls d, v = some (.ref a) ∧ τ.er = some (a, cls, d) ∧ RepX K mg G x cls d
  | .th _, _ => False
  | .td _, _ => False
  | .tb, _ => ∀ p ∈ τ.tb, TabG G h p.1 p.2
theorem SlOk1.mono {K : PySem.W.Frag} {mg : Str → Option Value} {τ : Tau} {G G' h : Hp} {s : Sl} {v : Option V} (e : Same G G') (x : SlOk1 K mg τ G h s v) : SlOk1 K mg τ G' h s v := by
  cases s with
  | no => trivial
  | sh d => obtain ⟨u, h1, h2⟩ := x; exact ⟨u, h1, Rep.mono e _ _ h2⟩
  | ow t d => obtain ⟨a, o, h1, h0, h2, h3⟩ := x; exact ⟨a, o, h1, h0, h2, h3.mono e⟩
  | rs t R => obtain ⟨a, h1, h0, h2⟩ := x; exact ⟨a, h1, h0, h2.mono e⟩
  | er x => obtain ⟨a, cls, d, h1, h0, h2⟩ := x; exact ⟨a, cls, d, h1, h0, h2.mono e⟩
  | th r => exact x
  | td r => exact x
  | tb => exact fun p hp => (x p hp).mono e
/-- the slots of a thunk's maker -/
def ThOk (K : PySem.W.Frag) (mg : Str → Option Value) (T : ThD) (G h : Hp) (ρ : List Sl) : Prop :=
  ρ.length = T.σ.length ∧ ∃ O : Addr → Option Nat, (∀ a i, O a = some i → h a ≠ none) ∧ ∀ i s, ρ[i]? = some s → SlOk1 K mg ⟨T.ar, T.er, none, T.tb⟩ G (own O i h) s (T.σ[i]?.join)
theorem ThOk.mono {K : PySem.W.Frag} {mg : Str → Option Value} {T : ThD} {G G' h : Hp} {ρ : List Sl} (e : Same G G') (x : ThOk K mg T G h ρ) : ThOk K mg T G' h ρ := by
  obtain ⟨h1, O, h2, h3⟩ := x
  exact ⟨h1, O, h2, fun i s q => (h3 i s q).mono e⟩
def SlOk (K : PySem.W.Frag) (mg : Str → Option Value) (τ : Tau) (G h : Hp) : Sl → Option V → Prop
  | .no, _ => True
  | .sh d, v => ∃ u, v = some u ∧ Rep K mg G d u
  | .ow t d, v => ∃ a o, v = some (.ref a) ∧ tg τ t a ∧ h a = some o ∧ TopOk K mg G d o
  | .rs t R, v => ∃ a, v = some (.ref a) ∧ tg τ t a ∧ DrawAt a G h R
  | .er x, v => ∃ a cls d, v = some (.ref a) ∧ τ.er = some (a, cls, d) ∧ RepX K mg G x cls d
  | .th ρ, v => ∃ T, τ.th = some T ∧ v = some (.ref T.f) ∧ G T.c = some (LamX.CodeO T.c T.q) ∧ ThOk K mg T G h ρ
  | .td ρ, v => ∃ T, τ.th = some T ∧ ThOk K mg T G h ρ
  | .tb, _ => ∀ p ∈ τ.tb, TabG G h p.1 p.2

theorem SlOk.mono {K : PySem.W.Frag} {mg : Str → Option Value} {τ : Tau} {G G' h : Hp} {s : Sl} {v : Option V} (e : Same G G') (x : SlOk K mg τ G h s v) : SlOk K mg τ G' h s v := by
  cases s with
  | no => trivial
  | sh d => obtain ⟨u, h1, h2⟩ := x; exact ⟨u, h1, Rep.mono e _ _ h2⟩
  | ow t d => obtain ⟨a, o, h1, h0, h2, h3⟩ := x; exact ⟨a, o, h1, h0, h2, h3.mono e⟩
  | rs t R => obtain ⟨a, h1, h0, h2⟩ := x; exact ⟨a, h1, h0, h2.mono e⟩
  | er x => obtain ⟨a, cls, d, h1, h0, h2⟩ := x; exact ⟨a, cls, d, h1, h0, h2.mono e⟩
  | th r => obtain ⟨T, h1, h2, h3, h4⟩ := x; exact ⟨T, h1, h2, e _ _ h3, h4.mono e⟩
  | td r => obtain ⟨T, h1, h2⟩ := x; exact ⟨T, h1, h2.mono e⟩
  | tb => exact fun p hp => (x p hp).mono e

structure RS0 (K : PySem.W.Frag) (mg : Str → Option Value) (τ : Tau) (Ho G : Hp) (O : Addr → Option Nat) (ρ : List Sl) (σ : L2.St) (H : Hp) : Prop where
  gh : Same G H
  oh : ∀ a i, O a = some i → G a = none ∧ Ho a = none ∧ H a ≠ none
  out : Same Ho H
  len : ρ.length = σ.length
  sl : ∀ i s, ρ[i]? = some s → SlOk K mg τ G (own O i H) s (σ[i]?.join)
def RS (K : PySem.W.Frag) (mg : Str → Option Value) (τ : Tau) (Ho G : Hp) (ρ : List Sl) (σ : L2.St) (H : Hp) : Prop := ∃ O, RS0 K mg τ Ho G O ρ σ H

/-- the frozen part grows, outside of Ho -/
def Gr (Ho G G' : Hp) : Prop := Same G G' ∧ ∀ a o, Ho a = some o → G' a = G a
theorem Gr.refl {Ho G : Hp} : Gr Ho G G := ⟨Same.refl _, fun _ _ _ => rfl⟩
theorem Gr.trans {Ho G G' G'' : Hp} (a : Gr Ho G G') (b : Gr Ho G' G'') : Gr Ho G G'' := ⟨a.1.trans b.1, fun c o h => (b.2 c o h).trans (a.2 c o h)⟩

theorem same_upd {H : Hp} {p : Addr} {o : HO} (h : H p = none) : Same H (upd H p o) := fun b u e => by rw [upd_ne (ne_of_none e h)]; exact e

section
variable {K : PySem.W.Frag} {mg : Str → Option Value} {τ : Tau} {Ho G : Hp} {O : Addr → Option Nat} {ρ : List Sl} {σ : L2.St} {H : Hp}

theorem RS.gh (x : RS K mg τ Ho G ρ σ H) : Same G H := x.choose_spec.gh
theorem RS.out (x : RS K mg τ Ho G ρ σ H) : Same Ho H := x.choose_spec.out
theorem RS.len (x : RS K mg τ Ho G ρ σ H) : ρ.length = σ.length := x.choose_spec.len
theorem RS.freeG (x : RS K mg τ Ho G ρ σ H) {p : Addr} (h : H p = none) : G p = none := by
  cases e : G p with
  | none => rfl
  | some o => rw [x.gh _ _ e] at h; cases h
theorem RS.freeHo (x : RS K mg τ Ho G ρ σ H) {p : Addr} (h : H p = none) : Ho p = none := by
  cases e : Ho p with
  | none => rfl
  | some o => rw [x.out _ _ e] at h; cases h
theorem RS.sh (x : RS K mg τ Ho G ρ σ H) {i : Nat} {d : D} (e : ρ[i]? = some (.sh d)) : ∃ v, σ[i]? = some (some v) ∧ Rep K mg G d v := by
  obtain ⟨O, x⟩ := x
  obtain ⟨u, h1, h2⟩ := x.sl i _ e
  cases q : σ[i]? with
  | none => rw [q] at h1; cases h1
  | some w => rw [q] at h1; exact ⟨u, by rw [show w = some u from h1], h2⟩

/-- a new thing is frozen -/
theorem RS.allocF (x : RS K mg τ Ho G ρ σ H) {p : Addr} {o : HO} (h : H p = none) : RS K mg τ Ho (upd G p o) ρ σ (upd H p o) ∧ Gr Ho G (upd G p o) := by
  have gp := x.freeG h
  have hp := x.freeHo h
  have sg : Same G (upd G p o) := same_upd gp
  refine ⟨?_, sg, fun a u e => upd_ne (ne_of_none e hp)⟩
  obtain ⟨O, x⟩ := x
  have op : ∀ i, O p ≠ some i := fun i e => (x.oh p i e).2.2 h
  refine ⟨O, fun b u e => ?_, fun a i e => ?_, x.out.trans (same_upd h), x.len, fun i s e => ?_⟩
  · by_cases q : b = p
    · subst q; rw [upd_same] at e ⊢; exact e
    · rw [upd_ne q] at e ⊢; exact x.gh b u e
  · have q : a ≠ p := fun q => op i (q ▸ e)
    obtain ⟨h1, h2, h3⟩ := x.oh a i e
    rw [upd_ne q, upd_ne q]
    exact ⟨h1, h2, h3⟩
  · have z : own O i (upd H p o) = own O i H := by
      funext a
      unfold own
      by_cases q : O a = some i
      · rw [if_pos q, if_pos q, upd_ne]
        intro r; subst r; exact op i q
      · rw [if_neg q, if_neg q]
    rw [z]
    exact (x.sl i s e).mono sg

def shO (O : Addr → Option Nat) : Addr → Option Nat := fun a => (O a).map (· + 1)
theorem shO_some {O : Addr → Option Nat} {a : Addr} {i : Nat} : shO O a = some (i + 1) ↔ O a = some i := by
  unfold shO; cases O a with
  | none => simp
  | some j => simp
theorem shO_zero {O : Addr → Option Nat} {a : Addr} : shO O a ≠ some 0 := by
  unfold shO; cases O a with
  | none => simp
  | some j => simp
theorem own_shO {O : Addr → Option Nat} {i : Nat} {H : Hp} : own (shO O) (i + 1) H = own O i H := by
  funext a
  unfold own
  by_cases q : O a = some i
  · rw [if_pos q, if_pos (shO_some.mpr q)]
  · rw [if_neg q, if_neg fun z => q (shO_some.mp z)]
/-- data in front -/
theorem RS.push (x : RS K mg τ Ho G ρ σ H) {d : D} {v : V} (r : Rep K mg G d v) : RS K mg τ Ho G (.sh d :: ρ) (some v :: σ) H := by
  obtain ⟨O, x⟩ := x
  refine ⟨shO O, x.gh, fun a i e => ?_, x.out, by simp [x.len], fun i s e => ?_⟩
  · cases i with
    | zero => exact absurd e shO_zero
    | succ i => exact x.oh a i (shO_some.mp e)
  · cases i with
    | zero => simp at e; subst e; exact ⟨v, rfl, r⟩
    | succ i =>
      rw [own_shO]
      simpa using x.sl i s (by simpa using e)
/-- a new container in front -/
theorem RS.pushO (x : RS K mg τ Ho G ρ σ H) {d : D} {o : HO} (r : TopOk K mg G d o) {p : Addr} (h : H p = none) : RS K mg τ Ho G (.ow none d :: ρ) (some (.ref p) :: σ) (upd H p o) := by
  have gp := x.freeG h
  have hp := x.freeHo h
  obtain ⟨O, x⟩ := x
  have op : ∀ i, O p ≠ some i := fun i e => (x.oh p i e).2.2 h
  have on : O p = none := by
    cases e : O p with
    | none => rfl
    | some i => exact absurd e (op i)
  refine ⟨fun a => if a = p then some 0 else shO O a, x.gh.trans (same_upd h), fun a i e => ?_, x.out.trans (same_upd h), by simp [x.len], fun i s e => ?_⟩
  · by_cases q : a = p
    · subst q; rw [upd_same]; exact ⟨gp, hp, by simp⟩
    · simp only [if_neg q] at e
      cases i with
      | zero => exact absurd e shO_zero
      | succ i =>
        rw [upd_ne q]
        exact x.oh a i (shO_some.mp e)
  · cases i with
    | zero =>
      simp at e; subst e
      refine ⟨p, o, rfl, (fun _ q => nomatch q), ?_, r⟩
      unfold own
      rw [if_pos (if_pos rfl), upd_same]
    | succ i =>
      have z : own (fun a => if a = p then some 0 else shO O a) (i + 1) (upd H p o) = own O i H := by
        funext a
        unfold own
        by_cases q : a = p
        · subst q; simp [on]
        · simp only [if_neg q, upd_ne q]
          by_cases q2 : O a = some i
          · rw [if_pos q2, if_pos (shO_some.mpr q2)]
          · rw [if_neg q2, if_neg fun z => q2 (shO_some.mp z)]
      rw [z]
      simpa using x.sl i s (by simpa using e)
def popO (O : Addr → Option Nat) : Addr → Option Nat := fun a => match O a with
  | some (i + 1) => some i
  | _ => none
theorem popO_some {O : Addr → Option Nat} {a : Addr} {i : Nat} : popO O a = some i ↔ O a = some (i + 1) := by
  unfold popO
  cases O a with
  | none => simp
  | some k =>
    cases k with
    | zero => simp
    | succ k => simp
def asO (O : Addr → Option Nat) (i : Nat) : Addr → Option Nat := fun a => match O a with
  | some 0 => some i
  | some (j + 1) => if j = i then none else some j
  | none => none
theorem asO_some {O : Addr → Option Nat} {a : Addr} {i j : Nat} : asO O i a = some j ↔ (j = i ∧ O a = some 0) ∨ (j ≠ i ∧ O a = some (j + 1)) := by
  unfold asO
  cases O a with
  | none => simp
  | some k =>
    cases k with
    | zero => simp [eq_comm]
    | succ k =>
      by_cases q : k = i
      · subst q
        simp
        intro h e; exact h e.symm
      · simp [q]
        intro h; subst h; exact q
theorem own_of {O O' : Addr → Option Nat} {i j : Nat} {H : Hp} (h : ∀ a, O' a = some j ↔ O a = some i) : own O' j H = own O i H := by
  funext a
  unfold own
  by_cases q : O a = some i
  · rw [if_pos q, if_pos ((h a).mpr q)]
  · rw [if_neg q, if_neg fun z => q ((h a).mp z)]
/-- the front is dropped -/
theorem RS.pop {r : Sl} {v : Option V} (x : RS K mg τ Ho G (r :: ρ) (v :: σ) H) : RS K mg τ Ho G ρ σ H := by
  obtain ⟨O, x⟩ := x
  refine ⟨popO O, x.gh, fun a i e => x.oh a _ (popO_some.mp e), x.out, by simpa using x.len, fun i s e => ?_⟩
  rw [own_of fun a => popO_some]
  simpa using x.sl (i + 1) s (by simpa using e)
/-- the front goes to slot i -/
theorem RS.assign {r : Sl} {v : V} (x : RS K mg τ Ho G (r :: ρ) (some v :: σ) H) (i : Nat) : RS K mg τ Ho G (ρ.set i r) (σ.set i (some v)) H := by
  obtain ⟨O, x⟩ := x
  have l : ρ.length = σ.length := by simpa using x.len
  refine ⟨asO O i, x.gh, fun a j e => ?_, x.out, by simp [l], fun j s e => ?_⟩
  · rcases asO_some.mp e with ⟨_, e⟩ | ⟨_, e⟩
    · exact x.oh a _ e
    · exact x.oh a _ e
  · by_cases q : j = i
    · subst q
      have hj : j < ρ.length := by
        have := (List.getElem?_eq_some_iff.mp e).1
        simpa using this
      rw [List.getElem?_set_self hj] at e
      cases e
      rw [List.getElem?_set_self (by omega)]
      rw [own_of (O := O) (i := 0) fun a => by rw [asO_some]; simp]
      exact x.sl 0 _ rfl
    · rw [List.getElem?_set_ne (Ne.symm q)] at e ⊢
      rw [own_of (O := O) (i := j + 1) fun a => by rw [asO_some]; simp [q]]
      simpa using x.sl (j + 1) s (by simpa using e)
/-- a list of one's own: read, and changed -/
theorem RS.mut (x : RS K mg τ Ho G ρ σ H) {i : Nat} {t : Option Nat} {d : D} (e : ρ[i]? = some (.ow t d)) : ∃ a o, σ[i]? = some (some (.ref a)) ∧ H a = some o ∧ TopOk K mg G d o ∧
    ∀ o' d', TopOk K mg G d' o' → RS K mg τ Ho G (ρ.set i (.ow t d')) σ (upd H a o') := by
  obtain ⟨O, x⟩ := x
  obtain ⟨a, o, h1, h0, h2, h3⟩ := x.sl i _ e
  have hO : O a = some i := by
    unfold own at h2
    by_cases q : O a = some i
    · exact q
    · rw [if_neg q] at h2; cases h2
  have hH : H a = some o := by unfold own at h2; rw [if_pos hO] at h2; exact h2
  obtain ⟨ga, oa, _⟩ := x.oh a i hO
  have hs : σ[i]? = some (some (.ref a)) := by
    cases q : σ[i]? with
    | none => rw [q] at h1; cases h1
    | some w => rw [q] at h1; rw [show w = some (.ref a) from h1]
  refine ⟨a, o, hs, hH, h3, fun o' d' r' => ⟨O, fun b u q => ?_, fun b j q => ?_, fun b u q => ?_, by simp [x.len], fun j s q => ?_⟩⟩
  · rw [upd_ne (ne_of_none q ga)]; exact x.gh b u q
  · obtain ⟨z1, z2, z3⟩ := x.oh b j q
    refine ⟨z1, z2, ?_⟩
    by_cases w : b = a
    · subst w; rw [upd_same]; simp
    · rw [upd_ne w]; exact z3
  · rw [upd_ne (ne_of_none q oa)]; exact x.out b u q
  · by_cases w : j = i
    · subst w
      have hj : j < ρ.length := (List.getElem?_eq_some_iff.mp e).1
      rw [List.getElem?_set_self hj] at q
      cases q
      refine ⟨a, o', by rw [hs]; rfl, h0, ?_, r'⟩
      unfold own
      rw [if_pos hO, upd_same]
    · rw [List.getElem?_set_ne (Ne.symm w)] at q
      have z : own O j (upd H a o') = own O j H := by
        funext b
        unfold own
        by_cases w2 : O b = some j
        · rw [if_pos w2, if_pos w2, upd_ne]
          intro w3; subst w3; rw [hO] at w2; cases w2; exact w rfl
        · rw [if_neg w2, if_neg w2]
      rw [z]
      exact x.sl j s q
/-- a list of one's own is frozen -/
theorem RS.freeze (x : RS K mg τ Ho G ρ σ H) {i : Nat} {t : Option Nat} {d : D} (e : ρ[i]? = some (.ow t d)) : ∃ G', Gr Ho G G' ∧ RS K mg τ Ho G' (ρ.set i (.sh d)) σ H := by
  obtain ⟨O, x⟩ := x
  obtain ⟨a, o, h1, h0, h2, h3⟩ := x.sl i _ e
  have hO : O a = some i := by
    unfold own at h2
    by_cases q : O a = some i
    · exact q
    · rw [if_neg q] at h2; cases h2
  have hH : H a = some o := by unfold own at h2; rw [if_pos hO] at h2; exact h2
  obtain ⟨ga, oa, _⟩ := x.oh a i hO
  have sg : Same G (upd G a o) := same_upd ga
  refine ⟨upd G a o, ⟨sg, fun b o h => upd_ne (ne_of_none h oa)⟩, fun b => if b = a then none else O b, fun b u q => ?_, fun b j q => ?_, x.out, by simp [x.len], fun j s q => ?_⟩
  · by_cases w : b = a
    · subst w; rw [upd_same] at q; rw [hH]; exact q
    · rw [upd_ne w] at q; exact x.gh b u q
  · by_cases w : b = a
    · simp [w] at q
    · simp only [if_neg w] at q
      rw [upd_ne w]; exact x.oh b j q
  · by_cases w : j = i
    · subst w
      have hj : j < ρ.length := (List.getElem?_eq_some_iff.mp e).1
      rw [List.getElem?_set_self hj] at q
      cases q
      exact ⟨.ref a, h1, (h3.mono sg).rep upd_same⟩
    · rw [List.getElem?_set_ne (Ne.symm w)] at q
      have z : own (fun b => if b = a then none else O b) j H = own O j H := by
        funext b
        unfold own
        by_cases w2 : b = a
        · subst w2; simp [hO, Ne.symm w]
        · simp [w2]
      rw [z]
      exact (x.sl j s q).mono sg
/-- a slot is forgotten -/
theorem RS.forget (x : RS K mg τ Ho G ρ σ H) (i : Nat) : RS K mg τ Ho G (ρ.set i .no) σ H := by
  obtain ⟨O, x⟩ := x
  refine ⟨O, x.gh, x.oh, x.out, by simp [x.len], fun j s q => ?_⟩
  by_cases w : j = i
  · subst w
    have hj : j < ρ.length := by
      have := (List.getElem?_eq_some_iff.mp q).1
      simpa using this
    rw [List.getElem?_set_self hj] at q
    cases q
    trivial
  · rw [List.getElem?_set_ne (Ne.symm w)] at q
    exact x.sl j s q
end
end DS

set_option Elab.async false
set_option linter.all false
set_option maxRecDepth 100000
namespace DS
open PySem PySem.Spec PyProof.Rows L2

/-! ### what a piece of code does to the slots: a value, an exception, or nothing that is told -/
inductive Res (α : Type) where
  | ok (a : α) (ρ : List Sl)
  | ex (x : Exn) (ρ : List Sl)
  | no
abbrev M (α : Type) := List Sl → Res α
def Res.bind {α β : Type} (r : Res α) (u : α → M β) : Res β := match r with
  | .ok a ρ => u a ρ
  | .ex x ρ => .ex x ρ
  | .no => .no
def bnd {α β : Type} (t : M α) (u : α → M β) : M β := fun ρ => (t ρ).bind u
def ret {α : Type} (a : α) : M α := fun ρ => .ok a ρ
def lft {α : Type} (o : Option α) : M α := fun ρ => match o with
  | some a => .ok a ρ
  | none => .no

theorem RS.anti {K : PySem.W.Frag} {mg : Str → Option Value} {τ : Tau} {Ho Ho' G : Hp} {ρ : List Sl} {σ : L2.St} {H : Hp} (e : Same Ho Ho') (x : RS K mg τ Ho' G ρ σ H) : RS K mg τ Ho G ρ σ H := by
  obtain ⟨O, x⟩ := x
  refine ⟨O, x.gh, fun a i q => ?_, e.trans x.out, x.len, x.sl⟩
  obtain ⟨h1, h2, h3⟩ := x.oh a i q
  refine ⟨h1, ?_, h3⟩
  cases w : Ho a with
  | none => rfl
  | some o => rw [e _ _ w] at h2; cases h2
theorem Gr.anti {Ho Ho' G G' : Hp} (e : Same Ho Ho') (x : Gr Ho' G G') : Gr Ho G G' := ⟨x.1, fun a o h => x.2 a o (e a o h)⟩

/-- a frame's context: the machine's, the callers' heap, the frozen part at the entry, what is wished of an exception, how many calls deep there is room -/
structure DC where
  X : Cx
  τ : Tau
  Ho : Hp
  G0 : Hp
  Ex : Exn → List Sl → Prop
  k : Nat
  g : Bool
  gd : g = true → X.A.guards = some []
  hot : Bool
  dp : X.A.depth + 3 * k + 5 < recursionLimit
  un : X.A.units + 16 * k + 200 < cLine
  hd : hot = false → X.A.handled = none
  calm : hot = false → X.calm = true
  tk : Takes X (fun cls d σ H => ∃ G ρ x, RS X.K X.mg τ Ho G ρ σ H ∧ Gr Ho G0 G ∧ RepX X.K X.mg G x cls d ∧ Ex x ρ)
theorem DC.room (Z : DC) (h : Z.hot = false) : Room Z.k Z.X.A := ⟨Z.hd h, Z.dp, Z.un⟩
theorem DC.units (Z : DC) : Z.X.A.units + 64 < cLine := by have := Z.un; omega
structure DC.R (Z : DC) (Ho G : Hp) (ρ : List Sl) (σ : L2.St) (H : Hp) : Prop where
  rs : RS Z.X.K Z.X.mg Z.τ Ho G ρ σ H
  ho : Same Z.Ho Ho
  g0 : Gr Z.Ho Z.G0 G
abbrev DC.rep (Z : DC) : Hp → D → V → Prop := Rep Z.X.K Z.X.mg
def DC.W (Z : DC) : WX := fun cls d σ H => ∃ G ρ x, RS Z.X.K Z.X.mg Z.τ Z.Ho G ρ σ H ∧ Gr Z.Ho Z.G0 G ∧ RepX Z.X.K Z.X.mg G x cls d ∧ Z.Ex x ρ
section
variable {Z : DC} {Ho G : Hp} {ρ : List Sl} {σ : L2.St} {H : Hp}
theorem DC.R.to {G' : Hp} {ρ' : List Sl} {σ' : L2.St} {H' : Hp} (x : Z.R Ho G ρ σ H) (y : RS Z.X.K Z.X.mg Z.τ Ho G' ρ' σ' H') (g : Gr Ho G G') : Z.R Ho G' ρ' σ' H' := ⟨y, x.ho, x.g0.trans (g.anti x.ho)⟩
theorem DC.R.gh (x : Z.R Ho G ρ σ H) : Same G H := x.rs.gh
theorem DC.R.out (x : Z.R Ho G ρ σ H) : Same Ho H := x.rs.out
theorem DC.R.len (x : Z.R Ho G ρ σ H) : ρ.length = σ.length := x.rs.len
theorem DC.R.freeG (x : Z.R Ho G ρ σ H) {p : Addr} (h : H p = none) : G p = none := x.rs.freeG h
theorem DC.R.freeHo (x : Z.R Ho G ρ σ H) {p : Addr} (h : H p = none) : Ho p = none := x.rs.freeHo h
theorem DC.R.sh (x : Z.R Ho G ρ σ H) {i : Nat} {d : D} (e : ρ[i]? = some (.sh d)) : ∃ v, σ[i]? = some (some v) ∧ Rep Z.X.K Z.X.mg G d v := x.rs.sh e
theorem DC.R.allocF (x : Z.R Ho G ρ σ H) {p : Addr} {o : HO} (h : H p = none) : Z.R Ho (upd G p o) ρ σ (upd H p o) ∧ Gr Ho G (upd G p o) :=
  let ⟨h1, h2⟩ := x.rs.allocF (o := o) h
  ⟨x.to h1 h2, h2⟩
theorem DC.R.push (x : Z.R Ho G ρ σ H) {d : D} {v : V} (r : Rep Z.X.K Z.X.mg G d v) : Z.R Ho G (.sh d :: ρ) (some v :: σ) H := x.to (x.rs.push r) Gr.refl
theorem DC.R.pushO (x : Z.R Ho G ρ σ H) {d : D} {o : HO} (r : TopOk Z.X.K Z.X.mg G d o) {p : Addr} (h : H p = none) : Z.R Ho G (.ow none d :: ρ) (some (.ref p) :: σ) (upd H p o) := x.to (x.rs.pushO r h) Gr.refl
theorem DC.R.pop {r : Sl} {v : Option V} (x : Z.R Ho G (r :: ρ) (v :: σ) H) : Z.R Ho G ρ σ H := x.to x.rs.pop Gr.refl
theorem DC.R.assign {r : Sl} {v : V} (x : Z.R Ho G (r :: ρ) (some v :: σ) H) (i : Nat) : Z.R Ho G (ρ.set i r) (σ.set i (some v)) H := x.to (x.rs.assign i) Gr.refl
theorem DC.R.mut (x : Z.R Ho G ρ σ H) {i : Nat} {t : Option Nat} {d : D} (e : ρ[i]? = some (.ow t d)) : ∃ a o, σ[i]? = some (some (.ref a)) ∧ H a = some o ∧ TopOk Z.X.K Z.X.mg G d o ∧
    ∀ o' d', TopOk Z.X.K Z.X.mg G d' o' → Z.R Ho G (ρ.set i (.ow t d')) σ (upd H a o') :=
  let ⟨a, o, h1, h2, h3, h4⟩ := x.rs.mut e
  ⟨a, o, h1, h2, h3, fun o' d' z => x.to (h4 o' d' z) Gr.refl⟩
theorem DC.R.freeze (x : Z.R Ho G ρ σ H) {i : Nat} {t : Option Nat} {d : D} (e : ρ[i]? = some (.ow t d)) : ∃ G', Gr Ho G G' ∧ Z.R Ho G' (ρ.set i (.sh d)) σ H :=
  let ⟨G', g, h⟩ := x.rs.freeze e
  ⟨G', g, x.to h g⟩
theorem DC.R.forget (x : Z.R Ho G ρ σ H) (i : Nat) : Z.R Ho G (ρ.set i .no) σ H := x.to (x.rs.forget i) Gr.refl
end

/-- frozen, or (b) what a slot owns, read for a moment -/
def BR (K : PySem.W.Frag) (mg : Str → Option Value) (b : Bool) (G H : Hp) (d : D) (v : V) : Prop :=
  Rep K mg G d v ∨ (b = true ∧ ∃ a o, v = .ref a ∧ H a = some o ∧ TopOk K mg G d o)
abbrev DC.BR (Z : DC) : Bool → Hp → Hp → D → V → Prop := DS.BR Z.X.K Z.X.mg
theorem BR.rep {K : PySem.W.Frag} {mg : Str → Option Value} {G H : Hp} {d : D} {v : V} (h : BR K mg false G H d v) : Rep K mg G d v := by
  rcases h with h | ⟨h, _⟩
  · exact h
  · cases h
theorem BR.of {K : PySem.W.Frag} {mg : Str → Option Value} {b : Bool} {G H : Hp} {d : D} {v : V} (h : Rep K mg G d v) : BR K mg b G H d v := .inl h
theorem BR.inH {K : PySem.W.Frag} {mg : Str → Option Value} {b : Bool} {G H : Hp} {d : D} {v : V} (e : Same G H) (h : BR K mg b G H d v) : Rep K mg H d v := by
  rcases h with h | ⟨_, a, o, rfl, h1, h2⟩
  · exact Rep.mono e _ _ h
  · exact (h2.mono e).rep h1
theorem BR.go {K : PySem.W.Frag} {mg : Str → Option Value} {b : Bool} {G G' H H' : Hp} {d : D} {v : V} (e : Same G G') (f : b = true → Same H H') (h : BR K mg b G H d v) : BR K mg b G' H' d v := by
  rcases h with h | ⟨hb, a, o, rfl, h1, h2⟩
  · exact .inl (Rep.mono e _ _ h)
  · exact .inr ⟨hb, a, o, rfl, f hb _ _ h1, h2.mono e⟩
theorem BR.up {K : PySem.W.Frag} {mg : Str → Option Value} {b : Bool} {G H : Hp} {d : D} {v : V} (h : BR K mg b G H d v) : BR K mg true G H d v := by
  rcases h with h | ⟨_, h⟩
  · exact .inl h
  · exact .inr ⟨rfl, h⟩

/-- p: no thing is changed; b: the value may be one that a slot owns -/
structure Md where
  p : Bool
  b : Bool
def LJ (Z : DC) (Ho : Hp) (m : Md) (G H : Hp) (σ : L2.St) (r : Res D) (Q : VK) : Prop := match r with
  | .ok d ρ => ∀ v G' H', Z.R Ho G' ρ σ H' → Gr Ho G G' → (m.p = true → Same H H') → Z.BR m.b G' H' d v → Q v H'
  | .ex x ρ => Z.Ex x ρ
  | .no => False
def LT (Z : DC) (Ho : Hp) (p : Bool) (G H : Hp) (σ : L2.St) (r : Res Bool) (Q : Bool → Hp → Prop) : Prop := match r with
  | .ok c ρ => ∀ G' H', Z.R Ho G' ρ σ H' → Gr Ho G G' → (p = true → Same H H') → Q c H'
  | .ex x ρ => Z.Ex x ρ
  | .no => False
/-- data, or a slot by reference -/
inductive Arg where
  | dt (d : D)
  | sl (i : Nat)
def ArgOk (Z : DC) (G : Hp) (ρ : List Sl) (σ : L2.St) : Arg → V → Prop
  | .dt d, v => Z.rep G d v
  | .sl i, v => σ[i]? = some (some v) ∧ ∃ t R, ρ[i]? = some (.rs t R)
inductive ArgsOk (Z : DC) (G : Hp) (ρ : List Sl) (σ : L2.St) : List Arg → List V → Prop
  | nil : ArgsOk Z G ρ σ [] []
  | cons {a : Arg} {v : V} {as : List Arg} {vs : List V} : ArgOk Z G ρ σ a v → ArgsOk Z G ρ σ as vs → ArgsOk Z G ρ σ (a :: as) (v :: vs)
def LA (Z : DC) (Ho : Hp) (G H : Hp) (σ : L2.St) (r : Res (List D)) (Q : List V → Hp → Prop) : Prop := match r with
  | .ok ds ρ => ∀ vs G' H', Z.R Ho G' ρ σ H' → Gr Ho G G' → RepL Z.X.K Z.X.mg G' ds vs → Q vs H'
  | .ex x ρ => Z.Ex x ρ
  | .no => False
/-- the value of an expression that is a new container of one's own, or data -/
def LR (Z : DC) (Ho : Hp) (G : Hp) (σ : L2.St) (r : Res Sl) (Q : VK) : Prop := match r with
  | .ok s ρ => ∀ v G' H', Z.R Ho G' (s :: ρ) (some v :: σ) H' → Gr Ho G G' → Q v H'
  | .ex x ρ => Z.Ex x ρ
  | .no => False

def DE (Z : DC) (m : Md) (e : Expr) (t : M D) : Prop := ∃ te, PE Z.X e te ∧ ∀ Ho, Same Z.Ho Ho → ∀ G ρ σ H Q, Z.R Ho G ρ σ H → LJ Z Ho m G H σ (t ρ) Q → te σ H Q
def DT (Z : DC) (p : Bool) (e : Expr) (t : M Bool) : Prop := ∃ te, PT Z.X e te ∧ ∀ Ho, Same Z.Ho Ho → ∀ G ρ σ H Q, Z.R Ho G ρ σ H → LT Z Ho p G H σ (t ρ) Q → te σ H Q
def DR (Z : DC) (e : Expr) (t : M Sl) : Prop := ∃ te, PE Z.X e te ∧ ∀ Ho, Same Z.Ho Ho → ∀ G ρ σ H Q, Z.R Ho G ρ σ H → LR Z Ho G σ (t ρ) Q → te σ H Q
def DA (Z : DC) (es : List Expr) (t : M (List D)) : Prop := ∃ te, PA Z.X es te ∧ ∀ Ho, Same Z.Ho Ho → ∀ G ρ σ H Q, Z.R Ho G ρ σ H → LA Z Ho G H σ (t ρ) Q → te σ H Q

section
variable {Z : DC} {Ho : Hp} {m m1 m2 m3 : Md} {p p1 p2 : Bool} {e a b c : Expr} {t ta tb tc : M D} {pos : Pos}

theorem LJ.imp {G G1 H H1 : Hp} {σ : L2.St} {r : Res D} {Q Q' : VK} (g : Gr Ho G G1) (s : m.p = true → Same H H1) (h : LJ Z Ho m G H σ r Q)
    (hq : ∀ d ρ, r = .ok d ρ → ∀ v G' H', Z.R Ho G' ρ σ H' → Gr Ho G1 G' → (m.p = true → Same H1 H') → Z.BR m.b G' H' d v → Q v H' → Q' v H') : LJ Z Ho m G1 H1 σ r Q' := by
  cases r with
  | ok d ρ => exact fun v G' H' x g' s' b => hq d ρ rfl v G' H' x g' s' b (h v G' H' x (g.trans g') (fun q => (s q).trans (s' q)) b)
  | ex x ρ => exact h
  | no => exact h
/-- an expression's value, then what is done with it -/
theorem DE.then {α : Type} {r : Res D} {u : D → M α} {L : Res α → Prop} {G H : Hp} {σ : L2.St} {Q : VK} (hex : ∀ x ρ, L (.ex x ρ) → Z.Ex x ρ) (hno : L .no → False)
    (h : L (r.bind u)) (hq : ∀ d ρ v G' H', Z.R Ho G' ρ σ H' → Gr Ho G G' → (m.p = true → Same H H') → Z.BR m.b G' H' d v → L (u d ρ) → Q v H') : LJ Z Ho m G H σ r Q := by
  cases r with
  | ok d ρ => exact fun v G' H' x g s b => hq d ρ v G' H' x g s b h
  | ex x ρ => exact hex x ρ h
  | no => exact hno h
theorem DT.then {α : Type} {r : Res Bool} {u : Bool → M α} {L : Res α → Prop} {G H : Hp} {σ : L2.St} {Q : Bool → Hp → Prop} (hex : ∀ x ρ, L (.ex x ρ) → Z.Ex x ρ) (hno : L .no → False)
    (h : L (r.bind u)) (hq : ∀ d ρ G' H', Z.R Ho G' ρ σ H' → Gr Ho G G' → (p = true → Same H H') → L (u d ρ) → Q d H') : LT Z Ho p G H σ r Q := by
  cases r with
  | ok d ρ => exact fun G' H' x g s => hq d ρ G' H' x g s h
  | ex x ρ => exact hex x ρ h
  | no => exact hno h
theorem DA.then {α : Type} {r : Res (List D)} {u : List D → M α} {L : Res α → Prop} {G H : Hp} {σ : L2.St} {Q : List V → Hp → Prop} (hex : ∀ x ρ, L (.ex x ρ) → Z.Ex x ρ) (hno : L .no → False)
    (h : L (r.bind u)) (hq : ∀ ds ρ vs G' H', Z.R Ho G' ρ σ H' → Gr Ho G G' → RepL Z.X.K Z.X.mg G' ds vs → L (u ds ρ) → Q vs H') : LA Z Ho G H σ r Q := by
  cases r with
  | ok d ρ => exact fun v G' H' x g b => hq d ρ v G' H' x g b h
  | ex x ρ => exact hex x ρ h
  | no => exact hno h
theorem DR.then {α : Type} {r : Res Sl} {u : Sl → M α} {L : Res α → Prop} {G : Hp} {σ : L2.St} {Q : VK} (hex : ∀ x ρ, L (.ex x ρ) → Z.Ex x ρ) (hno : L .no → False)
    (h : L (r.bind u)) (hq : ∀ s ρ v G' H', Z.R Ho G' (s :: ρ) (some v :: σ) H' → Gr Ho G G' → L (u s ρ) → Q v H') : LR Z Ho G σ r Q := by
  cases r with
  | ok d ρ => exact fun v G' H' x g => hq d ρ v G' H' x g h
  | ex x ρ => exact hex x ρ h
  | no => exact hno h

theorem DE.mono (h : DE Z m e t) (hp : m1.p = true → m.p = true) (hb : m.b = true → m1.b = true) : DE Z m1 e t := by
  obtain ⟨te, h1, h2⟩ := h
  refine ⟨te, h1, fun Ho hw G ρ σ H Q x q => h2 Ho hw G ρ σ H Q x ?_⟩
  cases e : t ρ with
  | ok d ρ' =>
    rw [e] at q
    refine fun v G' H' x g s br => q v G' H' x g (fun z => s (hp z)) ?_
    rcases br with br | ⟨z, br⟩
    · exact .inl br
    · exact .inr ⟨hb z, br⟩
  | ex x ρ' => rw [e] at q; exact q
  | no => rw [e] at q; exact q
theorem DT.mono {t : M Bool} (h : DT Z p e t) (hp : p1 = true → p = true) : DT Z p1 e t := by
  obtain ⟨te, h1, h2⟩ := h
  refine ⟨te, h1, fun Ho hw G ρ σ H Q x q => h2 Ho hw G ρ σ H Q x ?_⟩
  cases e : t ρ with
  | ok d ρ' => rw [e] at q; exact fun G' H' x g s => q G' H' x g (fun z => s (hp z))
  | ex x ρ' => rw [e] at q; exact q
  | no => rw [e] at q; exact q

/-! ### names, constants -/
/-- a name, read for good: what it owns is frozen -/
def dVar (i : Nat) : M D := fun ρ => match ρ[i]? with
  | some (.sh d) => .ok d ρ
  | some (.ow _ d) => .ok d (ρ.set i (.sh d))
  | _ => .no
theorem de_var (i : Nat) {x : Str} (hN : Z.X.N[i]? = some x := by rfl) (hv : Vis Z.X.env.scope x := by first | exact Or.inl rfl | exact Or.inr (Or.inl rfl) | exact Or.inr (Or.inr rfl)) (hd : (x == ("__debug__" : Str)) = false := by decide)
    (hcd : (x == ("__classdict__" : Str)) = false := by decide) : DE Z ⟨true, false⟩ (.Name x pos) (dVar i) := by
  refine ⟨_, pe_var hN hv hd hcd, fun Ho hw G ρ σ H Q x q => ?_⟩
  unfold dVar at q
  cases e : ρ[i]? with
  | none => rw [e] at q; exact q.elim
  | some s =>
    rw [e] at q
    cases s with
    | no => exact q.elim
    | rs t R => exact q.elim
    | er x => exact q.elim
    | th x => exact q.elim
    | td x => exact q.elim
    | tb => exact q.elim
    | sh d =>
      obtain ⟨v, h1, h2⟩ := x.sh e
      exact ⟨v, h1, q v G H x Gr.refl (fun _ => Same.refl _) (.inl h2)⟩
    | ow t d =>
      obtain ⟨G', g, x'⟩ := x.freeze e
      have e' : (ρ.set i (.sh d))[i]? = some (.sh d) := List.getElem?_set_self (List.getElem?_eq_some_iff.mp e).1
      obtain ⟨v, h1, h2⟩ := x'.sh e'
      exact ⟨v, h1, q v G' H x' g (fun _ => Same.refl _) (.inl h2)⟩
/-- a name, read for a moment -/
def dVarB (i : Nat) : M D := fun ρ => match ρ[i]? with
  | some (.sh d) => .ok d ρ
  | some (.ow _ d) => .ok d ρ
  | _ => .no
theorem de_varB (i : Nat) {x : Str} (hN : Z.X.N[i]? = some x := by rfl) (hv : Vis Z.X.env.scope x := by first | exact Or.inl rfl | exact Or.inr (Or.inl rfl) | exact Or.inr (Or.inr rfl)) (hd : (x == ("__debug__" : Str)) = false := by decide)
    (hcd : (x == ("__classdict__" : Str)) = false := by decide) : DE Z ⟨true, true⟩ (.Name x pos) (dVarB i) := by
  refine ⟨_, pe_var hN hv hd hcd, fun Ho hw G ρ σ H Q x q => ?_⟩
  unfold dVarB at q
  cases e : ρ[i]? with
  | none => rw [e] at q; exact q.elim
  | some s =>
    rw [e] at q
    cases s with
    | no => exact q.elim
    | rs t R => exact q.elim
    | er x => exact q.elim
    | th x => exact q.elim
    | td x => exact q.elim
    | tb => exact q.elim
    | sh d =>
      obtain ⟨v, h1, h2⟩ := x.sh e
      exact ⟨v, h1, q v G H x Gr.refl (fun _ => Same.refl _) (.inl h2)⟩
    | ow t d =>
      obtain ⟨a, o, h1, h2, h3, _⟩ := x.mut e
      exact ⟨_, h1, q _ G H x Gr.refl (fun _ => Same.refl _) (.inr ⟨rfl, a, o, rfl, h2, h3⟩)⟩

theorem de_c {v : V} {d : D} (he : PE Z.X e (tC v)) (hr : ∀ G, Z.rep G d v) : DE Z ⟨true, false⟩ e (ret d) :=
  ⟨_, he, fun Ho hw G ρ σ H Q x q => q v G H x Gr.refl (fun _ => Same.refl _) (.inl (hr G))⟩
theorem de_int {i : Int} {j : Nat} : DE Z ⟨true, false⟩ (.Constant (.int i) j pos) (ret (.int i)) := de_c pe_int fun G => by unfold DC.rep Rep; rfl
theorem de_bl {i : Bool} {j : Nat} : DE Z ⟨true, false⟩ (.Constant (.bool i) j pos) (ret (.bl i)) := de_c pe_bl fun G => by unfold DC.rep Rep; rfl
theorem de_non {j : Nat} : DE Z ⟨true, false⟩ (.Constant .none j pos) (ret .non) := de_c pe_non fun G => by unfold DC.rep Rep; rfl
theorem de_str {i : Str} {j : Nat} (h : PyData.strOk i = true := by decide +kernel) : DE Z ⟨true, false⟩ (.Constant (.str i) j pos) (ret (.str i)) := de_c pe_str fun G => by unfold DC.rep Rep; exact ⟨rfl, h⟩

/-! ### operations of two -/
/-- r, on data, gives f -/
structure OpD (Z : DC) (r : R2) (f : D → D → Option D) : Prop where
  ok : ∀ {Ho G : Hp} {ρ : List Sl} {σ : L2.St} {H : Hp} {d e z : D} {x y : V} {Q : VK}, Z.R Ho G ρ σ H → Z.BR true G H d x → Z.BR true G H e y → f d e = some z →
  (∀ v G' H', Z.R Ho G' ρ σ H' → Gr Ho G G' → Same H H' → Z.rep G' z v → Q v H') → r x y H Q
def d2 (f : D → D → Option D) (ta tb : M D) : M D := bnd ta fun d => bnd tb fun e => lft (f d e)
theorem op2 {r : R2} {f : D → D → Option D} (hd : OpD Z r f) {tea teb : TE} (ha : ∀ Ho, Same Z.Ho Ho → ∀ G ρ σ H Q, Z.R Ho G ρ σ H → LJ Z Ho m1 G H σ (ta ρ) Q → tea σ H Q) (hb : ∀ Ho, Same Z.Ho Ho → ∀ G ρ σ H Q, Z.R Ho G ρ σ H → LJ Z Ho m2 G H σ (tb ρ) Q → teb σ H Q)
    (hm : (!m1.b || m2.p) = true) {Ho : Hp} (hw : Same Z.Ho Ho) {G : Hp} {ρ : List Sl} {σ : L2.St} {H : Hp} {Q : VK} (x : Z.R Ho G ρ σ H) (q : LJ Z Ho ⟨m1.p && m2.p, false⟩ G H σ (d2 f ta tb ρ) Q) : tOp r tea teb σ H Q := by
  refine ha Ho hw G ρ σ H _ x (DE.then (L := fun r => LJ Z Ho ⟨m1.p && m2.p, false⟩ G H σ r Q) (fun _ _ h => h) (fun h => h) q fun d ρ1 v G1 H1 x1 g1 s1 b1 q1 => ?_)
  refine hb Ho hw G1 ρ1 σ H1 _ x1 (DE.then (L := fun r => LJ Z Ho ⟨m1.p && m2.p, false⟩ G H σ r Q) (fun _ _ h => h) (fun h => h) q1 fun e ρ2 w G2 H2 x2 g2 s2 b2 q2 => ?_)
  unfold lft at q2
  cases ef : f d e with
  | none => rw [ef] at q2; exact q2.elim
  | some z =>
    rw [ef] at q2
    have bb : Z.BR m1.b G2 H2 d v := b1.go g2.1 fun hb => s2 (by rw [hb] at hm; simpa using hm)
    refine hd.ok x2 bb.up b2.up ef fun u G' H' x' g' s' r' => q2 u G' H' x' ((g1.trans g2).trans g') (fun hp => ?_) (.inl r')
    rw [Bool.and_eq_true] at hp
    exact ((s1 hp.1).trans (s2 hp.2)).trans s'
theorem de_bin {op : Operator} {r : R2} {f : D → D → Option D} (ho : OpR Z.X (binaryOp op) r) (hd : OpD Z r f) (ha : DE Z m1 a ta) (hb : DE Z m2 b tb) (hm : (!m1.b || m2.p) = true := by rfl) :
    DE Z ⟨m1.p && m2.p, false⟩ (.BinOp a op b pos) (d2 f ta tb) := by
  obtain ⟨tea, pa, sa⟩ := ha
  obtain ⟨teb, pb, sb⟩ := hb
  exact ⟨_, pe_op ho pa pb, fun Ho hw G ρ σ H Q x q => op2 hd sa sb hm hw x q⟩
theorem de_cmp {op : CmpOp} {r : R2} {f : D → D → Option D} (ho : OpR Z.X (compareOp op) r) (hd : OpD Z r f) (ha : DE Z m1 a ta) (hb : DE Z m2 b tb) (hm : (!m1.b || m2.p) = true := by rfl) (hx : behindInMarks op b = false := by first | rfl | exact nomark _) :
    DE Z ⟨m1.p && m2.p, false⟩ (.Compare a [op] [b] pos) (d2 f ta tb) := by
  obtain ⟨tea, pa, sa⟩ := ha
  obtain ⟨teb, pb, sb⟩ := hb
  exact ⟨_, pe_cmpR ho pa pb hx, fun Ho hw G ρ σ H Q x q => op2 hd sa sb hm hw x q⟩
def asB (d : D) : Option Bool := match d with
  | .bl c => some c
  | _ => none
theorem asB_some {d : D} {c : Bool} (h : asB d = some c) : d = .bl c := by
  cases d <;> first | (cases h; rfl) | cases h
def dB (t : M D) : M Bool := bnd t fun d => lft (asB d)
/-- a value that is True or False as a test -/
theorem tstB {te : TE} (ha : ∀ Ho, Same Z.Ho Ho → ∀ G ρ σ H Q, Z.R Ho G ρ σ H → LJ Z Ho m1 G H σ (ta ρ) Q → te σ H Q) {Ho : Hp} (hw : Same Z.Ho Ho) {G : Hp} {ρ : List Sl} {σ : L2.St} {H : Hp} {Q : Bool → Hp → Prop} (x : Z.R Ho G ρ σ H) (q : LT Z Ho m1.p G H σ (dB ta ρ) Q) :
    te σ H fun v H' => ∃ k, v = .bl k ∧ Q k H' := by
  refine ha Ho hw G ρ σ H _ x (DE.then (L := fun r => LT Z Ho m1.p G H σ r Q) (fun _ _ h => h) (fun h => h) q fun d ρ1 v G1 H1 x1 g1 s1 b1 q1 => ?_)
  unfold lft at q1
  cases ef : asB d with
  | none => rw [ef] at q1; exact q1.elim
  | some c =>
    rw [ef] at q1
    have := asB_some ef
    subst this
    have hv : v = .bl c := by
      rcases b1 with b1 | ⟨_, _, _, _, _, h⟩
      · unfold Rep at b1; exact b1
      · cases h
    exact ⟨c, hv, q1 G1 H1 x1 g1 s1⟩
theorem dt_cmp {op : CmpOp} {r : R2} {f : D → D → Option D} (ho : OpR Z.X (compareOp op) r) (hd : OpD Z r f) (ha : DE Z m1 a ta) (hb : DE Z m2 b tb) (hm : (!m1.b || m2.p) = true := by rfl) (hx : behindInMarks op b = false := by first | rfl | exact nomark _) :
    DT Z (m1.p && m2.p) (.Compare a [op] [b] pos) (dB (d2 f ta tb)) := by
  obtain ⟨tea, pa, sa⟩ := ha
  obtain ⟨teb, pb, sb⟩ := hb
  refine ⟨_, pt_cmpR ho pa pb hx, fun Ho hw G ρ σ H Q x q => ?_⟩
  exact tstB (m1 := ⟨m1.p && m2.p, false⟩) (fun Ho hw G ρ σ H Q x q => op2 hd sa sb hm hw x q) hw x q
/-- any value's truth, where it is a bool -/
theorem dt_val (ha : DE Z m1 e t) (he : ∀ whole, isTrue e Z.X.env whole = (do let v ← whole; standAt e.pos; holding [v] (truthy v)) := by intro _; rfl) : DT Z m1.p e (dB t) := by
  obtain ⟨tea, pa, sa⟩ := ha
  exact ⟨_, pt_val pa he, fun Ho hw G ρ σ H Q x q => tstB sa hw x q⟩

/-! ### tests -/
def dNotT (t : M Bool) : M Bool := bnd t fun c => ret (!c)
theorem dt_not {t : M Bool} (h : DT Z p e t) : DT Z p (.UnaryOp .Not e pos) (dNotT t) := by
  obtain ⟨te, pa, sa⟩ := h
  refine ⟨_, pt_not pa, fun Ho hw G ρ σ H Q x q => ?_⟩
  exact sa Ho hw G ρ σ H _ x (DT.then (L := fun r => LT Z Ho p G H σ r Q) (fun _ _ h => h) (fun h => h) q fun c ρ1 G1 H1 x1 g1 s1 q1 => q1 G1 H1 x1 g1 s1)
def dAndT (t u : M Bool) : M Bool := bnd t fun c => if c then u else ret false
def dOrT (t u : M Bool) : M Bool := bnd t fun c => if c then ret true else u
def DW (Z : DC) (p : Bool) (e : Expr) (t : M Bool) : Prop := ∃ te, PW Z.X e te ∧ ∀ Ho, Same Z.Ho Ho → ∀ G ρ σ H Q, Z.R Ho G ρ σ H → LT Z Ho p G H σ (t ρ) Q → te σ H Q
theorem DW.dt {t : M Bool} (h : DW Z p e t) : DT Z p e t := by
  obtain ⟨te, pa, sa⟩ := h
  exact ⟨te, pa.pt, sa⟩
theorem dw_and1 {t : M Bool} (h : DT Z p e t) : DW Z p (.BoolOp .And [e] pos) t := by
  obtain ⟨te, pa, sa⟩ := h
  exact ⟨te, pw_and1 pa, sa⟩
theorem dw_or1 {t : M Bool} (h : DT Z p e t) : DW Z p (.BoolOp .Or [e] pos) t := by
  obtain ⟨te, pa, sa⟩ := h
  exact ⟨te, pw_or1 pa, sa⟩
theorem LT.from {t : M Bool} {ρ : List Sl} {G G1 H H1 : Hp} {σ : L2.St} {Q : Bool → Hp → Prop} (g : Gr Ho G G1) (s : p1 = true → Same H H1) (q : LT Z Ho (p1 && p2) G H σ (t ρ) Q) : LT Z Ho p2 G1 H1 σ (t ρ) Q := by
  cases e : t ρ with
  | ok c ρ' =>
    rw [e] at q
    refine fun G' H' x g' s' => q G' H' x (g.trans g') fun hp => ?_
    rw [Bool.and_eq_true] at hp
    exact (s hp.1).trans (s' hp.2)
  | ex x ρ' => rw [e] at q; exact q
  | no => rw [e] at q; exact q
theorem dw_and {rest : List Expr} {t u : M Bool} (h : DT Z p1 a t) (h2 : DW Z p2 (.BoolOp .And (b :: rest) pos) u) : DW Z (p1 && p2) (.BoolOp .And (a :: b :: rest) pos) (dAndT t u) := by
  obtain ⟨te, pa, sa⟩ := h
  obtain ⟨ue, pb, sb⟩ := h2
  refine ⟨_, pw_and pa pb, fun Ho hw G ρ σ H Q x q => ?_⟩
  refine sa Ho hw G ρ σ H _ x (DT.then (L := fun r => LT Z Ho (p1 && p2) G H σ r Q) (fun _ _ h => h) (fun h => h) q fun c ρ1 G1 H1 x1 g1 s1 q1 => ?_)
  cases c with
  | true =>
    rw [if_pos rfl] at q1 ⊢
    exact sb Ho hw G1 ρ1 σ H1 Q x1 (LT.from g1 s1 q1)
  | false =>
    rw [if_neg Bool.false_ne_true] at q1 ⊢
    refine q1 G1 H1 x1 g1 fun hp => ?_
    rw [Bool.and_eq_true] at hp
    exact s1 hp.1
theorem dw_or {rest : List Expr} {t u : M Bool} (h : DT Z p1 a t) (h2 : DW Z p2 (.BoolOp .Or (b :: rest) pos) u) : DW Z (p1 && p2) (.BoolOp .Or (a :: b :: rest) pos) (dOrT t u) := by
  obtain ⟨te, pa, sa⟩ := h
  obtain ⟨ue, pb, sb⟩ := h2
  refine ⟨_, pw_or pa pb, fun Ho hw G ρ σ H Q x q => ?_⟩
  refine sa Ho hw G ρ σ H _ x (DT.then (L := fun r => LT Z Ho (p1 && p2) G H σ r Q) (fun _ _ h => h) (fun h => h) q fun c ρ1 G1 H1 x1 g1 s1 q1 => ?_)
  cases c with
  | true =>
    rw [if_pos rfl] at q1 ⊢
    refine q1 G1 H1 x1 g1 fun hp => ?_
    rw [Bool.and_eq_true] at hp
    exact s1 hp.1
  | false =>
    rw [if_neg Bool.false_ne_true] at q1 ⊢
    exact sb Ho hw G1 ρ1 σ H1 Q x1 (LT.from g1 s1 q1)

/-! ### a if c else b -/
def dIf {α : Type} (t : M Bool) (ta tb : M α) : M α := bnd t fun c => if c then ta else tb
theorem LJ.from {ρ : List Sl} {G G1 H H1 : Hp} {σ : L2.St} {Q : VK} (g : Gr Ho G G1) (s : m.p = true → Same H H1) (q : LJ Z Ho m G H σ (t ρ) Q) (hp : m.p = true → m1.p = true) (hb : m1.b = true → m.b = true) : LJ Z Ho m1 G1 H1 σ (t ρ) Q := by
  cases e : t ρ with
  | ok c ρ' =>
    rw [e] at q
    refine fun v G' H' x g' s' br => q v G' H' x (g.trans g') (fun h => (s h).trans (s' (hp h))) ?_
    rcases br with br | ⟨z, br⟩
    · exact .inl br
    · exact .inr ⟨hb z, br⟩
  | ex x ρ' => rw [e] at q; exact q
  | no => rw [e] at q; exact q
theorem de_if {t : M Bool} (hc : DT Z p c t) (ha : DE Z m1 a ta) (hb : DE Z m2 b tb) : DE Z ⟨p && m1.p && m2.p, m1.b || m2.b⟩ (.IfExp c a b pos) (dIf t ta tb) := by
  obtain ⟨te, pc, sc⟩ := hc
  obtain ⟨tea, pa, sa⟩ := ha
  obtain ⟨teb, pb, sb⟩ := hb
  refine ⟨_, pe_ifExp pc pa pb, fun Ho hw G ρ σ H Q x q => ?_⟩
  refine sc Ho hw G ρ σ H _ x (DT.then (L := fun r => LJ Z Ho ⟨p && m1.p && m2.p, m1.b || m2.b⟩ G H σ r Q) (fun _ _ h => h) (fun h => h) q fun c ρ1 G1 H1 x1 g1 s1 q1 => ?_)
  have ss : (p && m1.p && m2.p) = true → Same H H1 := fun h => s1 (by rw [Bool.and_eq_true, Bool.and_eq_true] at h; exact h.1.1)
  cases c with
  | true =>
    rw [if_pos rfl] at q1 ⊢
    exact sa Ho hw G1 ρ1 σ H1 Q x1 (LJ.from g1 ss q1 (fun h => by simp only [Bool.and_eq_true] at h; exact h.1.2) (fun h => by simp [h]))
  | false =>
    rw [if_neg Bool.false_ne_true] at q1 ⊢
    exact sb Ho hw G1 ρ1 σ H1 Q x1 (LJ.from g1 ss q1 (fun h => by simp only [Bool.and_eq_true] at h; exact h.2) (fun h => by simp [h]))

/-! ### lists of arguments, displays -/
def dNil : M (List D) := ret []
def dCons (t : M D) (u : M (List D)) : M (List D) := bnd t fun d => bnd u fun ds => ret (d :: ds)
theorem da_nil : DA Z [] dNil := ⟨_, pa_nil, fun Ho hw G ρ σ H Q x q => q [] G H x Gr.refl RepL.nil⟩
theorem LA.from {t : M (List D)} {ρ : List Sl} {G G1 H H1 : Hp} {σ : L2.St} {Q : List V → Hp → Prop} (g : Gr Ho G G1) (q : LA Z Ho G H σ (t ρ) Q) : LA Z Ho G1 H1 σ (t ρ) Q := by
  cases e : t ρ with
  | ok c ρ' => rw [e] at q; exact fun v G' H' x g' br => q v G' H' x (g.trans g') br
  | ex x ρ' => rw [e] at q; exact q
  | no => rw [e] at q; exact q
theorem da_cons {es : List Expr} {u : M (List D)} (h : DE Z m e t) (hr : DA Z es u) (hb : m.b = false := by rfl) (hs : starEach (e :: es) Z.X.env = (false, eval e Z.X.env) :: starEach es Z.X.env := by rfl) : DA Z (e :: es) (dCons t u) := by
  obtain ⟨te, pa, sa⟩ := h
  obtain ⟨tu, pr, sr⟩ := hr
  refine ⟨_, pa_cons pa pr hs, fun Ho hw G ρ σ H Q x q => ?_⟩
  refine sa Ho hw G ρ σ H _ x (DE.then (L := fun r => LA Z Ho G H σ r Q) (fun _ _ h => h) (fun h => h) q fun d ρ1 v G1 H1 x1 g1 s1 b1 q1 => ?_)
  refine sr Ho hw G1 ρ1 σ H1 _ x1 (DA.then (L := fun r => LA Z Ho G H σ r Q) (fun _ _ h => h) (fun h => h) q1 fun ds ρ2 vs G2 H2 x2 g2 b2 q2 => ?_)
  rw [hb] at b1
  exact q2 (v :: vs) G2 H2 x2 (g1.trans g2) (RepL.cons (Rep.mono g2.1 _ _ b1.rep) b2)
def dTup (u : M (List D)) : M D := bnd u fun ds => lft (if ds.length ≤ sizeLine then some (.tup ds) else none)
/-- (a, b, ..) -/
theorem de_tup {es : List Expr} {u : M (List D)} {x1} (h : DA Z es u) : DE Z ⟨false, false⟩ (.Tuple es x1 pos) (dTup u) := by
  obtain ⟨tu, pr, sr⟩ := h
  refine ⟨_, pe_tup pr, fun Ho hw G ρ σ H Q x q => ?_⟩
  refine sr Ho hw G ρ σ H _ x (DA.then (L := fun r => LJ Z Ho ⟨false, false⟩ G H σ r Q) (fun _ _ h => h) (fun h => h) q fun ds ρ1 vs G1 H1 x1 g1 b1 q1 => ?_)
  unfold lft at q1
  by_cases hz : ds.length ≤ sizeLine
  · simp only [if_pos hz] at q1
    refine ⟨by rw [b1.length]; exact hz, fun p hp => ?_⟩
    obtain ⟨x2, g2⟩ := x1.allocF (o := .tup vs) hp
    refine q1 _ _ _ x2 (g1.trans g2) (fun h => nomatch h) (.inl ?_)
    unfold Rep
    exact ⟨p, vs, rfl, SqT.of upd_same, RepL.mono g2.1 _ _ b1⟩
  · simp only [if_neg hz] at q1
    exact q1.elim
def dLst (u : M (List D)) : M Sl := bnd u fun ds => lft (if ds.length ≤ sizeLine then some (.ow none (.lst ds)) else none)
/-- [a, b, ..], one's own -/
theorem dr_lst {es : List Expr} {u : M (List D)} (h : DA Z es u) : DR Z (.List es pos) (dLst u) := by
  obtain ⟨tu, pr, sr⟩ := h
  refine ⟨_, pe_lst pr, fun Ho hw G ρ σ H Q x q => ?_⟩
  refine sr Ho hw G ρ σ H _ x (DA.then (L := fun r => LR Z Ho G σ r Q) (fun _ _ h => h) (fun h => h) q fun ds ρ1 vs G1 H1 x1 g1 b1 q1 => ?_)
  unfold lft at q1
  by_cases hz : ds.length ≤ sizeLine
  · simp only [if_pos hz] at q1
    exact ⟨by rw [b1.length]; exact hz, fun p hp => q1 _ _ _ (x1.pushO (.lst b1) hp) g1⟩
  · simp only [if_neg hz] at q1
    exact q1.elim
/-- data where a container of one's own may stand -/
def dSh (t : M D) : M Sl := bnd t fun d => ret (.sh d)
theorem DE.dr (h : DE Z m e t) (hb : m.b = false := by rfl) : DR Z e (dSh t) := by
  obtain ⟨te, pa, sa⟩ := h
  refine ⟨_, pa, fun Ho hw G ρ σ H Q x q => ?_⟩
  refine sa Ho hw G ρ σ H _ x (DE.then (L := fun r => LR Z Ho G σ r Q) (fun _ _ h => h) (fun h => h) q fun d ρ1 v G1 H1 x1 g1 s1 b1 q1 => ?_)
  rw [hb] at b1
  exact q1 v G1 H1 (x1.push b1.rep) g1
/-- the data of a slot, for good -/
def Sl.d : Sl → Option D
  | .sh d => some d
  | .ow _ d => some d
  | _ => none
def dFz (t : M Sl) : M D := bnd t fun s => lft s.d
theorem DR.de {t : M Sl} (h : DR Z e t) : DE Z ⟨false, false⟩ e (dFz t) := by
  obtain ⟨te, pa, sa⟩ := h
  refine ⟨_, pa, fun Ho hw G ρ σ H Q x q => ?_⟩
  refine sa Ho hw G ρ σ H _ x (DR.then (L := fun r => LJ Z Ho ⟨false, false⟩ G H σ r Q) (fun _ _ h => h) (fun h => h) q fun s ρ1 v G1 H1 x1 g1 q1 => ?_)
  cases s with
  | no => exact q1.elim
  | rs t R => exact q1.elim
  | er x => exact q1.elim
  | th x => exact q1.elim
  | td x => exact q1.elim
  | tb => exact q1.elim
  | sh d =>
    obtain ⟨v', h1, h2⟩ := x1.sh (i := 0) rfl
    cases h1
    exact q1 v G1 H1 x1.pop g1 (fun h => nomatch h) (.inl h2)
  | ow t d =>
    obtain ⟨G2, g2, x2⟩ := x1.freeze (i := 0) (t := t) (d := d) rfl
    obtain ⟨v', h1, h2⟩ := x2.sh (i := 0) rfl
    cases h1
    exact q1 v G2 H1 x2.pop (g1.trans g2) (fun h => nomatch h) (.inl h2)
end
end DS

set_option Elab.async false
set_option linter.all false
set_option maxRecDepth 100000
namespace DS
open PySem PySem.Spec PyProof.Rows L2

/-! ### values that are no objects -/
def D.v? : D → Option V
  | .non => some .non
  | .bl b => some (.bl b)
  | .int i => some (.int i)
  | .str x => some (.str x)
  | .ty n => some (.ty n)
  | _ => none
section
variable {K : PySem.W.Frag} {mg : Str → Option Value} {b : Bool} {G H : Hp} {v : V}
theorem BR.int {i : Int} (h : BR K mg b G H (.int i) v) : v = .int i := by
  rcases h with h | ⟨_, _, _, _, _, h⟩
  · unfold Rep at h; exact h
  · cases h
theorem BR.bl {i : Bool} (h : BR K mg b G H (.bl i) v) : v = .bl i := by
  rcases h with h | ⟨_, _, _, _, _, h⟩
  · unfold Rep at h; exact h
  · cases h
theorem BR.non (h : BR K mg b G H .non v) : v = .non := by
  rcases h with h | ⟨_, _, _, _, _, h⟩
  · unfold Rep at h; exact h
  · cases h
theorem BR.str {i : Str} (h : BR K mg b G H (.str i) v) : v = .str i ∧ PyData.strOk i = true := by
  rcases h with h | ⟨_, _, _, _, _, h⟩
  · unfold Rep at h; exact h
  · cases h
theorem BR.tup {ds : List D} (h : BR K mg b G H (.tup ds) v) : ∃ a vs, v = .ref a ∧ SqT K G a vs ∧ RepL K mg G ds vs := by
  rcases h with h | ⟨_, _, _, _, _, h⟩
  · unfold Rep at h; exact h
  · cases h
theorem BR.lst {ds : List D} (e : Same G H) (h : BR K mg b G H (.lst ds) v) : ∃ a vs, v = .ref a ∧ H a = some (.lst vs) ∧ RepL K mg G ds vs := by
  rcases h with h | ⟨_, a, o, rfl, h1, h⟩
  · unfold Rep at h
    obtain ⟨a, vs, h1, h2, h3⟩ := h
    exact ⟨a, vs, h1, e _ _ h2, h3⟩
  · cases h with
    | lst h => exact ⟨a, _, rfl, h1, h⟩
theorem rep_int {i : Int} : Rep K mg G (.int i) (.int i) := by unfold Rep; rfl
theorem rep_bl {i : Bool} : Rep K mg G (.bl i) (.bl i) := by unfold Rep; rfl
theorem rep_non : Rep K mg G .non .non := by unfold Rep; rfl
theorem rep_str {i : Str} (h : PyData.strOk i = true) : Rep K mg G (.str i) (.str i) := by unfold Rep; exact ⟨rfl, h⟩
theorem strOk_append {x y : Str} (hx : PyData.strOk x = true) (hy : PyData.strOk y = true) : PyData.strOk (x ++ y) = true := by
  unfold PyData.strOk at *
  show (x.cps ++ y.cps).all _ = true
  rw [Array.all_append, hx, hy]
  rfl
end

section
variable {Z : DC}
def fOr (f f' : D → D → Option D) : D → D → Option D := fun d e => match f d e with | some z => some z | none => f' d e
theorem OpD.or {r r' : R2} {f f' : D → D → Option D} (h : OpD Z r f) (h' : OpD Z r' f') : OpD Z (fun x y H Q => r x y H Q ∨ r' x y H Q) (fOr f f') := by
  refine ⟨?_⟩
  intro Ho G ρ σ H d e z x y Q hR hx hy hf hq
  unfold fOr at hf
  cases q : f d e with
  | some z' => simp only [q] at hf; cases hf; exact .inl (h.ok hR hx hy q hq)
  | none => simp only [q] at hf; exact .inr (h'.ok hR hx hy hf hq)
def fI (g : Int → Int → Option Int) : D → D → Option D := fun d e => match d, e with
  | .int i, .int j => (g i j).map D.int
  | _, _ => none
theorem opd_I {C : Int → Int → Prop} {h : Int → Int → Int} {g : Int → Int → Option Int} (hg : ∀ i j z, g i j = some z → C i j ∧ h i j = z) : OpD Z (rI C fun i j => .int (h i j)) (fI g) := by
  refine ⟨?_⟩
  intro Ho G ρ σ H d e z x y Q hR hx hy hf hq
  cases d <;> cases e <;> try (cases hf; done)
  rename_i i j
  unfold fI at hf
  cases q : g i j with
  | none => simp [q] at hf
  | some w =>
    simp [q] at hf
    subst hf
    obtain ⟨c, e⟩ := hg i j w q
    refine ⟨i, j, hx.int, hy.int, c, ?_⟩
    show Q (.int (h i j)) H
    rw [e]
    exact hq _ _ _ hR Gr.refl (Same.refl _) rep_int
theorem opd_I0 {h : Int → Int → Int} : OpD Z (rI0 fun i j => .int (h i j)) (fI fun i j => some (h i j)) := by
  refine ⟨?_⟩
  intro Ho G ρ σ H d e z x y Q hR hx hy hf hq
  cases d <;> cases e <;> try (cases hf; done)
  rename_i i j
  cases hf
  exact ⟨i, j, hx.int, hy.int, hq _ _ _ hR Gr.refl (Same.refl _) rep_int⟩
def fB (g : Int → Int → Bool) : D → D → Option D := fun d e => match d, e with
  | .int i, .int j => some (.bl (g i j))
  | _, _ => none
theorem opd_B0 {h : Int → Int → Bool} : OpD Z (rI0 fun i j => .bl (h i j)) (fB h) := by
  refine ⟨?_⟩
  intro Ho G ρ σ H d e z x y Q hR hx hy hf hq
  cases d <;> cases e <;> try (cases hf; done)
  rename_i i j
  cases hf
  exact ⟨i, j, hx.int, hy.int, hq _ _ _ hR Gr.refl (Same.refl _) rep_bl⟩
def fCatS : D → D → Option D := fun d e => match d, e with
  | .str x, .str y => if x.length + y.length ≤ sizeLine then some (.str (x ++ y)) else none
  | _, _ => none
theorem opd_catS : OpD Z (fun x y H Q => ∃ i j, x = .str i ∧ y = .str j ∧ i.length + j.length ≤ sizeLine ∧ Q (.str (i ++ j)) H) fCatS := by
  refine ⟨?_⟩
  intro Ho G ρ σ H d e z x y Q hR hx hy hf hq
  cases d <;> cases e <;> try (cases hf; done)
  rename_i i j
  unfold fCatS at hf
  by_cases hz : i.length + j.length ≤ sizeLine
  · simp only [if_pos hz] at hf
    cases hf
    exact ⟨i, j, hx.str.1, hy.str.1, hz, hq _ _ _ hR Gr.refl (Same.refl _) (rep_str (strOk_append hx.str.2 hy.str.2))⟩
  · simp only [if_neg hz] at hf
    cases hf
def fCatT : D → D → Option D := fun d e => match d, e with
  | .tup x, .tup y => if x.length + y.length ≤ sizeLine then some (.tup (x ++ y)) else none
  | _, _ => none
theorem opd_catT : OpD Z (rCatA Z.X.K) fCatT := by
  refine ⟨?_⟩
  intro Ho G ρ σ H d e z x y Q hR hx hy hf hq
  cases d <;> cases e <;> try (cases hf; done)
  rename_i i j
  unfold fCatT at hf
  by_cases hz : i.length + j.length ≤ sizeLine
  · simp only [if_pos hz] at hf
    cases hf
    obtain ⟨a, vs, rfl, h1, h2⟩ := hx.tup
    obtain ⟨b, ws, rfl, h3, h4⟩ := hy.tup
    have l1 := h2.length
    have l2 := h4.length
    refine ⟨a, b, vs, ws, rfl, rfl, Same.sqt hR.gh h1, Same.sqt hR.gh h3, by omega, fun e => ?_, fun _ e => ?_, fun _ _ p hp => ?_⟩
    · have : i = [] := List.length_eq_zero_iff.mp (by rw [← l1, e]; rfl)
      subst this
      refine hq _ _ _ hR Gr.refl (Same.refl _) ?_
      unfold DC.rep Rep
      exact ⟨b, ws, rfl, h3, h4⟩
    · have : j = [] := List.length_eq_zero_iff.mp (by rw [← l2, e]; rfl)
      subst this
      rw [List.append_nil] at hq
      refine hq _ _ _ hR Gr.refl (Same.refl _) ?_
      unfold DC.rep Rep
      exact ⟨a, vs, rfl, h1, h2⟩
    · obtain ⟨x2, g2⟩ := hR.allocF (o := .tup (vs ++ ws)) hp
      refine hq _ _ _ x2 g2 (same_upd hp) ?_
      unfold DC.rep Rep
      exact ⟨p, _, rfl, SqT.of upd_same, RepL.mono g2.1 _ _ (h2.append h4)⟩
  · simp only [if_neg hz] at hf
    cases hf
def fCatL : D → D → Option D := fun d e => match d, e with
  | .lst x, .lst y => if x.length + y.length ≤ sizeLine then some (.lst (x ++ y)) else none
  | _, _ => none
theorem opd_catL : OpD Z rCat fCatL := by
  refine ⟨?_⟩
  intro Ho G ρ σ H d e z x y Q hR hx hy hf hq
  cases d <;> cases e <;> try (cases hf; done)
  rename_i i j
  unfold fCatL at hf
  by_cases hz : i.length + j.length ≤ sizeLine
  · simp only [if_pos hz] at hf
    cases hf
    obtain ⟨a, vs, rfl, h1, h2⟩ := hx.lst hR.gh
    obtain ⟨b, ws, rfl, h3, h4⟩ := hy.lst hR.gh
    have l1 := h2.length
    have l2 := h4.length
    refine ⟨a, b, vs, ws, rfl, rfl, h1, h3, by omega, fun p hp => ?_⟩
    obtain ⟨x2, g2⟩ := hR.allocF (o := .lst (vs ++ ws)) hp
    refine hq _ _ _ x2 g2 (same_upd hp) ?_
    unfold DC.rep Rep
    exact ⟨p, _, rfl, upd_same, RepL.mono g2.1 _ _ (h2.append h4)⟩
  · simp only [if_neg hz] at hf
    cases hf
/-- a + b -/
def fAdd : D → D → Option D := fun d e => match d, e with
  | .int i, .int j => some (.int (i + j))
  | .str x, .str y => if x.length + y.length ≤ sizeLine then some (.str (x ++ y)) else none
  | .tup x, .tup y => if x.length + y.length ≤ sizeLine then some (.tup (x ++ y)) else none
  | .lst x, .lst y => if x.length + y.length ≤ sizeLine then some (.lst (x ++ y)) else none
  | _, _ => none
theorem OpD.congr {r : R2} {f g : D → D → Option D} (h : OpD Z r f) (e : ∀ d e z, g d e = some z → f d e = some z) : OpD Z r g := ⟨fun hR hx hy hf hq => h.ok hR hx hy (e _ _ _ hf) hq⟩
theorem de_add {m1 m2 : Md} {a b : Expr} {ta tb : M D} {pos : Pos} (ha : DE Z m1 a ta) (hb : DE Z m2 b tb) (hm : (!m1.b || m2.p) = true := by rfl) : DE Z ⟨m1.p && m2.p, false⟩ (.BinOp a .Add b pos) (d2 fAdd ta tb) := by
  refine de_bin ((op_add (X := Z.X)).or (op_add_str.or (op_catA.or op_cat))) (OpD.congr (opd_I0.or (opd_catS.or (opd_catT.or opd_catL))) fun d e z h => ?_) ha hb hm
  cases d <;> cases e <;> first
    | (cases h; done)
    | exact h
    | (simp only [fAdd] at h
       simp only [fOr, fI, fCatS, fCatT, fCatL]
       split at h
       · rename_i q
         simp only [if_pos q]
         exact h
       · cases h)
section
variable {m1 m2 : Md} {a b : Expr} {ta tb : M D} {pos : Pos}
def fSub : D → D → Option D := fI fun i j => some (i - j)
theorem de_sub (ha : DE Z m1 a ta) (hb : DE Z m2 b tb) (hm : (!m1.b || m2.p) = true := by rfl) : DE Z ⟨m1.p && m2.p, false⟩ (.BinOp a .Sub b pos) (d2 fSub ta tb) := de_bin op_sub opd_I0 ha hb hm
def small64 (i : Int) : Bool := decide (-(2 ^ 64) < i) && decide (i < 2 ^ 64)
theorem small64_of {i : Int} (h : small64 i = true) : -(2 ^ 64) < i ∧ i < 2 ^ 64 := by
  unfold small64 at h
  simpa using h
def fMulI : D → D → Option D := fI fun i j => if small64 i || small64 j then some (i * j) else none
theorem opd_mulI : OpD Z (rI CMul fun i j => .int (i * j)) fMulI := opd_I fun i j z h => by
  by_cases q : (small64 i || small64 j) = true
  · rw [if_pos q] at h
    cases h
    refine ⟨?_, rfl⟩
    rw [Bool.or_eq_true] at q
    rcases q with q | q
    · exact .inl (small64_of q)
    · exact .inr (small64_of q)
  · rw [if_neg q] at h; cases h
def fRep : D → D → Option D := fun d e => match d, e with
  | .lst xs, .int k => if small64 (2 * k + 1) && decide (xs.length * k.toNat ≤ sizeLine) then some (.lst (List.replicate k.toNat xs).flatten) else none
  | _, _ => none
theorem RepL.rep {K : PySem.W.Frag} {mg : Str → Option Value} {G : Hp} {ds : List D} {vs : List V} (h : RepL K mg G ds vs) : ∀ k : Nat, RepL K mg G (List.replicate k ds).flatten (List.replicate k vs).flatten
  | 0 => by simp [RepL.nil]
  | k + 1 => by
    rw [List.replicate_succ, List.replicate_succ, List.flatten_cons, List.flatten_cons]
    exact h.append (RepL.rep h k)
theorem opd_rep : OpD Z rRep fRep := by
  refine ⟨?_⟩
  intro Ho G ρ σ H d e z x y Q hR hx hy hf hq
  cases d <;> cases e <;> try (cases hf; done)
  rename_i xs k
  unfold fRep at hf
  by_cases hz : (small64 (2 * k + 1) && decide (xs.length * k.toNat ≤ sizeLine)) = true
  · simp only [if_pos hz] at hf
    cases hf
    rw [Bool.and_eq_true] at hz
    have z1 := small64_of hz.1
    have z2 := of_decide_eq_true hz.2
    obtain ⟨a, vs, rfl, h1, h2⟩ := hx.lst hR.gh
    have l1 := h2.length
    refine ⟨a, k, vs, rfl, hy.int, h1, by omega, by omega, by rw [l1]; exact z2, fun p hp => ?_⟩
    obtain ⟨x2, g2⟩ := hR.allocF (o := .lst (List.replicate k.toNat vs).flatten) hp
    refine hq _ _ _ x2 g2 (same_upd hp) ?_
    unfold DC.rep Rep
    exact ⟨p, _, rfl, upd_same, RepL.mono g2.1 _ _ (h2.rep _)⟩
  · simp only [if_neg hz] at hf
    cases hf
/-- a * b -/
def fMul : D → D → Option D := fOr fMulI fRep
theorem de_mul (ha : DE Z m1 a ta) (hb : DE Z m2 b tb) (hm : (!m1.b || m2.p) = true := by rfl) : DE Z ⟨m1.p && m2.p, false⟩ (.BinOp a .Mult b pos) (d2 fMul ta tb) := de_bin (op_mul.or op_rep) (opd_mulI.or opd_rep) ha hb hm
def fDiv : D → D → Option D := fI fun i j => if j ≠ 0 ∧ j.natAbs < 1073741824 then some (i.fdiv j) else none
theorem de_fdiv (ha : DE Z m1 a ta) (hb : DE Z m2 b tb) (hm : (!m1.b || m2.p) = true := by rfl) : DE Z ⟨m1.p && m2.p, false⟩ (.BinOp a .FloorDiv b pos) (d2 fDiv ta tb) :=
  de_bin op_fdivN (opd_I fun i j z h => by
    by_cases q : j ≠ 0 ∧ j.natAbs < 1073741824
    · rw [if_pos q] at h; cases h; exact ⟨q, rfl⟩
    · rw [if_neg q] at h; cases h) ha hb hm
def fMod : D → D → Option D := fI fun i j => if j ≠ 0 then some (i.fmod j) else none
theorem de_mod (ha : DE Z m1 a ta) (hb : DE Z m2 b tb) (hm : (!m1.b || m2.p) = true := by rfl) : DE Z ⟨m1.p && m2.p, false⟩ (.BinOp a .Mod b pos) (d2 fMod ta tb) :=
  de_bin op_modN (opd_I fun i j z h => by
    by_cases q : j ≠ 0
    · rw [if_pos q] at h; cases h; exact ⟨q, rfl⟩
    · rw [if_neg q] at h; cases h) ha hb hm
def fPow : D → D → Option D := fI fun i j => if 0 ≤ j ∧ j ≤ 1000000 ∧ i.natAbs < 2 ^ 64 then some (i ^ j.toNat) else none
theorem de_pow (ha : DE Z m1 a ta) (hb : DE Z m2 b tb) (hm : (!m1.b || m2.p) = true := by rfl) : DE Z ⟨m1.p && m2.p, false⟩ (.BinOp a .Pow b pos) (d2 fPow ta tb) :=
  de_bin op_pow (opd_I fun i j z h => by
    by_cases q : 0 ≤ j ∧ j ≤ 1000000 ∧ i.natAbs < 2 ^ 64
    · rw [if_pos q] at h; cases h; exact ⟨q, rfl⟩
    · rw [if_neg q] at h; cases h) ha hb hm
/-- -a -/
def fNeg : D → Option D
  | .int i => some (.int (-i))
  | _ => none
def d1 (f : D → Option D) (ta : M D) : M D := bnd ta fun d => lft (f d)
theorem de_neg (ha : DE Z m1 a ta) : DE Z ⟨m1.p, false⟩ (.UnaryOp .USub a pos) (d1 fNeg ta) := by
  obtain ⟨tea, pa, sa⟩ := ha
  refine ⟨_, pe_un un_neg pa, fun Ho hw G ρ σ H Q x q => ?_⟩
  refine sa Ho hw G ρ σ H _ x (DE.then (L := fun r => LJ Z Ho ⟨m1.p, false⟩ G H σ r Q) (fun _ _ h => h) (fun h => h) q fun d ρ1 v G1 H1 x1 g1 s1 b1 q1 => ?_)
  cases d <;> try (exact q1.elim)
  exact ⟨_, b1.int, q1 _ _ _ x1 g1 s1 (.inl rep_int)⟩
end

/-! ### == at any depth -/
mutual
def D.pur : D → Bool
  | .non => true
  | .bl _ => true
  | .int _ => true
  | .str _ => true
  | .tup ds => purL ds
  | .lst ds => purL ds
  | _ => false
def purL : List D → Bool
  | [] => true
  | d :: ds => d.pur && purL ds
end
mutual
def D.py : D → PyData
  | .non => .none
  | .bl b => .bool b
  | .int i => .int i
  | .str x => .str x
  | .tup ds => .tuple (pyL ds)
  | .lst ds => .list (pyL ds)
  | _ => .none
def pyL : List D → List PyData
  | [] => []
  | d :: ds => d.py :: pyL ds
end
section
variable {K : PySem.W.Frag} {mg : Str → Option Value} {H : Hp}
mutual
theorem Rep.dp : ∀ (d : D) (v : V), d.pur = true → Rep K mg H d v → Dp K H v d.py
  | .non, v, _, h => by unfold Rep at h; subst h; unfold D.py; exact .non
  | .bl b, v, _, h => by unfold Rep at h; subst h; unfold D.py; exact .bl b
  | .int b, v, _, h => by unfold Rep at h; subst h; unfold D.py; exact .int b
  | .str b, v, _, h => by unfold Rep at h; rw [h.1]; unfold D.py; exact .str b
  | .tup ds, v, p, h => by
    unfold Rep at h
    unfold D.pur at p
    obtain ⟨a, vs, rfl, h1, h2⟩ := h
    unfold D.py
    exact .tup h1 (RepL.dp ds vs p h2)
  | .lst ds, v, p, h => by
    unfold Rep at h
    unfold D.pur at p
    obtain ⟨a, vs, rfl, h1, h2⟩ := h
    unfold D.py
    exact .lst (SqL.of h1) (RepL.dp ds vs p h2)
  | .dct _, v, p, h => by unfold D.pur at p; cases p
  | .obj _ _, v, p, h => by unfold D.pur at p; cases p
  | .exc _ _, v, p, h => by unfold D.pur at p; cases p
  | .glo _, v, p, h => by unfold D.pur at p; cases p
  | .scr _, v, p, h => by unfold D.pur at p; cases p
  | .ty _, v, p, h => by unfold D.pur at p; cases p
theorem RepL.dp : ∀ (ds : List D) (vs : List V), purL ds = true → RepL K mg H ds vs → DpAll K H vs (pyL ds)
  | [], vs, _, h => by unfold RepL at h; subst h; unfold pyL; exact .nil
  | d :: ds, vs, p, h => by
    unfold RepL at h
    unfold purL at p
    rw [Bool.and_eq_true] at p
    obtain ⟨v, vs', rfl, h2, h3⟩ := h
    unfold pyL
    exact .cons (Rep.dp d v p.1 h2) (RepL.dp ds vs' p.2 h3)
end
mutual
theorem Rep.lay : ∀ (d : D) (v : V), Rep K mg H d v → d.pur = true → d.py.canLay0 = true
  | .non, v, _, _ => by simp [D.py, PyData.canLay0]
  | .bl b, v, _, _ => by simp [D.py, PyData.canLay0]
  | .int b, v, _, _ => by simp [D.py, PyData.canLay0]
  | .str b, v, h, _ => by unfold Rep at h; simp [D.py, PyData.canLay0, h.2]
  | .tup ds, v, h, p => by
    unfold Rep at h
    unfold D.pur at p
    obtain ⟨a, vs, rfl, h1, h2⟩ := h
    unfold D.py PyData.canLay0
    exact RepL.lay ds vs h2 p
  | .lst ds, v, h, p => by
    unfold Rep at h
    unfold D.pur at p
    obtain ⟨a, vs, rfl, h1, h2⟩ := h
    unfold D.py PyData.canLay0
    exact RepL.lay ds vs h2 p
  | .dct _, v, h, p => by unfold D.pur at p; cases p
  | .obj _ _, v, h, p => by unfold D.pur at p; cases p
  | .exc _ _, v, h, p => by unfold D.pur at p; cases p
  | .glo _, v, h, p => by unfold D.pur at p; cases p
  | .scr _, v, h, p => by unfold D.pur at p; cases p
  | .ty _, v, h, p => by unfold D.pur at p; cases p
theorem RepL.lay : ∀ (ds : List D) (vs : List V), RepL K mg H ds vs → purL ds = true → PyData.canLayAll0 (pyL ds) = true
  | [], vs, _, _ => by simp [pyL, PyData.canLayAll0]
  | d :: ds, vs, h, p => by
    unfold RepL at h
    unfold purL at p
    rw [Bool.and_eq_true] at p
    obtain ⟨v, vs', rfl, h2, h3⟩ := h
    unfold pyL PyData.canLayAll0
    rw [Rep.lay d v h2 p.1, RepL.lay ds vs' h3 p.2]
    rfl
end
end
mutual
/-- how deep, at most 64 is asked -/
def D.dep : D → Nat
  | .tup ds => depL ds + 1
  | .lst ds => depL ds + 1
  | _ => 0
def depL : List D → Nat
  | [] => 0
  | d :: ds => max d.dep (depL ds)
end
mutual
theorem D.py_depth : ∀ d : D, d.py.depth = d.dep
  | .non => by simp [D.py, D.dep, PyData.depth]
  | .bl _ => by simp [D.py, D.dep, PyData.depth]
  | .int _ => by simp [D.py, D.dep, PyData.depth]
  | .str _ => by simp [D.py, D.dep, PyData.depth]
  | .tup ds => by unfold D.py D.dep PyData.depth; rw [pyL_depth]
  | .lst ds => by unfold D.py D.dep PyData.depth; rw [pyL_depth]
  | .dct _ => by simp [D.py, D.dep, PyData.depth]
  | .obj _ _ => by simp [D.py, D.dep, PyData.depth]
  | .exc _ _ => by simp [D.py, D.dep, PyData.depth]
  | .glo _ => by simp [D.py, D.dep, PyData.depth]
  | .scr _ => by simp [D.py, D.dep, PyData.depth]
  | .ty _ => by simp [D.py, D.dep, PyData.depth]
theorem pyL_depth : ∀ ds : List D, PyData.depthAll (pyL ds) = depL ds
  | [] => by simp [pyL, depL, PyData.depthAll]
  | d :: ds => by unfold pyL depL PyData.depthAll; rw [D.py_depth, pyL_depth]
end
/-- data that may be compared -/
def D.flat (d : D) : Bool := d.pur && decide (d.dep ≤ 64)
def D.eqv (d e : D) : Bool := PyData.eqv d.py e.py
theorem shaped_of {K : PySem.W.Frag} {mg : Str → Option Value} {H : Hp} {d : D} {v : V} (h : Rep K mg H d v) (f : d.flat = true) : Dp K H v d.py ∧ SeqAt.shaped d.py = true := by
  unfold D.flat at f
  rw [Bool.and_eq_true] at f
  refine ⟨Rep.dp d v f.1 h, ?_⟩
  unfold SeqAt.shaped
  rw [Rep.lay d v h f.1, D.py_depth]
  exact f.2
/-- a == b -/
def fEq : D → D → Option D := fun d e => if d.flat && e.flat then some (.bl (d.eqv e)) else none
def fNe : D → D → Option D := fun d e => if d.flat && e.flat then some (.bl (!d.eqv e)) else none
theorem opd_eq : OpD Z (rEqD Z.X.K) fEq := by
  refine ⟨?_⟩
  intro Ho G ρ σ H d e z x y Q hR hx hy hf hq
  unfold fEq at hf
  by_cases q : (d.flat && e.flat) = true
  · rw [if_pos q] at hf
    cases hf
    rw [Bool.and_eq_true] at q
    obtain ⟨h1, h2⟩ := shaped_of (hx.inH hR.gh) q.1
    obtain ⟨h3, h4⟩ := shaped_of (hy.inH hR.gh) q.2
    exact ⟨_, _, h1, h3, h2, h4, hq _ _ _ hR Gr.refl (Same.refl _) rep_bl⟩
  · rw [if_neg q] at hf; cases hf
theorem opd_ne : OpD Z (rNeD Z.X.K) fNe := by
  refine ⟨?_⟩
  intro Ho G ρ σ H d e z x y Q hR hx hy hf hq
  unfold fNe at hf
  by_cases q : (d.flat && e.flat) = true
  · rw [if_pos q] at hf
    cases hf
    rw [Bool.and_eq_true] at q
    obtain ⟨h1, h2⟩ := shaped_of (hx.inH hR.gh) q.1
    obtain ⟨h3, h4⟩ := shaped_of (hy.inH hR.gh) q.2
    exact ⟨_, _, h1, h3, h2, h4, hq _ _ _ hR Gr.refl (Same.refl _) rep_bl⟩
  · rw [if_neg q] at hf; cases hf
/-- a < b and its like: ints, texts -/
def sLt (x y : Str) : Bool := decide (x.cps.toList < y.cps.toList)
def fLt : D → D → Option D
  | .int i, .int j => some (.bl (decide (i < j)))
  | .str x, .str y => some (.bl (sLt x y))
  | _, _ => none
def fGt : D → D → Option D
  | .int i, .int j => some (.bl (decide (j < i)))
  | .str x, .str y => some (.bl (sLt y x))
  | _, _ => none
def fLe : D → D → Option D
  | .int i, .int j => some (.bl (decide (i ≤ j)))
  | .str x, .str y => some (.bl (!sLt y x))
  | _, _ => none
def fGe : D → D → Option D
  | .int i, .int j => some (.bl (decide (j ≤ i)))
  | .str x, .str y => some (.bl (!sLt x y))
  | _, _ => none
def fSS (g : Str → Str → Bool) : D → D → Option D
  | .str x, .str y => some (.bl (g x y))
  | _, _ => none
theorem opd_SS {g : Str → Str → Bool} : OpD Z (fun x y H Q => ∃ i j, x = .str i ∧ y = .str j ∧ Q (.bl (g i j)) H) (fSS g) := by
  refine ⟨?_⟩
  intro Ho G ρ σ H d e z x y Q hR hx hy hf hq
  cases d <;> cases e <;> try (cases hf; done)
  rename_i i j
  cases hf
  exact ⟨i, j, hx.str.1, hy.str.1, hq _ _ _ hR Gr.refl (Same.refl _) rep_bl⟩
theorem opd_lt : OpD Z (fun x y H Q => rI0 (fun i j => .bl (decide (i < j))) x y H Q ∨ ∃ i j, x = .str i ∧ y = .str j ∧ Q (.bl (decide (i.cps.toList < j.cps.toList))) H) fLt :=
  OpD.congr (opd_B0.or (opd_SS (g := sLt))) fun d e z h => by cases d <;> cases e <;> first | (cases h; done) | exact h
theorem opd_gt : OpD Z (fun x y H Q => rI0 (fun i j => .bl (decide (j < i))) x y H Q ∨ ∃ i j, x = .str i ∧ y = .str j ∧ Q (.bl (decide (j.cps.toList < i.cps.toList))) H) fGt :=
  OpD.congr (opd_B0.or (opd_SS (g := fun x y => sLt y x))) fun d e z h => by cases d <;> cases e <;> first | (cases h; done) | exact h
theorem opd_le : OpD Z (fun x y H Q => rI0 (fun i j => .bl (decide (i ≤ j))) x y H Q ∨ ∃ i j, x = .str i ∧ y = .str j ∧ Q (.bl (!decide (j.cps.toList < i.cps.toList))) H) fLe :=
  OpD.congr (opd_B0.or (opd_SS (g := fun x y => !sLt y x))) fun d e z h => by cases d <;> cases e <;> first | (cases h; done) | exact h
theorem opd_ge : OpD Z (fun x y H Q => rI0 (fun i j => .bl (decide (j ≤ i))) x y H Q ∨ ∃ i j, x = .str i ∧ y = .str j ∧ Q (.bl (!decide (i.cps.toList < j.cps.toList))) H) fGe :=
  OpD.congr (opd_B0.or (opd_SS (g := fun x y => !sLt x y))) fun d e z h => by cases d <;> cases e <;> first | (cases h; done) | exact h
/-- a is None -/
def D.isN : D → Bool
  | .non => true
  | _ => false
def fIsN : D → D → Option D := fun d e => match e with
  | .non => some (.bl d.isN)
  | _ => none
def fNotN : D → D → Option D := fun d e => match e with
  | .non => some (.bl (!d.isN))
  | _ => none
theorem BR.isN {K : PySem.W.Frag} {mg : Str → Option Value} {b : Bool} {G H : Hp} {d : D} {v : V} (h : BR K mg b G H d v) : decide (v = .non) = d.isN := by
  rcases h with h | ⟨_, a, o, rfl, _, h⟩
  · cases d <;> (unfold Rep at h) <;> first
      | (subst h; rfl)
      | (rw [h.1]; rfl)
      | (obtain ⟨a, _, h, _⟩ := h; rw [h]; rfl)
      | (obtain ⟨a, h, _⟩ := h; rw [h]; rfl)
      | (obtain ⟨a, _, _, _, h, _⟩ := h; rw [h]; rfl)
      | exact h.elim
  · cases h <;> rfl
theorem opd_isN : OpD Z (fun x y H Q => y = .non ∧ Q (.bl (decide (x = .non))) H) fIsN := by
  refine ⟨?_⟩
  intro Ho G ρ σ H d e z x y Q hR hx hy hf hq
  cases e <;> try (cases hf; done)
  cases hf
  exact ⟨hy.non, by rw [hx.isN]; exact hq _ _ _ hR Gr.refl (Same.refl _) rep_bl⟩
theorem opd_notN : OpD Z (fun x y H Q => y = .non ∧ Q (.bl (!decide (x = .non))) H) fNotN := by
  refine ⟨?_⟩
  intro Ho G ρ σ H d e z x y Q hR hx hy hf hq
  cases e <;> try (cases hf; done)
  cases hf
  exact ⟨hy.non, by rw [hx.isN]; exact hq _ _ _ hR Gr.refl (Same.refl _) rep_bl⟩
def fIsB (neg : Bool) : D → D → Option D
  | .bl a, .bl b => some (.bl (if neg then !decide (a = b) else decide (a = b)))
  | _, _ => none
theorem opd_isB : OpD Z rIsB (fIsB false) := by
  refine ⟨?_⟩
  intro Ho G ρ σ H d e z x y Q hR hx hy hf hq
  cases d <;> cases e <;> try (cases hf; done)
  cases hf
  exact ⟨_, _, hx.bl, hy.bl, hq _ _ _ hR Gr.refl (Same.refl _) rep_bl⟩
theorem opd_notB : OpD Z rNotB (fIsB true) := by
  refine ⟨?_⟩
  intro Ho G ρ σ H d e z x y Q hR hx hy hf hq
  cases d <;> cases e <;> try (cases hf; done)
  cases hf
  exact ⟨_, _, hx.bl, hy.bl, hq _ _ _ hR Gr.refl (Same.refl _) rep_bl⟩
/-- a in b -/
def sIn (x y : Str) : Bool := match x.cps.toList with
  | [c] => decide (c ∈ y.cps.toList)
  | _ => !(Builtin.Str.occurrences y x 0 y.length 1).isEmpty
def fIn : D → D → Option D := fun d e => match e with
  | .str y => match d with
    | .str x => some (.bl (sIn x y))
    | _ => none
  | .tup ds => if d.flat && (D.tup ds).flat then some (.bl (ds.any fun z => z.eqv d)) else none
  | .lst ds => if d.flat && (D.lst ds).flat then some (.bl (ds.any fun z => z.eqv d)) else none
  | _ => none
theorem DC.hu65 (Z : DC) : Z.X.A.units + 65 < cLine := by have := Z.un; omega
def rInT (K : PySem.W.Frag) : R2 := fun x y H Q => ∃ d ds, Dp K H x d ∧ Dp K H y (.tuple ds) ∧ SeqAt.shaped d = true ∧ SeqAt.shaped (.tuple ds) = true ∧ Q (.bl (ds.any fun z => PyData.eqv z d)) H
def rNotInT (K : PySem.W.Frag) : R2 := fun x y H Q => ∃ d ds, Dp K H x d ∧ Dp K H y (.tuple ds) ∧ SeqAt.shaped d = true ∧ SeqAt.shaped (.tuple ds) = true ∧ Q (.bl (!ds.any fun z => PyData.eqv z d)) H
theorem op_inT {X : Cx} (hu : X.A.units + 65 < cLine) : OpR X (compareOp .In) (rInT X.K) := by
  intro pins s σ H x y v u Q I rx ry h
  obtain ⟨d, ds, hd, he, sd, se, q⟩ := h
  obtain ⟨as, r1⟩ := Dp.reads I d x v hd rx
  obtain ⟨bs, r2⟩ := Dp.reads I (.tuple ds) y u he ry
  exact SeqAt.in_tuple_reads r2 r1 (by have := SeqAt.canLay_of_shaped se; simpa [PyData.canLay0] using this) (SeqAt.canLay_of_shaped sd) (PyProof.Rows.room_in_shaped sd hu) ⟨.bl _, H, I, rfl, q⟩
theorem op_notInT {X : Cx} (hu : X.A.units + 65 < cLine) : OpR X (compareOp .NotIn) (rNotInT X.K) := by
  intro pins s σ H x y v u Q I rx ry h
  obtain ⟨d, ds, hd, he, sd, se, q⟩ := h
  obtain ⟨as, r1⟩ := Dp.reads I d x v hd rx
  obtain ⟨bs, r2⟩ := Dp.reads I (.tuple ds) y u he ry
  exact SeqAt.notIn_tuple_reads r2 r1 (by have := SeqAt.canLay_of_shaped se; simpa [PyData.canLay0] using this) (SeqAt.canLay_of_shaped sd) (PyProof.Rows.room_in_shaped sd hu) ⟨.bl _, H, I, rfl, q⟩
theorem any_py (d : D) : ∀ ds : List D, ((pyL ds).any fun z => PyData.eqv z d.py) = ds.any fun z => z.eqv d
  | [] => by simp [pyL]
  | e :: ds => by unfold pyL; rw [List.any_cons, List.any_cons, any_py d ds]; rfl
def fNot (f : D → D → Option D) : D → D → Option D := fun d e => match f d e with
  | some (.bl c) => some (.bl (!c))
  | _ => none
def fInS : D → D → Option D := fSS sIn
theorem opd_inS : OpD Z (fun x y H Q => (∃ (c : Nat) (z : Str), x = .str ⟨#[c]⟩ ∧ y = .str z ∧ Q (.bl (decide (c ∈ z.cps.toList))) H) ∨ ∃ i j, x = .str i ∧ y = .str j ∧ Q (.bl (!(Builtin.Str.occurrences j i 0 j.length 1).isEmpty)) H) fInS := by
  refine ⟨?_⟩
  intro Ho G ρ σ H d e z x y Q hR hx hy hf hq
  cases d <;> cases e <;> try (cases hf; done)
  rename_i i j
  cases hf
  have q := hq _ _ _ hR Gr.refl (Same.refl _) rep_bl
  unfold sIn at q
  split at q
  · rename_i c hc
    refine .inl ⟨c, j, ?_, hy.str.1, q⟩
    rw [hx.str.1]
    obtain ⟨⟨l⟩⟩ := i
    simp only at hc
    subst hc
    rfl
  · exact .inr ⟨i, j, hx.str.1, hy.str.1, q⟩
theorem opd_notInS : OpD Z (fun x y H Q => (∃ (c : Nat) (z : Str), x = .str ⟨#[c]⟩ ∧ y = .str z ∧ Q (.bl (!decide (c ∈ z.cps.toList))) H) ∨ ∃ i j, x = .str i ∧ y = .str j ∧ Q (.bl (!(!(Builtin.Str.occurrences j i 0 j.length 1).isEmpty))) H) (fSS fun x y => !sIn x y) := by
  refine ⟨?_⟩
  intro Ho G ρ σ H d e z x y Q hR hx hy hf hq
  cases d <;> cases e <;> try (cases hf; done)
  rename_i i j
  cases hf
  have q : Q (.bl (!sIn i j)) H := hq _ _ _ hR Gr.refl (Same.refl _) rep_bl
  unfold sIn at q
  split at q
  · rename_i c hc
    refine .inl ⟨c, j, ?_, hy.str.1, q⟩
    rw [hx.str.1]
    obtain ⟨⟨l⟩⟩ := i
    simp only at hc
    subst hc
    rfl
  · exact .inr ⟨i, j, hx.str.1, hy.str.1, q⟩
def fInT (neg : Bool) : D → D → Option D := fun d e => match e with
  | .tup ds => if d.flat && (D.tup ds).flat then some (.bl (if neg then !ds.any fun z => z.eqv d else ds.any fun z => z.eqv d)) else none
  | _ => none
def fInL (neg : Bool) : D → D → Option D := fun d e => match e with
  | .lst ds => if d.flat && (D.lst ds).flat then some (.bl (if neg then !ds.any fun z => z.eqv d else ds.any fun z => z.eqv d)) else none
  | _ => none
theorem opd_inT : OpD Z (rInT Z.X.K) (fInT false) := by
  refine ⟨?_⟩
  intro Ho G ρ σ H d e z x y Q hR hx hy hf hq
  cases e <;> try (cases hf; done)
  rename_i ds
  unfold fInT at hf
  by_cases q : (d.flat && (D.tup ds).flat) = true
  · simp only [if_pos q] at hf
    cases hf
    rw [Bool.and_eq_true] at q
    obtain ⟨h1, h2⟩ := shaped_of (hx.inH hR.gh) q.1
    obtain ⟨h3, h4⟩ := shaped_of (hy.inH hR.gh) q.2
    unfold D.py at h3 h4
    exact ⟨_, _, h1, h3, h2, h4, by rw [any_py]; exact hq _ _ _ hR Gr.refl (Same.refl _) rep_bl⟩
  · simp only [if_neg q] at hf; cases hf
theorem opd_notInT : OpD Z (rNotInT Z.X.K) (fInT true) := by
  refine ⟨?_⟩
  intro Ho G ρ σ H d e z x y Q hR hx hy hf hq
  cases e <;> try (cases hf; done)
  rename_i ds
  unfold fInT at hf
  by_cases q : (d.flat && (D.tup ds).flat) = true
  · simp only [if_pos q] at hf
    cases hf
    rw [Bool.and_eq_true] at q
    obtain ⟨h1, h2⟩ := shaped_of (hx.inH hR.gh) q.1
    obtain ⟨h3, h4⟩ := shaped_of (hy.inH hR.gh) q.2
    unfold D.py at h3 h4
    exact ⟨_, _, h1, h3, h2, h4, by rw [any_py]; exact hq _ _ _ hR Gr.refl (Same.refl _) rep_bl⟩
  · simp only [if_neg q] at hf; cases hf
theorem opd_inL : OpD Z (rInD Z.X.K) (fInL false) := by
  refine ⟨?_⟩
  intro Ho G ρ σ H d e z x y Q hR hx hy hf hq
  cases e <;> try (cases hf; done)
  rename_i ds
  unfold fInL at hf
  by_cases q : (d.flat && (D.lst ds).flat) = true
  · simp only [if_pos q] at hf
    cases hf
    rw [Bool.and_eq_true] at q
    obtain ⟨h1, h2⟩ := shaped_of (hx.inH hR.gh) q.1
    obtain ⟨h3, h4⟩ := shaped_of (hy.inH hR.gh) q.2
    unfold D.py at h3 h4
    exact ⟨_, _, h1, h3, h2, h4, by rw [any_py]; exact hq _ _ _ hR Gr.refl (Same.refl _) rep_bl⟩
  · simp only [if_neg q] at hf; cases hf
theorem opd_notInL : OpD Z (rNotInD Z.X.K) (fInL true) := by
  refine ⟨?_⟩
  intro Ho G ρ σ H d e z x y Q hR hx hy hf hq
  cases e <;> try (cases hf; done)
  rename_i ds
  unfold fInL at hf
  by_cases q : (d.flat && (D.lst ds).flat) = true
  · simp only [if_pos q] at hf
    cases hf
    rw [Bool.and_eq_true] at q
    obtain ⟨h1, h2⟩ := shaped_of (hx.inH hR.gh) q.1
    obtain ⟨h3, h4⟩ := shaped_of (hy.inH hR.gh) q.2
    unfold D.py at h3 h4
    exact ⟨_, _, h1, h3, h2, h4, by rw [any_py]; exact hq _ _ _ hR Gr.refl (Same.refl _) rep_bl⟩
  · simp only [if_neg q] at hf; cases hf
/-! ### comparisons as operators: (its rule of the machine, its meaning on data) -/
def rIn' (Z : DC) : R2 := fun x y H Q => ((∃ (c : Nat) (z : Str), x = .str ⟨#[c]⟩ ∧ y = .str z ∧ Q (.bl (decide (c ∈ z.cps.toList))) H) ∨ ∃ i j, x = .str i ∧ y = .str j ∧ Q (.bl (!(Builtin.Str.occurrences j i 0 j.length 1).isEmpty)) H) ∨ rInT Z.X.K x y H Q ∨ rInD Z.X.K x y H Q
def rNotIn' (Z : DC) : R2 := fun x y H Q => ((∃ (c : Nat) (z : Str), x = .str ⟨#[c]⟩ ∧ y = .str z ∧ Q (.bl (!decide (c ∈ z.cps.toList))) H) ∨ ∃ i j, x = .str i ∧ y = .str j ∧ Q (.bl (!(!(Builtin.Str.occurrences j i 0 j.length 1).isEmpty))) H) ∨ rNotInT Z.X.K x y H Q ∨ rNotInD Z.X.K x y H Q
def fIn1 : D → D → Option D := fun d e => match e with
  | .str y => match d with
    | .str x => some (.bl (sIn x y))
    | _ => none
  | .tup ds => if d.flat && (D.tup ds).flat then some (.bl (ds.any fun z => z.eqv d)) else none
  | .lst ds => if d.flat && (D.lst ds).flat then some (.bl (ds.any fun z => z.eqv d)) else none
  | _ => none
def fNotIn1 : D → D → Option D := fun d e => match e with
  | .str y => match d with
    | .str x => some (.bl (!sIn x y))
    | _ => none
  | .tup ds => if d.flat && (D.tup ds).flat then some (.bl (!ds.any fun z => z.eqv d)) else none
  | .lst ds => if d.flat && (D.lst ds).flat then some (.bl (!ds.any fun z => z.eqv d)) else none
  | _ => none
theorem or_in : OpR Z.X (compareOp .In) (rIn' Z) := (op_in_sign.or op_in_str).or ((op_inT Z.hu65).or (op_inD Z.hu65))
theorem or_notIn : OpR Z.X (compareOp .NotIn) (rNotIn' Z) := (op_notIn_sign.or op_notin_str).or ((op_notInT Z.hu65).or (op_notInD Z.hu65))
theorem opd_in : OpD Z (rIn' Z) fIn1 := OpD.congr (opd_inS.or (opd_inT.or opd_inL)) fun d e z h => by
  cases e <;> cases d <;> first
    | (cases h; done)
    | exact h
    | (simp only [fIn1] at h
       simp only [fOr, fInS, fSS, fInT, fInL]
       split at h
       · rename_i q
         simp only [if_pos q]
         first | exact h | (simp; exact h) | simpa using h
       · cases h)
theorem opd_notIn : OpD Z (rNotIn' Z) fNotIn1 := OpD.congr (opd_notInS.or (opd_notInT.or opd_notInL)) fun d e z h => by
  cases e <;> cases d <;> first
    | (cases h; done)
    | exact h
    | (simp only [fNotIn1] at h
       simp only [fOr, fSS, fInT, fInL]
       split at h
       · rename_i q
         simp only [if_pos q]
         first | exact h | (simp; exact h) | simpa using h
       · cases h)
structure Cm (Z : DC) (op : CmpOp) (f : D → D → Option D) : Prop where
  ok : ∃ r, OpR Z.X (compareOp op) r ∧ OpD Z r f
theorem cEq : Cm Z .Eq fEq := ⟨_, op_eqD Z.units, opd_eq⟩
theorem cNe : Cm Z .NotEq fNe := ⟨_, op_neD Z.units, opd_ne⟩
theorem cLt : Cm Z .Lt fLt := ⟨_, op_lt.or op_lt_str, opd_lt⟩
theorem cGt : Cm Z .Gt fGt := ⟨_, op_gt.or op_gt_str, opd_gt⟩
theorem cLe : Cm Z .LtE fLe := ⟨_, op_le.or op_le_str, opd_le⟩
theorem cGe : Cm Z .GtE fGe := ⟨_, op_ge.or op_ge_str, opd_ge⟩
theorem cIn : Cm Z .In fIn1 := ⟨_, or_in, opd_in⟩
theorem cNotIn : Cm Z .NotIn fNotIn1 := ⟨_, or_notIn, opd_notIn⟩
theorem cIsN : Cm Z .Is fIsN := ⟨_, op_isN, opd_isN⟩
theorem cNotN : Cm Z .IsNot fNotN := ⟨_, op_notN, opd_notN⟩
theorem cIsB : Cm Z .Is (fIsB false) := ⟨_, op_isBl, opd_isB⟩
theorem cNotB : Cm Z .IsNot (fIsB true) := ⟨_, op_notBl, opd_notB⟩
section
variable {m1 m2 m3 : Md} {a b c : Expr} {ta tb tc : M D} {pos : Pos} {op op' : CmpOp} {f f' : D → D → Option D}
theorem de_c1 (h : Cm Z op f) (ha : DE Z m1 a ta) (hb : DE Z m2 b tb) (hm : (!m1.b || m2.p) = true := by rfl) (hx : behindInMarks op b = false := by first | rfl | exact nomark _) : DE Z ⟨m1.p && m2.p, false⟩ (.Compare a [op] [b] pos) (d2 f ta tb) := by
  obtain ⟨r, h1, h2⟩ := h.ok
  exact de_cmp h1 h2 ha hb hm hx
theorem dt_c1 (h : Cm Z op f) (ha : DE Z m1 a ta) (hb : DE Z m2 b tb) (hm : (!m1.b || m2.p) = true := by rfl) (hx : behindInMarks op b = false := by first | rfl | exact nomark _) : DT Z (m1.p && m2.p) (.Compare a [op] [b] pos) (dB (d2 f ta tb)) := by
  obtain ⟨r, h1, h2⟩ := h.ok
  exact dt_cmp h1 h2 ha hb hm hx
/-- a op b op' c, the operands pure -/
def dCh (f f' : D → D → Option D) (ta tb tc : M D) : M D := bnd ta fun d => bnd tb fun e => bnd (lft ((f d e).bind asB)) fun k => if k then bnd tc fun g => lft (f' e g) else ret (.bl false)
theorem chain {r r' : R2} (h : OpD Z r f) (h' : OpD Z r' f') {tea teb tec : TE} (sa : ∀ Ho, Same Z.Ho Ho → ∀ G ρ σ H Q, Z.R Ho G ρ σ H → LJ Z Ho m1 G H σ (ta ρ) Q → tea σ H Q) (sb : ∀ Ho, Same Z.Ho Ho → ∀ G ρ σ H Q, Z.R Ho G ρ σ H → LJ Z Ho m2 G H σ (tb ρ) Q → teb σ H Q)
    (sc : ∀ Ho, Same Z.Ho Ho → ∀ G ρ σ H Q, Z.R Ho G ρ σ H → LJ Z Ho m3 G H σ (tc ρ) Q → tec σ H Q) (hm : (m1.p && m2.p && m3.p) = true) {Ho : Hp} (hw : Same Z.Ho Ho) {G : Hp} {ρ : List Sl} {σ : L2.St} {H : Hp} {Q : VK} (x : Z.R Ho G ρ σ H) (q : LJ Z Ho ⟨true, false⟩ G H σ (dCh f f' ta tb tc ρ) Q) : tChain r r' tea teb tec σ H Q := by
  simp only [Bool.and_eq_true] at hm
  refine sa Ho hw G ρ σ H _ x (DE.then (L := fun r => LJ Z Ho ⟨true, false⟩ G H σ r Q) (fun _ _ h => h) (fun h => h) q fun d ρ1 v G1 H1 x1 g1 s1 b1 q1 => ?_)
  refine sb Ho hw G1 ρ1 σ H1 _ x1 (DE.then (L := fun r => LJ Z Ho ⟨true, false⟩ G H σ r Q) (fun _ _ h => h) (fun h => h) q1 fun e ρ2 w G2 H2 x2 g2 s2 b2 q2 => ?_)
  have e2 : Same H1 H2 := s2 hm.1.2
  cases ef : f d e with
  | none => simp [bnd, lft, ef, Res.bind] at q2; exact q2.elim
  | some z =>
    refine h.ok x2 (b1.go g2.1 fun _ => e2).up b2.up ef fun u G3 H3 x3 g3 s3 r3 => ?_
    cases ek : asB z with
    | none => simp [bnd, lft, ef, ek, Res.bind] at q2; exact q2.elim
    | some k =>
      have := asB_some ek
      subst this
      unfold DC.rep Rep at r3
      refine ⟨k, r3, ?_⟩
      have q2' : LJ Z Ho ⟨true, false⟩ G H σ ((if k then bnd tc fun g => lft (f' e g) else ret (.bl false)) ρ2) Q := by simpa [bnd, lft, ef, ek, Res.bind] using q2
      have s03 : Same H H3 := ((s1 hm.1.1).trans e2).trans s3
      cases k with
      | false =>
        rw [if_neg Bool.false_ne_true] at q2' ⊢
        exact q2' _ _ _ x3 ((g1.trans g2).trans g3) (fun _ => s03) (.inl rep_bl)
      | true =>
        rw [if_pos rfl] at q2' ⊢
        refine sc Ho hw G3 ρ2 σ H3 _ x3 (DE.then (L := fun r => LJ Z Ho ⟨true, false⟩ G H σ r Q) (fun _ _ h => h) (fun h => h) q2' fun g ρ4 y G4 H4 x4 g4 s4 b4 q4 => ?_)
        have e4 : Same H3 H4 := s4 hm.2
        unfold lft at q4
        cases eg : f' e g with
        | none => rw [eg] at q4; exact q4.elim
        | some z' =>
          rw [eg] at q4
          refine h'.ok x4 ((b2.go g3.1 fun _ => s3).go g4.1 fun _ => e4).up b4.up eg fun u' G5 H5 x5 g5 s5 r5 => ?_
          exact q4 u' G5 H5 x5 ((((g1.trans g2).trans g3).trans g4).trans g5) (fun _ => (s03.trans e4).trans s5) (.inl r5)
theorem de_c2 (h : Cm Z op f) (h' : Cm Z op' f') (ha : DE Z m1 a ta) (hb : DE Z m2 b tb) (hc : DE Z m3 c tc) (hm : (m1.p && m2.p && m3.p) = true := by rfl) (hx : lastMarks [op, op'] [b, c] = false := by with_unfolding_all rfl) :
    DE Z ⟨true, false⟩ (.Compare a [op, op'] [b, c] pos) (dCh f f' ta tb tc) := by
  obtain ⟨r, h1, h2⟩ := h.ok
  obtain ⟨r', h1', h2'⟩ := h'.ok
  obtain ⟨tea, pa, sa⟩ := ha
  obtain ⟨teb, pb, sb⟩ := hb
  obtain ⟨tec, pc, sc⟩ := hc
  exact ⟨_, pe_chain h1 h1' pa pb pc hx, fun Ho hw G ρ σ H Q x q => chain h2 h2' sa sb sc hm hw x q⟩
theorem dt_c2 (h : Cm Z op f) (h' : Cm Z op' f') (ha : DE Z m1 a ta) (hb : DE Z m2 b tb) (hc : DE Z m3 c tc) (hm : (m1.p && m2.p && m3.p) = true := by rfl) (hx : lastMarks [op, op'] [b, c] = false := by with_unfolding_all rfl) :
    DT Z true (.Compare a [op, op'] [b, c] pos) (dB (dCh f f' ta tb tc)) := by
  obtain ⟨r, h1, h2⟩ := h.ok
  obtain ⟨r', h1', h2'⟩ := h'.ok
  obtain ⟨tea, pa, sa⟩ := ha
  obtain ⟨teb, pb, sb⟩ := hb
  obtain ⟨tec, pc, sc⟩ := hc
  refine ⟨_, pt_chain h1 h1' pa pb pc hx, fun Ho hw G ρ σ H Q x q => ?_⟩
  exact tstB (m1 := ⟨true, false⟩) (fun Ho hw G ρ σ H Q x q => chain h2 h2' sa sb sc hm hw x q) hw x q
end
end
end DS

set_option Elab.async false
set_option linter.all false
set_option maxRecDepth 100000
namespace DS
open PySem PySem.Spec PyProof.Rows L2

section
variable {K : PySem.W.Frag} {mg : Str → Option Value} {G : Hp}
theorem RepL.atI {ds : List D} {vs : List V} {i : Int} {d : D} (h : RepL K mg G ds vs) (e : L2.atI ds i = some d) : ∃ v, L2.atI vs i = some v ∧ Rep K mg G d v := by
  unfold L2.atI at e ⊢
  rw [h.length]
  cases q : ixN ds.length i with
  | none => rw [q] at e; cases e
  | some j =>
    rw [q] at e
    exact h.get (i := j) e
end
section
variable {Z : DC} {Ho : Hp} {m m1 m2 m3 : Md} {p : Bool} {a b c e : Expr} {t ta tb tc : M D} {pos p2 : Pos}
/-! ### a[i] -/
def fIx : D → D → Option D := fun d e => match d, e with
  | .lst ds, .int i => atI ds i
  | .tup ds, .int i => atI ds i
  | .str x, .int i => if x.length ≤ sizeLine then (atI x.cps.toList i).map fun c => .str ⟨#[c]⟩ else none
  | _, _ => none
theorem atI_mem {α : Type} {xs : List α} {i : Int} {v : α} (h : atI xs i = some v) : v ∈ xs := by
  obtain ⟨j, _, h2, _⟩ := atI_get h
  exact List.mem_of_getElem? h2
theorem strOk_one {x : Str} {c : Nat} (h : PyData.strOk x = true) (hc : c ∈ x.cps.toList) : PyData.strOk ⟨#[c]⟩ = true := by
  unfold PyData.strOk at h ⊢
  have q := (Array.all_eq_true_iff_forall_mem.mp h) c (by simpa using hc)
  simpa using q
theorem opd_ix : OpD Z (rIx Z.X.K) fIx := by
  refine ⟨?_⟩
  intro Ho G ρ σ H d e z x y Q hR hx hy hf hq
  cases d <;> cases e <;> try (cases hf; done)
  · rename_i s i
    unfold fIx at hf
    by_cases hz : s.length ≤ sizeLine
    · simp only [if_pos hz] at hf
      cases q : atI s.cps.toList i with
      | none => rw [q] at hf; cases hf
      | some c =>
        rw [q] at hf
        cases hf
        exact .inr (.inr ⟨s, i, c, hx.str.1, hy.int, hz, q, hq _ _ _ hR Gr.refl (Same.refl _) (rep_str (strOk_one hx.str.2 (atI_mem q)))⟩)
    · simp only [if_neg hz] at hf; cases hf
  · obtain ⟨a, vs, rfl, h1, h2⟩ := hx.tup
    obtain ⟨v, h3, h4⟩ := h2.atI hf
    exact .inr (.inl ⟨a, vs, _, v, rfl, hy.int, Same.sqt hR.gh h1, h3, hq _ _ _ hR Gr.refl (Same.refl _) h4⟩)
  · obtain ⟨a, vs, rfl, h1, h2⟩ := hx.lst hR.gh
    obtain ⟨v, h3, h4⟩ := h2.atI hf
    exact .inl ⟨a, vs, _, v, rfl, hy.int, SqL.of h1, h3, hq _ _ _ hR Gr.refl (Same.refl _) h4⟩
theorem de_ix (ha : DE Z m1 a ta) (hb : DE Z m2 b tb) (hm : (!m1.b || m2.p) = true := by rfl) (hs : PlainIx b := by exact fun _ _ => rfl) : DE Z ⟨m1.p && m2.p, false⟩ (.Subscript a b pos) (d2 fIx ta tb) := by
  obtain ⟨tea, pa, sa⟩ := ha
  obtain ⟨teb, pb, sb⟩ := hb
  exact ⟨_, pe_ix ix_seq pa pb hs, fun Ho hw G ρ σ H Q x q => op2 opd_ix sa sb hm hw x q⟩

/-! ### a[lo:hi] -/
def cut {α : Type} (xs : List α) (lo hi : Option Int) : List α := (xs.drop (HT.sIx xs.length 0 lo)).take (HT.sIx xs.length xs.length hi - HT.sIx xs.length 0 lo)
def fSl : D → Option Int → Option Int → Option D := fun d lo hi => match d with
  | .lst ds => some (.lst (cut ds lo hi))
  | .tup ds => some (.tup (cut ds lo hi))
  | .str x => if x.length ≤ sizeLine then some (.str (cutS x lo hi)) else none
  | _ => none
def asI : D → Option Int
  | .int i => some i
  | _ => none
def LO (Z : DC) (Ho : Hp) (p : Bool) (G H : Hp) (σ : L2.St) (r : Res (Option Int)) (Q : Option Int → Hp → Prop) : Prop := match r with
  | .ok c ρ => ∀ G' H', Z.R Ho G' ρ σ H' → Gr Ho G G' → (p = true → Same H H') → Q c H'
  | .ex x ρ => Z.Ex x ρ
  | .no => False
def DO (Z : DC) (p : Bool) (e : Option Expr) (t : M (Option Int)) : Prop := ∃ te, PO Z.X e te ∧ ∀ Ho, Same Z.Ho Ho → ∀ G ρ σ H (Q : Option Int → Hp → Prop), Z.R Ho G ρ σ H → LO Z Ho p G H σ (t ρ) Q → te σ H Q
theorem do_none : DO Z true none (ret none) := ⟨_, po_none, fun Ho hw G ρ σ H Q x q => q G H x Gr.refl fun _ => Same.refl _⟩
def dPart (t : M D) : M (Option Int) := bnd t fun d => bnd (lft (asI d)) fun i => ret (some i)
theorem do_some (ha : DE Z m1 a ta) : DO Z m1.p (some a) (dPart ta) := by
  obtain ⟨tea, pa, sa⟩ := ha
  refine ⟨_, po_some pa, fun Ho hw G ρ σ H Q x q => ?_⟩
  refine sa Ho hw G ρ σ H _ x (DE.then (L := fun r => LO Z Ho m1.p G H σ r Q) (fun _ _ h => h) (fun h => h) q fun d ρ1 v G1 H1 x1 g1 s1 b1 q1 => ?_)
  cases d <;> try (exact q1.elim)
  exact ⟨_, b1.int, q1 G1 H1 x1 g1 s1⟩
def dSl (ta : M D) (tl th : M (Option Int)) : M D := bnd ta fun d => bnd tl fun l => bnd th fun h => lft (fSl d l h)
theorem cutV_eq (xs : List V) (lo hi : Option Int) : cutV xs lo hi = cut xs lo hi := rfl
theorem RepL.cut {K : PySem.W.Frag} {mg : Str → Option Value} {G : Hp} {ds : List D} {vs : List V} (h : RepL K mg G ds vs) (lo hi : Option Int) : RepL K mg G (DS.cut ds lo hi) (DS.cut vs lo hi) := by
  unfold DS.cut
  rw [h.length]
  exact (h.drop _).take _
theorem cut_whole {α : Type} {xs : List α} {lo hi : Option Int} (h : HT.sIx xs.length 0 lo = 0 ∧ HT.sIx xs.length xs.length hi = xs.length) : cut xs lo hi = xs := by
  unfold cut
  rw [h.1, h.2]
  simp
theorem strOk_cut {x : Str} {lo hi : Option Int} (h : PyData.strOk x = true) : PyData.strOk (cutS x lo hi) = true := by
  unfold PyData.strOk at h ⊢
  have q := Array.all_eq_true_iff_forall_mem.mp h
  refine Array.all_eq_true_iff_forall_mem.mpr fun c hc => q c ?_
  unfold cutS at hc
  have : c ∈ (x.cps.toList.drop (HT.sIx x.length 0 lo)).take (HT.sIx x.length x.length hi - HT.sIx x.length 0 lo) := by simpa using hc
  have := List.mem_of_mem_drop (List.mem_of_mem_take this)
  simpa using this
theorem LO.then {α : Type} {p : Bool} {r : Res (Option Int)} {u : Option Int → M α} {L : Res α → Prop} {G H : Hp} {σ : L2.St} {Q : Option Int → Hp → Prop} (hex : ∀ x ρ, L (.ex x ρ) → Z.Ex x ρ) (hno : L .no → False)
    (h : L (r.bind u)) (hq : ∀ d ρ G' H', Z.R Ho G' ρ σ H' → Gr Ho G G' → (p = true → Same H H') → L (u d ρ) → Q d H') :
    LO Z Ho p G H σ r Q := by
  cases r with
  | ok d ρ => exact fun G' H' x g s => hq d ρ G' H' x g s h
  | ex x ρ => exact hex x ρ h
  | no => exact hno h
theorem de_sl {lo hi : Option Expr} {tl th : M (Option Int)} {pl ph : Bool} (ha : DE Z m1 a ta) (hl : DO Z pl lo tl) (hh : DO Z ph hi th) (hm : (!m1.b || (pl && ph)) = true := by rfl) :
    DE Z ⟨m1.p && pl && ph, false⟩ (.Subscript a (.Slice lo hi none p2) pos) (dSl ta tl th) := by
  obtain ⟨tea, pa, sa⟩ := ha
  obtain ⟨tel, pl', sl⟩ := hl
  obtain ⟨teh, ph', sh⟩ := hh
  refine ⟨_, pe_slice (sl_list.or (sl_tupA.or sl_str)) pa pl' ph', fun Ho hw G ρ σ H Q x q => ?_⟩
  refine sa Ho hw G ρ σ H _ x (DE.then (L := fun r => LJ Z Ho ⟨m1.p && pl && ph, false⟩ G H σ r Q) (fun _ _ h => h) (fun h => h) q fun d ρ1 v G1 H1 x1 g1 s1 b1 q1 => ?_)
  refine sl Ho hw G1 ρ1 σ H1 _ x1 (LO.then (p := pl) (L := fun r => LJ Z Ho ⟨m1.p && pl && ph, false⟩ G H σ r Q) (fun _ _ h => h) (fun h => h) q1 fun l ρ2 G2 H2 x2 g2 s2 q2 => ?_)
  refine sh Ho hw G2 ρ2 σ H2 _ x2 (LO.then (p := ph) (L := fun r => LJ Z Ho ⟨m1.p && pl && ph, false⟩ G H σ r Q) (fun _ _ h => h) (fun h => h) q2 fun h ρ3 G3 H3 x3 g3 s3 q3 => ?_)
  have bb : Z.BR m1.b G3 H3 d v := (b1.go g2.1 fun hb => s2 (by rw [hb] at hm; simp only [Bool.not_true, Bool.false_or, Bool.and_eq_true] at hm; exact hm.1)).go g3.1 fun hb => s3 (by rw [hb] at hm; simp only [Bool.not_true, Bool.false_or, Bool.and_eq_true] at hm; exact hm.2)
  have ss : (m1.p && pl && ph) = true → Same H H3 := fun hp => by
    simp only [Bool.and_eq_true] at hp
    exact ((s1 hp.1.1).trans (s2 hp.1.2)).trans (s3 hp.2)
  have gg := (g1.trans g2).trans g3
  cases d <;> try (exact q3.elim)
  · rename_i z
    by_cases hz : z.length ≤ sizeLine
    · simp only [lft, fSl, if_pos hz] at q3
      exact .inr (.inr ⟨z, bb.str.1, hz, q3 _ _ _ x3 gg ss (.inl (rep_str (strOk_cut bb.str.2)))⟩)
    · simp only [lft, fSl, if_neg hz] at q3
      exact q3.elim
  · rename_i ds
    obtain ⟨a, vs, rfl, h1, h2⟩ := bb.tup
    refine .inr (.inl ⟨a, vs, rfl, Same.sqt x3.gh h1, fun hw => ?_, fun hw p hp => ?_⟩)
    · have hw' : HT.sIx ds.length 0 l = 0 ∧ HT.sIx ds.length ds.length h = ds.length := by rw [← h2.length]; exact hw
      refine q3 _ _ _ x3 gg ss (.inl ?_)
      unfold Rep
      exact ⟨a, vs, rfl, h1, by rw [cut_whole hw']; exact h2⟩
    · obtain ⟨x4, g4⟩ := x3.allocF (o := .tup (cutV vs l h)) hp
      refine q3 _ _ _ x4 (gg.trans g4) (fun hp' => (ss hp').trans (same_upd hp)) (.inl ?_)
      unfold Rep
      exact ⟨p, _, rfl, SqT.of upd_same, by rw [cutV_eq]; exact RepL.mono g4.1 _ _ (h2.cut _ _)⟩
  · rename_i ds
    obtain ⟨a, vs, rfl, h1, h2⟩ := bb.lst x3.gh
    refine .inl ⟨a, vs, rfl, SqL.of h1, fun p hp => ?_⟩
    obtain ⟨x4, g4⟩ := x3.allocF (o := .lst (cutV vs l h)) hp
    refine q3 _ _ _ x4 (gg.trans g4) (fun hp' => (ss hp').trans (same_upd hp)) (.inl ?_)
    unfold Rep
    exact ⟨p, _, rfl, upd_same, by rw [cutV_eq]; exact RepL.mono g4.1 _ _ (h2.cut _ _)⟩

/-! ### built-ins of one argument -/
structure ClD (Z : DC) (r : List V → Hp → VK → Prop) (f : D → Option D) : Prop where
  ok : ∀ {Ho G : Hp} {ρ : List Sl} {σ : L2.St} {H : Hp} {d z : D} {x : V} {Q : VK}, Z.R Ho G ρ σ H → Z.BR true G H d x → f d = some z →
    (∀ v G' H', Z.R Ho G' ρ σ H' → Gr Ho G G' → Same H H' → Z.rep G' z v → Q v H') → r [x] H Q
theorem ClD.congr {r : List V → Hp → VK → Prop} {f g : D → Option D} (h : ClD Z r f) (e : ∀ d z, g d = some z → f d = some z) : ClD Z r g := ⟨fun hR hx hf hq => h.ok hR hx (e _ _ hf) hq⟩
def fOr1 (f f' : D → Option D) : D → Option D := fun d => match f d with | some z => some z | none => f' d
theorem ClD.or {r r' : List V → Hp → VK → Prop} {f f' : D → Option D} (h : ClD Z r f) (h' : ClD Z r' f') : ClD Z (fun xs H Q => r xs H Q ∨ r' xs H Q) (fOr1 f f') := by
  refine ⟨?_⟩
  intro Ho G ρ σ H d z x Q hR hx hf hq
  unfold fOr1 at hf
  cases q : f d with
  | some z' => simp only [q] at hf; cases hf; exact .inl (h.ok hR hx q hq)
  | none => simp only [q] at hf; exact .inr (h'.ok hR hx hf hq)
theorem cl1 {r : List V → Hp → VK → Prop} {f : D → Option D} (hf : ClD Z r f) {tea : TE} (sa : ∀ Ho, Same Z.Ho Ho → ∀ G ρ σ H Q, Z.R Ho G ρ σ H → LJ Z Ho m1 G H σ (ta ρ) Q → tea σ H Q) {Ho : Hp} (hw : Same Z.Ho Ho) {G : Hp} {ρ : List Sl} {σ : L2.St} {H : Hp} {Q : VK} (x : Z.R Ho G ρ σ H)
    (q : LJ Z Ho ⟨m1.p, false⟩ G H σ (d1 f ta ρ) Q) : tCB r (tCons tea tNil) σ H Q := by
  refine sa Ho hw G ρ σ H _ x (DE.then (L := fun r => LJ Z Ho ⟨m1.p, false⟩ G H σ r Q) (fun _ _ h => h) (fun h => h) q fun d ρ1 v G1 H1 x1 g1 s1 b1 q1 => ?_)
  unfold lft at q1
  cases ef : f d with
  | none => rw [ef] at q1; exact q1.elim
  | some z =>
    rw [ef] at q1
    exact hf.ok x1 b1.up ef fun u G' H' x' g' s' r' => q1 u G' H' x' (g1.trans g') (fun hp => (s1 hp).trans s') (.inl r')
theorem de_blt1 {x : Str} {id : String} {r : List V → Hp → VK → Prop} {f : D → Option D} (hc : CallR Z.X (.builtin id) r) (hf : ClD Z r f) (hv : bootBuiltins x = some (.builtin id)) (hm : Z.X.mg x = none) (ha : DE Z m1 a ta) (hg : Gl Z.X x := by rfl)
    (hn : x ≠ "__name__" := by decide) (hdb : (x == ("__debug__" : Str)) = false := by decide) (he : starEach (a :: []) Z.X.env = (false, eval a Z.X.env) :: starEach [] Z.X.env := by rfl) (hpl : (backTo pos (starEach [] Z.X.env)).any (·.1) = false := by rfl) :
    DE Z ⟨m1.p, false⟩ (.Call (.Name x p2) [a] [] pos) (d1 f ta) := by
  obtain ⟨tea, pa, sa⟩ := ha
  exact ⟨_, pe_callB hc hg hm hv (pa_cons pa pa_nil he) hn hdb he hpl, fun Ho hw G ρ σ H Q x q => cl1 hf sa hw x q⟩
theorem de_typ1 {x : Str} {id : String} {r : List V → Hp → VK → Prop} {f : D → Option D} (hc : CallR Z.X (.type id) r) (hf : ClD Z r f) (hv : bootBuiltins x = some (.type id)) (hm : Z.X.mg x = none) (ha : DE Z m1 a ta) (hg : Gl Z.X x := by rfl)
    (hn : x ≠ "__name__" := by decide) (hdb : (x == ("__debug__" : Str)) = false := by decide) (he : starEach (a :: []) Z.X.env = (false, eval a Z.X.env) :: starEach [] Z.X.env := by rfl) (hpl : (backTo pos (starEach [] Z.X.env)).any (·.1) = false := by rfl) :
    DE Z ⟨m1.p, false⟩ (.Call (.Name x p2) [a] [] pos) (d1 f ta) := by
  obtain ⟨tea, pa, sa⟩ := ha
  exact ⟨_, pe_callTy hc hg hm hv (pa_cons pa pa_nil he) hn hdb he hpl, fun Ho hw G ρ σ H Q x q => cl1 hf sa hw x q⟩

/-- len(a) -/
def fLen : D → Option D
  | .str x => if x.length ≤ sizeLine then some (.int x.length) else none
  | .lst ds => some (.int ds.length)
  | .tup ds => some (.int ds.length)
  | .dct kvs => some (.int kvs.length)
  | .scr ns => some (.int ns.length)
  | _ => none
theorem RepK.length {K : PySem.W.Frag} {mg : Str → Option Value} {G : Hp} : ∀ {ds : List (D × D)} {vs : List (Key × V)}, RepK K mg G ds vs → vs.length = ds.length
  | [], vs, h => by unfold RepK at h; subst h; rfl
  | (k, d) :: ds, vs, h => by
    unfold RepK at h
    obtain ⟨kk, v, vs', rfl, _, _, h3⟩ := h
    simp [RepK.length h3]
theorem BR.dct {K : PySem.W.Frag} {mg : Str → Option Value} {b : Bool} {G H : Hp} {kvs : List (D × D)} {v : V} (e : Same G H) (h : BR K mg b G H (.dct kvs) v) : ∃ a ws, v = .ref a ∧ H a = some (.dK ws) ∧ RepK K mg G kvs ws := by
  rcases h with h | ⟨_, a, o, rfl, h1, h⟩
  · unfold Rep at h
    obtain ⟨a, vs, h1, h2, h3⟩ := h
    exact ⟨a, vs, h1, e _ _ h2, h3⟩
  · cases h with
    | dct h => exact ⟨a, _, rfl, h1, h⟩
theorem BR.scr {K : PySem.W.Frag} {mg : Str → Option Value} {b : Bool} {G H : Hp} {ns : List Int} {v : V} (h : BR K mg b G H (.scr ns) v) : ∃ a, v = .ref a ∧ SqL K G a (ns.map V.int) := by
  rcases h with h | ⟨_, a, o, rfl, h1, h⟩
  · unfold Rep at h; exact h
  · cases h
theorem cld_len : ClD Z (fun xs H Q => (∃ x n, xs = [x] ∧ LenV Z.X.K x H n ∧ Q (.int n) H) ∨ ∃ a kvs, xs = [V.ref a] ∧ H a = some (.dK kvs) ∧ Q (.int kvs.length) H) fLen := by
  refine ⟨?_⟩
  intro Ho G ρ σ H d z x Q hR hx hf hq
  cases d <;> try (cases hf; done)
  · rename_i s
    unfold fLen at hf
    by_cases hz : s.length ≤ sizeLine
    · simp only [if_pos hz] at hf
      cases hf
      rw [hx.str.1]
      exact .inl ⟨_, _, rfl, ⟨hz, rfl⟩, hq _ _ _ hR Gr.refl (Same.refl _) rep_int⟩
    · simp only [if_neg hz] at hf; cases hf
  · cases hf
    obtain ⟨a, vs, rfl, h1, h2⟩ := hx.tup
    exact .inl ⟨_, _, rfl, .inr ⟨vs, Same.sqt hR.gh h1, rfl⟩, by rw [h2.length]; exact hq _ _ _ hR Gr.refl (Same.refl _) rep_int⟩
  · cases hf
    obtain ⟨a, vs, rfl, h1, h2⟩ := hx.lst hR.gh
    exact .inl ⟨_, _, rfl, .inl ⟨vs, SqL.of h1, rfl⟩, by rw [h2.length]; exact hq _ _ _ hR Gr.refl (Same.refl _) rep_int⟩
  · cases hf
    obtain ⟨a, vs, rfl, h1, h2⟩ := hx.dct hR.gh
    exact .inr ⟨a, vs, rfl, h1, by rw [h2.length]; exact hq _ _ _ hR Gr.refl (Same.refl _) rep_int⟩
  · cases hf
    rename_i ns
    obtain ⟨a, rfl, h1⟩ := hx.scr
    exact .inl ⟨_, _, rfl, .inl ⟨_, Same.seq hR.gh h1, rfl⟩, by rw [List.length_map]; exact hq _ _ _ hR Gr.refl (Same.refl _) rep_int⟩
theorem CallR.or' {X : Cx} {f : Value} {r r' : List V → Hp → VK → Prop} (h : CallR X f r) (h' : CallR X f r') : CallR X f (fun xs H Q => r xs H Q ∨ r' xs H Q) := by
  intro pins s σ H xs us Q I rs q
  rcases q with q | q
  · exact h pins s σ H xs us Q I rs q
  · exact h' pins s σ H xs us Q I rs q
theorem de_len (hm : Z.X.mg "len" = none) (ha : DE Z m1 a ta) (hg : Gl Z.X "len" := by rfl) (he : starEach (a :: []) Z.X.env = (false, eval a Z.X.env) :: starEach [] Z.X.env := by rfl) :
    DE Z ⟨m1.p, false⟩ (.Call (.Name "len" p2) [a] [] pos) (d1 fLen ta) := de_blt1 (CallR.or' call_len call_lenD) cld_len PySem.boot_len hm ha hg (he := he)

/-- int(a) of an int, a bool -/
def fInt : D → Option D
  | .int i => some (.int i)
  | .bl k => some (.int (if k then 1 else 0))
  | _ => none
theorem cld_int : ClD Z (fun xs H Q => (∃ i, xs = [.int i] ∧ Q (.int i) H) ∨ ∃ k, xs = [.bl k] ∧ Q (.int (if k then 1 else 0)) H) fInt := by
  refine ⟨?_⟩
  intro Ho G ρ σ H d z x Q hR hx hf hq
  cases d <;> try (cases hf; done)
  · cases hf
    rename_i k
    have q := hq _ _ _ hR Gr.refl (Same.refl _) rep_int
    exact .inr ⟨k, by rw [hx.bl], q⟩
  · cases hf
    exact .inl ⟨_, by rw [hx.int], hq _ _ _ hR Gr.refl (Same.refl _) rep_int⟩
theorem de_intof (hm : Z.X.mg "int" = none) (ha : DE Z m1 a ta) (hg : Gl Z.X "int" := by rfl) (he : starEach (a :: []) Z.X.env = (false, eval a Z.X.env) :: starEach [] Z.X.env := by rfl) :
    DE Z ⟨m1.p, false⟩ (.Call (.Name "int" p2) [a] [] pos) (d1 fInt ta) := de_typ1 call_int1 cld_int (by decide +kernel) hm ha hg (he := he)
/-- abs(a) -/
def fAbs : D → Option D
  | .int i => some (.int (if i < 0 then -i else i))
  | _ => none
theorem cld_abs : ClD Z (fun xs H Q => ∃ i, xs = [.int i] ∧ Q (.int (if i < 0 then -i else i)) H) fAbs := by
  refine ⟨?_⟩
  intro Ho G ρ σ H d z x Q hR hx hf hq
  cases d <;> try (cases hf; done)
  cases hf
  exact ⟨_, by rw [hx.int], hq _ _ _ hR Gr.refl (Same.refl _) rep_int⟩
theorem de_abs (hm : Z.X.mg "abs" = none) (ha : DE Z m1 a ta) (hg : Gl Z.X "abs" := by rfl) (he : starEach (a :: []) Z.X.env = (false, eval a Z.X.env) :: starEach [] Z.X.env := by rfl) :
    DE Z ⟨m1.p, false⟩ (.Call (.Name "abs" p2) [a] [] pos) (d1 fAbs ta) := de_blt1 call_abs cld_abs (by decide +kernel) hm ha hg (he := he)
/-- tuple(a), list(a): of a list or a tuple -/
def fTupOf : D → Option D
  | .lst ds => some (.tup ds)
  | .tup ds => some (.tup ds)
  | _ => none
theorem cld_tupof : ClD Z (fun xs H Q => ∃ p ys, xs = [.ref p] ∧ ((SqL Z.X.K H p ys ∧ ∀ l, H l = none → Q (.ref l) (upd H l (.tup ys))) ∨ (SqT Z.X.K H p ys ∧ Q (.ref p) H))) fTupOf := by
  refine ⟨?_⟩
  intro Ho G ρ σ H d z x Q hR hx hf hq
  cases d <;> try (cases hf; done)
  · cases hf
    obtain ⟨a, vs, rfl, h1, h2⟩ := hx.tup
    refine ⟨a, vs, rfl, .inr ⟨Same.sqt hR.gh h1, hq _ _ _ hR Gr.refl (Same.refl _) ?_⟩⟩
    unfold DC.rep Rep
    exact ⟨a, vs, rfl, h1, h2⟩
  · cases hf
    obtain ⟨a, vs, rfl, h1, h2⟩ := hx.lst hR.gh
    refine ⟨a, vs, rfl, .inl ⟨SqL.of h1, fun p hp => ?_⟩⟩
    obtain ⟨x4, g4⟩ := hR.allocF (o := .tup vs) hp
    refine hq _ _ _ x4 g4 (same_upd hp) ?_
    unfold DC.rep Rep
    exact ⟨p, _, rfl, SqT.of upd_same, RepL.mono g4.1 _ _ h2⟩
theorem de_tupof (hm : Z.X.mg "tuple" = none) (ha : DE Z m1 a ta) (hg : Gl Z.X "tuple" := by rfl) (he : starEach (a :: []) Z.X.env = (false, eval a Z.X.env) :: starEach [] Z.X.env := by rfl) :
    DE Z ⟨m1.p, false⟩ (.Call (.Name "tuple" p2) [a] [] pos) (d1 fTupOf ta) := de_typ1 call_tuple_of cld_tupof (by decide +kernel) hm ha hg (he := he)
def fLstOf : D → Option D
  | .lst ds => some (.lst ds)
  | .tup ds => some (.lst ds)
  | _ => none
theorem cld_lstof : ClD Z (fun xs H Q => ∃ p ys, xs = [.ref p] ∧ (SqL Z.X.K H p ys ∨ SqT Z.X.K H p ys) ∧ ∀ l, H l = none → Q (.ref l) (upd H l (.lst ys))) fLstOf := by
  refine ⟨?_⟩
  intro Ho G ρ σ H d z x Q hR hx hf hq
  cases d <;> try (cases hf; done)
  · cases hf
    obtain ⟨a, vs, rfl, h1, h2⟩ := hx.tup
    refine ⟨a, vs, rfl, .inr (Same.sqt hR.gh h1), fun p hp => ?_⟩
    obtain ⟨x4, g4⟩ := hR.allocF (o := .lst vs) hp
    refine hq _ _ _ x4 g4 (same_upd hp) ?_
    unfold DC.rep Rep
    exact ⟨p, _, rfl, upd_same, RepL.mono g4.1 _ _ h2⟩
  · cases hf
    obtain ⟨a, vs, rfl, h1, h2⟩ := hx.lst hR.gh
    refine ⟨a, vs, rfl, .inl (SqL.of h1), fun p hp => ?_⟩
    obtain ⟨x4, g4⟩ := hR.allocF (o := .lst vs) hp
    refine hq _ _ _ x4 g4 (same_upd hp) ?_
    unfold DC.rep Rep
    exact ⟨p, _, rfl, upd_same, RepL.mono g4.1 _ _ h2⟩
theorem de_lstof (hm : Z.X.mg "list" = none) (ha : DE Z m1 a ta) (hg : Gl Z.X "list" := by rfl) (he : starEach (a :: []) Z.X.env = (false, eval a Z.X.env) :: starEach [] Z.X.env := by rfl) :
    DE Z ⟨m1.p, false⟩ (.Call (.Name "list" p2) [a] [] pos) (d1 fLstOf ta) := de_typ1 call_list_of cld_lstof (by decide +kernel) hm ha hg (he := he)
/-- str(n) -/
def fStrOf : D → Option D
  | .int i => if i.natAbs.log2 < 1920 then some (.str (toString i)) else none
  | _ => none
end
end DS

set_option Elab.async false
set_option linter.all false
set_option maxRecDepth 100000
namespace DS
open PySem PySem.Spec PyProof.Rows L2

/-! ### a thing that nobody has; what is held while the rest goes on -/
section
variable {K : PySem.W.Frag} {mg : Str → Option Value} {τ : Tau} {Ho G : Hp} {ρ : List Sl} {σ : L2.St} {H : Hp}
theorem RS.garb (x : RS K mg τ Ho G ρ σ H) {p : Addr} {o : HO} (h : H p = none) : RS K mg τ Ho G ρ σ (upd H p o) := by
  obtain ⟨O, x⟩ := x
  have op : ∀ i, O p ≠ some i := fun i e => (x.oh p i e).2.2 h
  refine ⟨O, x.gh.trans (same_upd h), fun a i e => ?_, x.out.trans (same_upd h), x.len, fun i s e => ?_⟩
  · have q : a ≠ p := by rintro rfl; exact op i e
    rw [upd_ne q]
    exact x.oh a i e
  · have z : own O i (upd H p o) = own O i H := by
      funext a
      unfold own
      by_cases q : O a = some i
      · rw [if_pos q, if_pos q, upd_ne]
        rintro rfl; exact op i q
      · rw [if_neg q, if_neg q]
    rw [z]
    exact x.sl i s e
/-- what the front has is lent to the outer heap, and comes back -/
theorem RS.lend {s : Sl} {v : Option V} (x : RS K mg τ Ho G (s :: ρ) (v :: σ) H) : ∃ Ho', Same Ho Ho' ∧ RS K mg τ Ho' G ρ σ H ∧
    ∀ G' ρ' σ' H', Gr Ho' G G' → RS K mg τ Ho' G' ρ' σ' H' → RS K mg τ Ho G' (s :: ρ') (v :: σ') H' := by
  obtain ⟨O, x⟩ := x
  obtain ⟨Ho', eHo⟩ : ∃ Ho' : Hp, Ho' = fun a => if O a = some 0 then H a else Ho a := ⟨_, rfl⟩
  have h0 : ∀ a, O a = some 0 → Ho' a = H a := fun a e => by rw [eHo]; simp only [if_pos e]
  have h1 : ∀ a, O a ≠ some 0 → Ho' a = Ho a := fun a e => by rw [eHo]; simp only [if_neg e]
  have s1 : Same Ho Ho' := fun a o e => by
    by_cases q : O a = some 0
    · rw [(x.oh a 0 q).2.1] at e; cases e
    · rw [h1 a q]; exact e
  have s2 : Same Ho' H := fun a o e => by
    by_cases q : O a = some 0
    · rw [h0 a q] at e; exact e
    · rw [h1 a q] at e; exact x.out _ _ e
  refine ⟨Ho', s1, ⟨popO O, x.gh, fun a i e => ?_, s2, by simpa using x.len, fun i t e => ?_⟩, fun G' ρ' σ' H' g y => ?_⟩
  · have e' := popO_some.mp e
    obtain ⟨z1, z2, z3⟩ := x.oh a _ e'
    exact ⟨z1, by rw [h1 a (by rw [e']; simp)]; exact z2, z3⟩
  · rw [own_of fun a => popO_some]
    simpa using x.sl (i + 1) t (by simpa using e)
  · obtain ⟨O2, y⟩ := y
    have no2 : ∀ a i, O a = some 0 → O2 a ≠ some i := fun a i e q => by
      have z := (y.oh a i q).2.1
      rw [h0 a e] at z
      exact (x.oh a 0 e).2.2 z
    have none2 : ∀ a, O a = some 0 → O2 a = none := fun a e => by
      cases q : O2 a with
      | none => rfl
      | some i => exact absurd q (no2 a i e)
    have keep : ∀ a, O a = some 0 → H' a = H a := fun a e => by
      cases q : H a with
      | none => exact absurd q (x.oh a 0 e).2.2
      | some o => exact y.out a o (by rw [h0 a e]; exact q)
    refine ⟨fun a => if O a = some 0 then some 0 else shO O2 a, y.gh, fun a i e => ?_, s1.trans y.out, by simp [y.len], fun i t e => ?_⟩
    · by_cases q : O a = some 0
      · obtain ⟨z1, z2, z3⟩ := x.oh a 0 q
        refine ⟨?_, z2, by rw [keep a q]; exact z3⟩
        cases w : H a with
        | none => exact absurd w z3
        | some o => rw [g.2 a o (by rw [h0 a q]; exact w)]; exact z1
      · simp only [if_neg q] at e
        cases i with
        | zero => exact absurd e shO_zero
        | succ i =>
          obtain ⟨z1, z2, z3⟩ := y.oh a i (shO_some.mp e)
          exact ⟨z1, by rw [h1 a q] at z2; exact z2, z3⟩
    · cases i with
      | zero =>
        have z : own (fun a => if O a = some 0 then some 0 else shO O2 a) 0 H' = own O 0 H := by
          funext a
          unfold own
          by_cases q : O a = some 0
          · rw [if_pos (if_pos q), if_pos q, keep a q]
          · rw [if_neg (by simp only [if_neg q]; exact shO_zero), if_neg q]
        rw [z]
        have := x.sl 0 t (by simpa using e)
        simpa using this.mono g.1
      | succ i =>
        have z : own (fun a => if O a = some 0 then some 0 else shO O2 a) (i + 1) H' = own O2 i H' := by
          refine own_of fun a => ?_
          by_cases q : O a = some 0
          · simp [q, none2 a q]
          · simp only [if_neg q]; exact shO_some
        rw [z]
        simpa using y.sl i t (by simpa using e)
end
section
variable {Z : DC} {Ho G : Hp} {ρ : List Sl} {σ : L2.St} {H : Hp}
theorem DC.R.garb (x : Z.R Ho G ρ σ H) {p : Addr} {o : HO} (h : H p = none) : Z.R Ho G ρ σ (upd H p o) := x.to (x.rs.garb h) Gr.refl
theorem DC.R.lend {s : Sl} {v : Option V} (x : Z.R Ho G (s :: ρ) (v :: σ) H) : ∃ Ho', Same Ho Ho' ∧ Z.R Ho' G ρ σ H ∧ ∀ G' ρ' σ' H', Gr Ho' G G' → Z.R Ho' G' ρ' σ' H' → Z.R Ho G' (s :: ρ') (v :: σ') H' := by
  obtain ⟨Ho', h1, h2, h3⟩ := x.rs.lend
  exact ⟨Ho', h1, ⟨h2, x.ho.trans h1, x.g0⟩, fun G' ρ' σ' H' g y => x.to (h3 G' ρ' σ' H' g y.rs) (g.anti h1)⟩
end

/-! ### several values, each its owner's -/
def LS (Z : DC) (Ho : Hp) (G : Hp) (σ : L2.St) (r : Res (List Sl)) (Q : List V → Hp → Prop) : Prop := match r with
  | .ok ss ρ => ∀ vs G' H', vs.length = ss.length → Z.R Ho G' (ss ++ ρ) (vs.map some ++ σ) H' → Gr Ho G G' → Q vs H'
  | .ex x ρ => Z.Ex x ρ
  | .no => False
def DRs (Z : DC) (es : List Expr) (t : M (List Sl)) : Prop := ∃ te, PA Z.X es te ∧ ∀ Ho, Same Z.Ho Ho → ∀ G ρ σ H Q, Z.R Ho G ρ σ H → LS Z Ho G σ (t ρ) Q → te σ H Q
section
variable {Z : DC} {Ho : Hp} {e : Expr} {es : List Expr}
theorem LS.then {α : Type} {r : Res (List Sl)} {u : List Sl → M α} {L : Res α → Prop} {G : Hp} {σ : L2.St} {Q : List V → Hp → Prop} (hex : ∀ x ρ, L (.ex x ρ) → Z.Ex x ρ) (hno : L .no → False)
    (h : L (r.bind u)) (hq : ∀ ss ρ vs G' H', vs.length = ss.length → Z.R Ho G' (ss ++ ρ) (vs.map some ++ σ) H' → Gr Ho G G' → L (u ss ρ) → Q vs H') : LS Z Ho G σ r Q := by
  cases r with
  | ok d ρ => exact fun v G' H' l x g => hq d ρ v G' H' l x g h
  | ex x ρ => exact hex x ρ h
  | no => exact hno h
theorem drs_nil : DRs Z [] (ret []) := ⟨_, pa_nil, fun Ho hw G ρ σ H Q x q => q [] G H rfl x Gr.refl⟩
def sCons (t : M Sl) (u : M (List Sl)) : M (List Sl) := bnd t fun s => bnd u fun ss => ret (s :: ss)
theorem drs_cons {t : M Sl} {u : M (List Sl)} (h : DR Z e t) (hr : DRs Z es u) (hs : starEach (e :: es) Z.X.env = (false, eval e Z.X.env) :: starEach es Z.X.env := by rfl) : DRs Z (e :: es) (sCons t u) := by
  obtain ⟨te, pa, sa⟩ := h
  obtain ⟨tu, pr, sr⟩ := hr
  refine ⟨_, pa_cons pa pr hs, fun Ho hw G ρ σ H Q x q => ?_⟩
  refine sa Ho hw G ρ σ H _ x (DR.then (L := fun r => LS Z Ho G σ r Q) (fun _ _ h => h) (fun h => h) q fun s ρ1 v G1 H1 x1 g1 q1 => ?_)
  obtain ⟨Ho', hh, x2, back⟩ := x1.lend
  refine sr Ho' (hw.trans hh) G1 ρ1 σ H1 _ x2 (LS.then (L := fun r => LS Z Ho G σ r Q) (fun _ _ h => h) (fun h => h) q1 fun ss ρ2 vs G2 H2 l x3 g2 q2 => ?_)
  exact q2 (v :: vs) G2 H2 (by simp [l]) (back _ _ _ _ g2 x3) (g1.trans (g2.anti hh))
end

/-! ### statements -/
inductive SR where
  | nx (ρ : List Sl)
  | rt (r : Sl) (ρ : List Sl)
  | bk (ρ : List Sl)
  | ct (ρ : List Sl)
  | ex (x : Exn) (ρ : List Sl)
  | no
abbrev MS := List Sl → SR
def Res.andS {α : Type} (r : Res α) (u : α → MS) : SR := match r with
  | .ok a ρ => u a ρ
  | .ex x ρ => .ex x ρ
  | .no => .no
def LX (Z : DC) (Ho : Hp) (G : Hp) (r : SR) (E : Ends) : Prop := match r with
  | .nx ρ => ∀ σ G' H, Z.R Ho G' ρ σ H → Gr Ho G G' → E.nx σ H
  | .rt s ρ => ∀ v σ G' H, Z.R Ho G' (s :: ρ) (some v :: σ) H → Gr Ho G G' → E.rt v H
  | .bk ρ => ∀ σ G' H, Z.R Ho G' ρ σ H → Gr Ho G G' → E.bk σ H
  | .ct ρ => ∀ σ G' H, Z.R Ho G' ρ σ H → Gr Ho G G' → E.ct σ H
  | .ex x ρ => Z.Ex x ρ
  | .no => False
def DSt (Z : DC) (st : Stmt) (t : MS) : Prop := ∃ ts, PS Z.X st ts ∧ ∀ Ho, Same Z.Ho Ho → ∀ G ρ σ H E, Z.R Ho G ρ σ H → LX Z Ho G (t ρ) E → ts E σ H
def DSs (Z : DC) (sts : List Stmt) (t : MS) : Prop := ∃ ts, PSs Z.X sts ts ∧ ∀ Ho, Same Z.Ho Ho → ∀ G ρ σ H E, Z.R Ho G ρ σ H → LX Z Ho G (t ρ) E → ts E σ H
section
variable {Z : DC} {Ho : Hp} {m m1 m2 : Md} {p : Bool} {e a b : Expr} {es : List Expr} {t : M D} {pos pos' p2 : Pos} {st : Stmt} {sts : List Stmt} {u w : MS}
theorem LX.from {r : SR} {G G1 : Hp} {E : Ends} (g : Gr Ho G G1) (q : LX Z Ho G r E) : LX Z Ho G1 r E := by
  cases r with
  | nx ρ => exact fun σ G' H x g' => q σ G' H x (g.trans g')
  | rt s ρ => exact fun v σ G' H x g' => q v σ G' H x (g.trans g')
  | bk ρ => exact fun σ G' H x g' => q σ G' H x (g.trans g')
  | ct ρ => exact fun σ G' H x g' => q σ G' H x (g.trans g')
  | ex x ρ => exact q
  | no => exact q
theorem DE.thenS {r : Res D} {u : D → MS} {G H : Hp} {σ : L2.St} {Q : VK} {E : Ends} (h : LX Z Ho G (r.andS u) E)
    (hq : ∀ d ρ v G' H', Z.R Ho G' ρ σ H' → Gr Ho G G' → (m.p = true → Same H H') → Z.BR m.b G' H' d v → LX Z Ho G (u d ρ) E → Q v H') : LJ Z Ho m G H σ r Q := by
  cases r with
  | ok d ρ => exact fun v G' H' x g s b => hq d ρ v G' H' x g s b h
  | ex x ρ => exact h
  | no => exact h
theorem DT.thenS {r : Res Bool} {u : Bool → MS} {G H : Hp} {σ : L2.St} {Q : Bool → Hp → Prop} {E : Ends} (h : LX Z Ho G (r.andS u) E)
    (hq : ∀ d ρ G' H', Z.R Ho G' ρ σ H' → Gr Ho G G' → (p = true → Same H H') → LX Z Ho G (u d ρ) E → Q d H') : LT Z Ho p G H σ r Q := by
  cases r with
  | ok d ρ => exact fun G' H' x g s => hq d ρ G' H' x g s h
  | ex x ρ => exact h
  | no => exact h
theorem DR.thenS {r : Res Sl} {u : Sl → MS} {G : Hp} {σ : L2.St} {Q : VK} {E : Ends} (h : LX Z Ho G (r.andS u) E)
    (hq : ∀ s ρ v G' H', Z.R Ho G' (s :: ρ) (some v :: σ) H' → Gr Ho G G' → LX Z Ho G (u s ρ) E → Q v H') : LR Z Ho G σ r Q := by
  cases r with
  | ok d ρ => exact fun v G' H' x g => hq d ρ v G' H' x g h
  | ex x ρ => exact h
  | no => exact h
theorem DA.thenS {r : Res (List D)} {u : List D → MS} {G H : Hp} {σ : L2.St} {Q : List V → Hp → Prop} {E : Ends} (h : LX Z Ho G (r.andS u) E)
    (hq : ∀ ds ρ vs G' H', Z.R Ho G' ρ σ H' → Gr Ho G G' → RepL Z.X.K Z.X.mg G' ds vs → LX Z Ho G (u ds ρ) E → Q vs H') : LA Z Ho G H σ r Q := by
  cases r with
  | ok d ρ => exact fun v G' H' x g b => hq d ρ v G' H' x g b h
  | ex x ρ => exact h
  | no => exact h
theorem LS.thenS {r : Res (List Sl)} {u : List Sl → MS} {G : Hp} {σ : L2.St} {Q : List V → Hp → Prop} {E : Ends} (h : LX Z Ho G (r.andS u) E)
    (hq : ∀ ss ρ vs G' H', vs.length = ss.length → Z.R Ho G' (ss ++ ρ) (vs.map some ++ σ) H' → Gr Ho G G' → LX Z Ho G (u ss ρ) E → Q vs H') : LS Z Ho G σ r Q := by
  cases r with
  | ok d ρ => exact fun v G' H' l x g => hq d ρ v G' H' l x g h
  | ex x ρ => exact h
  | no => exact h

/-- a block -/
def sNil : MS := .nx
def sSeq (u w : MS) : MS := fun ρ => match u ρ with
  | .nx ρ' => w ρ'
  | r => r
theorem dss_nil : DSs Z [] sNil := ⟨_, pss_nil, fun Ho hw G ρ σ H E x q => q σ G H x Gr.refl⟩
theorem dss_one (h : DSt Z st u) : DSs Z [st] u := by
  obtain ⟨ts, ps, ss⟩ := h
  exact ⟨_, pss_one ps, ss⟩
theorem dss_cons (h : DSt Z st u) (hr : DSs Z sts w) : DSs Z (st :: sts) (sSeq u w) := by
  obtain ⟨ts, ps, ss⟩ := h
  obtain ⟨tr, pr, sr⟩ := hr
  refine ⟨_, pss_cons ps pr, fun Ho hw G ρ σ H E x q => ?_⟩
  refine ss Ho hw G ρ σ H _ x ?_
  unfold sSeq at q
  cases ev : u ρ with
  | nx ρ' =>
    rw [ev] at q
    exact fun σ' G' H' x' g' => sr Ho hw G' ρ' σ' H' E x' (LX.from g' q)
  | rt s ρ' => rw [ev] at q; exact q
  | bk ρ' => rw [ev] at q; exact q
  | ct ρ' => rw [ev] at q; exact q
  | ex y ρ' => rw [ev] at q; exact q
  | no => rw [ev] at q; exact q

theorem st_pass : DSt Z (.Pass pos) sNil := ⟨_, ps_pass, fun Ho hw G ρ σ H E x q => q σ G H x Gr.refl⟩
theorem st_break : DSt Z (.Break pos) .bk := ⟨_, ps_break, fun Ho hw G ρ σ H E x q => q σ G H x Gr.refl⟩
theorem st_cont : DSt Z (.Continue pos) .ct := ⟨_, ps_continue, fun Ho hw G ρ σ H E x q => q σ G H x Gr.refl⟩
def sRet (t : M Sl) : MS := fun ρ => (t ρ).andS .rt
theorem st_ret {t : M Sl} (h : DR Z e t) : DSt Z (.Return (some e) pos) (sRet t) := by
  obtain ⟨te, pa, sa⟩ := h
  refine ⟨_, ps_ret pa, fun Ho hw G ρ σ H E x q => ?_⟩
  exact sa Ho hw G ρ σ H _ x (DR.thenS q fun s ρ1 v G1 H1 x1 g1 q1 => q1 v σ G1 H1 x1 g1)
theorem st_retN : DSt Z (.Return none pos) (.rt (.sh .non)) := ⟨_, ps_retN, fun Ho hw G ρ σ H E x q => q .non σ G H (x.push rep_non) Gr.refl⟩
/-- return x, x a container of one's own: it goes with the value -/
def dMove (i : Nat) : M Sl := fun ρ => match ρ[i]? with
  | some (.sh d) => .ok (.sh d) ρ
  | some (.ow t d) => .ok (.ow t d) (ρ.set i .no)
  | _ => .no
theorem RS.move {K : PySem.W.Frag} {mg : Str → Option Value} {τ : Tau} {Ho G : Hp} {ρ : List Sl} {σ : L2.St} {H : Hp} (x : RS K mg τ Ho G ρ σ H) {i : Nat} {s : Sl} {v : V} (e : ρ[i]? = some s) (hv : σ[i]? = some (some v)) :
    RS K mg τ Ho G (s :: ρ.set i .no) (some v :: σ) H := by
  obtain ⟨O, x⟩ := x
  refine ⟨fun a => match O a with | some j => if j = i then some 0 else some (j + 1) | none => none, x.gh, fun a j q => ?_, x.out, by simp [x.len], fun j t q => ?_⟩
  · cases h : O a with
    | none => simp only [h] at q; cases q
    | some k => exact x.oh a k h
  · cases j with
    | zero =>
      simp only [List.getElem?_cons_zero, Option.some.injEq] at q
      subst q
      rw [own_of (O := O) (i := i)]
      · have := x.sl i _ e
        rw [hv] at this
        simpa using this
      · intro a
        cases h : O a with
        | none => simp [h]
        | some k =>
          by_cases w : k = i
          · simp [h, w]
          · simp [h, w]
    | succ j =>
      simp only [List.getElem?_cons_succ] at q ⊢
      by_cases w : j = i
      · subst w
        rw [List.getElem?_set_self (List.getElem?_eq_some_iff.mp e).1] at q
        cases q
        trivial
      · rw [List.getElem?_set_ne (Ne.symm w)] at q
        rw [own_of (O := O) (i := j)]
        · exact x.sl j _ q
        · intro a
          cases h : O a with
          | none => simp [h]
          | some k =>
            by_cases w2 : k = i
            · subst w2; simp [h]; exact fun z => w z.symm
            · simp [h, w2]
theorem dr_move (i : Nat) {x : Str} (hN : Z.X.N[i]? = some x := by rfl) (hv : Vis Z.X.env.scope x := by first | exact Or.inl rfl | exact Or.inr (Or.inl rfl) | exact Or.inr (Or.inr rfl)) (hd : (x == ("__debug__" : Str)) = false := by decide)
    (hcd : (x == ("__classdict__" : Str)) = false := by decide) : DR Z (.Name x pos) (dMove i) := by
  refine ⟨_, pe_var hN hv hd hcd, fun Ho hw G ρ σ H Q x q => ?_⟩
  unfold dMove at q
  cases e : ρ[i]? with
  | none => rw [e] at q; exact q.elim
  | some s =>
    rw [e] at q
    cases s with
    | no => exact q.elim
    | rs t R => exact q.elim
    | er x => exact q.elim
    | th x => exact q.elim
    | td x => exact q.elim
    | tb => exact q.elim
    | sh d =>
      obtain ⟨v, h1, h2⟩ := x.sh e
      exact ⟨v, h1, q v G H (x.push h2) Gr.refl⟩
    | ow t d =>
      obtain ⟨a, o, h1, h2, h3, _⟩ := x.mut e
      exact ⟨_, h1, q _ G H (x.to (x.rs.move e h1) Gr.refl) Gr.refl⟩
/-- x = e -/
def sSet (i : Nat) (t : M Sl) : MS := fun ρ => (t ρ).andS fun s ρ => .nx (ρ.set i s)
theorem st_set {t : M Sl} (i : Nat) {x : Str} (h : DR Z e t) (hN : Z.X.N.Nodup) (hi : Z.X.N[i]? = some x := by rfl) (hx : Loc Z.X.env.scope x := by first | exact Or.inl rfl | exact Or.inr rfl)
    (hs : swapsWith e (some (.Name x pos')) pos.line Z.X.env = pure false := by rfl) (hf : Z.X.fn x = true ∨ Z.X.env.scope.names.lookup x = some .local := by first | exact .inl rfl | exact .inr rfl) :
    DSt Z (.Assign [.Name x pos'] e pos) (sSet i t) := by
  obtain ⟨te, pa, sa⟩ := h
  refine ⟨_, ps_set hN hi hx pa hs hf, fun Ho hw G ρ σ H E x q => ?_⟩
  exact sa Ho hw G ρ σ H _ x (DR.thenS q fun s ρ1 v G1 H1 x1 g1 q1 => q1 _ G1 H1 (x1.assign i) g1)
/-- e alone -/
def sDrop (t : M D) : MS := fun ρ => (t ρ).andS fun _ => .nx
theorem st_expr (h : DE Z m e t) (hs : swapsWith e none pos.line Z.X.env = pure false := by rfl) : DSt Z (.Expr e pos) (sDrop t) := by
  obtain ⟨te, pa, sa⟩ := h
  refine ⟨_, ps_expr pa hs, fun Ho hw G ρ σ H E x q => ?_⟩
  exact sa Ho hw G ρ σ H _ x (DE.thenS q fun d ρ1 v G1 H1 x1 g1 s1 b1 q1 => q1 σ G1 H1 x1 g1)
/-- if -/
def sIf (t : M Bool) (u w : MS) : MS := fun ρ => (t ρ).andS fun c => if c then u else w
theorem st_if {t : M Bool} {aa bb : List Stmt} (h : DT Z p e t) (ha : DSs Z aa u) (hb : DSs Z bb w) : DSt Z (.If e aa bb pos) (sIf t u w) := by
  obtain ⟨te, pc, sc⟩ := h
  obtain ⟨tu, pu, su⟩ := ha
  obtain ⟨tw, pw, sw⟩ := hb
  refine ⟨_, ps_if pc pu pw, fun Ho hw G ρ σ H E x q => ?_⟩
  refine sc Ho hw G ρ σ H _ x (DT.thenS q fun c ρ1 G1 H1 x1 g1 s1 q1 => ?_)
  cases c with
  | true => rw [if_pos rfl] at q1 ⊢; exact su Ho hw G1 ρ1 σ H1 E x1 (LX.from g1 q1)
  | false => rw [if_neg Bool.false_ne_true] at q1 ⊢; exact sw Ho hw G1 ρ1 σ H1 E x1 (LX.from g1 q1)

/-! ### several names at once -/
/-- a, b = e, f: stored from the right -/
def sPar2 (i j : Nat) (t : M (List Sl)) : MS := fun ρ => (t ρ).andS fun ss ρ => match ss with
  | [s1, s2] => .nx ((ρ.set i s1).set j s2)
  | _ => .no
theorem two_some {α : Type} {vs : List α} (h : vs.length = 2) : ∃ a b, vs = [a, b] := by
  match vs, h with
  | [a, b], _ => exact ⟨a, b, rfl⟩
theorem three_some {α : Type} {vs : List α} (h : vs.length = 3) : ∃ a b c, vs = [a, b, c] := by
  match vs, h with
  | [a, b, c], _ => exact ⟨a, b, c, rfl⟩
theorem DC.R.front2 {G H : Hp} {ρ : List Sl} {σ : L2.St} {s1 s2 : Sl} {v1 v2 : V} (x : Z.R Ho G (s1 :: s2 :: ρ) (some v1 :: some v2 :: σ) H) (i j : Nat) : Z.R Ho G ((ρ.set i s1).set j s2) ((σ.set i (some v1)).set j (some v2)) H := by
  have y := x.assign (i + 1)
  simp only [List.set_cons_succ] at y
  exact y.assign j
theorem DC.R.front3 {G H : Hp} {ρ : List Sl} {σ : L2.St} {s1 s2 s3 : Sl} {v1 v2 v3 : V} (x : Z.R Ho G (s1 :: s2 :: s3 :: ρ) (some v1 :: some v2 :: some v3 :: σ) H) (i j k : Nat) :
    Z.R Ho G (((ρ.set i s1).set j s2).set k s3) (((σ.set i (some v1)).set j (some v2)).set k (some v3)) H := by
  have y := x.assign (i + 2)
  simp only [List.set_cons_succ] at y
  exact y.front2 j k
theorem st_par2 {t : M (List Sl)} (i j : Nat) {x y : Str} {px py pt : Pos} {kt k2 pt2} (h : DRs Z [a, b] t) (hN : Z.X.N.Nodup) (hi : Z.X.N[i]? = some x := by rfl) (hj : Z.X.N[j]? = some y := by rfl) (hij : i ≠ j := by decide)
    (hx : Z.X.env.scope.names.lookup x = some .local := by rfl) (hy : Z.X.env.scope.names.lookup y = some .local := by rfl)
    (hw : swappedStores [.Tuple [.Name x px, .Name y py] kt pt] (.Tuple [a, b] k2 pt2) Z.X.env = pure (some [x, y]) := by rfl)
    (hs : swapsWithSole [.Tuple [.Name x px, .Name y py] kt pt] (.Tuple [a, b] k2 pt2) pos.line Z.X.env = pure false := by rfl) (hh : Z.hot = false := by rfl) :
    DSt Z (.Assign [.Tuple [.Name x px, .Name y py] kt pt] (.Tuple [a, b] k2 pt2) pos) (sPar2 i j t) := by
  obtain ⟨te, pa, sa⟩ := h
  refine ⟨_, ps_par (Z.calm hh) hN hi hj hij hx hy pa hw hs, fun Ho hw G ρ σ H E x q => ?_⟩
  refine sa Ho hw G ρ σ H _ x (LS.thenS q fun ss ρ1 vs G1 H1 l x1 g1 q1 => ?_)
  match ss, q1 with
  | [s1, s2], q1 =>
    obtain ⟨v1, v2, rfl⟩ := two_some l
    exact ⟨v1, v2, rfl, q1 _ G1 H1 (x1.front2 i j) g1⟩
def sPar3 (i j k : Nat) (t : M (List Sl)) : MS := fun ρ => (t ρ).andS fun ss ρ => match ss with
  | [s1, s2, s3] => .nx (((ρ.set i s1).set j s2).set k s3)
  | _ => .no
theorem st_par3 {t : M (List Sl)} (i j k : Nat) {x y z : Str} {c : Expr} {px py pz pt : Pos} {kt k2 pt2} (h : DRs Z [a, b, c] t) (hN : Z.X.N.Nodup) (hi : Z.X.N[i]? = some x := by rfl) (hj : Z.X.N[j]? = some y := by rfl) (hk : Z.X.N[k]? = some z := by rfl)
    (hij : i ≠ j := by decide) (hik : i ≠ k := by decide) (hjk : j ≠ k := by decide)
    (hx : Z.X.env.scope.names.lookup x = some .local := by rfl) (hy : Z.X.env.scope.names.lookup y = some .local := by rfl) (hz : Z.X.env.scope.names.lookup z = some .local := by rfl)
    (hw : swappedStores [.Tuple [.Name x px, .Name y py, .Name z pz] kt pt] (.Tuple [a, b, c] k2 pt2) Z.X.env = pure (some [x, y, z]) := by rfl)
    (hs : swapsWithSole [.Tuple [.Name x px, .Name y py, .Name z pz] kt pt] (.Tuple [a, b, c] k2 pt2) pos.line Z.X.env = pure false := by rfl) (hh : Z.hot = false := by rfl) :
    DSt Z (.Assign [.Tuple [.Name x px, .Name y py, .Name z pz] kt pt] (.Tuple [a, b, c] k2 pt2) pos) (sPar3 i j k t) := by
  obtain ⟨te, pa, sa⟩ := h
  refine ⟨_, ps_par3 (Z.calm hh) hN hi hj hk hij hik hjk hx hy hz pa hw hs, fun Ho hw G ρ σ H E x q => ?_⟩
  refine sa Ho hw G ρ σ H _ x (LS.thenS q fun ss ρ1 vs G1 H1 l x1 g1 q1 => ?_)
  match ss, q1 with
  | [s1, s2, s3], q1 =>
    obtain ⟨v1, v2, v3, rfl⟩ := three_some l
    exact ⟨v1, v2, v3, rfl, q1 _ G1 H1 (x1.front3 i j k) g1⟩
/-- the names' slots -/
def setAll : List Nat → List Sl → List Sl → List Sl
  | i :: is, s :: ss, ρ => setAll is ss (ρ.set i s)
  | _, _, ρ => ρ
/-- targets that are names, in order -/
inductive GNs (Z : DC) : List Expr → List Nat → Prop
  | nil : GNs Z [] []
  | cons {i : Nat} {x : Str} {pos : Pos} {es : List Expr} {is : List Nat} : PG Z.X (.Name x pos) (gName i) → GNs Z es is → GNs Z (.Name x pos :: es) (i :: is)
def gNames : List Nat → TGs
  | [] => gNil
  | i :: is => gCons (gName i) (gNames is)
/-- a, b, .. = a tuple's items -/
def DG (Z : DC) (tg : Expr) (g : D → List Sl → Option (List Sl)) : Prop := ∃ tgt, PG Z.X tg tgt ∧ ∀ Ho G ρ σ H v d Q, Z.R Ho G ρ σ H → Z.rep G d v → (∃ ρ', g d ρ = some ρ' ∧ ∀ σ', Z.R Ho G ρ' σ' H → Q σ' H) → tgt v σ H Q
def DGs (Z : DC) (tgs : List Expr) (g : List D → List Sl → Option (List Sl)) : Prop := ∃ tgt, PGs Z.X tgs tgt ∧ ∀ Ho G ρ σ H vs ds Q, Z.R Ho G ρ σ H → RepL Z.X.K Z.X.mg G ds vs → (∃ ρ', g ds ρ = some ρ' ∧ ∀ σ', Z.R Ho G ρ' σ' H → Q σ' H) → tgt vs σ H Q
def gN (i : Nat) : D → List Sl → Option (List Sl) := fun d ρ => some (ρ.set i (.sh d))
theorem dg_name (i : Nat) {x : Str} (hN : Z.X.N.Nodup) (hi : Z.X.N[i]? = some x := by rfl) (hx : Loc Z.X.env.scope x := by first | exact Or.inl rfl | exact Or.inr rfl) (hf : Z.X.fn x = true ∨ Z.X.env.scope.names.lookup x = some .local := by first | exact .inl rfl | exact .inr rfl) :
    DG Z (.Name x pos) (gN i) := by
  refine ⟨_, pg_name hN hi hx hf, fun Ho G ρ σ H v d Q x r h => ?_⟩
  obtain ⟨ρ', e, q⟩ := h
  cases e
  exact q _ ((x.push r).assign i)
def gsNil : List D → List Sl → Option (List Sl) := fun ds ρ => match ds with
  | [] => some ρ
  | _ => none
def gsCons (g : D → List Sl → Option (List Sl)) (gs : List D → List Sl → Option (List Sl)) : List D → List Sl → Option (List Sl) := fun ds ρ => match ds with
  | d :: ds => (g d ρ).bind (gs ds)
  | _ => none
theorem dgs_nil : DGs Z [] gsNil := by
  refine ⟨_, pgs_nil, fun Ho G ρ σ H vs ds Q x r h => ?_⟩
  obtain ⟨ρ', e, q⟩ := h
  cases ds with
  | nil =>
    cases e
    unfold RepL at r
    exact ⟨r, q σ x⟩
  | cons d ds => cases e
theorem dgs_cons {g : D → List Sl → Option (List Sl)} {gs : List D → List Sl → Option (List Sl)} (h1 : DG Z e g) (h2 : DGs Z es gs)
    (hst : (assignEach (e :: es) Z.X.env).map (·.2) = assign e Z.X.env :: (assignEach es Z.X.env).map (·.2) := by rfl) : DGs Z (e :: es) (gsCons g gs) := by
  obtain ⟨t1, p1, s1⟩ := h1
  obtain ⟨t2, p2, s2⟩ := h2
  refine ⟨_, pgs_cons p1 p2 hst, fun Ho G ρ σ H vs ds Q x r h => ?_⟩
  obtain ⟨ρ', e, q⟩ := h
  cases ds with
  | nil => cases e
  | cons d ds =>
    unfold RepL at r
    obtain ⟨v, vs', rfl, h2, h3⟩ := r
    simp only [gsCons, Option.bind_eq_some_iff] at e
    obtain ⟨ρ1, e1, e2⟩ := e
    refine ⟨v, vs', rfl, s1 Ho G ρ σ H v d _ x h2 ⟨ρ1, e1, fun σ1 x1 => ?_⟩⟩
    exact s2 Ho G ρ1 σ1 H vs' ds Q x1 h3 ⟨ρ', e2, q⟩
def gTp (n : Nat) (gs : List D → List Sl → Option (List Sl)) : D → List Sl → Option (List Sl) := fun d ρ => match d with
  | .tup ds => if ds.length = n then gs ds ρ else none
  | _ => none
theorem dg_tup {gs : List D → List Sl → Option (List Sl)} {k : Nat} (n : Nat) (h : DGs Z es gs) (hn : (assignEach es Z.X.env).length = n := by rfl) (hst : (assignEach es Z.X.env).findIdx? (·.1) = none := by rfl) (hh : Z.hot = false := by rfl) : DG Z (.Tuple es k pos) (gTp n gs) := by
  obtain ⟨t1, p1, s1⟩ := h
  refine ⟨_, pg_tup (Z.calm hh) p1 hn hst, fun Ho G ρ σ H v d Q x r h => ?_⟩
  obtain ⟨ρ', e, q⟩ := h
  cases d <;> try (cases e; done)
  rename_i ds
  simp only [gTp] at e
  by_cases hl : ds.length = n
  · rw [if_pos hl] at e
    unfold DC.rep Rep at r
    obtain ⟨a, vs, rfl, h1, h2⟩ := r
    exact ⟨a, vs, rfl, Same.sqt x.gh h1, by rw [h2.length]; exact hl, s1 Ho G ρ σ H vs ds _ x h2 ⟨ρ', e, q⟩⟩
  · rw [if_neg hl] at e; cases e
/-- target = data -/
def sAsg (t : M D) (g : D → List Sl → Option (List Sl)) : MS := fun ρ => (t ρ).andS fun d ρ => match g d ρ with
  | some ρ' => .nx ρ'
  | none => .no
theorem st_asg {tg : Expr} {g : D → List Sl → Option (List Sl)} (h : DE Z m e t) (hg : DG Z tg g) (hb : m.b = false := by rfl) (hs : swapsWithSole [tg] e pos.line Z.X.env = pure false := by rfl) (hw : swappedStores [tg] e Z.X.env = pure none := by rfl)
    (h1 : (assignEach [tg] Z.X.env).map (·.2) = [assign tg Z.X.env] := by rfl) : DSt Z (.Assign [tg] e pos) (sAsg t g) := by
  obtain ⟨te, pa, sa⟩ := h
  obtain ⟨tgt, pg, sg⟩ := hg
  refine ⟨_, ps_asg pa pg hs hw h1, fun Ho hw G ρ σ H E x q => ?_⟩
  refine sa Ho hw G ρ σ H _ x (DE.thenS q fun d ρ1 v G1 H1 x1 g1 s1 b1 q1 => ?_)
  rw [hb] at b1
  cases eg : g d ρ1 with
  | none => rw [eg] at q1; exact q1.elim
  | some ρ' =>
    rw [eg] at q1
    exact sg Ho G1 ρ1 σ H1 v d _ x1 b1.rep ⟨ρ', eg, fun σ' x' => q1 σ' G1 H1 x' g1⟩
/-- names = values, by a tuple that is made (four or more; names that are captured) -/
def sParN (is : List Nat) (t : M (List Sl)) : MS := fun ρ => (t ρ).andS fun ss ρ => if ss.length = is.length ∧ ss.length ≤ sizeLine then .nx (setAll is ss ρ) else .no
def DGn (Z : DC) (tgs : List Expr) (is : List Nat) : Prop := PGs Z.X tgs (gNames is)
theorem dgn_nil : DGn Z [] [] := pgs_nil
theorem dgn_cons (i : Nat) {x : Str} {is : List Nat} (h2 : DGn Z es is) (hN : Z.X.N.Nodup) (hi : Z.X.N[i]? = some x := by rfl) (hx : Loc Z.X.env.scope x := by first | exact Or.inl rfl | exact Or.inr rfl) (hf : Z.X.fn x = true ∨ Z.X.env.scope.names.lookup x = some .local := by first | exact .inl rfl | exact .inr rfl)
    (hst : (assignEach (.Name x pos :: es) Z.X.env).map (·.2) = assign (.Name x pos) Z.X.env :: (assignEach es Z.X.env).map (·.2) := by rfl) : DGn Z (.Name x pos :: es) (i :: is) := pgs_cons (pg_name hN hi hx hf) h2 hst
theorem names_run : ∀ {is : List Nat} {ss : List Sl} {vs : List V} {ρ : List Sl} {σ : L2.St} {G H : Hp} {Q : L2.St → Hp → Prop}, vs.length = ss.length → ss.length = is.length → Z.R Ho G (ss ++ ρ) (vs.map some ++ σ) H →
    (∀ σ', Z.R Ho G (setAll is ss ρ) σ' H → Q σ' H) → gNames is vs σ H Q
  | [], [], [], ρ, σ, G, H, Q, _, _, x, q => ⟨rfl, q σ x⟩
  | i :: is, s :: ss, v :: vs, ρ, σ, G, H, Q, l, l2, x, q => by
    refine ⟨v, vs, rfl, ?_⟩
    have y : Z.R Ho G (ss ++ ρ.set i s) (vs.map some ++ σ.set i (some v)) H := by
      have z : Z.R Ho G ((ss ++ ρ).set (ss.length + i) s) ((vs.map some ++ σ).set (ss.length + i) (some v)) H := x.assign (ss.length + i)
      rw [List.set_append_right _ _ (by omega)] at z
      have lv : (vs.map some).length = ss.length := by simpa using l
      rw [List.set_append_right _ _ (by rw [lv]; omega), lv] at z
      simpa using z
    exact names_run (by simpa using l) (by simpa using l2) y q
  | [], [], _ :: _, _, _, _, _, _, l, _, _, _ => by simp at l
  | [], _ :: _, _, _, _, _, _, _, _, l, _, _ => by simp at l
  | _ :: _, [], _, _, _, _, _, _, _, l, _, _ => by simp at l
  | _ :: _, _ :: _, [], _, _, _, _, _, l, _, _, _ => by simp at l
theorem st_parN {tgs : List Expr} {kt k2 : Nat} {pt pt2 : Pos} {t : M (List Sl)} (is : List Nat) (h : DRs Z es t) (hg : DGn Z tgs is) (hs : swapsWithSole [.Tuple tgs kt pt] (.Tuple es k2 pt2) pos.line Z.X.env = pure false := by rfl)
    (hw : swappedStores [.Tuple tgs kt pt] (.Tuple es k2 pt2) Z.X.env = pure none := by rfl) (h1 : (assignEach [.Tuple tgs kt pt] Z.X.env).map (·.2) = [assign (.Tuple tgs kt pt) Z.X.env] := by rfl)
    (hn : (assignEach tgs Z.X.env).length = is.length := by rfl) (hst : (assignEach tgs Z.X.env).findIdx? (·.1) = none := by rfl) (hh : Z.hot = false := by rfl) :
    DSt Z (.Assign [.Tuple tgs kt pt] (.Tuple es k2 pt2) pos) (sParN is t) := by
  obtain ⟨te, pa, sa⟩ := h
  refine ⟨_, ps_asg (pe_tup pa) (pg_tup (Z.calm hh) hg hn hst) hs hw h1, fun Ho hw G ρ σ H E x q => ?_⟩
  refine sa Ho hw G ρ σ H _ x (LS.thenS q fun ss ρ1 vs G1 H1 l x1 g1 q1 => ?_)
  by_cases hl : ss.length = is.length ∧ ss.length ≤ sizeLine
  · simp only [if_pos hl] at q1
    refine ⟨by rw [l]; exact hl.2, fun p hp => ⟨p, vs, rfl, SqT.of upd_same, by rw [l]; exact hl.1, ?_⟩⟩
    exact names_run l hl.1 (x1.garb (o := .tup vs) hp) fun σ' x' => q1 σ' G1 _ x' g1
  · simp only [if_neg hl] at q1; exact q1.elim

/-! ### a list of one's own, changed -/
/-- x.append(e) -/
def sApp (i : Nat) (t : M D) : MS := fun ρ => (t ρ).andS fun d ρ => match ρ[i]? with
  | some (.ow t (.lst ds)) => if ds.length < sizeLine then .nx (ρ.set i (.ow t (.lst (ds ++ [d])))) else .no
  | _ => .no
def isL : Option Sl → Bool
  | some (.ow _ (.lst _)) => true
  | _ => false
def sAppG (i : Nat) (t : M D) : MS := fun ρ => if isL ρ[i]? then sApp i t ρ else .no
theorem isL_some {o : Option Sl} (h : isL o = true) : ∃ t ds, o = some (.ow t (.lst ds)) := by
  match o, h with
  | some (.ow t (.lst ds)), _ => exact ⟨t, ds, rfl⟩
theorem DC.R.ownL {G H : Hp} {ρ : List Sl} {σ : L2.St} (x : Z.R Ho G ρ σ H) {i : Nat} {t : Option Nat} {ds : List D} (e : ρ[i]? = some (.ow t (.lst ds))) : ∃ a vs, σ[i]? = some (some (.ref a)) ∧ H a = some (.lst vs) ∧ RepL Z.X.K Z.X.mg G ds vs ∧
    ∀ vs' ds', RepL Z.X.K Z.X.mg G ds' vs' → Z.R Ho G (ρ.set i (.ow t (.lst ds'))) σ (upd H a (.lst vs')) := by
  obtain ⟨a, o, h1, h2, h3, h4⟩ := x.mut e
  cases h3 with
  | lst h3 => exact ⟨a, _, h1, h2, h3, fun vs' ds' r => h4 _ _ (.lst r)⟩
theorem st_app {x : Str} {px apos : Pos} (i : Nat) (h : DE Z m e t) (hb : m.b = false := by rfl) (hN : Z.X.N[i]? = some x := by rfl) (hv : Vis Z.X.env.scope x := by first | exact Or.inl rfl | exact Or.inr (Or.inl rfl) | exact Or.inr (Or.inr rfl))
    (hd : (x == ("__debug__" : Str)) = false := by decide) (hcd : (x == ("__classdict__" : Str)) = false := by decide)
    (hbase : attributeBase (.Name x px) "append" Z.X.env (eval (.Name x px) Z.X.env) = eval (.Name x px) Z.X.env := by rfl)
    (hfew : ((backTo pos (starEach (e :: []) Z.X.env)).all (fun x => !x.1) && (backToKw pos (keywordEach [] Z.X.env)).all (fun x => x.1.isSome)
      && decide ((e :: ([] : List Expr)).length + ([] : List Keyword).length + (if ([] : List Keyword).isEmpty then 0 else 1) < 30)) = true := by rfl)
    (hline : (apos.endLine == pos.line) = true := by rfl) (hs : starEach (e :: []) Z.X.env = (false, eval e Z.X.env) :: starEach [] Z.X.env := by rfl) (hplain : (backTo pos (starEach [] Z.X.env)).any (·.1) = false := by rfl)
    (hsw : swapsWith (.Call (.Attribute (.Name x px) "append" apos) [e] [] pos) none pos'.line Z.X.env = pure false := by rfl) :
    DSt Z (.Expr (.Call (.Attribute (.Name x px) "append" apos) [e] [] pos) pos') (sAppG i t) := by
  obtain ⟨te, pa, sa⟩ := h
  refine ⟨_, ps_expr (pe_bm PySem.F.plainAttrs_list PySem.F.slot_list_append PySem.F.type_list_append mt_append (pe_var hN hv hd hcd) (pa_cons pa pa_nil hs) hbase hfew hline hs hplain) hsw, fun Ho hw G ρ σ H E x q => ?_⟩
  unfold sAppG at q
  by_cases hi : isL ρ[i]? = true
  · rw [if_pos hi] at q
    obtain ⟨t0, ds0, e0⟩ := isL_some hi
    obtain ⟨a, vs0, h1, h2, _, _⟩ := x.ownL e0
    refine ⟨.ref a, h1, .inl ⟨rfl, vs0, SqL.of h2⟩, ?_⟩
    refine sa Ho hw G ρ σ H _ x (DE.thenS q fun d ρ1 v G1 H1 x1 g1 s1 b1 q1 => ?_)
    rw [hb] at b1
    cases e1 : ρ1[i]? with
    | none => simp only [e1] at q1; exact q1.elim
    | some s =>
      cases s <;> try (simp only [e1] at q1; exact q1.elim)
      rename_i t1 dd
      cases dd <;> try (simp only [e1] at q1; exact q1.elim)
      rename_i ds
      simp only [e1] at q1
      by_cases hz : ds.length < sizeLine
      · rw [if_pos hz] at q1
        obtain ⟨a', vs, h1', h2', h3', h4'⟩ := x1.ownL e1
        rw [h1] at h1'
        cases h1'
        exact ⟨a, vs, v, rfl, rfl, h2', by rw [h3'.length]; exact hz, q1 σ G1 _ (h4' _ _ (h3'.append (RepL.one b1.rep))) g1⟩
      · rw [if_neg hz] at q1; exact q1.elim
  · rw [if_neg hi] at q; exact q.elim

/-! ### loops -/
def drops (kl : List Nat) (ρ : List Sl) : List Sl := kl.foldl (fun ρ i => ρ.set i .no) ρ
theorem DC.R.drops {G H : Hp} {σ : L2.St} (kl : List Nat) : ∀ {ρ : List Sl}, Z.R Ho G ρ σ H → Z.R Ho G (DS.drops kl ρ) σ H := by
  induction kl with
  | nil => exact fun x => x
  | cons i kl ih => exact fun {ρ} x => ih (x.forget i)
/-- what a loop walks: the items' data -/
structure ItOk (Z : DC) (Ho : Hp) (J : It) (ds : List D) (G1 : Hp) : Prop where
  go : ∀ i H, i < ds.length → Same G1 H → J.go i H
  stop : ∀ H, Same G1 H → J.stop ds.length H
  yld : ∀ {Hb : Hp} (i : Nat) (d : D) (G : Hp) (ρ : List Sl) (σ : L2.St) (H : Hp) (x : V) (H' : Hp), ds[i]? = some d → Z.R Hb G ρ σ H → Same G1 G → J.yld i H x H' → ∃ G', Z.R Hb G' ρ σ H' ∧ Gr Hb G G' ∧ Z.rep G' d x
def LI (Z : DC) (Ho : Hp) (G : Hp) (σ : L2.St) (r : Res (List D)) (Q : It → Hp → Prop) : Prop := match r with
  | .ok ds ρ => ∀ J G' H', Z.R Ho G' ρ σ H' → Gr Ho G G' → ItOk Z Ho J ds G' → Q J H'
  | .ex x ρ => Z.Ex x ρ
  | .no => False
def DI (Z : DC) (tg iter : Expr) (t : M (List D)) : Prop := ∃ wi, PI Z.X tg iter wi ∧ ∀ Ho, Same Z.Ho Ho → ∀ G ρ σ H Q, Z.R Ho G ρ σ H → LI Z Ho G σ (t ρ) Q → wi σ H Q
theorem LI.thenS {r : Res (List D)} {u : List D → MS} {G : Hp} {σ : L2.St} {Q : It → Hp → Prop} {E : Ends} (h : LX Z Ho G (r.andS u) E)
    (hq : ∀ ds ρ J G' H', Z.R Ho G' ρ σ H' → Gr Ho G G' → ItOk Z Ho J ds G' → LX Z Ho G (u ds ρ) E → Q J H') : LI Z Ho G σ r Q := by
  cases r with
  | ok d ρ => exact fun J G' H' x g i => hq d ρ J G' H' x g i h
  | ex x ρ => exact h
  | no => exact h
def sEach (g : D → List Sl → Option (List Sl)) (b : MS) (kl : List Nat) : List D → MS
  | [], ρ => .nx (drops kl ρ)
  | d :: ds, ρ => match g d ρ with
    | none => .no
    | some ρ1 => match b ρ1 with
      | .nx ρ2 => sEach g b kl ds (drops kl ρ2)
      | .ct ρ2 => sEach g b kl ds (drops kl ρ2)
      | .bk ρ2 => .nx (drops kl ρ2)
      | r => r
def sFor (t : M (List D)) (g : D → List Sl → Option (List Sl)) (b : MS) (kl : List Nat) : MS := fun ρ => (t ρ).andS fun ds => sEach g b kl ds
theorem st_for {tg iter : Expr} {body : List Stmt} {t : M (List D)} {g : D → List Sl → Option (List Sl)} (kl : List Nat) (hp : PassesOwn (model Z.X.prog Z.X.w) Z.X.A Z.X.env Z.X.xe) (hi : DI Z tg iter t) (hg : DG Z tg g) (hb : DSs Z body u) (hs : ∀ x, foldedSetIterable iter Z.X.env x = pure x := by intro _; rfl) (hh : Z.hot = false := by rfl) :
    DSt Z (.For tg iter body [] pos) (sFor t g u kl) := by
  obtain ⟨wi, pi, si⟩ := hi
  obtain ⟨tgt, pg, sg⟩ := hg
  obtain ⟨tb, pb, sb⟩ := hb
  refine ⟨_, ps_for hp (Z.calm hh) pi pg pb hs, fun Ho hw G ρ σ H E x q => ?_⟩
  refine si Ho hw G ρ σ H _ x (LI.thenS q fun ds ρ1 J G1 H1 x1 g1 it q1 => ?_)
  refine ⟨fun i m σ H => m = ds.length - i ∧ i ≤ ds.length ∧ ∃ G' ρ', Z.R Ho G' ρ' σ H ∧ Gr Ho G1 G' ∧ LX Z Ho G (sEach g u kl (ds.drop i) ρ') E, ⟨ds.length, by simp, Nat.zero_le _, G1, ρ1, x1, Gr.refl, q1⟩, ?_⟩
  rintro i m σ2 H2 ⟨rfl, hi, G2, ρ2, x2, g2, q2⟩
  by_cases hlt : i < ds.length
  · refine .inr ⟨it.go i H2 hlt (g2.1.trans x2.gh), fun σ' H' => ∃ G' ρ', Z.R Ho G' ρ' σ' H' ∧ Gr Ho G1 G' ∧ LX Z Ho G (sEach g u kl (ds.drop (i + 1)) ρ') E, fun σ' H' h => ⟨ds.length - (i + 1), by omega, rfl, hlt, h⟩, fun v H' y => ?_⟩
    have hd : ds[i]? = some ds[i] := by simp [hlt]
    rw [List.drop_eq_getElem_cons hlt] at q2
    obtain ⟨G3, x3, g3, r3⟩ := it.yld i _ G2 ρ2 σ2 H2 v H' hd x2 g2.1 y
    cases eg : g ds[i] ρ2 with
    | none => simp only [sEach, eg] at q2; exact q2.elim
    | some ρ4 =>
      simp only [sEach, eg] at q2
      refine sg Ho G3 ρ2 σ2 H' v _ _ x3 r3 ⟨ρ4, eg, fun σ4 x4 => ?_⟩
      refine sb Ho hw G3 ρ4 σ4 H' _ x4 ?_
      cases eb : u ρ4 with
      | nx ρ5 =>
        rw [eb] at q2
        exact fun σ5 G5 H5 x5 g5 => ⟨G5, _, x5.drops kl, (g2.trans g3).trans g5, q2⟩
      | ct ρ5 =>
        rw [eb] at q2
        exact fun σ5 G5 H5 x5 g5 => ⟨G5, _, x5.drops kl, (g2.trans g3).trans g5, q2⟩
      | bk ρ5 =>
        rw [eb] at q2
        exact fun σ5 G5 H5 x5 g5 => q2 σ5 G5 H5 (x5.drops kl) (((g1.trans g2).trans g3).trans g5)
      | rt s ρ5 =>
        rw [eb] at q2
        exact fun v5 σ5 G5 H5 x5 g5 => q2 v5 σ5 G5 H5 x5 (((g1.trans g2).trans g3).trans g5)
      | ex y ρ5 => rw [eb] at q2; exact q2
      | no => rw [eb] at q2; exact q2
  · have e : i = ds.length := by omega
    subst e
    refine .inl ⟨it.stop H2 (g2.1.trans x2.gh), ?_⟩
    rw [List.drop_length] at q2
    exact q2 σ2 G2 H2 (x2.drops kl) (g1.trans g2)
/-- while: by turns -/
def wN (c : M Bool) (b : MS) (kl : List Nat) : Nat → MS
  | 0, _ => .no
  | n + 1, ρ => match c ρ with
    | .ok true ρ1 => match b ρ1 with
      | .nx ρ2 => wN c b kl n (drops kl ρ2)
      | .ct ρ2 => wN c b kl n (drops kl ρ2)
      | .bk ρ2 => .nx (drops kl ρ2)
      | r => r
    | .ok false ρ1 => .nx (drops kl ρ1)
    | .ex x ρ1 => .ex x ρ1
    | .no => .no
theorem wN_mono {c : M Bool} {b : MS} {kl : List Nat} : ∀ {n k : Nat} {ρ : List Sl}, n ≤ k → wN c b kl n ρ ≠ .no → wN c b kl k ρ = wN c b kl n ρ
  | 0, _, _, _, h => absurd rfl h
  | n + 1, 0, _, l, _ => absurd l (Nat.not_succ_le_zero n)
  | n + 1, k + 1, ρ, l, h => by
    unfold wN at h ⊢
    cases ec : c ρ with
    | ok t ρ1 =>
      rw [ec] at h
      cases t with
      | false => rfl
      | true =>
        simp only at h ⊢
        cases eb : b ρ1 with
        | nx ρ2 => rw [eb] at h; exact wN_mono (Nat.le_of_succ_le_succ l) h
        | ct ρ2 => rw [eb] at h; exact wN_mono (Nat.le_of_succ_le_succ l) h
        | _ => rfl
    | ex x ρ1 => rfl
    | no => rfl
open Classical in
noncomputable def sWhile (c : M Bool) (b : MS) (kl : List Nat) : MS := fun ρ => if h : ∃ n, wN c b kl n ρ ≠ .no then wN c b kl (Classical.choose h) ρ else .no
theorem sWhile_of {c : M Bool} {b : MS} {kl : List Nat} {n : Nat} {ρ : List Sl} (h : wN c b kl n ρ ≠ .no) : sWhile c b kl ρ = wN c b kl n ρ := by
  unfold sWhile
  have hx : ∃ n, wN c b kl n ρ ≠ .no := ⟨n, h⟩
  rw [dif_pos hx]
  rcases Nat.le_total n (Classical.choose hx) with l | l
  · exact wN_mono l h
  · exact (wN_mono l (Classical.choose_spec hx)).symm
theorem st_while {t : M Bool} {body : List Stmt} (kl : List Nat) (hp : PassesOwn (model Z.X.prog Z.X.w) Z.X.A Z.X.env Z.X.xe) (h : DT Z p e t) (hb : DSs Z body u) : DSt Z (.While e body [] pos) (sWhile t u kl) := by
  obtain ⟨te, pc, sc⟩ := h
  obtain ⟨tb, pb, sb⟩ := hb
  refine ⟨_, ps_while hp pc pb, fun Ho hw G ρ σ H E x q => ?_⟩
  unfold sWhile at q
  split at q
  · rename_i hx
    refine ⟨fun m σ H => ∃ G' ρ', Z.R Ho G' ρ' σ H ∧ Gr Ho G G' ∧ LX Z Ho G (wN t u kl m ρ') E, ⟨_, G, ρ, x, Gr.refl, q⟩, ?_⟩
    rintro m σ2 H2 ⟨G2, ρ2, x2, g2, q2⟩
    cases m with
    | zero => exact q2.elim
    | succ m =>
      unfold wN at q2
      refine sc Ho hw G2 ρ2 σ2 H2 _ x2 ?_
      cases ec : t ρ2 with
      | ex y ρ3 => rw [ec] at q2; exact q2
      | no => rw [ec] at q2; exact q2
      | ok c ρ3 =>
        rw [ec] at q2
        intro G3 H3 x3 g3 _
        cases c with
        | false =>
          rw [if_neg Bool.false_ne_true]
          exact q2 σ2 G3 H3 (x3.drops kl) (g2.trans g3)
        | true =>
          rw [if_pos rfl]
          refine ⟨fun σ' H' => ∃ G' ρ', Z.R Ho G' ρ' σ' H' ∧ Gr Ho G G' ∧ LX Z Ho G (wN t u kl m ρ') E, fun σ' H' h => ⟨m, Nat.lt_succ_self m, h⟩, ?_⟩
          refine sb Ho hw G3 ρ3 σ2 H3 _ x3 ?_
          simp only at q2
          cases eb : u ρ3 with
          | nx ρ5 =>
            rw [eb] at q2
            exact fun σ5 G5 H5 x5 g5 => ⟨G5, _, x5.drops kl, (g2.trans g3).trans g5, q2⟩
          | ct ρ5 =>
            rw [eb] at q2
            exact fun σ5 G5 H5 x5 g5 => ⟨G5, _, x5.drops kl, (g2.trans g3).trans g5, q2⟩
          | bk ρ5 =>
            rw [eb] at q2
            exact fun σ5 G5 H5 x5 g5 => q2 σ5 G5 H5 (x5.drops kl) ((g2.trans g3).trans g5)
          | rt s ρ5 =>
            rw [eb] at q2
            exact fun v5 σ5 G5 H5 x5 g5 => q2 v5 σ5 G5 H5 x5 ((g2.trans g3).trans g5)
          | ex y ρ5 => rw [eb] at q2; exact q2
          | no => rw [eb] at q2; exact q2
  · exact q.elim
end
end DS

set_option Elab.async false
set_option linter.all false
set_option maxRecDepth 100000
set_option maxHeartbeats 1000000
namespace DS
open PySem PySem.Spec PyProof.Rows L2

/-! ### enumerate of a text, a tuple -/
theorem meets_enumerate_new1 {v : Value} {o : Obj} {H : Heap → Prop} (B : Begins v o H) :
    Meets (Builtin.«enumerate.__new__» ⟨[.type "enumerate", v], []⟩) (fun _ R s => H s.heap ∧
      R (.ok (.ret (.ref (s.heap.push o).objs.size))) { s with heap := (s.heap.push o).push { cls := .type "enumerate", data := .fields #[.none, .bool false, .ref s.heap.objs.size, rawInt 0, .none, .none] } }) :=
  .of_wp fun prog w A R s h => by
    obtain ⟨hp, g, d, tk, os⟩ := s; obtain ⟨h1, h⟩ := h
    have hsub := sub_enumerate
    have q1 : ∀ {A' : Around} {E : Value → Shared → Prop} {Q : Value → Shared → Prop}, Q (.ref hp.objs.size) ⟨hp.push o, g, d, tk, os⟩ → wpAny (model prog w) A' (pyIter v) Q E ⟨hp, g, d, tk, os⟩ :=
      fun q => B.iter prog w _ _ ⟨hp, g, d, tk, os⟩ _ h1 q
    wp_walk using q1
    refine wpAny_stack_any fun st => wpAny_pure ?_
    split
    · rename_i c _ _ _ _ _
      cases (c == Value.type "enumerate")
      · wp_walk using q1
        exact ⟨_, rfl, h⟩
      · wp_walk using q1
        exact ⟨_, rfl, h⟩
    · wp_walk using q1
      exact ⟨_, rfl, h⟩
theorem enum_begins1 {prog : Program} {w : World} {A : Around} {E : Value → Shared → Prop} {s : Shared} {v : Value} {o : Obj} {H : Heap → Prop} {Q : Value → Shared → Prop} (B : Begins v o H) (h1 : H s.heap)
    (h : ∀ h', IsEnum h' (s.heap.objs.size + 1) s.heap.objs.size 0 .none → h'.get? s.heap.objs.size = some o → h'.objs.size = s.heap.objs.size + 2 →
      (∀ b o, s.heap.get? b = some o → h'.get? b = some o) → Q (.ref (s.heap.objs.size + 1)) { s with heap := h' }) :
    wpAny (model prog w) A (call (.type "enumerate") [v]) Q E s := by
  refine callType_new F.called_enumerate (by decide) (F.typeCall_enumerate_1 _) (F.newCall_enumerate_1 _) (fun obj => F.args_object_init_2 obj _) F.entry_enumerate_new
    (meets_enumerate_new1 B) ⟨h1, ?_⟩
  have hz : (s.heap.push o).objs.size = s.heap.objs.size + 1 := Heap.size_push ..
  show _ ∧ _
  rw [hz]
  have he : IsEnum ((s.heap.push o).push { cls := .type "enumerate", data := .fields #[.none, .bool false, .ref s.heap.objs.size, rawInt 0, .none, .none] }) (s.heap.objs.size + 1) s.heap.objs.size 0 .none := by
    have := Heap.get?_push_size (s.heap.push o) (o := { cls := .type "enumerate", data := .fields #[.none, .bool false, .ref s.heap.objs.size, rawInt 0, .none, .none] }) rfl
    rw [hz] at this; exact this
  refine ⟨⟨_, he, rfl⟩, h _ he (Heap.get?_push_of_some _ (Heap.get?_push_size _ B.free)) (by rw [Heap.size_push, hz]) fun b o x => Heap.get?_push_of_some _ (Heap.get?_push_of_some _ x)⟩

/-- the items xs, each in a new pair, while src holds -/
def Iten (xs : List V) (src : Hp → Prop) : It :=
  ⟨fun i H => i < xs.length ∧ src H, fun i H v H' => ∃ T x, v = .ref T ∧ H T = none ∧ H' = upd H T (.tup [.int (i : Nat), x]) ∧ xs[i]? = some x, fun i H => i = xs.length ∧ src H⟩
theorem turn_enumG {P : Program} {w : World} {K : PySem.W.Frag} {elts : List Expr} {kk : Nat} {tpos : Pos} (xs : List V) (src : Hp → Prop) (e it : Addr) (hne : e ≠ it) (st : Nat → Heap → Prop)
    (live : ∀ i h, st i h → ∃ o, h.get? it = some o ∧ ∀ v, o.data ≠ .cell v) (keep : ∀ i h h', st i h → (∀ o, h.get? it = some o → h'.get? it = some o) → st i h')
    (dr : ∀ (X : Cx), X.prog = P → X.w = w → X.K = K → X.A.handled = none → ∀ (i : Nat) (pins : List (Addr × Obj)) (s : Shared) (σ : L2.St) (H : Hp), Inv X pins σ H s → (∃ old, IsEnum s.heap e it ((i : Nat) : Int) old) → src H → st i s.heap →
      ∃ (fp : List Addr) (P' : Nat → Value → Prop) (St : Nat → Heap → Prop), Draws P w X.A.in1 it fp xs.length P' St ∧ St i s.heap ∧ e ∉ fp ∧ (∀ i u, P' i u → ∃ x, xs[i]? = some x ∧ RelV x u) ∧ ∀ j h, St j h → st j h) :
    Turn P w K (.Tuple elts kk tpos) (Iten xs src) [e, it] e (fun i h => (∃ old, IsEnum h e it ((i : Nat) : Int) old) ∧ st i h) where
  mem := by simp
  obj := fun i h t b hb => by
    obtain ⟨⟨old, he⟩, hs⟩ := t
    have e' : b = e ∨ b = it := by simpa using hb
    rcases e' with z | z
    · rw [z]; exact ⟨_, he, fun v q => nomatch q⟩
    · rw [z]; exact live i h hs
  keep := fun i h h' t k => let ⟨⟨old, he⟩, hi⟩ := t; ⟨⟨old, k e (by simp) _ he⟩, keep i h h' hi fun o q => k it (by simp) o q⟩
  item := by
    intro X hP hw hK hc i pins s σ H E I hf t hg
    obtain ⟨⟨old, he⟩, hs⟩ := t
    obtain ⟨hlt, hsrc⟩ := hg
    obtain ⟨fp, P', St, D, hSt, hef, hP', hst⟩ := dr X hP hw hK (I.ok.hd hc) i pins s σ H I ⟨old, he⟩ hsrc hs
    subst hP hw hK
    have hel : e < s.heap.objs.size := Heap.lt_size he
    have hil : it < s.heap.objs.size := by obtain ⟨_, q, _⟩ := live i _ hs; exact Heap.lt_size q
    refine wpAny_pyNext_enum_itemD D he hSt hlt hne hef fun u h' tk hp ho hit' hT hsz hk => ?_
    obtain ⟨x, hx, ru⟩ := hP' i u hp
    refine ⟨_, rfl, wpAny_letOwnedTupleGo_enum (s := { s with heap := h', toks := tk + 1 }) ho fun h'' he' sb => ?_⟩
    have hT2 : h''.get? s.heap.objs.size = some { cls := .type "tuple", data := .seq #[.int i tk, u] } := (sb.2 _ (Nat.ne_of_gt hel)).trans hT
    have new : ObjOk X.prog X.w (upd H s.heap.objs.size (.tup [.int (i : Nat), x])) h'' s.heap.objs.size (.tup [.int (i : Nat), x]) :=
      ⟨by show 2 ≤ sizeLine; decide, [.int i tk, u], .cons ⟨_, rfl⟩ (.cons ru .nil), ⟨_, hT2, rfl, _, rfl⟩⟩
    have I1 : Inv X pins σ (upd H s.heap.objs.size (.tup [.int (i : Nat), x])) { s with heap := h'', toks := tk + 1 } :=
      I.turnedNew (ch := [e, it]) (fun b ob hb q => (sb.2 b (fun z => hb (by simp [z]))).trans (hk b ob (fun z => hb (by simp [z])) (fun z => hb (by simp [z])) q)) hf (Nat.le_refl _) new
    refine ⟨.ref s.heap.objs.size, _, I1, rfl, ⟨_, x, rfl, I.hok.fresh (Nat.le_refl _), rfl, hx⟩, ⟨⟨u, ?_⟩, keep _ _ _ (hst _ _ hit') fun o q => (sb.2 it (Ne.symm hne)).trans q⟩, fun b hb => ?_⟩
    · have e1 : ((i + 1 : Nat) : Int) = (i : Int) + 1 := by omega
      rw [e1]; exact he'
    · have hb' : b < s.heap.objs.size := by
        have e' : b = e ∨ b = it := by simpa using hb
        rcases e' with z | z
        · rw [z]; exact hel
        · rw [z]; exact hil
      rw [upd_ne (Nat.ne_of_lt hb')]
      exact (hf b hb).1
  done := by
    intro X hP hw hK hc i pins s σ H E I hf t hg
    obtain ⟨⟨old, he⟩, hs⟩ := t
    obtain ⟨hn, hsrc⟩ := hg
    obtain ⟨fp, P', St, D, hSt, hef, hP', hst⟩ := dr X hP hw hK (I.ok.hd hc) i pins s σ H I ⟨old, he⟩ hsrc hs
    subst hP hw hK
    subst hn
    obtain ⟨f0, f1, f2, f3, f4, f5⟩ := hf it (by simp)
    exact wpAny_pyNext_enum_endD D he hSt fun h' eb => ⟨rfl, I.turned (t' := s.toks) (fun b o hb q => eb b o hb q) f0 f1 f3 f4 f5⟩
  self := fun A i s Q E t h => let ⟨⟨_, he⟩, _⟩ := t; wpAny_pyIter_enum he h
theorem valsGetV : ∀ {xs : List V} {us : List Value} {i : Nat} {u : Value}, Vals xs us → us[i]? = some u → ∃ x, xs[i]? = some x ∧ RelV x u
  | _, _, _, _, .nil, e => by simp at e
  | _, _, 0, _, .cons r _, e => by simp at e; subst e; exact ⟨_, rfl, r⟩
  | _, _, i + 1, x, .cons _ t, e => by
    obtain ⟨u, h1, h2⟩ := valsGetV (i := i) t (by simpa using e)
    exact ⟨u, by simpa using h1, h2⟩
/-- a text's signs, each as a text -/
def signs (x : Str) : List Str := x.cps.toList.map fun c => ⟨#[c]⟩
theorem signs_get {x : Str} {i : Nat} : (signs x)[i]? = x.cps[i]?.map fun c => (⟨#[c]⟩ : Str) := by
  unfold signs
  rw [List.getElem?_map, Array.getElem?_toList]
theorem signs_length {x : Str} : (signs x).length = x.cps.size := by unfold signs; simp
/-- what enumerate takes: a list, a tuple, a text -/
def EnSrc (K : PySem.W.Frag) (v : V) (H : Hp) (xs : List V) (src : Hp → Prop) : Prop :=
  (∃ a, v = .ref a ∧ src = (fun H => SqL K H a xs) ∧ SqL K H a xs) ∨ (∃ a, v = .ref a ∧ src = (fun H => SqT K H a xs) ∧ SqT K H a xs) ∨ ∃ z : Str, v = .str z ∧ src = (fun _ => True) ∧ xs = (signs z).map V.str
def iEnumG (K : PySem.W.Frag) (te : TE) : TI := fun σ H R => te σ H fun v H1 => ∃ xs src, EnSrc K v H1 xs src ∧ R (Iten xs src) H1
theorem pi_enumG {X : Cx} {e : Expr} {te : TE} {p pos tpos : Pos} {elts : List Expr} {kk : Nat} (hg : Gl X "enumerate") (hm : X.mg "enumerate" = none) (ha : PE X e te) (hs : starEach [e] X.env = (false, eval e X.env) :: starEach [] X.env := by rfl) :
    PI X (.Tuple elts kk tpos) (.Call (.Name "enumerate" p) [e] [] pos) (iEnumG X.K te) := by
  refine ⟨fun pins s σ H R I h => ?_⟩
  have ha2 : PA X [e] (tCons te tNil) := pa_cons ha pa_nil hs
  refine Call_ (ld_blt I hg hm boot_enumerate (PyProof.Rows.callWith_type1 (thn (ha2.run pos pins s σ H (fun vs H1 => match vs with
    | [v] => ∃ xs src, EnSrc X.K v H1 xs src ∧ R (Iten xs src) H1
    | _ => False) I h) fun us s1 ⟨vs, H1, I1, r1, q1⟩ => ?_) hs rfl))
  match vs, r1, q1 with
  | [v], r1, q1 =>
    obtain ⟨xs, src, hsrc, q⟩ := q1
    cases r1 with
    | cons r rr =>
      cases rr
      have fpok : ∀ (h' : Heap) (hk : ∀ b o, s1.heap.get? b = some o → h'.get? b = some o), ∀ b ∈ [s1.heap.objs.size + 1, s1.heap.objs.size], FpOk X pins H1 b := fun h' hk b hb => by
        have e' : b = s1.heap.objs.size + 1 ∨ b = s1.heap.objs.size := by simpa using hb
        have hle : s1.heap.objs.size ≤ b := by
          rcases e' with z | z
          · rw [z]; exact Nat.le_add_right _ _
          · rw [z]; exact Nat.le_refl _
        exact I1.fpOk hle (I1.hok.fresh hle)
      rcases hsrc with ⟨a, rfl, rfl, hq⟩ | ⟨a, rfl, rfl, hq⟩ | ⟨z, rfl, rfl, rfl⟩
      · cases r
        obtain ⟨its, rv, p', hz⟩ := I1.list hq
        refine enum_begins1 (begins_list a its.toArray) p'.isList fun h' he hit hsz hk => wpAny_pyIter_enum he ?_
        have I2 : Inv X pins σ H1 { s1 with heap := h' } := I1.kept (t' := s1.toks) hk
        refine ⟨s1.heap.objs.size + 1, [s1.heap.objs.size + 1, s1.heap.objs.size], _, _, H1, rfl, I2, turn_enumG xs _ (s1.heap.objs.size + 1) s1.heap.objs.size (Nat.succ_ne_self _) (fun i h => h.IsListIter s1.heap.objs.size a i)
          (fun i h t => by obtain ⟨o, ho, hc, hd⟩ := t; exact ⟨o, ho, fun v q => by rw [hd] at q; cases q⟩) (fun i h h' t k => t.at fun o q => k o q) (fun X' hP hw hK hh i pins' s' σ' H' I' hen hsrc ht => ?_), ⟨⟨.none, he⟩, ⟨_, hit, rfl, rfl⟩⟩, fpok h' hk, q⟩
        rw [← hK] at hsrc
        obtain ⟨its', rv', p2, hz'⟩ := I'.list hsrc
        have hl := rv'.length
        obtain ⟨o', n', ho', hc', _⟩ := id p2
        have hne : a ≠ s1.heap.objs.size := fun z => by
          obtain ⟨o, ho, hc, _⟩ := ht
          rw [z, ho] at ho'
          cases ho'
          rw [hc] at hc'
          exact absurd hc' (by decide)
        have hne2 : s1.heap.objs.size + 1 ≠ a := fun z => by
          obtain ⟨old, ho⟩ := hen
          rw [← z, ho] at ho'
          cases ho'
          exact absurd (show Value.type "enumerate" = Value.type _ from hc') (by decide)
        have D := Draws.list (prog := X.prog) (w := X.w) (A := X'.A.in1) hh s1.heap.objs.size a hne its'.toArray
        rw [show its'.toArray.size = xs.length from by rw [List.size_toArray, hl]] at D
        refine ⟨_, _, _, D, ⟨ht, p2.isList⟩, ?_, fun j u hu => valsGetV rv' (by simpa using hu), fun j h t => t.1⟩
        intro hm
        have e' : s1.heap.objs.size + 1 = s1.heap.objs.size ∨ s1.heap.objs.size + 1 = a := by simpa using hm
        rcases e' with z | z
        · exact Nat.succ_ne_self _ z
        · exact hne2 z
      · cases r
        obtain ⟨its, rv, p', hz⟩ := I1.tuple hq
        refine enum_begins1 (begins_tuple a its.toArray) p' fun h' he hit hsz hk => wpAny_pyIter_enum he ?_
        have I2 : Inv X pins σ H1 { s1 with heap := h' } := I1.kept (t' := s1.toks) hk
        refine ⟨s1.heap.objs.size + 1, [s1.heap.objs.size + 1, s1.heap.objs.size], _, _, H1, rfl, I2, turn_enumG xs _ (s1.heap.objs.size + 1) s1.heap.objs.size (Nat.succ_ne_self _) (fun i h => h.IsTupleIter s1.heap.objs.size a i)
          (fun i h t => by obtain ⟨o, ho, hc, hd⟩ := t; exact ⟨o, ho, fun v q => by rw [hd] at q; cases q⟩) (fun i h h' t k => t.at fun o q => k o q) (fun X' hP hw hK hh i pins' s' σ' H' I' hen hsrc ht => ?_), ⟨⟨.none, he⟩, ⟨_, hit, rfl, rfl⟩⟩, fpok h' hk, q⟩
        rw [← hK] at hsrc
        obtain ⟨its', rv', p2, hz'⟩ := I'.tuple hsrc
        have hl := rv'.length
        obtain ⟨o', ho', hc', _⟩ := id p2
        have hne : a ≠ s1.heap.objs.size := fun z => by
          obtain ⟨o, ho, hc, _⟩ := ht
          rw [z, ho] at ho'
          cases ho'
          rw [hc] at hc'
          exact absurd hc' (by decide)
        have hne2 : s1.heap.objs.size + 1 ≠ a := fun z => by
          obtain ⟨old, ho⟩ := hen
          rw [← z, ho] at ho'
          cases ho'
          exact absurd (show Value.type "enumerate" = Value.type _ from hc') (by decide)
        have D := Draws.tuple (prog := X.prog) (w := X.w) (A := X'.A.in1) hh s1.heap.objs.size a hne its'.toArray
        rw [show its'.toArray.size = xs.length from by rw [List.size_toArray, hl]] at D
        refine ⟨_, _, _, D, ⟨ht, p2⟩, ?_, fun j u hu => valsGetV rv' (by simpa using hu), fun j h t => t.1⟩
        intro hm
        have e' : s1.heap.objs.size + 1 = s1.heap.objs.size ∨ s1.heap.objs.size + 1 = a := by simpa using hm
        rcases e' with z | z
        · exact Nat.succ_ne_self _ z
        · exact hne2 z
      · obtain ⟨t, rfl⟩ := r
        refine enum_begins1 (begins_text z t) trivial fun h' he hit hsz hk => wpAny_pyIter_enum he ?_
        have I2 : Inv X pins σ H1 { s1 with heap := h' } := I1.kept (t' := s1.toks) hk
        refine ⟨s1.heap.objs.size + 1, [s1.heap.objs.size + 1, s1.heap.objs.size], _, _, H1, rfl, I2, turn_enumG _ _ (s1.heap.objs.size + 1) s1.heap.objs.size (Nat.succ_ne_self _) (fun i h => h.IsStrIter s1.heap.objs.size (strIterType z) z t i)
          (fun i h t => by obtain ⟨o, ho, hc, hd⟩ := t; exact ⟨o, ho, fun v q => by rw [hd] at q; cases q⟩) (fun i h h' t k => by obtain ⟨o, ho, r⟩ := t; exact ⟨o, k o ho, r⟩) (fun X' hP hw hK hh i pins' s' σ' H' I' hen hsrc ht => ?_), ⟨⟨.none, he⟩, ⟨_, hit, rfl, rfl⟩⟩, fpok h' hk, q⟩
        have D := Draws.text (prog := X.prog) (w := X.w) (A := X'.A.in1) hh s1.heap.objs.size z t
        rw [← signs_length, ← List.length_map (f := V.str)] at D
        refine ⟨_, _, _, D, ht, by simp, fun j u hu => ?_, fun j h t => t⟩
        obtain ⟨c, tk, h1, rfl⟩ := hu
        exact ⟨.str ⟨#[c]⟩, by rw [List.getElem?_map, signs_get, h1]; rfl, tk, rfl⟩
end DS

set_option Elab.async false
set_option linter.all false
set_option maxRecDepth 100000
namespace DS
open PySem PySem.Spec PyProof.Rows L2

/-! ### what a loop goes through -/
def D.items : D → Option (List D)
  | .lst ds => some ds
  | .tup ds => some ds
  | .str x => some ((signs x).map D.str)
  | .scr ns => some (ns.map D.int)
  | _ => none
theorem strOk_sign {x : Str} (h : PyData.strOk x = true) {i : Nat} {c : Nat} (e : x.cps[i]? = some c) : PyData.strOk ⟨#[c]⟩ = true := by
  unfold PyData.strOk at *
  have hm : c ∈ x.cps := Array.mem_of_getElem? e
  have := (Array.all_eq_true_iff_forall_mem.mp h) c hm
  simpa using this
theorem rep_signs {K : PySem.W.Frag} {mg : Str → Option Value} {G : Hp} {x : Str} (h : PyData.strOk x = true) : RepL K mg G ((signs x).map D.str) ((signs x).map V.str) := by
  have : ∀ l : List Str, (∀ y ∈ l, PyData.strOk y = true) → RepL K mg G (l.map D.str) (l.map V.str) := by
    intro l
    induction l with
    | nil => intro _; exact RepL.nil
    | cons y l ih => intro h; exact RepL.cons (rep_str (h y List.mem_cons_self)) (ih fun z hz => h z (List.mem_cons_of_mem _ hz))
  refine this _ fun y hy => ?_
  obtain ⟨i, hi⟩ := List.getElem?_of_mem hy
  rw [signs_get] at hi
  cases q : x.cps[i]? with
  | none => rw [q] at hi; cases hi
  | some c => rw [q] at hi; cases hi; exact strOk_sign h q
/-- any of these, by its value -/
def iAny (K : PySem.W.Frag) (te : TE) : TI := fun σ H R => te σ H fun v H1 => (∃ a xs, v = .ref a ∧ SqL K H1 a xs ∧ R (Itl K a) H1) ∨ (∃ a xs, v = .ref a ∧ SqT K H1 a xs ∧ R (Itt K a) H1) ∨ (∃ x, v = .str x ∧ R (Its x) H1)
theorem pi_any {X : Cx} {tg e : Expr} {te : TE} (he : PE X e te) : PI X tg e (iAny X.K te) := by
  refine ⟨fun pins s σ H R I h => ?_⟩
  refine thn (he.run pins s σ H _ I h) fun v s1 ⟨y, H1, I1, r1, q1⟩ => ?_
  rcases q1 with ⟨a, xs, rfl, hq, q⟩ | ⟨a, xs, rfl, hq, q⟩ | ⟨x, rfl, q⟩
  · cases r1
    obtain ⟨its, rv, p, hz⟩ := I1.list hq
    refine wpAny_pyIter_list p.isList ?_
    refine ⟨s1.heap.objs.size, [s1.heap.objs.size], _, _, H1, rfl, I1.kept (t' := s1.toks) fun b o e => Heap.get?_push_of_some _ e, turn_list a _, ⟨_, Heap.get?_push_size _ rfl, rfl, rfl⟩, fun b hb => ?_, q⟩
    have e : b = s1.heap.objs.size := by simpa using hb
    subst e
    exact I1.fpOk (Nat.le_refl _) (I1.hok.fresh (Nat.le_refl _))
  · cases r1
    obtain ⟨its, rv, p, hz⟩ := I1.tuple hq
    refine wpAny_pyIter_tuple (show s1.heap.IsTuple a its.toArray from p) ?_
    refine ⟨s1.heap.objs.size, [s1.heap.objs.size], _, _, H1, rfl, I1.kept (t' := s1.toks) fun b o e => Heap.get?_push_of_some _ e, turn_tuple a _, ⟨_, Heap.get?_push_size _ rfl, rfl, rfl⟩, fun b hb => ?_, q⟩
    have e : b = s1.heap.objs.size := by simpa using hb
    subst e
    exact I1.fpOk (Nat.le_refl _) (I1.hok.fresh (Nat.le_refl _))
  · obtain ⟨t, rfl⟩ := r1
    cases ha : x.cps.all (· < 128)
    · exact wpAny_pyIter_wide ha (pi_one (tk := s1.toks) I1 _ (turn_str _ x t "str_iterator" (.inr rfl)) ⟨_, Heap.get?_push_size _ rfl, rfl, rfl⟩ q)
    · exact wpAny_pyIter_ascii ha (pi_one (tk := s1.toks) I1 _ (turn_str _ x t "str_ascii_iterator" (.inl rfl)) ⟨_, Heap.get?_push_size _ rfl, rfl, rfl⟩ q)
section
variable {Z : DC} {Ho : Hp} {m : Md} {e e2 tg : Expr} {t : M D}
theorem DA.thenI {r : Res (List D)} {u : List D → M (List D)} {G H : Hp} {σ : L2.St} {Q : List V → Hp → Prop} {R : It → Hp → Prop} (h : LI Z Ho G σ (r.bind u) R)
    (hq : ∀ ds ρ vs G' H', Z.R Ho G' ρ σ H' → Gr Ho G G' → RepL Z.X.K Z.X.mg G' ds vs → LI Z Ho G σ (u ds ρ) R → Q vs H') : LA Z Ho G H σ r Q := by
  cases r with
  | ok d ρ => exact fun v G' H' x g b => hq d ρ v G' H' x g b h
  | ex x ρ => exact h
  | no => exact h
theorem DE.thenI {r : Res D} {u : D → M (List D)} {G H : Hp} {σ : L2.St} {Q : VK} {R : It → Hp → Prop} (h : LI Z Ho G σ (r.bind u) R)
    (hq : ∀ d ρ v G' H', Z.R Ho G' ρ σ H' → Gr Ho G G' → Z.BR m.b G' H' d v → LI Z Ho G σ (u d ρ) R → Q v H') : LJ Z Ho m G H σ r Q := by
  cases r with
  | ok d ρ => exact fun v G' H' x g s b => hq d ρ v G' H' x g b h
  | ex x ρ => exact h
  | no => exact h
theorem it_list {a : Addr} {xs : List V} {ds : List D} {G1 : Hp} (hq : SqL Z.X.K G1 a xs) (hr : RepL Z.X.K Z.X.mg G1 ds xs) : ItOk Z Ho (Itl Z.X.K a) ds G1 where
  go := fun i H hi s => walk_list.goes i H (by rw [hr.length]; exact hi) (Same.seq s hq)
  stop := fun H s => by rw [← hr.length]; exact walk_list.stops H (Same.seq s hq)
  yld := fun i d G ρ σ H x H' hd R s y => by
    have hi : i < xs.length := by rw [hr.length]; exact (List.getElem?_eq_some_iff.mp hd).1
    obtain ⟨rfl, e⟩ := walk_list.yields i H x H' hi (Same.seq (s.trans R.gh) hq) y
    obtain ⟨v, h1, h2⟩ := hr.get hd
    rw [e] at h1; cases h1
    exact ⟨G, R, Gr.refl, Rep.mono s _ _ h2⟩
theorem it_tup {a : Addr} {xs : List V} {ds : List D} {G1 : Hp} (hq : SqT Z.X.K G1 a xs) (hr : RepL Z.X.K Z.X.mg G1 ds xs) : ItOk Z Ho (Itt Z.X.K a) ds G1 where
  go := fun i H hi s => walk_tup.goes i H (by rw [hr.length]; exact hi) (Same.sqt s hq)
  stop := fun H s => by rw [← hr.length]; exact walk_tup.stops H (Same.sqt s hq)
  yld := fun i d G ρ σ H x H' hd R s y => by
    have hi : i < xs.length := by rw [hr.length]; exact (List.getElem?_eq_some_iff.mp hd).1
    obtain ⟨rfl, e⟩ := walk_tup.yields i H x H' hi (Same.sqt (s.trans R.gh) hq) y
    obtain ⟨v, h1, h2⟩ := hr.get hd
    rw [e] at h1; cases h1
    exact ⟨G, R, Gr.refl, Rep.mono s _ _ h2⟩
theorem it_str {z : Str} {G1 : Hp} (hz : PyData.strOk z = true) : ItOk Z Ho (Its z) ((signs z).map D.str) G1 where
  go := fun i H hi s => walk_str.goes i H (by simpa [signs_length] using hi) trivial
  stop := fun H s => by rw [List.length_map, signs_length]; exact walk_str.stops H trivial
  yld := fun i d G ρ σ H x H' hd R s y => by
    have hi : i < z.cps.size := by have := (List.getElem?_eq_some_iff.mp hd).1; simpa [signs_length] using this
    obtain ⟨rfl, c, e, rfl⟩ := walk_str.yields i H x H' hi trivial y
    rw [List.getElem?_map, signs_get, e] at hd
    cases hd
    exact ⟨G, R, Gr.refl, rep_str (strOk_sign hz e)⟩
theorem it_range {lo : Int} {n : Nat} {G1 : Hp} : ItOk Z Ho (Itr lo n) ((List.range n).map fun i => D.int (lo + (i : Nat))) G1 where
  go := fun i H hi s => walk_range.goes i H (by simpa using hi) trivial
  stop := fun H s => by rw [List.length_map, List.length_range]; exact walk_range.stops H trivial
  yld := fun i d G ρ σ H x H' hd R s y => by
    have hi : i < n := by have := (List.getElem?_eq_some_iff.mp hd).1; simpa using this
    obtain ⟨rfl, rfl⟩ := walk_range.yields i H x H' hi trivial y
    rw [List.getElem?_map, List.getElem?_range hi] at hd
    cases hd
    exact ⟨G, R, Gr.refl, rep_int⟩
theorem it_rangeC {lo c : Int} {n : Nat} {G1 : Hp} : ItOk Z Ho (Itc lo c n) ((List.range n).map fun i => D.int (lo + (i : Nat) * c)) G1 where
  go := fun i H hi s => walk_rangeC.goes i H (by simpa using hi) trivial
  stop := fun H s => by rw [List.length_map, List.length_range]; exact walk_rangeC.stops H trivial
  yld := fun i d G ρ σ H x H' hd R s y => by
    have hi : i < n := by have := (List.getElem?_eq_some_iff.mp hd).1; simpa using this
    obtain ⟨rfl, rfl⟩ := walk_rangeC.yields i H x H' hi trivial y
    rw [List.getElem?_map, List.getElem?_range hi] at hd
    cases hd
    exact ⟨G, R, Gr.refl, rep_int⟩
/-- new pairs -/
theorem it_pairs {xs ys : Nat → Option V} {dx dy : Nat → Option D} {n : Nat} {J : It} {G1 : Hp} {P : Hp → Prop} (w : Walk J n P (YPair xs ys)) (hP : ∀ H, Same G1 H → P H) (ds : List D)
    (hl : ds.length = n) (hds : ∀ i d, ds[i]? = some d → ∃ p q, d = .tup [p, q] ∧ (∀ v, xs i = some v → Rep Z.X.K Z.X.mg G1 p v) ∧ (∀ v, ys i = some v → Rep Z.X.K Z.X.mg G1 q v)) : ItOk Z Ho J ds G1 where
  go := fun i H hi s => w.goes i H (by omega) (hP H s)
  stop := fun H s => by rw [hl]; exact w.stops H (hP H s)
  yld := fun i d G ρ σ H x H' hd R s y => by
    have hi : i < ds.length := (List.getElem?_eq_some_iff.mp hd).1
    obtain ⟨T, u, v, rfl, hT, rfl, e1, e2⟩ := w.yields i H x H' (by omega) (hP H (s.trans R.gh)) y
    obtain ⟨p, q, rfl, r1, r2⟩ := hds i d hd
    obtain ⟨R2, g2⟩ := R.allocF (o := .tup [u, v]) hT
    refine ⟨_, R2, g2, ?_⟩
    unfold DC.rep Rep
    exact ⟨T, [u, v], rfl, SqT.of upd_same, RepL.cons (Rep.mono (s.trans g2.1) _ _ (r1 u e1)) (RepL.one (Rep.mono (s.trans g2.1) _ _ (r2 v e2)))⟩
def lItems (t : M D) : M (List D) := bnd t fun d => lft d.items
theorem di_any (h : DE Z m e t) (hb : m.b = false := by rfl) : DI Z tg e (lItems t) := by
  obtain ⟨te, pa, sa⟩ := h
  refine ⟨_, pi_any pa, fun Ho hw G ρ σ H R x q => ?_⟩
  refine sa Ho hw G ρ σ H _ x (DE.thenI q fun d ρ1 v G1 H1 x1 g1 b1 q1 => ?_)
  rw [hb] at b1
  replace b1 := b1.rep
  cases d <;> try (exact q1.elim)
  · rename_i z
    unfold Rep at b1
    obtain ⟨rfl, hz⟩ := b1
    exact .inr (.inr ⟨z, rfl, q1 _ G1 H1 x1 g1 (it_str hz)⟩)
  · unfold Rep at b1
    obtain ⟨a, vs, rfl, h1, h2⟩ := b1
    exact .inr (.inl ⟨a, vs, rfl, Same.sqt x1.gh h1, q1 _ G1 H1 x1 g1 (it_tup h1 h2)⟩)
  · unfold Rep at b1
    obtain ⟨a, vs, rfl, h1, h2⟩ := b1
    exact .inl ⟨a, vs, rfl, SqL.of (x1.gh _ _ h1), q1 _ G1 H1 x1 g1 (it_list (SqL.of h1) h2)⟩
  · unfold Rep at b1
    obtain ⟨a, rfl, h1⟩ := b1
    exact .inl ⟨a, _, rfl, Same.seq x1.gh h1, q1 _ G1 H1 x1 g1 (it_list h1 (RepL.ints _))⟩
/-- range -/
def small62 (i : Int) : Bool := decide (-(2 ^ 62) ≤ i) && decide (i < 2 ^ 62)
theorem small62_of {i : Int} (h : small62 i = true) : -(2 ^ 62) ≤ i ∧ i < 2 ^ 62 := by
  unfold small62 at h
  simpa using h
def fRange1 : List D → Option (List D)
  | [.int j] => if small62 j then some ((List.range j.toNat).map fun i => D.int (0 + (i : Nat))) else none
  | _ => none
def fRange2 : List D → Option (List D)
  | [.int i, .int j] => if small62 i && small62 j then some ((List.range (j - i).toNat).map fun k => D.int (i + (k : Nat))) else none
  | _ => none
def fRange3 : List D → Option (List D)
  | [.int i, .int j, .int c] => if small62 i && small62 j && decide (c = -1) then some ((List.range (i - j).toNat).map fun k => D.int (i + (k : Nat) * (-1))) else none
  | _ => none
theorem rep1 {K : PySem.W.Frag} {mg : Str → Option Value} {G : Hp} {a : D} {vs : List V} (h : RepL K mg G [a] vs) : ∃ v, vs = [v] ∧ Rep K mg G a v := by
  unfold RepL at h
  obtain ⟨v, vs', rfl, h2, h3⟩ := h
  unfold RepL at h3
  subst h3
  exact ⟨v, rfl, h2⟩
theorem rep2 {K : PySem.W.Frag} {mg : Str → Option Value} {G : Hp} {a b : D} {vs : List V} (h : RepL K mg G [a, b] vs) : ∃ v w, vs = [v, w] ∧ Rep K mg G a v ∧ Rep K mg G b w := by
  unfold RepL at h
  obtain ⟨v, vs', rfl, h2, h3⟩ := h
  obtain ⟨w, rfl, h4⟩ := rep1 h3
  exact ⟨v, w, rfl, h2, h4⟩
theorem rep3 {K : PySem.W.Frag} {mg : Str → Option Value} {G : Hp} {a b c : D} {vs : List V} (h : RepL K mg G [a, b, c] vs) : ∃ u v w, vs = [u, v, w] ∧ Rep K mg G a u ∧ Rep K mg G b v ∧ Rep K mg G c w := by
  unfold RepL at h
  obtain ⟨v, vs', rfl, h2, h3⟩ := h
  obtain ⟨w, y, rfl, h4, h5⟩ := rep2 h3
  exact ⟨v, w, y, rfl, h2, h4, h5⟩
def lRange (f : List D → Option (List D)) (u : M (List D)) : M (List D) := bnd u fun ds => lft (f ds)
variable {a b c : Expr} {u : M (List D)} {p pos tpos : Pos} {elts : List Expr} {kk : Nat}
theorem di_range1 (hm : Z.X.mg "range" = none) (h : DA Z [a] u) (hg : Gl Z.X "range" := by first | rfl | decide) (hs : starEach [a] Z.X.env = [(false, eval a Z.X.env)] := by rfl) :
    DI Z tg (.Call (.Name "range" p) [a] [] pos) (lRange fRange1 u) := by
  obtain ⟨ta, pa, sa⟩ := h
  refine ⟨_, pi_range1 hg hm pa hs, fun Ho hw G ρ σ H R x q => ?_⟩
  refine sa Ho hw G ρ σ H _ x (DA.thenI q fun ds ρ1 vs G1 H1 x1 g1 b1 q1 => ?_)
  unfold lft fRange1 at q1
  split at q1
  · rename_i l hl
    split at hl <;> try (cases hl; done)
    rename_i j
    split at hl <;> cases hl
    rename_i hj
    obtain ⟨v, rfl, r⟩ := rep1 b1
    unfold Rep at r
    subst r
    exact ⟨j, rfl, (small62_of hj).1, (small62_of hj).2, q1 _ G1 H1 x1 g1 it_range⟩
  · exact q1.elim
theorem di_range2 (hm : Z.X.mg "range" = none) (h : DA Z [a, b] u) (hg : Gl Z.X "range" := by first | rfl | decide) (hs : starEach [a, b] Z.X.env = [(false, eval a Z.X.env), (false, eval b Z.X.env)] := by rfl) (hs2 : starEach [b] Z.X.env = [(false, eval b Z.X.env)] := by rfl) :
    DI Z tg (.Call (.Name "range" p) [a, b] [] pos) (lRange fRange2 u) := by
  obtain ⟨ta, pa, sa⟩ := h
  refine ⟨_, pi_range2 hg hm pa hs hs2, fun Ho hw G ρ σ H R x q => ?_⟩
  refine sa Ho hw G ρ σ H _ x (DA.thenI q fun ds ρ1 vs G1 H1 x1 g1 b1 q1 => ?_)
  unfold lft fRange2 at q1
  split at q1
  · rename_i l hl
    split at hl <;> try (cases hl; done)
    rename_i i j
    split at hl <;> cases hl
    rename_i hj
    rw [Bool.and_eq_true] at hj
    obtain ⟨v, w, rfl, r, r'⟩ := rep2 b1
    unfold Rep at r r'
    subst r r'
    exact ⟨i, j, rfl, ⟨(small62_of hj.1).1, (small62_of hj.1).2, (small62_of hj.2).1, (small62_of hj.2).2⟩, q1 _ G1 H1 x1 g1 it_range⟩
  · exact q1.elim
theorem di_range3 (hm : Z.X.mg "range" = none) (h : DA Z [a, b, c] u) (hg : Gl Z.X "range" := by first | rfl | decide) (hs : starEach [a, b, c] Z.X.env = (false, eval a Z.X.env) :: starEach [b, c] Z.X.env := by rfl) (hpl : (backTo pos (starEach [b, c] Z.X.env)).any (·.1) = false := by rfl) :
    DI Z tg (.Call (.Name "range" p) [a, b, c] [] pos) (lRange fRange3 u) := by
  obtain ⟨ta, pa, sa⟩ := h
  refine ⟨_, pi_range3 hg hm pa hs hpl, fun Ho hw G ρ σ H R x q => ?_⟩
  refine sa Ho hw G ρ σ H _ x (DA.thenI q fun ds ρ1 vs G1 H1 x1 g1 b1 q1 => ?_)
  unfold lft fRange3 at q1
  split at q1
  · rename_i l hl
    split at hl <;> try (cases hl; done)
    rename_i i j c
    split at hl <;> cases hl
    rename_i hj
    rw [Bool.and_eq_true, Bool.and_eq_true] at hj
    obtain ⟨v, w, y, rfl, r, r', r''⟩ := rep3 b1
    unfold Rep at r r' r''
    subst r r' r''
    have hc : c = -1 := of_decide_eq_true hj.2
    subst hc
    exact ⟨i, j, -1, _, rfl, RgC.neg (small62_of hj.1.1).1 (small62_of hj.1.1).2 (small62_of hj.1.2).1 (small62_of hj.1.2).2, q1 _ G1 H1 x1 g1 it_rangeC⟩
  · exact q1.elim
/-- enumerate -/
def pairs0 (k : Nat) : List D → List D
  | [] => []
  | d :: ds => .tup [.int (k : Nat), d] :: pairs0 (k + 1) ds
theorem pairs0_length : ∀ (k : Nat) (ds : List D), (pairs0 k ds).length = ds.length
  | _, [] => rfl
  | k, d :: ds => by simp [pairs0, pairs0_length (k + 1) ds]
theorem pairs0_get : ∀ (k : Nat) (ds : List D) (i : Nat) (d : D), (pairs0 k ds)[i]? = some d → ∃ e, ds[i]? = some e ∧ d = .tup [.int ((k + i : Nat) : Int), e]
  | _, [], i, d, h => by simp [pairs0] at h
  | k, e :: ds, 0, d, h => by
    simp [pairs0] at h
    subst h
    exact ⟨e, rfl, by simp⟩
  | k, e :: ds, i + 1, d, h => by
    obtain ⟨e', h1, h2⟩ := pairs0_get (k + 1) ds i d (by simpa [pairs0] using h)
    exact ⟨e', by simpa using h1, by rw [h2, show k + 1 + i = k + (i + 1) by omega]⟩
def lEnum (t : M D) : M (List D) := bnd t fun d => lft (d.items.map (pairs0 0))
theorem it_enum {xs : List V} {ds : List D} {src : Hp → Prop} {G1 : Hp} (hr : RepL Z.X.K Z.X.mg G1 ds xs) (hs : ∀ H, Same G1 H → src H) : ItOk Z Ho (Iten xs src) (pairs0 0 ds) G1 where
  go := fun i H hi s => ⟨by rw [pairs0_length] at hi; rw [hr.length]; exact hi, hs H s⟩
  stop := fun H s => ⟨by rw [pairs0_length, hr.length], hs H s⟩
  yld := fun i d G ρ σ H x H' hd R s y => by
    obtain ⟨T, u, rfl, hT, rfl, e⟩ := y
    obtain ⟨d', h1, rfl⟩ := pairs0_get 0 ds i d hd
    obtain ⟨v, h2, h3⟩ := hr.get h1
    rw [e] at h2; cases h2
    obtain ⟨R2, g2⟩ := R.allocF (o := .tup [.int (i : Nat), u]) hT
    refine ⟨_, R2, g2, ?_⟩
    unfold DC.rep Rep
    exact ⟨T, _, rfl, SqT.of upd_same, RepL.cons (by rw [Nat.zero_add]; exact rep_int) (RepL.one (Rep.mono (s.trans g2.1) _ _ h3))⟩
theorem di_enum (hm : Z.X.mg "enumerate" = none) (h : DE Z m e t) (hb : m.b = false := by rfl) (hg : Gl Z.X "enumerate" := by first | rfl | decide) (hs : starEach [e] Z.X.env = (false, eval e Z.X.env) :: starEach [] Z.X.env := by rfl) :
    DI Z (.Tuple elts kk tpos) (.Call (.Name "enumerate" p) [e] [] pos) (lEnum t) := by
  obtain ⟨te, pa, sa⟩ := h
  refine ⟨_, pi_enumG hg hm pa hs, fun Ho hw G ρ σ H R x q => ?_⟩
  refine sa Ho hw G ρ σ H _ x (DE.thenI q fun d ρ1 v G1 H1 x1 g1 b1 q1 => ?_)
  rw [hb] at b1
  replace b1 := b1.rep
  cases d <;> try (exact q1.elim)
  · rename_i z
    unfold Rep at b1
    obtain ⟨rfl, hz⟩ := b1
    exact ⟨_, _, .inr (.inr ⟨z, rfl, rfl, rfl⟩), q1 _ G1 H1 x1 g1 (it_enum (rep_signs hz) fun _ _ => trivial)⟩
  · unfold Rep at b1
    obtain ⟨a, vs, rfl, h1, h2⟩ := b1
    exact ⟨vs, _, .inr (.inl ⟨a, rfl, rfl, Same.sqt x1.gh h1⟩), q1 _ G1 H1 x1 g1 (it_enum h2 fun H s => Same.sqt s h1)⟩
  · unfold Rep at b1
    obtain ⟨a, vs, rfl, h1, h2⟩ := b1
    exact ⟨vs, _, .inl ⟨a, rfl, rfl, SqL.of (x1.gh _ _ h1)⟩, q1 _ G1 H1 x1 g1 (it_enum h2 fun H s => SqL.of (s _ _ h1))⟩
  · unfold Rep at b1
    obtain ⟨a, rfl, h1⟩ := b1
    exact ⟨_, _, .inl ⟨a, rfl, rfl, Same.seq x1.gh h1⟩, q1 _ G1 H1 x1 g1 (it_enum (RepL.ints _) fun H s => Same.seq s h1)⟩
end
end DS

set_option Elab.async false
set_option linter.all false
set_option maxRecDepth 100000
namespace DS
open PySem PySem.Spec PyProof.Rows L2

/-! ### a call's frame is cut off the caller's slots, and comes back -/
section
variable {K : PySem.W.Frag} {mg : Str → Option Value} {τ : Tau} {Ho G : Hp} {ρ : List Sl} {σ : L2.St} {H : Hp}
/-- O's part from n on, at 0 -/
def tlO (n : Nat) (O : Addr → Option Nat) : Addr → Option Nat := fun a => match O a with
  | some i => if n ≤ i then some (i - n) else none
  | none => none
def hdO (n : Nat) (O : Addr → Option Nat) : Addr → Option Nat := fun a => match O a with
  | some i => if i < n then some i else none
  | none => none
theorem hdO_some {n : Nat} {O : Addr → Option Nat} {a : Addr} {i : Nat} : hdO n O a = some i ↔ O a = some i ∧ i < n := by
  unfold hdO
  cases O a with
  | none => simp
  | some k =>
    by_cases q : k < n
    · simp [q]; intro h; subst h; exact q
    · simp [q]; intro h; subst h; omega
/-- the front ss is a frame of its own; Ho' has what the rest has -/
theorem RS.split {ss : List Sl} {us : L2.St} (x : RS K mg τ Ho G (ss ++ ρ) (us ++ σ) H) (hl : ss.length = us.length) : ∃ Ho', Same Ho Ho' ∧ RS K mg τ Ho' G ss us H ∧
    ∀ G' tt wt H', Gr Ho' G G' → RS K mg τ Ho' G' tt wt H' → RS K mg τ Ho G' (tt ++ ρ) (wt ++ σ) H' := by
  obtain ⟨O, x⟩ := x
  obtain ⟨n, hn⟩ : ∃ n, n = ss.length := ⟨_, rfl⟩
  -- what stands with the rest
  obtain ⟨T, hT⟩ : ∃ T : Addr → Prop, ∀ a, T a ↔ ∃ i, O a = some (n + i) := ⟨fun a => ∃ i, O a = some (n + i), fun a => Iff.rfl⟩
  classical
  obtain ⟨Ho', eHo⟩ : ∃ Ho' : Hp, Ho' = fun a => if T a then H a else Ho a := ⟨_, rfl⟩
  have h0 : ∀ a, T a → Ho' a = H a := fun a e => by rw [eHo]; simp only [if_pos e]
  have h1 : ∀ a, ¬ T a → Ho' a = Ho a := fun a e => by rw [eHo]; simp only [if_neg e]
  have tO : ∀ a, T a → G a = none ∧ Ho a = none ∧ H a ≠ none := fun a t => by
    obtain ⟨i, e⟩ := (hT a).mp t
    exact x.oh a _ e
  have s1 : Same Ho Ho' := fun a o e => by
    by_cases q : T a
    · rw [(tO a q).2.1] at e; cases e
    · rw [h1 a q]; exact e
  have s2 : Same Ho' H := fun a o e => by
    by_cases q : T a
    · rw [h0 a q] at e; exact e
    · rw [h1 a q] at e; exact x.out _ _ e
  have lρ : ρ.length = σ.length := by
    have := x.len
    rw [List.length_append, List.length_append] at this
    omega
  refine ⟨Ho', s1, ⟨hdO n O, x.gh, fun a i e => ?_, s2, hl, fun i t e => ?_⟩, fun G' tt wt H' g y => ?_⟩
  · obtain ⟨e', l⟩ := hdO_some.mp e
    obtain ⟨z1, z2, z3⟩ := x.oh a _ e'
    refine ⟨z1, ?_, z3⟩
    rw [h1 a]
    · exact z2
    · intro t
      obtain ⟨j, q⟩ := (hT a).mp t
      rw [e'] at q
      cases q
      omega
  · have hi : i < n := by rw [hn]; exact (List.getElem?_eq_some_iff.mp e).1
    rw [own_of (O := O) (i := i) fun a => by rw [hdO_some]; exact ⟨fun h => h.1, fun h => ⟨h, hi⟩⟩]
    have := x.sl i t (by rw [List.getElem?_append_left (by omega)]; exact e)
    rw [List.getElem?_append_left (by omega)] at this
    exact this
  · obtain ⟨O2, y⟩ := y
    obtain ⟨m, hm⟩ : ∃ m, m = tt.length := ⟨_, rfl⟩
    have lw : wt.length = m := by rw [hm]; exact y.len.symm
    have no2 : ∀ a, T a → O2 a = none := fun a t => by
      cases q : O2 a with
      | none => rfl
      | some i =>
        have z := (y.oh a i q).2.1
        rw [h0 a t] at z
        exact absurd z (tO a t).2.2
    have keep : ∀ a, T a → H' a = H a := fun a t => by
      cases q : H a with
      | none => exact absurd q (tO a t).2.2
      | some o => exact y.out a o (by rw [h0 a t]; exact q)
    have lt2 : ∀ a i, O2 a = some i → i < m ∨ True := fun _ _ _ => .inr trivial
    -- the map: what y has below m stays, T's go behind
    obtain ⟨O3, eO3⟩ : ∃ O3 : Addr → Option Nat, O3 = fun a => match O a with
        | some i => if n ≤ i then some (m + (i - n)) else hdO m O2 a
        | none => hdO m O2 a := ⟨_, rfl⟩
    have o3T : ∀ a i, O a = some (n + i) → O3 a = some (m + i) := fun a i e => by
      rw [eO3]
      simp only [e]
      rw [if_pos (by omega)]
      congr 1
      omega
    have o3N : ∀ a, ¬ T a → O3 a = hdO m O2 a := fun a t => by
      rw [eO3]
      cases q : O a with
      | none => simp only [q]
      | some i =>
        simp only [q]
        rw [if_neg]
        intro h
        exact t ((hT a).mpr ⟨i - n, by rw [q]; congr 1; omega⟩)
    refine ⟨O3, y.gh, fun a i e => ?_, s1.trans y.out, by simp [y.len, lρ], fun i t e => ?_⟩
    · by_cases q : T a
      · obtain ⟨z1, z2, z3⟩ := tO a q
        refine ⟨?_, z2, by rw [keep a q]; exact z3⟩
        cases w : H a with
        | none => exact absurd w z3
        | some o => rw [g.2 a o (by rw [h0 a q]; exact w)]; exact z1
      · rw [o3N a q] at e
        obtain ⟨e', _⟩ := hdO_some.mp e
        obtain ⟨z1, z2, z3⟩ := y.oh a i e'
        exact ⟨z1, by rw [h1 a q] at z2; exact z2, z3⟩
    · by_cases hi : i < m
      · have z : own O3 i H' = own O2 i H' := by
          refine own_of fun a => ?_
          by_cases q : T a
          · obtain ⟨j, ej⟩ := (hT a).mp q
            rw [o3T a j ej, no2 a q]
            simp
            omega
          · rw [o3N a q, hdO_some]
            exact ⟨fun h => h.1, fun h => ⟨h, hi⟩⟩
        rw [z]
        rw [List.getElem?_append_left (by omega)] at e
        have := y.sl i t e
        rw [List.getElem?_append_left (by omega)]
        exact this
      · rw [List.getElem?_append_right (by omega)] at e
        obtain ⟨j, rfl⟩ : ∃ j, i = m + j := ⟨i - m, by omega⟩
        have e1 : ρ[j]? = some t := by rw [← hm, show m + j - m = j by omega] at e; exact e
        have z : own O3 (m + j) H' = own O (n + j) H := by
          funext a
          unfold own
          by_cases q : O a = some (n + j)
          · rw [if_pos (o3T a j q), if_pos q]
            exact keep a ((hT a).mpr ⟨j, q⟩)
          · rw [if_neg q, if_neg]
            intro w
            by_cases t : T a
            · obtain ⟨k, ek⟩ := (hT a).mp t
              rw [o3T a k ek] at w
              have : k = j := by have := Option.some.inj w; omega
              subst this
              exact q ek
            · rw [o3N a t, hdO_some] at w
              omega
        rw [z]
        have := x.sl (n + j) t (by rw [List.getElem?_append_right (by omega)]; rw [← hn, show n + j - n = j by omega]; exact e1)
        rw [List.getElem?_append_right (by omega), show n + j - us.length = j by omega] at this
        rw [List.getElem?_append_right (by omega), show m + j - wt.length = j by omega]
        exact this.mono g.1
/-- the second goes to slot i, whose value it has -/
theorem RS.home {s r : Sl} {v w : V} (x : RS K mg τ Ho G (s :: r :: ρ) (some v :: some w :: σ) H) {i : Nat} (hw : σ[i]? = some (some w)) : RS K mg τ Ho G (s :: ρ.set i r) (some v :: σ) H := by
  obtain ⟨Ho', h1, h2, back⟩ := x.lend
  have y := h2.assign i
  have : σ.set i (some w) = σ := by
    refine List.ext_getElem? fun j => ?_
    by_cases q : j = i
    · subst q
      rw [List.getElem?_set_self (List.getElem?_eq_some_iff.mp hw).1, hw]
    · rw [List.getElem?_set_ne (Ne.symm q)]
  rw [this] at y
  exact back G _ _ H Gr.refl y
/-- the second is dropped -/
theorem RS.pop2 {s r : Sl} {v w : Option V} (x : RS K mg τ Ho G (s :: r :: ρ) (v :: w :: σ) H) : RS K mg τ Ho G (s :: ρ) (v :: σ) H := by
  obtain ⟨Ho', h1, h2, back⟩ := x.lend
  exact back G _ _ H Gr.refl h2.pop
end
end DS

set_option Elab.async false
set_option linter.all false
set_option maxRecDepth 100000
namespace DS
open PySem PySem.Spec PyProof.Rows L2

/-! ### functions: their slots in, their slots out -/
inductive FR where
  | ok (s : Sl) (ss : List Sl)
  | ex (x : Exn) (ss : List Sl)
  | no
abbrev FS := List Sl → FR
def LF (K : PySem.W.Frag) (mg : Str → Option Value) (τ : Tau) (Ho G : Hp) (vs : List V) (Q : VK) (E : XK) : FR → Prop
  | .ok s ss => ∀ v G' H, RS K mg τ Ho G' (s :: ss) (some v :: vs.map some) H → Gr Ho G G' → Q v H
  | .ex x ss => ∀ cls d G' H, RS K mg τ Ho G' ss (vs.map some) H → Gr Ho G G' → RepX K mg G' x cls d → E cls d H
  | .no => False
def liftSp (K : PySem.W.Frag) (mg : Str → Option Value) (n : Nat) (F : FS) : Sp := fun vs H Q E => vs.length = n ∧ ∃ τ Ho G ss, RS K mg τ Ho G ss (vs.map some) H ∧ LF K mg τ Ho G vs Q E (F ss)
def Sl.tagged (t : Option Nat) : Sl → Sl
  | .ow _ d => .ow t d
  | .rs _ R => .rs t R
  | .er _ => .no
  | .th _ => .no
  | .td _ => .no
  | .tb => .no
  | s => s
def tagFrom : Nat → List Sl → List Sl
  | _, [] => []
  | j, s :: ss => s.tagged (some j) :: tagFrom (j + 1) ss
def keep1 (j : Nat) : Sl → Sl
  | .ow (some k) d => if k = j then .ow none d else .no
  | .rs (some k) R => if k = j then .rs none R else .no
  | _ => .no
def keepL : Nat → Nat → List Sl → List Sl
  | _, 0, _ => []
  | j, n + 1, r :: ρ => keep1 j r :: keepL (j + 1) n ρ
  | j, n + 1, [] => .no :: keepL (j + 1) n []
theorem tagFrom_length : ∀ (j : Nat) (ss : List Sl), (tagFrom j ss).length = ss.length
  | _, [] => rfl
  | j, s :: ss => by simp [tagFrom, tagFrom_length (j + 1) ss]
theorem tagFrom_get : ∀ (j : Nat) (ss : List Sl) (i : Nat), (tagFrom j ss)[i]? = ss[i]?.map (Sl.tagged (some (j + i)))
  | _, [], i => by simp [tagFrom]
  | j, s :: ss, 0 => by simp [tagFrom]
  | j, s :: ss, i + 1 => by
    have := tagFrom_get (j + 1) ss i
    simp only [tagFrom, List.getElem?_cons_succ, this]
    rw [show j + 1 + i = j + (i + 1) by omega]
theorem keepL_length : ∀ (j n : Nat) (ρ : List Sl), (keepL j n ρ).length = n
  | _, 0, _ => rfl
  | j, n + 1, r :: ρ => by simp [keepL, keepL_length (j + 1) n ρ]
  | j, n + 1, [] => by simp [keepL, keepL_length (j + 1) n []]
theorem keepL_get : ∀ (j n : Nat) (ρ : List Sl) (i : Nat) (s : Sl), (keepL j n ρ)[i]? = some s → s = .no ∨ ∃ r, ρ[i]? = some r ∧ s = keep1 (j + i) r
  | _, 0, _, i, s, h => by simp [keepL] at h
  | j, n + 1, r :: ρ, 0, s, h => by
    simp [keepL] at h
    subst h
    exact .inr ⟨r, rfl, rfl⟩
  | j, n + 1, r :: ρ, i + 1, s, h => by
    rcases keepL_get (j + 1) n ρ i s (by simpa [keepL] using h) with h | ⟨r', h1, h2⟩
    · exact .inl h
    · exact .inr ⟨r', by simpa using h1, by rw [h2, show j + 1 + i = j + (i + 1) by omega]⟩
  | j, n + 1, [], 0, s, h => by simp [keepL] at h; exact .inl h.symm
  | j, n + 1, [], i + 1, s, h => by
    rcases keepL_get (j + 1) n [] i s (by simpa [keepL] using h) with h | ⟨r', h1, h2⟩
    · exact .inl h
    · simp at h1
section
variable {K : PySem.W.Frag} {mg : Str → Option Value} {τ τ' : Tau} {Ho G : Hp} {ρ ρ' : List Sl} {σ σ' : L2.St} {H : Hp}
theorem RS.recast (x : RS K mg τ Ho G ρ σ H) (hl : ρ'.length = σ'.length) (h : ∀ (i : Nat) (s' : Sl), ρ'[i]? = some s' → s' = .no ∨ ∃ s : Sl, ρ[i]? = some s ∧ ∀ hh, SlOk K mg τ G hh s (σ[i]?.join) → SlOk K mg τ' G hh s' (σ'[i]?.join)) : RS K mg τ' Ho G ρ' σ' H := by
  obtain ⟨O, x⟩ := x
  refine ⟨O, x.gh, x.oh, x.out, hl, fun i s' e => ?_⟩
  rcases h i s' e with rfl | ⟨s, h1, h2⟩
  · trivial
  · exact h2 _ (x.sl i s h1)
theorem SlOk.tag {G hh : Hp} {s : Sl} {v : V} {t : Option Nat} (x : SlOk K mg τ G hh s (some v)) (h : ∀ a, v = .ref a → tg τ' t a) : SlOk K mg τ' G hh (s.tagged t) (some v) := by
  cases s with
  | no => trivial
  | sh d => exact x
  | ow u d => obtain ⟨a, o, h1, _, h2, h3⟩ := x; cases h1; exact ⟨a, o, rfl, h a rfl, h2, h3⟩
  | rs u R => obtain ⟨a, h1, _, h2⟩ := x; cases h1; exact ⟨a, rfl, h a rfl, h2⟩
  | er x => trivial
  | th x => trivial
  | td x => trivial
  | tb => trivial
/-- the names of the arguments -/
def tagN (vs : List V) (j : Nat) : Option Addr := match vs[j]? with
  | some (.ref a) => some a
  | _ => none
def tags (vs : List V) : Tau := ⟨tagN vs, none, none, []⟩
theorem tags_tg {vs : List V} {j : Nat} {v : V} (e : vs[j]? = some v) : ∀ a, v = .ref a → tg (tags vs) (some j) a := by
  rintro a rfl k q
  cases q
  show tagN vs j = _
  unfold tagN
  rw [e]
theorem tags_v {vs : List V} {j : Nat} {a : Addr} (h : (tags vs).ar j = some a) : vs[j]? = some (.ref a) := by
  replace h : tagN vs j = some a := h
  unfold tagN at h
  split at h
  · rename_i b e
    cases h
    exact e
  · cases h
theorem RS.enter {ss : List Sl} {vs : List V} {N : List Str} (x : RS K mg τ Ho G ss (vs.map some) H) : RS K mg (tags vs) Ho G (tagFrom 0 ss ++ List.replicate (N.length - vs.length) .no) (L2.start N vs) H := by
  have l : ss.length = vs.length := by simpa using x.len
  refine x.recast (by simp [L2.start, tagFrom_length, l]) fun i s' e => ?_
  by_cases hi : i < ss.length
  · rw [List.getElem?_append_left (by rw [tagFrom_length]; exact hi), tagFrom_get] at e
    cases q : ss[i]? with
    | none => rw [q] at e; cases e
    | some s =>
      rw [q] at e
      cases e
      refine .inr ⟨s, rfl, fun hh y => ?_⟩
      have hv : ∃ v, vs[i]? = some v := ⟨vs[i]'(by omega), by simp [show i < vs.length by omega]⟩
      obtain ⟨v, hv⟩ := hv
      have e1 : (vs.map some)[i]?.join = some v := by rw [List.getElem?_map, hv]; rfl
      have e2 : (L2.start N vs)[i]?.join = some v := by
        unfold L2.start
        rw [List.getElem?_append_left (by simp; omega), List.getElem?_map, hv]
        rfl
      rw [e1] at y
      rw [e2, Nat.zero_add]
      exact y.tag (tags_tg hv)
  · rw [List.getElem?_append_right (by rw [tagFrom_length]; omega)] at e
    left
    rw [List.getElem?_replicate] at e
    split at e
    · cases e; rfl
    · cases e
theorem RS.exit {s : Sl} {v : V} {vs : List V} {σ : L2.St} (x : RS K mg (tags vs) Ho G (s :: ρ) (some v :: σ) H) : RS K mg τ Ho G (s.tagged none :: keepL 0 vs.length ρ) (some v :: vs.map some) H := by
  refine x.recast (by simp [keepL_length]) fun i s' e => ?_
  cases i with
  | zero =>
    simp at e
    subst e
    exact .inr ⟨s, rfl, fun hh y => y.tag fun a _ k q => nomatch q⟩
  | succ i =>
    simp only [List.getElem?_cons_succ] at e
    rcases keepL_get _ _ _ _ _ e with rfl | ⟨r, h1, rfl⟩
    · exact .inl rfl
    rw [Nat.zero_add]
    cases r with
    | no => exact .inl rfl
    | sh d => exact .inl rfl
    | er x => exact .inl rfl
    | th x => exact .inl rfl
    | td x => exact .inl rfl
    | tb => exact .inl rfl
    | ow t d =>
      cases t with
      | none => exact .inl rfl
      | some k =>
        by_cases hk : k = i
        · subst hk
          refine .inr ⟨_, by simpa using h1, fun hh y => ?_⟩
          obtain ⟨a, o, _, h2, h3, h4⟩ := y
          simp only [keep1, if_pos]
          exact ⟨a, o, by simp [tags_v (h2 _ rfl)], (fun _ q => nomatch q), h3, h4⟩
        · left; simp [keep1, hk]
    | rs t R =>
      cases t with
      | none => exact .inl rfl
      | some k =>
        by_cases hk : k = i
        · subst hk
          refine .inr ⟨_, by simpa using h1, fun hh y => ?_⟩
          obtain ⟨a, _, h2, h3⟩ := y
          simp only [keep1, if_pos]
          exact ⟨a, by simp [tags_v (h2 _ rfl)], (fun _ q => nomatch q), h3⟩
        · left; simp [keep1, hk]
end
/-- a def's function: n parameters, N slots -/
def mkF (n N : Nat) (body : MS) : FS := fun ss => match body (tagFrom 0 ss ++ List.replicate (N - n) .no) with
  | .nx ρ => .ok (.sh .non) (keepL 0 n ρ)
  | .rt s ρ => .ok (s.tagged none) (keepL 0 n ρ)
  | .ex x ρ => .ex x (keepL 0 n ρ)
  | _ => .no
/-- a def's promise, where (g) nothing is shown on the way to it -/
structure FnG (g : Bool) (P : Program) (w : World) (K : PySem.W.Frag) (mg : Str → Option Value) (base : Heap) (k : Nat) (f : Addr) (fd : FuncData) (ps : List Str) (sp : Sp) : Prop where
  len : ∀ vs H Q E, sp vs H Q E → vs.length = ps.length
  run : ∀ (A : Around), (g = true → A.guards = some []) → ∀ (outer : List Env) (s : Shared) (H : Hp) (args : Args) (us : List Value) (vs : List V) (Q : VK) (E : XK), Room k A → Env0 P w K mg base A outer s H → BindsTo s fd args (ps.zip us) → Vals vs us → sp vs H Q E →
    codeAny (model P w) A (.call (.ref f) args) (CR (L2.CX P w) outer P w H s Q E) s
theorem FnG.mono {g : Bool} {P : Program} {w : World} {K : PySem.W.Frag} {mg : Str → Option Value} {base : Heap} {j k : Nat} {f : Addr} {fd : FuncData} {ps : List Str} {sp : Sp} (F : FnG g P w K mg base j f fd ps sp) (h : j ≤ k) : FnG g P w K mg base k f fd ps sp :=
  ⟨F.len, fun A hg outer s H args us vs Q E hr => F.run A hg outer s H args us vs Q E (hr.mono h)⟩
theorem FnG.ok {P : Program} {w : World} {K : PySem.W.Frag} {mg : Str → Option Value} {base : Heap} {k : Nat} {f : Addr} {fd : FuncData} {ps : List Str} {sp : Sp} (F : FnG false P w K mg base k f fd ps sp) : FnOk P w K mg base (L2.CX P w) k f fd ps sp :=
  ⟨F.len, fun A => F.run A (fun z => nomatch z)⟩
theorem FnG.of {g : Bool} {P : Program} {w : World} {K : PySem.W.Frag} {mg : Str → Option Value} {base : Heap} {k : Nat} {f : Addr} {fd : FuncData} {ps : List Str} {sp : Sp} (F : FnOk P w K mg base (L2.CX P w) k f fd ps sp) : FnG g P w K mg base k f fd ps sp :=
  ⟨F.len, fun A _ => F.run A⟩
theorem fnG_of {g : Bool} {P : Program} {w : World} {K : PySem.W.Frag} {mg : Str → Option Value} {base : Heap} {k : Nat} {x qual : Str} {st : Stmt} {f : Addr} {fd : FuncData} {N ps : List Str} {sp : Sp} (F : Fun K x qual st f fd) (S : FnScope N ps (defScope st))
    (len : ∀ vs H Q E, sp vs H Q E → vs.length = ps.length)
    (hbody : ∀ (cdv : Value) (A : Around), (g = true → A.guards = some []) → ∀ (outer : List Env) (s : Shared) (H : Hp) (vs : List V) (Q : VK) (E : XK), Room k (A.deeper (envOfC qual (defScope st) s.heap.objs.size f cdv)) → sp vs H Q E →
      ∃ t, PSs (cxOf (L2.CX P w) P w K mg base N qual (defScope st) f cdv A outer s H E) (defBody st) t ∧ t { nx := fun _ H' => Q .non H', rt := Q } (L2.start N vs) H) : FnG g P w K mg base (k + 1) f fd ps sp := by
  obtain ⟨oc, od, kV, doc, pm, an, cdv, ct, osl, rfl, lk, hcd⟩ := F.ex
  refine ⟨len, fun A hg outer s H args us vs Q E hr e0 hb r hsp => ?_⟩
  have kIn : K.In s.heap := e0.mod.kin.keeps fun b o e => (e0.bs b o e).1
  have noL : s.heap.NoLimit := e0.mod.nolimit.keeps fun b o e => (e0.bs b o e).1
  have hkind : ∀ y ∈ ps.zip us, (defScope st).names.lookup y.1 = some .local ∨ ((defScope st).names.lookup y.1 = some .cell ∧ ((cellsFrom (s.heap.objs.size + 1) (defScope st).names []).lookup y.1).isSome = true) := by
    rintro ⟨n, v⟩ hy
    rcases S.par n (List.of_mem_zip hy).1 with q | q
    · exact .inl q
    · exact .inr ⟨q, PySem.W.cellsFrom_some _ _ _ (.inl q)⟩
  refine codeAny_call_function hr.depth (kIn _ _ lk) rfl S.co S.gen rfl (PySem.W.codeRec_of kIn hcd) (hb _ _ _ _ ?_)
  refine wpAny_newFunctionEnv_cells S.kind hkind fun env he s1 x => ?_
  subst he
  refine ⟨noL.keeps x.toInCall.keep, codeAny_func ?_⟩
  obtain ⟨t, ht, hq⟩ := hbody cdv A hg outer s H vs Q E (hr.deeper _) hsp
  have I : Inv (cxOf (L2.CX P w) P w K mg base N qual (defScope st) f cdv A outer s H E) [] (L2.start N vs) H s1 := inv_start S hr.hd e0 (len _ _ _ _ hsp) r x
  refine wpAny_mono (ht.run [] s1 (L2.start N vs) H _ I hq) (fun fl s' hs => ?_) fun e s' hs => hs
  cases fl with
  | ret u =>
    obtain ⟨v, σ', H', J, rv, q⟩ := hs
    exact ⟨v, H', J.os, J.bare, J.base, J.hok, rv, q⟩
  | next =>
    obtain ⟨σ', H', J, q⟩ := hs
    exact ⟨V.non, H', J.os, J.bare, J.base, J.hok, rfl, q⟩
  | brk =>
    obtain ⟨_, _, _, z⟩ := hs
    exact z.elim
  | cont =>
    obtain ⟨_, _, _, z⟩ := hs
    exact z.elim
/-- a def's context -/
def mkZ (P : Program) (w : World) (K : PySem.W.Frag) (mg : Str → Option Value) (base : Heap) (N : List Str) (qual : Str) (sc : Scope) (f : Addr) (cdv : Value) (A : Around) (outer : List Env) (s : Shared) (H : Hp) (E : XK) (τ : Tau) (Ho G0 : Hp) (Ex : Exn → List Sl → Prop) (k : Nat) (g : Bool) (hg : g = true → A.guards = some [])
    (room : Room k (A.deeper (envOfC qual sc s.heap.objs.size f cdv))) (tk : Takes (cxOf (L2.CX P w) P w K mg base N qual sc f cdv A outer s H E) (fun cls d σ H => ∃ G ρ x, RS K mg τ Ho G ρ σ H ∧ Gr Ho G0 G ∧ RepX K mg G x cls d ∧ Ex x ρ)) : DC :=
  ⟨cxOf (L2.CX P w) P w K mg base N qual sc f cdv A outer s H E, τ, Ho, G0, Ex, k, g, hg, false, room.dp, room.un, fun _ => room.hd, fun _ => rfl, tk⟩
theorem mkZ_N {P : Program} {w : World} {K : PySem.W.Frag} {mg : Str → Option Value} {base : Heap} {N : List Str} {qual : Str} {sc : Scope} {f : Addr} {cdv : Value} {A : Around} {outer : List Env} {s : Shared} {H : Hp} {E : XK} {τ : Tau} {Ho G0 : Hp} {Ex : Exn → List Sl → Prop} {k : Nat} {g : Bool} {hg room tk} : (mkZ P w K mg base N qual sc f cdv A outer s H E τ Ho G0 Ex k g hg room tk).X.N = N := rfl
theorem mkZ_sc {P : Program} {w : World} {K : PySem.W.Frag} {mg : Str → Option Value} {base : Heap} {N : List Str} {qual : Str} {sc : Scope} {f : Addr} {cdv : Value} {A : Around} {outer : List Env} {s : Shared} {H : Hp} {E : XK} {τ : Tau} {Ho G0 : Hp} {Ex : Exn → List Sl → Prop} {k : Nat} {g : Bool} {hg room tk} : (mkZ P w K mg base N qual sc f cdv A outer s H E τ Ho G0 Ex k g hg room tk).X.env.scope = sc := rfl
theorem fn_ds {g : Bool} {P : Program} {w : World} {K : PySem.W.Frag} {mg : Str → Option Value} {base : Heap} {x qual : Str} {st : Stmt} {f : Addr} {fd : FuncData} {N ps : List Str} {k : Nat} {body : MS} (F : Fun K x qual st f fd) (S : FnScope N ps (defScope st))
    (hb : ∀ cdv A outer s H E τ Ho G0 Ex hg room tk, DSs (mkZ P w K mg base N qual (defScope st) f cdv A outer s H E τ Ho G0 Ex k g hg room tk) (defBody st) body) : FnG g P w K mg base (k + 1) f fd ps (liftSp K mg ps.length (mkF ps.length N.length body)) := by
  refine fnG_of F S (fun vs H Q E h => h.1) fun cdv A hg outer s H vs Q E hr h => ?_
  obtain ⟨hl, τ, Ho, G, ss, r, h⟩ := h
  have r0 := r.enter (N := N)
  rw [hl] at r0
  have tk : Takes (cxOf (L2.CX P w) P w K mg base N qual (defScope st) f cdv A outer s H E) (fun cls d σ H => ∃ G1 ρ x, RS K mg (tags vs) Ho G1 ρ σ H ∧ Gr Ho G G1 ∧ RepX K mg G1 x cls d ∧ body (tagFrom 0 ss ++ List.replicate (N.length - ps.length) .no) = .ex x ρ) := by
    refine (takes_of rfl rfl rfl rfl).imp fun cls d σ H' ⟨G1, ρ1, x, h1, h2, h3, h4⟩ => ?_
    unfold mkF at h
    rw [h4] at h
    have y := (h1.push (d := .non) (v := .non) rep_non).exit (τ := τ)
    rw [hl] at y
    exact h cls d G1 H' y.pop h2 h3
  obtain ⟨ts, pt, ht⟩ := hb cdv A outer s H E (tags vs) Ho G (fun x ρ => body (tagFrom 0 ss ++ List.replicate (N.length - ps.length) .no) = .ex x ρ) hg hr tk
  refine ⟨ts, pt, ht Ho (Same.refl _) G _ _ H _ ⟨r0, Same.refl _, Gr.refl⟩ ?_⟩
  unfold mkF at h
  suffices z : ∀ r1, r1 = body (tagFrom 0 ss ++ List.replicate (N.length - ps.length) .no) → LX _ Ho G r1 _ from z _ rfl
  intro r1 e
  cases r1 with
  | nx ρ =>
    rw [← e] at h
    intro σ' G' H' x' g'
    have y := (x'.rs.push (d := .non) (v := .non) rep_non).exit (τ := τ)
    rw [hl] at y
    exact h _ _ _ y g'
  | rt s1 ρ =>
    rw [← e] at h
    intro v σ' G' H' x' g'
    have y := x'.rs.exit (τ := τ)
    rw [hl] at y
    exact h _ _ _ y g'
  | bk ρ => rw [← e] at h; exact h.elim
  | ct ρ => rw [← e] at h; exact h.elim
  | ex y ρ => exact e.symm
  | no => rw [← e] at h; exact h.elim

/-! ### calls -/
/-- arguments: data, or a slot by reference -/
inductive ArgR (K : PySem.W.Frag) (mg : Str → Option Value) (G : Hp) (σ : L2.St) : List (Option Nat) → List D → List V → Prop
  | nil : ArgR K mg G σ [] [] []
  | dt {d : D} {v : V} {rs : List (Option Nat)} {ds : List D} {vs : List V} : Rep K mg G d v → ArgR K mg G σ rs ds vs → ArgR K mg G σ (none :: rs) (d :: ds) (v :: vs)
  | rf {i : Nat} {v : V} {rs : List (Option Nat)} {ds : List D} {vs : List V} : σ[i]? = some (some v) → ArgR K mg G σ rs ds vs → ArgR K mg G σ (some i :: rs) ds (v :: vs)
theorem ArgR.mono {K : PySem.W.Frag} {mg : Str → Option Value} {G G' : Hp} {σ : L2.St} {rs : List (Option Nat)} {ds : List D} {vs : List V} (e : Same G G') (h : ArgR K mg G σ rs ds vs) : ArgR K mg G' σ rs ds vs := by
  induction h with
  | nil => exact .nil
  | dt h _ ih => exact .dt (Rep.mono e _ _ h) ih
  | rf h _ ih => exact .rf h ih
theorem ArgR.length {K : PySem.W.Frag} {mg : Str → Option Value} {G : Hp} {σ : L2.St} {rs : List (Option Nat)} {ds : List D} {vs : List V} (h : ArgR K mg G σ rs ds vs) : vs.length = rs.length := by
  induction h with
  | nil => rfl
  | dt _ _ ih => simp [ih]
  | rf _ _ ih => simp [ih]
def LAr (Z : DC) (Ho : Hp) (G : Hp) (σ : L2.St) (rs : List (Option Nat)) (r : Res (List D)) (Q : List V → Hp → Prop) : Prop := match r with
  | .ok ds ρ => ∀ vs G' H', Z.R Ho G' ρ σ H' → Gr Ho G G' → ArgR Z.X.K Z.X.mg G' σ rs ds vs → Q vs H'
  | .ex x ρ => Z.Ex x ρ
  | .no => False
def DAr (Z : DC) (es : List Expr) (rs : List (Option Nat)) (t : M (List D)) : Prop := ∃ te, PA Z.X es te ∧ ∀ Ho, Same Z.Ho Ho → ∀ G ρ σ H Q, Z.R Ho G ρ σ H → LAr Z Ho G σ rs (t ρ) Q → te σ H Q
def refOk : Option Sl → Bool
  | some (.ow _ _) => true
  | some (.rs _ _) => true
  | _ => false
def dRef (i : Nat) (u : M (List D)) : M (List D) := fun ρ => if refOk ρ[i]? then u ρ else .no
section
variable {Z : DC} {Ho : Hp} {m : Md} {e : Expr} {es : List Expr} {t : M D} {pos p : Pos} {rs : List (Option Nat)} {u : M (List D)}
theorem LAr.then {α : Type} {r : Res (List D)} {u : List D → M α} {L : Res α → Prop} {G : Hp} {σ : L2.St} {Q : List V → Hp → Prop} (hex : ∀ x ρ, L (.ex x ρ) → Z.Ex x ρ) (hno : L .no → False)
    (h : L (r.bind u)) (hq : ∀ ds ρ vs G' H', Z.R Ho G' ρ σ H' → Gr Ho G G' → ArgR Z.X.K Z.X.mg G' σ rs ds vs → L (u ds ρ) → Q vs H') : LAr Z Ho G σ rs r Q := by
  cases r with
  | ok d ρ => exact fun v G' H' x g b => hq d ρ v G' H' x g b h
  | ex x ρ => exact hex x ρ h
  | no => exact hno h
theorem LAr.from {ρ : List Sl} {t : Res (List D)} {G G1 : Hp} {σ : L2.St} {Q : List V → Hp → Prop} (g : Gr Ho G G1) (q : LAr Z Ho G σ rs t Q) : LAr Z Ho G1 σ rs t Q := by
  cases t with
  | ok c ρ' => exact fun v G' H' x g' br => q v G' H' x (g.trans g') br
  | ex x ρ' => exact q
  | no => exact q
theorem dar_nil : DAr Z [] [] dNil := ⟨_, pa_nil, fun Ho hw G ρ σ H Q x q => q [] G H x Gr.refl .nil⟩
theorem dar_cons (h : DE Z m e t) (hr : DAr Z es rs u) (hb : m.b = false := by rfl) (hs : starEach (e :: es) Z.X.env = (false, eval e Z.X.env) :: starEach es Z.X.env := by rfl) : DAr Z (e :: es) (none :: rs) (dCons t u) := by
  obtain ⟨te, pa, sa⟩ := h
  obtain ⟨tu, pr, sr⟩ := hr
  refine ⟨_, pa_cons pa pr hs, fun Ho hw G ρ σ H Q x q => ?_⟩
  refine sa Ho hw G ρ σ H _ x (DE.then (L := fun r => LAr Z Ho G σ (none :: rs) r Q) (fun _ _ h => h) (fun h => h) q fun d ρ1 v G1 H1 x1 g1 s1 b1 q1 => ?_)
  refine sr Ho hw G1 ρ1 σ H1 _ x1 (LAr.then (L := fun r => LAr Z Ho G σ (none :: rs) r Q) (fun _ _ h => h) (fun h => h) q1 fun ds ρ2 vs G2 H2 x2 g2 b2 q2 => ?_)
  rw [hb] at b1
  exact q2 (v :: vs) G2 H2 x2 (g1.trans g2) (.dt (Rep.mono g2.1 _ _ b1.rep) b2)
theorem DC.R.bound {G H : Hp} {ρ : List Sl} {σ : L2.St} (x : Z.R Ho G ρ σ H) {i : Nat} (h : refOk ρ[i]? = true) : ∃ a, σ[i]? = some (some (.ref a)) := by
  obtain ⟨O, y⟩ := x.rs
  cases e : ρ[i]? with
  | none => rw [e] at h; cases h
  | some s =>
    rw [e] at h
    have z := y.sl i s e
    cases s <;> try (cases h; done)
    · obtain ⟨a, o, h1, _⟩ := z
      refine ⟨a, ?_⟩
      cases q : σ[i]? with
      | none => rw [q] at h1; cases h1
      | some w => rw [q] at h1; rw [show w = some (.ref a) from h1]
    · obtain ⟨a, h1, _⟩ := z
      refine ⟨a, ?_⟩
      cases q : σ[i]? with
      | none => rw [q] at h1; cases h1
      | some w => rw [q] at h1; rw [show w = some (.ref a) from h1]
theorem dar_ref (i : Nat) {x : Str} (hr : DAr Z es rs u) (hN : Z.X.N[i]? = some x := by rfl) (hv : Vis Z.X.env.scope x := by first | exact Or.inl rfl | exact Or.inr (Or.inl rfl) | exact Or.inr (Or.inr rfl)) (hd : (x == ("__debug__" : Str)) = false := by decide)
    (hcd : (x == ("__classdict__" : Str)) = false := by decide) (hs : starEach ((.Name x pos : Expr) :: es) Z.X.env = (false, eval (.Name x pos) Z.X.env) :: starEach es Z.X.env := by rfl) : DAr Z (.Name x pos :: es) (some i :: rs) (dRef i u) := by
  obtain ⟨tu, pr, sr⟩ := hr
  refine ⟨_, pa_cons (pe_var hN hv hd hcd) pr hs, fun Ho hw G ρ σ H Q x q => ?_⟩
  unfold dRef at q
  by_cases hi : refOk ρ[i]? = true
  · rw [if_pos hi] at q
    obtain ⟨a, ha⟩ := x.bound hi
    refine ⟨_, ha, sr Ho hw G ρ σ H _ x ?_⟩
    cases e : u ρ with
    | ok ds ρ' =>
      rw [e] at q
      exact fun vs G' H' x' g' b' => q _ G' H' x' g' (.rf ha b')
    | ex y ρ' => rw [e] at q; exact q
    | no => rw [e] at q; exact q
  · rw [if_neg hi] at q
    exact q.elim
end
def mk : List (Option Nat) → List D → List Sl → Option (List Sl × List Sl)
  | [], [], ρ => some ([], ρ)
  | none :: rs, d :: ds, ρ => match mk rs ds ρ with
    | some (ss, ρ') => some (.sh d :: ss, ρ')
    | none => none
  | some i :: rs, ds, ρ => match mk rs ds ρ with
    | some (ss, ρ') => if refOk ρ'[i]? then (ρ'[i]?).map fun s => (s :: ss, ρ'.set i .no) else none
    | none => none
  | _, _, _ => none
def tagOf : Option Sl → Option Nat
  | some (.ow t _) => t
  | some (.rs t _) => t
  | _ => none
def back : List (Option Nat) → List Sl → List Sl → List Sl → List Sl
  | none :: rs, _ :: ss, ρ1, ρ => back rs ss ρ1 ρ
  | some i :: rs, r :: ss, ρ1, ρ => back rs ss ρ1 (ρ.set i (r.tagged (tagOf ρ1[i]?)))
  | _, _, _, ρ => ρ
section
variable {K : PySem.W.Frag} {mg : Str → Option Value} {τ : Tau} {Ho G : Hp}
theorem mk_ok : ∀ {rs : List (Option Nat)} {ds : List D} {vs : List V} {ρ : List Sl} {σ : L2.St} {H : Hp} {ss ρ' : List Sl}, ArgR K mg G σ rs ds vs → mk rs ds ρ = some (ss, ρ') → RS K mg τ Ho G ρ σ H → RS K mg τ Ho G (ss ++ ρ') (vs.map some ++ σ) H ∧ ss.length = vs.length
  | [], [], _, ρ, σ, H, ss, ρ', .nil, h, x => by
    simp [mk] at h
    obtain ⟨rfl, rfl⟩ := h
    exact ⟨x, rfl⟩
  | none :: rs, d :: ds, _, ρ, σ, H, ss, ρ', .dt r a, h, x => by
    unfold mk at h
    cases e : mk rs ds ρ with
    | none => rw [e] at h; cases h
    | some q =>
      obtain ⟨ss1, ρ1⟩ := q
      rw [e] at h
      cases h
      obtain ⟨y, l⟩ := mk_ok a e x
      exact ⟨y.push r, by simp [l]⟩
  | some i :: rs, ds, v :: vs, ρ, σ, H, ss, ρ', .rf hv a, h, x => by
    unfold mk at h
    cases e : mk rs ds ρ with
    | none => rw [e] at h; cases h
    | some q =>
      obtain ⟨ss1, ρ1⟩ := q
      rw [e] at h
      obtain ⟨y, l⟩ := mk_ok a e x
      simp only at h
      by_cases hr : refOk ρ1[i]? = true
      · rw [if_pos hr] at h
        cases es : ρ1[i]? with
        | none => rw [es] at h; cases h
        | some s =>
          rw [es] at h
          cases h
          refine ⟨?_, by simp [l]⟩
          have z := y.move (i := ss1.length + i) (s := s) (v := v) (by rw [List.getElem?_append_right (by omega)]; rw [show ss1.length + i - ss1.length = i by omega]; exact es) (by rw [List.getElem?_append_right (by simp; omega)]; simp [l, hv])
          rw [List.set_append_right _ _ (by omega), show ss1.length + i - ss1.length = i by omega] at z
          exact z
      · rw [if_neg hr] at h
        cases h
/-- a slot's name holds of its value -/
theorem RS.tagAt {ρ : List Sl} {σ : L2.St} {H : Hp} (x : RS K mg τ Ho G ρ σ H) {i : Nat} {v : V} (hv : σ[i]? = some (some v)) : ∀ a, v = .ref a → tg τ (tagOf ρ[i]?) a := by
  obtain ⟨O, x⟩ := x
  rintro a rfl
  cases e : ρ[i]? with
  | none => exact fun _ q => nomatch q
  | some s =>
    have z := x.sl i s e
    rw [hv] at z
    cases s with
    | no => exact fun _ q => nomatch q
    | sh d => exact fun _ q => nomatch q
    | ow t d => obtain ⟨b, o, h1, h2, _⟩ := z; cases h1; exact h2
    | rs t R => obtain ⟨b, h1, h2, _⟩ := z; cases h1; exact h2
    | er x => exact fun _ q => nomatch q
    | th x => exact fun _ q => nomatch q
    | td x => exact fun _ q => nomatch q
    | tb => exact fun _ q => nomatch q
theorem back_ok : ∀ {rs : List (Option Nat)} {ds : List D} {vs : List V} {ss ρ1 ρ : List Sl} {σ : L2.St} {H : Hp} {s : Sl} {v : V}, ArgR K mg G σ rs ds vs → (∀ (i : Nat) (w : V), σ[i]? = some (some w) → ∀ a, w = V.ref a → tg τ (tagOf ρ1[i]?) a) → ss.length = vs.length → ∀ {G' : Hp}, RS K mg τ Ho G' (s :: (ss ++ ρ)) (some v :: (vs.map some ++ σ)) H →
    RS K mg τ Ho G' (s :: back rs ss ρ1 ρ) (some v :: σ) H
  | [], [], _, ss, ρ1, ρ, σ, H, s, v, .nil, _, l, _, x => by
    have : ss = [] := List.length_eq_zero_iff.mp l
    subst this
    exact x
  | none :: rs, d :: ds, _, ss, ρ1, ρ, σ, H, s, v, .dt r a, ht, l, _, x => by
    cases ss with
    | nil => simp at l
    | cons r ss => exact back_ok (rs := rs) a ht (by simpa using l) x.pop2
  | some i :: rs, ds, w :: vs, ss, ρ1, ρ, σ, H, s, v, .rf hv a, ht, l, G', x => by
    cases ss with
    | nil => simp at l
    | cons r ss =>
      unfold back
      have ll : ss.length = vs.length := by simpa using l
      have y : RS K mg τ Ho G' (s :: r.tagged (tagOf ρ1[i]?) :: (ss ++ ρ)) (some v :: some w :: (vs.map some ++ σ)) H := by
        refine RS.recast x (by have := x.len; simpa using this) fun j s' e => ?_
        match j with
        | 0 => simp at e; subst e; exact .inr ⟨s, rfl, fun _ y => y⟩
        | 1 =>
          simp at e
          subst e
          exact .inr ⟨r, rfl, fun hh y => SlOk.tag y (ht i w hv)⟩
        | j + 2 => exact .inr ⟨s', by simpa using e, fun _ y => by simpa using y⟩
      have z := y.home (i := ss.length + i) (by rw [List.getElem?_append_right (by simp; omega)]; simp [ll, hv])
      rw [List.set_append_right _ _ (by omega), show ss.length + i - ss.length = i by omega] at z
      exact back_ok (rs := rs) a ht ll z
end
def dCall (F : FS) (rs : List (Option Nat)) (u : M (List D)) : M Sl := bnd u fun ds ρ1 => match mk rs ds ρ1 with
  | none => .no
  | some (ss, ρ2) => match F ss with
    | .ok s ss' => if ss'.length = ss.length then .ok s (back rs ss' ρ1 ρ2) else .no
    | .ex x ss' => if ss'.length = ss.length then .ex x (back rs ss' ρ1 ρ2) else .no
    | .no => .no
section
variable {Z : DC} {Ho : Hp} {e : Expr} {es : List Expr} {pos p : Pos} {rs : List (Option Nat)} {u : M (List D)} {x : Str} {k n : Nat} {f : Addr} {fd : FuncData} {ps : List Str} {F : FS}
/-- what a callee's promise asks -/
theorem call_sp {G : Hp} {σ : L2.St} {ds : List D} {ρ1 : List Sl} {vs : List V} {G1 H1 : Hp} {Q : VK} (hw : Same Z.Ho Ho) (hn : vs.length = n) (x1 : Z.R Ho G1 ρ1 σ H1) (g1 : Gr Ho G G1) (a1 : ArgR Z.X.K Z.X.mg G1 σ rs ds vs)
    (q : LR Z Ho G σ (match mk rs ds ρ1 with
      | none => .no
      | some (ss, ρ2) => match F ss with
        | .ok s ss' => if ss'.length = ss.length then .ok s (back rs ss' ρ1 ρ2) else .no
        | .ex x ss' => if ss'.length = ss.length then .ex x (back rs ss' ρ1 ρ2) else .no
        | .no => .no) Q) : liftSp Z.X.K Z.X.mg n F vs H1 Q (WE Z.W σ) := by
  cases em : mk rs ds ρ1 with
  | none => rw [em] at q; exact q.elim
  | some sr =>
    obtain ⟨ss, ρ2⟩ := sr
    rw [em] at q
    obtain ⟨y, l⟩ := mk_ok a1 em x1.rs
    obtain ⟨Ho', h1, z, bk⟩ := y.split (by simpa using l)
    refine ⟨hn, Z.τ, Ho', G1, ss, z, ?_⟩
    simp only at q
    have ht : ∀ (i : Nat) (w : V), σ[i]? = some (some w) → ∀ a, w = V.ref a → tg Z.τ (tagOf ρ1[i]?) a := fun i w hv => x1.rs.tagAt hv
    cases ef : F ss with
    | no => rw [ef] at q; exact q.elim
    | ok s ss' =>
      rw [ef] at q
      simp only at q
      by_cases hl : ss'.length = ss.length
      · rw [if_pos hl] at q
        intro v G' H' r g
        have t := bk G' (s :: ss') (some v :: vs.map some) H' g r
        have g' : Gr Ho G1 G' := g.anti h1
        exact q v G' H' (x1.to (back_ok (a1.mono g'.1) ht (by omega) t) g') (g1.trans g')
      · rw [if_neg hl] at q; exact q.elim
    | ex y' ss' =>
      rw [ef] at q
      simp only at q
      by_cases hl : ss'.length = ss.length
      · rw [if_pos hl] at q
        intro cls d G' H' r g rx
        have t := bk G' ss' (vs.map some) H' g r
        have g' : Gr Ho G1 G' := g.anti h1
        have t2 := (back_ok (s := .sh .non) (v := .non) (a1.mono g'.1) ht (by omega) (t.push rep_non)).pop
        exact ⟨G', _, y', t2.anti hw, x1.g0.trans (g'.anti hw), rx, q⟩
      · rw [if_neg hl] at q; exact q.elim
theorem pe_callG {g : Bool} {X : Cx} {sp : Sp} {E : L2.St → XK} {ta : TA} (F : FnG g X.prog X.w X.K X.mg X.base k f fd ps sp) (gd : g = true → X.A.guards = some []) (hr : Room k X.A) (hg : Gl X x) (hm : X.mg x = some (.ref f)) (hk : PySem.W.keepIn X.K (.ref f) = true) (hb : Binds X.K fd ps [])
    (hx : ∀ σ, PassesAt (L2.CX X.prog X.w) X σ (E σ)) (ha : PA X (e :: es) ta) (hdb : (x == ("__debug__" : Str)) = false) (he : starEach (e :: es) X.env = (false, eval e X.env) :: starEach es X.env) (hpl : (backTo pos (starEach es X.env)).any (·.1) = false) :
    PE X (.Call (.Name x p) (e :: es) [] pos) (fun σ H Q => ta σ H fun vs H1 => sp vs H1 Q (E σ)) := by
  refine ⟨fun pins s σ H Q I h => ?_⟩
  refine wpAny_Call_Name_kw (ld_glob I hg hm ?_ hdb)
  refine PySem.W.callWith_K (h₀ := X.base) I.ok.mod.kin hk (thn (ha.run pos pins s σ H _ I h) fun us s1 ⟨vs, H1, I1, r, q⟩ => ⟨I1.kIn, ?_⟩) he hpl
  have hl : us.length = ps.length := by rw [← r.length]; exact F.len _ _ _ _ q
  have bi := hb s1 us I1.kIn (by rw [List.append_nil]; exact hl)
  rw [List.append_nil] at bi
  refine wpAny_call (codeAny_mono (F.run X.A gd X.stack s1 H1 ⟨us, []⟩ us vs Q (E σ) hr I1.env0 bi r q) fun r s' hq => ?_)
  cases r with
  | error e => exact hx σ pins H1 s1 e s' I1 hq
  | ok fl =>
    cases fl with
    | ret u => exact I1.after hq
    | next => exact hq.elim
    | brk => exact hq.elim
    | cont => exact hq.elim
theorem dr_call {g : Bool} (O : FnG g Z.X.prog Z.X.w Z.X.K Z.X.mg Z.X.base k f fd ps (liftSp Z.X.K Z.X.mg n F)) (hgg : g = true → Z.g = true) (hk : k ≤ Z.k) (hm : Z.X.mg x = some (.ref f)) (kp : PySem.W.keepIn Z.X.K (.ref f) = true) (hb : Binds Z.X.K fd ps []) (ha : DAr Z (e :: es) rs u) (hn : rs.length = n := by rfl)
    (hg : Gl Z.X x := by first | rfl | decide) (hdb : (x == ("__debug__" : Str)) = false := by decide) (he : starEach (e :: es) Z.X.env = (false, eval e Z.X.env) :: starEach es Z.X.env := by rfl) (hpl : (backTo pos (starEach es Z.X.env)).any (·.1) = false := by rfl) (hh : Z.hot = false := by rfl) :
    DR Z (.Call (.Name x p) (e :: es) [] pos) (dCall F rs u) := by
  obtain ⟨ta, pa, sa⟩ := ha
  refine ⟨_, pe_callG (E := WE Z.W) O (fun h => Z.gd (hgg h)) ((Z.room hh).mono hk) hg hm kp hb (passAt Z.tk) pa hdb he hpl, fun Ho hw G ρ σ H Q x q => ?_⟩
  refine sa Ho hw G ρ σ H _ x (LAr.then (L := fun r => LR Z Ho G σ r Q) (fun _ _ h => h) (fun h => h) q fun ds ρ1 vs G1 H1 x1 g1 a1 q1 => ?_)
  refine call_sp hw ?_ x1 g1 a1 q1
  rw [← hn]
  exact a1.length
end
end DS

set_option Elab.async false
set_option linter.all false
set_option maxRecDepth 100000
namespace DS
open PySem PySem.Spec PyProof.Rows L2

/-! ### comprehensions -/
def shOr : Option Sl → Sl
  | some (.sh d) => .sh d
  | _ => .no
def mend : List Nat → List Sl → List Sl → List Sl
  | [], _, ρ => ρ
  | i :: vs, ρ0, ρ => (mend vs ρ0 ρ).set i (shOr ρ0[i]?)
theorem mend_length : ∀ (vs : List Nat) (ρ0 ρ : List Sl), (mend vs ρ0 ρ).length = ρ.length
  | [], _, _ => rfl
  | i :: vs, ρ0, ρ => by simp [mend, mend_length vs]
theorem mend_get : ∀ (vs : List Nat) (ρ0 ρ : List Sl) (j : Nat) (s : Sl), (mend vs ρ0 ρ)[j]? = some s → (j ∈ vs ∧ s = shOr ρ0[j]?) ∨ (j ∉ vs ∧ ρ[j]? = some s)
  | [], _, ρ, j, s, h => .inr ⟨by simp, h⟩
  | i :: vs, ρ0, ρ, j, s, h => by
    unfold mend at h
    by_cases q : j = i
    · subst q
      by_cases hl : j < (mend vs ρ0 ρ).length
      · rw [List.getElem?_set_self hl] at h
        cases h
        exact .inl ⟨List.mem_cons_self, rfl⟩
      · rw [List.getElem?_eq_none (by simpa using hl)] at h
        cases h
    · rw [List.getElem?_set_ne (Ne.symm q)] at h
      rcases mend_get vs ρ0 ρ j s h with ⟨h1, h2⟩ | ⟨h1, h2⟩
      · exact .inl ⟨List.mem_cons_of_mem _ h1, h2⟩
      · exact .inr ⟨by simp [q, h1], h2⟩
theorem drops_length : ∀ (vs : List Nat) (ρ : List Sl), (drops vs ρ).length = ρ.length
  | [], _ => rfl
  | i :: vs, ρ => by
    have := drops_length vs (ρ.set i .no)
    simpa [drops] using this
theorem drops_get : ∀ (vs : List Nat) (ρ : List Sl) (j : Nat) (s : Sl), (drops vs ρ)[j]? = some s → s = .no ∨ (j ∉ vs ∧ ρ[j]? = some s)
  | [], ρ, j, s, h => .inr ⟨by simp, h⟩
  | i :: vs, ρ, j, s, h => by
    have h' : (drops vs (ρ.set i .no))[j]? = some s := h
    rcases drops_get vs _ j s h' with h1 | ⟨h1, h2⟩
    · exact .inl h1
    · by_cases q : j = i
      · subst q
        left
        by_cases hl : j < ρ.length
        · rw [List.getElem?_set_self hl] at h2
          cases h2; rfl
        · rw [List.getElem?_eq_none (by simpa using hl)] at h2
          cases h2
      · rw [List.getElem?_set_ne (Ne.symm q)] at h2
        exact .inr ⟨by simp [q, h1], h2⟩
theorem wipe_get {σ : L2.St} : ∀ {vs : List Nat} {j : Nat}, (wipe σ vs)[j]?.join = if j ∈ vs then none else σ[j]?.join
  | [], j => by simp [wipe]
  | i :: vs, j => by
    unfold wipe
    by_cases q : j = i
    · subst q
      by_cases hl : j < (wipe σ vs).length
      · rw [List.getElem?_set_self hl]; simp
      · rw [List.getElem?_eq_none (by simpa using hl)]; simp
    · rw [List.getElem?_set_ne (Ne.symm q), wipe_get]
      simp [q]
theorem wipe_wipe {σ : L2.St} {vs : List Nat} : wipe (wipe σ vs) vs = wipe σ vs := by
  have ext : ∀ {a b : L2.St}, a.length = b.length → (∀ j : Nat, a[j]?.join = b[j]?.join) → a = b := fun {a b} l h => by
    refine List.ext_getElem? fun j => ?_
    by_cases hj : j < a.length
    · have h2 : j < b.length := by omega
      have := h j
      rw [List.getElem?_eq_getElem hj, List.getElem?_eq_getElem h2] at this ⊢
      simpa using this
    · rw [List.getElem?_eq_none (by omega), List.getElem?_eq_none (by omega)]
  refine ext (by rw [wipe_length]) fun j => ?_
  rw [wipe_get, wipe_get]
  split <;> simp_all
theorem wipe_set {σ : L2.St} {vs : List Nat} {i : Nat} {v : Option V} (h : i ∈ vs) : wipe (σ.set i v) vs = wipe σ vs := by
  have ext : ∀ {a b : L2.St}, a.length = b.length → (∀ j : Nat, a[j]?.join = b[j]?.join) → a = b := fun {a b} l h => by
    refine List.ext_getElem? fun j => ?_
    by_cases hj : j < a.length
    · have h2 : j < b.length := by omega
      have := h j
      rw [List.getElem?_eq_getElem hj, List.getElem?_eq_getElem h2] at this ⊢
      simpa using this
    · rw [List.getElem?_eq_none (by omega), List.getElem?_eq_none (by omega)]
  refine ext (by rw [wipe_length, wipe_length, List.length_set]) fun j => ?_
  rw [wipe_get, wipe_get]
  by_cases q : j ∈ vs
  · simp [q]
  · have : i ≠ j := by rintro rfl; exact q h
    simp [q, List.getElem?_set_ne this]
section
variable {K : PySem.W.Frag} {mg : Str → Option Value} {τ : Tau} {Ho G G1 : Hp} {ρ ρ0 : List Sl} {σ : L2.St} {H H1 : Hp} {s : Sl} {v : Option V}
theorem RS.wiped (x : RS K mg τ Ho G (s :: ρ) (v :: σ) H) (vs : List Nat) : RS K mg τ Ho G (s :: drops vs ρ) (v :: wipe σ vs) H := by
  have l : ρ.length = σ.length := by simpa using x.len
  refine x.recast (by simp [drops_length, wipe_length, l]) fun j s' e => ?_
  cases j with
  | zero => simp at e; subst e; exact .inr ⟨s, rfl, fun _ y => y⟩
  | succ j =>
    simp only [List.getElem?_cons_succ] at e ⊢
    rcases drops_get _ _ _ _ e with h | ⟨h1, h2⟩
    · exact .inl h
    · refine .inr ⟨s', h2, fun hh y => ?_⟩
      rw [wipe_get, if_neg h1]
      exact y
theorem RS.mended (x0 : RS K mg τ Ho G1 ρ0 σ H1) (g : Same G1 G) {vs : List Nat} (x : RS K mg τ Ho G (s :: ρ) (v :: wipe σ vs) H) : RS K mg τ Ho G (s :: mend vs ρ0 ρ) (v :: σ) H := by
  have l : ρ.length = σ.length := by have := x.len; simpa [wipe_length] using this
  obtain ⟨O, x⟩ := x
  refine ⟨O, x.gh, x.oh, x.out, by simp [mend_length, l], fun j s' e => ?_⟩
  cases j with
  | zero => simp at e; subst e; simpa using x.sl 0 s rfl
  | succ j =>
    simp only [List.getElem?_cons_succ] at e ⊢
    rcases mend_get _ _ _ _ _ e with ⟨h1, rfl⟩ | ⟨h1, h2⟩
    · cases q : ρ0[j]? with
      | none => trivial
      | some s0 =>
        cases s0 <;> try trivial
        rename_i d
        obtain ⟨O0, x0⟩ := x0
        obtain ⟨u, z1, z2⟩ := x0.sl j _ q
        exact ⟨u, z1, Rep.mono g _ _ z2⟩
    · have z := x.sl (j + 1) s' (by simpa using h2)
      simp only [List.getElem?_cons_succ] at z
      rw [wipe_get, if_neg h1] at z
      exact z
end
/-- a comprehension's own context -/
def blkZ (Z : DC) (s : Shared) (H : Hp) (scope : Scope) (cenv : Env) (fp : List Addr) : DC :=
  ⟨Z.X.blk s H scope cenv fp, Z.τ, Z.Ho, Z.G0, fun _ _ => False, Z.k, Z.g, Z.gd, Z.hot, Z.dp, Z.un, Z.hd, Z.calm, fun u s' x => by
    obtain ⟨_, _, _, _, _, _, _, _, _, _, _, _, _, _, _, _, z⟩ := x
    obtain ⟨_, _, _, _, _, _, z⟩ := z
    exact z.elim⟩
def DGo (Z : DC) (is : List Nat) (tg : Expr) (g : D → List Sl → Option (List Sl)) : Prop := ∃ tgt, PG Z.X tg tgt ∧ ∀ Ho G ρ σ H v d Q, Z.R Ho G ρ σ H → Z.rep G d v → (∃ ρ', g d ρ = some ρ' ∧ ∀ σ', Z.R Ho G ρ' σ' H → wipe σ' is = wipe σ is → Q σ' H) → tgt v σ H Q
def DGso (Z : DC) (is : List Nat) (tgs : List Expr) (g : List D → List Sl → Option (List Sl)) : Prop := ∃ tgt, PGs Z.X tgs tgt ∧ ∀ Ho G ρ σ H vs ds Q, Z.R Ho G ρ σ H → RepL Z.X.K Z.X.mg G ds vs → (∃ ρ', g ds ρ = some ρ' ∧ ∀ σ', Z.R Ho G ρ' σ' H → wipe σ' is = wipe σ is → Q σ' H) → tgt vs σ H Q
section
variable {Z : DC} {Ho : Hp} {e : Expr} {es : List Expr} {pos : Pos} {is : List Nat}
theorem dgo_name (i : Nat) {x : Str} (hN : Z.X.N.Nodup) (hi : Z.X.N[i]? = some x := by rfl) (hx : Loc Z.X.env.scope x := by first | exact Or.inl rfl | exact Or.inr rfl) (hf : Z.X.fn x = true ∨ Z.X.env.scope.names.lookup x = some .local := by first | exact .inl rfl | exact .inr rfl)
    (hm : i ∈ is := by decide) : DGo Z is (.Name x pos) (gN i) := by
  refine ⟨_, pg_name hN hi hx hf, fun Ho G ρ σ H v d Q x r h => ?_⟩
  obtain ⟨ρ', e, q⟩ := h
  cases e
  exact q _ ((x.push r).assign i) (wipe_set hm)
theorem dgso_nil : DGso Z is [] gsNil := by
  refine ⟨_, pgs_nil, fun Ho G ρ σ H vs ds Q x r h => ?_⟩
  obtain ⟨ρ', e, q⟩ := h
  cases ds with
  | nil =>
    cases e
    unfold RepL at r
    exact ⟨r, q σ x rfl⟩
  | cons d ds => cases e
theorem dgso_cons {g : D → List Sl → Option (List Sl)} {gs : List D → List Sl → Option (List Sl)} (h1 : DGo Z is e g) (h2 : DGso Z is es gs)
    (hst : (assignEach (e :: es) Z.X.env).map (·.2) = assign e Z.X.env :: (assignEach es Z.X.env).map (·.2) := by rfl) : DGso Z is (e :: es) (gsCons g gs) := by
  obtain ⟨t1, p1, s1⟩ := h1
  obtain ⟨t2, p2, s2⟩ := h2
  refine ⟨_, pgs_cons p1 p2 hst, fun Ho G ρ σ H vs ds Q x r h => ?_⟩
  obtain ⟨ρ', e, q⟩ := h
  cases ds with
  | nil => cases e
  | cons d ds =>
    unfold RepL at r
    obtain ⟨v, vs', rfl, h2, h3⟩ := r
    simp only [gsCons, Option.bind_eq_some_iff] at e
    obtain ⟨ρ1, e1, e2⟩ := e
    refine ⟨v, vs', rfl, s1 Ho G ρ σ H v d _ x h2 ⟨ρ1, e1, fun σ1 x1 w1 => ?_⟩⟩
    exact s2 Ho G ρ1 σ1 H vs' ds Q x1 h3 ⟨ρ', e2, fun σ' x' w' => q σ' x' (w'.trans w1)⟩
theorem dgo_tup {gs : List D → List Sl → Option (List Sl)} {k : Nat} (n : Nat) (h : DGso Z is es gs) (hn : (assignEach es Z.X.env).length = n := by rfl) (hst : (assignEach es Z.X.env).findIdx? (·.1) = none := by rfl) (hh : Z.hot = false := by rfl) : DGo Z is (.Tuple es k pos) (gTp n gs) := by
  obtain ⟨t1, p1, s1⟩ := h
  refine ⟨_, pg_tup (Z.calm hh) p1 hn hst, fun Ho G ρ σ H v d Q x r h => ?_⟩
  obtain ⟨ρ', e, q⟩ := h
  cases d <;> try (cases e; done)
  rename_i ds
  simp only [gTp] at e
  by_cases hl : ds.length = n
  · rw [if_pos hl] at e
    unfold DC.rep Rep at r
    obtain ⟨a, vs, rfl, h1, h2⟩ := r
    exact ⟨a, vs, rfl, Same.sqt x.gh h1, by rw [h2.length]; exact hl, s1 Ho G ρ σ H vs ds _ x h2 ⟨ρ', e, q⟩⟩
  · rw [if_neg hl] at e; cases e
/-- the ifs -/
def DTs (Z : DC) (es : List Expr) (t : M Bool) : Prop := ∃ te, PTs Z.X es te ∧ ∀ Ho, Same Z.Ho Ho → ∀ G ρ σ H Q, Z.R Ho G ρ σ H → LT Z Ho false G H σ (t ρ) Q → te σ H Q
theorem dts_nil : DTs Z [] (ret true) := ⟨_, pts_nil, fun Ho hw G ρ σ H Q x q => q G H x Gr.refl (fun h => nomatch h)⟩
theorem dts_one {p : Bool} {t : M Bool} (h : DT Z p e t) : DTs Z [e] t := by
  obtain ⟨te, pa, sa⟩ := h.mono (p1 := false) (fun h => nomatch h)
  exact ⟨te, pts_one pa, sa⟩
def lcRun (g : D → List Sl → Option (List Sl)) (tt : M Bool) (te : M D) (own : List Nat) : List D → List D → List Sl → Option (List D × List Sl)
  | [], acc, ρ => some (acc, ρ)
  | d :: ds, acc, ρ => match g d ρ with
    | none => none
    | some ρ1 => match tt ρ1 with
      | .ok true ρ2 => match te ρ2 with
        | .ok y ρ3 => if acc.length < sizeLine then lcRun g tt te own ds (acc ++ [y]) (drops own ρ3) else none
        | _ => none
      | .ok false ρ2 => lcRun g tt te own ds acc (drops own ρ2)
      | _ => none
def dLc (t : M (List D)) (g : D → List Sl → Option (List Sl)) (tt : M Bool) (te : M D) (own : List Nat) : M Sl := bnd t fun ds ρ1 => match lcRun g tt te own ds [] (drops own ρ1) with
  | some (acc, ρe) => .ok (.ow none (.lst acc)) (mend own ρ1 ρe)
  | none => .no
theorem LI.then {α : Type} {r : Res (List D)} {u : List D → M α} {L : Res α → Prop} {G : Hp} {σ : L2.St} {Q : It → Hp → Prop} (hex : ∀ x ρ, L (.ex x ρ) → Z.Ex x ρ) (hno : L .no → False)
    (h : L (r.bind u)) (hq : ∀ ds ρ J G' H', Z.R Ho G' ρ σ H' → Gr Ho G G' → ItOk Z Ho J ds G' → L (u ds ρ) → Q J H') : LI Z Ho G σ r Q := by
  cases r with
  | ok d ρ => exact fun v G' H' x g b => hq d ρ v G' H' x g b h
  | ex x ρ => exact hex x ρ h
  | no => exact hno h
/-- a rule for every state of the block is a rule for the block -/
theorem blk_pg {scope : Scope} {is : List Nat} {tg : Expr} {g : D → List Sl → Option (List Sl)} (h : ∀ (s : Shared) (H : Hp) (C : Addr) (cl : List (Str × Addr)) (fp : List Addr), DGo (blkZ Z s H scope (compEnvC scope cl C Z.X.env) fp) is tg g) :
    ∃ tgt : TG, (∀ (s : Shared) (H : Hp) (C : Addr) (cl : List (Str × Addr)) (fp : List Addr), PG (Z.X.blk s H scope (compEnvC scope cl C Z.X.env) fp) tg tgt) ∧
      ∀ Ho G ρ σ H v d Q, Z.R Ho G ρ σ H → Z.rep G d v → (∃ ρ', g d ρ = some ρ' ∧ ∀ σ', Z.R Ho G ρ' σ' H → wipe σ' is = wipe σ is → Q σ' H) → tgt v σ H Q := by
  refine ⟨fun v σ H Q => ∀ s H0 C cl fp, (h s H0 C cl fp).choose v σ H Q, fun s H0 C cl fp => ?_, fun Ho G ρ σ H v d Q x r hq s H0 C cl fp => ?_⟩
  · have p := (h s H0 C cl fp).choose_spec.1
    exact ⟨fun pins s1 σ H v u D I r hh => p.run pins s1 σ H v u D I r (hh s H0 C cl fp)⟩
  · have p := (h s H0 C cl fp).choose_spec.2
    obtain ⟨ρ', e, q⟩ := hq
    exact p Ho G ρ σ H v d Q ⟨x.rs, x.ho, x.g0⟩ r ⟨ρ', e, fun σ' x' w => q σ' ⟨x'.rs, x'.ho, x'.g0⟩ w⟩
theorem blk_pt {scope : Scope} {ifs : List Expr} {tt : M Bool} (h : ∀ (s : Shared) (H : Hp) (C : Addr) (cl : List (Str × Addr)) (fp : List Addr), DTs (blkZ Z s H scope (compEnvC scope cl C Z.X.env) fp) ifs tt) :
    ∃ te : TT, (∀ (s : Shared) (H : Hp) (C : Addr) (cl : List (Str × Addr)) (fp : List Addr), PTs (Z.X.blk s H scope (compEnvC scope cl C Z.X.env) fp) ifs te) ∧
      ∀ Ho, Same Z.Ho Ho → ∀ G ρ σ H Q, Z.R Ho G ρ σ H → (∃ c ρ', tt ρ = .ok c ρ' ∧ ∀ G' H', Z.R Ho G' ρ' σ H' → Gr Ho G G' → Q c H') → te σ H Q := by
  refine ⟨fun σ H Q => ∀ s H0 C cl fp, (h s H0 C cl fp).choose σ H Q, fun s H0 C cl fp => ?_, fun Ho hw G ρ σ H Q x hq s H0 C cl fp => ?_⟩
  · have p := (h s H0 C cl fp).choose_spec.1
    exact ⟨fun pins s1 σ H Q I hh => p.run pins s1 σ H Q I (hh s H0 C cl fp)⟩
  · have p := (h s H0 C cl fp).choose_spec.2
    obtain ⟨c, ρ', e, q⟩ := hq
    refine p Ho hw G ρ σ H Q ⟨x.rs, x.ho, x.g0⟩ ?_
    rw [e]
    exact fun G' H' x' g' _ => q G' H' ⟨x'.rs, x'.ho, x'.g0⟩ g'
theorem blk_pe {scope : Scope} {elt : Expr} {m : Md} {t : M D} (hb : m.b = false) (h : ∀ (s : Shared) (H : Hp) (C : Addr) (cl : List (Str × Addr)) (fp : List Addr), DE (blkZ Z s H scope (compEnvC scope cl C Z.X.env) fp) m elt t) :
    ∃ te : TE, (∀ (s : Shared) (H : Hp) (C : Addr) (cl : List (Str × Addr)) (fp : List Addr), PE (Z.X.blk s H scope (compEnvC scope cl C Z.X.env) fp) elt te) ∧
      ∀ Ho, Same Z.Ho Ho → ∀ G ρ σ H Q, Z.R Ho G ρ σ H → (∃ d ρ', t ρ = .ok d ρ' ∧ ∀ v G' H', Z.R Ho G' ρ' σ H' → Gr Ho G G' → Z.rep G' d v → Q v H') → te σ H Q := by
  refine ⟨fun σ H Q => ∀ s H0 C cl fp, (h s H0 C cl fp).choose σ H Q, fun s H0 C cl fp => ?_, fun Ho hw G ρ σ H Q x hq s H0 C cl fp => ?_⟩
  · have p := (h s H0 C cl fp).choose_spec.1
    exact ⟨fun pins s1 σ H Q I hh => p.run pins s1 σ H Q I (hh s H0 C cl fp)⟩
  · have p := (h s H0 C cl fp).choose_spec.2
    obtain ⟨c, ρ', e, q⟩ := hq
    refine p Ho hw G ρ σ H Q ⟨x.rs, x.ho, x.g0⟩ ?_
    rw [e]
    refine fun v G' H' x' g' _ b' => ?_
    rw [hb] at b'
    exact q v G' H' ⟨x'.rs, x'.ho, x'.g0⟩ g' b'.rep
theorem lc_sem {own : List (Str × Nat)} {t : M (List D)} {g : D → List Sl → Option (List Sl)} {tt : M Bool} {te : M D} {wi : TI} {tgt : TG} {ttt : TT} {tee : TE}
    (si : ∀ Ho, Same Z.Ho Ho → ∀ G ρ σ H Q, Z.R Ho G ρ σ H → LI Z Ho G σ (t ρ) Q → wi σ H Q)
    (sg : ∀ Ho G ρ σ H v d Q, Z.R Ho G ρ σ H → Z.rep G d v → (∃ ρ', g d ρ = some ρ' ∧ ∀ σ', Z.R Ho G ρ' σ' H → wipe σ' (own.map (·.2)) = wipe σ (own.map (·.2)) → Q σ' H) → tgt v σ H Q)
    (st : ∀ Ho, Same Z.Ho Ho → ∀ G ρ σ H Q, Z.R Ho G ρ σ H → (∃ c ρ', tt ρ = .ok c ρ' ∧ ∀ G' H', Z.R Ho G' ρ' σ H' → Gr Ho G G' → Q c H') → ttt σ H Q)
    (se : ∀ Ho, Same Z.Ho Ho → ∀ G ρ σ H Q, Z.R Ho G ρ σ H → (∃ d ρ', te ρ = .ok d ρ' ∧ ∀ v G' H', Z.R Ho G' ρ' σ H' → Gr Ho G G' → Z.rep G' d v → Q v H') → tee σ H Q)
    (hw : Same Z.Ho Ho) {G : Hp} {ρ : List Sl} {σ : L2.St} {H : Hp} {Q : VK} (x : Z.R Ho G ρ σ H) (q : LR Z Ho G σ (dLc t g tt te (own.map (·.2)) ρ) Q) : tLc wi tgt ttt tee (own.map (·.2)) σ H Q := by
  refine si Ho hw G ρ σ H _ x (LI.then (L := fun r => LR Z Ho G σ r Q) (fun _ _ h => h) (fun h => h) q fun ds ρ1 J G1 H1 x1 g1 it q1 => ?_)
  obtain ⟨vs, hvs⟩ : ∃ vs, vs = own.map (·.2) := ⟨_, rfl⟩
  rw [← hvs] at q1 sg ⊢
  intro Da hD
  have x2 : Z.R Ho G1 (.ow none (.lst []) :: drops vs ρ1) (some (.ref Da) :: wipe σ vs) (upd H1 Da (.lst [])) := x1.to ((x1.pushO (.lst RepL.nil) hD).rs.wiped vs) Gr.refl
  cases er : lcRun g tt te vs ds [] (drops vs ρ1) with
  | none => rw [er] at q1; exact q1.elim
  | some ae =>
    obtain ⟨accE, ρE⟩ := ae
    rw [er] at q1
    refine ⟨fun i m H => m = ds.length - i ∧ i ≤ ds.length ∧ ∃ G' ρ' acc, Z.R Ho G' (.ow none (.lst acc) :: ρ') (some (.ref Da) :: wipe σ vs) H ∧ Gr Ho G1 G' ∧ lcRun g tt te vs (ds.drop i) acc ρ' = some (accE, ρE), ⟨ds.length, by simp, Nat.zero_le _, G1, _, [], x2, Gr.refl, er⟩, ?_⟩
    rintro i m H2 ⟨rfl, hi, G2, ρ2, acc, x3, g2, e2⟩
    by_cases hlt : i < ds.length
    · refine .inr ⟨it.go i H2 hlt (g2.1.trans x3.gh), fun H' => ∃ G' ρ' acc, Z.R Ho G' (.ow none (.lst acc) :: ρ') (some (.ref Da) :: wipe σ vs) H' ∧ Gr Ho G1 G' ∧ lcRun g tt te vs (ds.drop (i + 1)) acc ρ' = some (accE, ρE), fun H' h => ⟨ds.length - (i + 1), by omega, rfl, hlt, h⟩, fun v H' y => ?_⟩
      have hd : ds[i]? = some ds[i] := by simp [hlt]
      rw [List.drop_eq_getElem_cons hlt] at e2
      obtain ⟨G3, x4, g3, r3⟩ := it.yld i _ G2 _ _ H2 v H' hd x3 g2.1 y
      unfold lcRun at e2
      cases eg : g ds[i] ρ2 with
      | none => rw [eg] at e2; cases e2
      | some ρ3 =>
        rw [eg] at e2
        obtain ⟨Ho', hh, x5, bk⟩ := x4.lend
        refine sg Ho' G3 ρ2 _ H' v _ _ x5 r3 ⟨ρ3, eg, fun σ3 x6 w6 => ⟨?_, ?_⟩⟩
        · rw [w6, wipe_wipe]
        · simp only at e2
          cases et : tt ρ3 with
          | ex y ρ4 => rw [et] at e2; cases e2
          | no => rw [et] at e2; cases e2
          | ok c ρ4 =>
            rw [et] at e2
            refine st Ho' (hw.trans hh) G3 ρ3 σ3 H' _ x6 ⟨c, ρ4, et, fun G4 H4 x7 g4 => ?_⟩
            cases c with
            | false =>
              rw [if_neg Bool.false_ne_true]
              have x8 := bk G4 ρ4 σ3 H4 g4 x7
              have x9 := x8.rs.wiped vs
              rw [w6, wipe_wipe] at x9
              exact ⟨G4, drops vs ρ4, acc, x8.to x9 Gr.refl, (g2.trans g3).trans (g4.anti hh), e2⟩
            | true =>
              rw [if_pos rfl]
              simp only at e2
              cases ee : te ρ4 with
              | ex y ρ5 => rw [ee] at e2; cases e2
              | no => rw [ee] at e2; cases e2
              | ok d ρ5 =>
                rw [ee] at e2
                simp only at e2
                refine se Ho' (hw.trans hh) G4 ρ4 σ3 H4 _ x7 ⟨d, ρ5, ee, fun v5 G5 H5 x8 g5 r5 => ?_⟩
                by_cases hz : acc.length < sizeLine
                · rw [if_pos hz] at e2
                  have x9 := bk G5 ρ5 σ3 H5 (g4.trans g5) x8
                  obtain ⟨a, vv, h1, h2, h3, h4⟩ := x9.ownL (i := 0) rfl
                  simp only [List.getElem?_cons_zero, Option.some.injEq, V.ref.injEq] at h1
                  subst h1
                  refine ⟨vv, h2, by rw [h3.length]; exact hz, ?_⟩
                  have x10 := h4 _ _ (h3.append (RepL.one r5))
                  simp only [List.set_cons_zero] at x10
                  have x11 := x10.rs.wiped vs
                  rw [w6, wipe_wipe] at x11
                  exact ⟨G5, drops vs ρ5, _, x10.to x11 Gr.refl, (g2.trans g3).trans ((g4.trans g5).anti hh), e2⟩
                · rw [if_neg hz] at e2; cases e2
    · have e : i = ds.length := by omega
      subst e
      refine .inl ⟨it.stop H2 (g2.1.trans x3.gh), ?_⟩
      rw [List.drop_length] at e2
      cases e2
      exact q1 _ G2 H2 (x3.to (x1.rs.mended g2.1 x3.rs) Gr.refl) (g1.trans g2)
theorem dr_lc {tg : Expr} {iter elt : Expr} {ifs : List Expr} {scope : Scope} {m : Md} {t : M (List D)} {g : D → List Sl → Option (List Sl)} {tt : M Bool} {te : M D} (own : List (Str × Nat)) (hN : Z.X.N.Nodup) (hi : DI Z tg iter t)
    (hg : ∀ (s : Shared) (H : Hp) (C : Addr) (cl : List (Str × Addr)) (fp : List Addr), DGo (blkZ Z s H scope (compEnvC scope cl C Z.X.env) fp) (own.map (·.2)) tg g)
    (ht : ∀ (s : Shared) (H : Hp) (C : Addr) (cl : List (Str × Addr)) (fp : List Addr), DTs (blkZ Z s H scope (compEnvC scope cl C Z.X.env) fp) ifs tt)
    (he : ∀ (s : Shared) (H : Hp) (C : Addr) (cl : List (Str × Addr)) (fp : List Addr), DE (blkZ Z s H scope (compEnvC scope cl C Z.X.env) fp) m elt te) (hb : m.b = false := by rfl)
    (ok : blkC Z.X.N Z.X.env.scope scope own = true := by first | (simp only [mkZ_N, mkZ_sc]; decide +kernel) | decide +kernel) (hs : ∀ x, foldedSetIterable iter Z.X.env x = pure x := by intro _; rfl) (hh : Z.hot = false := by rfl) :
    DR Z (.ListComp elt [⟨tg, iter, ifs, 0⟩] scope pos) (dLc t g tt te (own.map (·.2))) := by
  obtain ⟨wi, pi, si⟩ := hi
  obtain ⟨tgt, pg, sg⟩ := blk_pg hg
  obtain ⟨ttt, pt, st⟩ := blk_pt ht
  obtain ⟨tee, pe, se⟩ := blk_pe hb he
  exact ⟨_, pe_lc (Z.calm hh) hN pi (blkOk_by ok) pg pt pe hs, fun Ho hw G ρ σ H Q x q => lc_sem si sg st se hw x q⟩
/-- name = [..] on one line -/
theorem st_setLc {tg : Expr} {iter elt : Expr} {ifs : List Expr} {scope : Scope} {m : Md} {t : M (List D)} {g : D → List Sl → Option (List Sl)} {tt : M Bool} {te : M D} {y : Str} {py spos : Pos} (i : Nat) (own : List (Str × Nat)) (hN : Z.X.N.Nodup) (hi : DI Z tg iter t)
    (hg : ∀ (s : Shared) (H : Hp) (C : Addr) (cl : List (Str × Addr)) (fp : List Addr), DGo (blkZ Z s H scope (compEnvC scope cl C Z.X.env) fp) (own.map (·.2)) tg g)
    (ht : ∀ (s : Shared) (H : Hp) (C : Addr) (cl : List (Str × Addr)) (fp : List Addr), DTs (blkZ Z s H scope (compEnvC scope cl C Z.X.env) fp) ifs tt)
    (he : ∀ (s : Shared) (H : Hp) (C : Addr) (cl : List (Str × Addr)) (fp : List Addr), DE (blkZ Z s H scope (compEnvC scope cl C Z.X.env) fp) m elt te) (hb : m.b = false := by rfl)
    (hy : Z.X.N[i]? = some y := by rfl) (hyl : Z.X.env.scope.names.lookup y = some .local := by rfl)
    (hsw : swapsWith (.ListComp elt [⟨tg, iter, ifs, 0⟩] scope pos) (some (.Name y py)) spos.line Z.X.env = pure true := by rfl)
    (ok : blkC Z.X.N Z.X.env.scope scope own = true := by first | (simp only [mkZ_N, mkZ_sc]; decide +kernel) | decide +kernel) (hs : ∀ x, foldedSetIterable iter Z.X.env x = pure x := by intro _; rfl) (hh : Z.hot = false := by rfl) :
    DSt Z (.Assign [.Name y py] (.ListComp elt [⟨tg, iter, ifs, 0⟩] scope pos) spos) (sSet i (dLc t g tt te (own.map (·.2)))) := by
  obtain ⟨wi, pi, si⟩ := hi
  obtain ⟨tgt, pg, sg⟩ := blk_pg hg
  obtain ⟨ttt, pt, st⟩ := blk_pt ht
  obtain ⟨tee, pe, se⟩ := blk_pe hb he
  refine ⟨_, ps_setLc (Z.calm hh) hN hy hyl hsw pi (blkOk_by ok) pg pt pe hs, fun Ho hw G ρ σ H E x q => ?_⟩
  exact lc_sem si sg st se hw x (DR.thenS q fun s ρ1 v G1 H1 x1 g1 q1 => q1 _ G1 H1 (x1.assign i) g1)
end
end DS

set_option Elab.async false
set_option linter.all false
set_option maxRecDepth 100000
namespace DS
open PySem PySem.Spec PyProof.Rows L2

/-! ### the laws' draws -/
theorem ne_lr : ¬ (kLg = kRe) := by decide +kernel
theorem ne_lt : ¬ (kLg = kTu) := by decide +kernel
theorem ne_lc : ¬ (kLg = kCe) := by decide +kernel
theorem ne_cr : ¬ (kCe = kRe) := by decide +kernel
theorem ne_ct : ¬ (kCe = kTu) := by decide +kernel
theorem ne_rt : ¬ (kRe = kTu) := by decide +kernel
theorem inr_ne {x y : Str} (h : ¬ x = y) : ¬ ((.inr x : Key) = .inr y) := fun e => h (Sum.inr.inj e)
section
variable {s : Dw} {l c : Addr}
theorem kvs_rest : valV (s.kvs l c) (.inr kRe) = some (.int s.rest) := by
  unfold Dw.kvs
  rw [valV_neg (inr_ne ne_lr), valV_neg (inr_ne ne_cr), valV_pos rfl]
theorem kvs_turn : valV (s.kvs l c) (.inr kTu) = some (.int s.turn) := by
  unfold Dw.kvs
  rw [valV_neg (inr_ne ne_lt), valV_neg (inr_ne ne_ct), valV_neg (inr_ne ne_rt), valV_pos rfl]
theorem kvs_large : valV (s.kvs l c) (.inr kLg) = some (.ref l) := by
  unfold Dw.kvs
  rw [valV_pos rfl]
theorem kvs_cells : valV (s.kvs l c) (.inr kCe) = some (.ref c) := by
  unfold Dw.kvs
  rw [valV_neg (inr_ne ne_lc), valV_pos rfl]
theorem kvs_putR {i : Int} : putK (s.kvs l c) (.inr kRe) (.int i) = ({ s with rest := i } : Dw).kvs l c := by
  unfold putK
  rw [valV_any, kvs_rest, if_pos Option.isSome_some]
  unfold Dw.kvs
  simp only [List.map_cons, List.map_nil, if_neg (inr_ne ne_lr), if_neg (inr_ne ne_cr), if_neg (inr_ne (fun e => ne_rt e.symm)), if_true]
theorem kvs_putT {i : Int} : putK (s.kvs l c) (.inr kTu) (.int i) = ({ s with turn := i } : Dw).kvs l c := by
  unfold putK
  rw [valV_any, kvs_turn, if_pos Option.isSome_some]
  unfold Dw.kvs
  simp only [List.map_cons, List.map_nil, if_neg (inr_ne ne_lt), if_neg (inr_ne ne_ct), if_neg (inr_ne ne_rt), if_true]
end
theorem RepL.intsInv {K : PySem.W.Frag} {mg : Str → Option Value} {G : Hp} : ∀ {ns : List Int} {vs : List V}, RepL K mg G (ns.map D.int) vs → vs = ns.map V.int
  | [], vs, h => by unfold List.map RepL at h; exact h
  | n :: ns, vs, h => by
    simp only [List.map_cons] at h
    unfold RepL at h
    obtain ⟨v, vs', rfl, h2, h3⟩ := h
    unfold Rep at h2
    subst h2
    rw [RepL.intsInv h3, List.map_cons]
theorem mergeK_draw {l c : Addr} {ns ks : List Int} : mergeK [] ([(.inr kLg, .ref l), (.inr kCe, .ref c), (.inr kRe, .int 0), (.inr kTu, .int 0)] : List (Key × V)) = (⟨ns, ks, 0, 0⟩ : Dw).kvs l c := by
  unfold mergeK Dw.kvs
  simp only [List.foldl_cons, List.foldl_nil]
  have e1 : putK ([] : List (Key × V)) (.inr kLg) (.ref l) = [(.inr kLg, .ref l)] := putK_new (kvs := []) _ rfl
  have e2 : putK ([(.inr kLg, .ref l)] : List (Key × V)) (.inr kCe) (.ref c) = [(.inr kLg, .ref l), (.inr kCe, .ref c)] := putK_new _ (by rw [valV_neg (inr_ne ne_lc)]; rfl)
  have e3 : putK ([(.inr kLg, .ref l), (.inr kCe, .ref c)] : List (Key × V)) (.inr kRe) (.int 0) = [(.inr kLg, .ref l), (.inr kCe, .ref c), (.inr kRe, .int 0)] := putK_new _ (by rw [valV_neg (inr_ne ne_lr), valV_neg (inr_ne ne_cr)]; rfl)
  have e4 : putK ([(.inr kLg, .ref l), (.inr kCe, .ref c), (.inr kRe, .int 0)] : List (Key × V)) (.inr kTu) (.int 0) = [(.inr kLg, .ref l), (.inr kCe, .ref c), (.inr kRe, .int 0), (.inr kTu, .int 0)] := putK_new _ (by rw [valV_neg (inr_ne ne_lt), valV_neg (inr_ne ne_ct), valV_neg (inr_ne ne_rt)]; rfl)
  rw [e1, e2, e3, e4]
section
variable {K : PySem.W.Frag} {mg : Str → Option Value} {τ : Tau} {Ho G : Hp} {ρ : List Sl} {σ : L2.St} {H : Hp}
theorem own_some {O : Addr → Option Nat} {i : Nat} {a : Addr} {o : HO} (h : own O i H a = some o) : O a = some i ∧ H a = some o := by
  unfold own at h
  by_cases q : O a = some i
  · rw [if_pos q] at h; exact ⟨q, h⟩
  · rw [if_neg q] at h; cases h
theorem own_at {O : Addr → Option Nat} {i : Nat} {a : Addr} (h : O a = some i) : own O i H a = H a := by
  unfold own
  rw [if_pos h]
theorem own_upd {O : Addr → Option Nat} {i j : Nat} {a : Addr} {o : HO} (h : O a = some i) (q : j ≠ i) : own O j (upd H a o) = own O j H := by
  funext b
  unfold own
  by_cases w2 : O b = some j
  · rw [if_pos w2, if_pos w2, upd_ne]
    intro w3; subst w3; rw [h] at w2; cases w2; exact q rfl
  · rw [if_neg w2, if_neg w2]
/-- a draw: read, and changed -/
theorem RS.draw (x : RS K mg τ Ho G ρ σ H) {i : Nat} {t : Option Nat} {s : Dw} (e : ρ[i]? = some (.rs t s)) : ∃ a l c, σ[i]? = some (some (.ref a)) ∧ H a = some (.dK (s.kvs l c)) ∧ H l = some (.lst (s.large.map V.int)) ∧ G c = some (.lst (s.cells.map V.int)) ∧
    (∀ r u, RS K mg τ Ho G (ρ.set i (.rs t { s with rest := r, turn := u })) σ (upd H a (.dK (({ s with rest := r, turn := u } : Dw).kvs l c)))) ∧
    (∀ m, RS K mg τ Ho G (ρ.set i (.rs t { s with large := m })) σ (upd H l (.lst (m.map V.int)))) := by
  obtain ⟨O, x⟩ := x
  obtain ⟨a, h1, h0, l, c, h2, h3, h4⟩ := x.sl i _ e
  obtain ⟨oa, ha⟩ := own_some h2
  obtain ⟨ol, hl⟩ := own_some h3
  have nal : a ≠ l := by rintro rfl; rw [ha] at hl; cases hl
  have hs : σ[i]? = some (some (.ref a)) := by
    cases q : σ[i]? with
    | none => rw [q] at h1; cases h1
    | some w => rw [q] at h1; rw [show w = some (.ref a) from h1]
  have hj : i < ρ.length := (List.getElem?_eq_some_iff.mp e).1
  have gen : ∀ (b : Addr) (o : HO) (s' : Dw), O b = some i → SlOk K mg τ G (own O i (upd H b o)) (.rs t s') (some (.ref a)) → RS K mg τ Ho G (ρ.set i (.rs t s')) σ (upd H b o) := fun b o s' ob ok => by
    obtain ⟨gb, hob, hb⟩ := x.oh b i ob
    refine ⟨O, fun d u q => ?_, fun d j q => ?_, fun d u q => ?_, by simp [x.len], fun j s1 q => ?_⟩
    · rw [upd_ne (ne_of_none q gb)]; exact x.gh d u q
    · obtain ⟨z1, z2, z3⟩ := x.oh d j q
      refine ⟨z1, z2, ?_⟩
      by_cases w : d = b
      · subst w; rw [upd_same]; simp
      · rw [upd_ne w]; exact z3
    · rw [upd_ne (ne_of_none q hob)]; exact x.out d u q
    · by_cases w : j = i
      · subst w
        rw [List.getElem?_set_self hj] at q
        cases q
        rw [hs]
        exact ok
      · rw [List.getElem?_set_ne (Ne.symm w)] at q
        rw [own_upd ob w]
        exact x.sl j s1 q
  refine ⟨a, l, c, hs, ha, hl, h4, fun r u => gen a _ _ oa ⟨a, rfl, h0, l, c, ?_, ?_, h4⟩, fun m => gen l _ _ ol ⟨a, rfl, h0, l, c, ?_, ?_, h4⟩⟩
  · rw [own_at oa, upd_same]
  · rw [own_at ol, upd_ne (Ne.symm nal)]; exact hl
  · rw [own_at oa, upd_ne nal]; exact ha
  · rw [own_at ol, upd_same]
/-- a new draw, of an empty dict of one's own and a list of one's own -/
theorem RS.newDraw {v1 : V} {p : Addr} {ds : List D} {t1 : Option Nat} {s : Dw} {c : Addr} {dd : D} (x : RS K mg τ Ho G (.ow none dd :: .ow t1 (.lst ds) :: ρ) (some (.ref p) :: some v1 :: σ) H) (hl : ds = s.large.map D.int) (hc : G c = some (.lst (s.cells.map V.int))) :
    ∃ l, v1 = .ref l ∧ RS K mg τ Ho G (.rs none s :: ρ) (some (.ref p) :: σ) (upd H p (.dK (s.kvs l c))) := by
  obtain ⟨O, x⟩ := x
  obtain ⟨p', o, e1, _, h2, _⟩ := x.sl 0 _ rfl
  obtain ⟨l, o2, e2, _, h3, h4⟩ := x.sl 1 _ rfl
  simp at e1 e2
  subst e1 e2
  obtain ⟨op, hp⟩ := own_some h2
  obtain ⟨ol, hl2⟩ := own_some h3
  have npl : p ≠ l := by rintro rfl; rw [op] at ol; cases ol
  have ho2 : o2 = .lst (s.large.map V.int) := by
    cases h4 with
    | lst h4 =>
      subst hl
      have : ∀ (ns : List Int) (vs : List V), RepL K mg G (ns.map D.int) vs → vs = ns.map V.int := by
        intro ns
        induction ns with
        | nil => intro vs h; unfold RepL at h; exact h
        | cons n ns ih =>
          intro vs h
          simp only [List.map_cons] at h
          unfold RepL at h
          obtain ⟨v, vs', rfl, h2, h3⟩ := h
          unfold Rep at h2
          subst h2
          rw [ih _ h3, List.map_cons]
      rw [this _ _ h4]
  subst ho2
  obtain ⟨gp, hop, _⟩ := x.oh p 0 op
  refine ⟨l, rfl, fun a => match O a with | some 0 => some 0 | some (j + 1) => some j | none => none, fun d u q => ?_, fun d j q => ?_, fun d u q => ?_, by simpa using x.len, fun j s2 q => ?_⟩
  · rw [upd_ne (ne_of_none q gp)]; exact x.gh d u q
  · have : ∃ k, O d = some k := by
      cases w : O d with
      | none => simp only [w] at q; cases q
      | some k => exact ⟨k, rfl⟩
    obtain ⟨k, hk⟩ := this
    obtain ⟨z1, z2, z3⟩ := x.oh d k hk
    refine ⟨z1, z2, ?_⟩
    by_cases w : d = p
    · subst w; rw [upd_same]; simp
    · rw [upd_ne w]; exact z3
  · rw [upd_ne (ne_of_none q hop)]; exact x.out d u q
  · cases j with
    | zero =>
      simp at q
      subst q
      refine ⟨p, rfl, (fun _ q => nomatch q), l, c, ?_, ?_, hc⟩
      · rw [own_at (by simp only [op]), upd_same]
      · rw [own_at (by simp only [ol]), upd_ne (Ne.symm npl)]; exact hl2
    | succ j =>
      have z : own (fun a => match O a with | some 0 => some 0 | some (j + 1) => some j | none => none) (j + 1) (upd H p (.dK (s.kvs l c))) = own O (j + 2) H := by
        rw [own_upd (i := 0) (by simp only [op]) (by omega)]
        refine own_of fun a => ?_
        match w : O a with
        | none => simp only [w]; simp
        | some 0 => simp only [w]; simp
        | some (k + 1) => simp only [w]; simp
      rw [z]
      exact x.sl (j + 2) s2 (by simpa using q)
end
section
variable {Z : DC} {Ho : Hp} {m m2 m3 m4 : Md} {e e1 e2 e3 e4 tg : Expr} {t : M D} {pos pos' p p2 p3 p4 p5 p6 p7 p8 pos2 : Pos} {j j1 j2 j3 j4 j5 : Nat}
theorem DC.R.draw {G H : Hp} {ρ : List Sl} {σ : L2.St} (x : Z.R Ho G ρ σ H) {i : Nat} {t : Option Nat} {s : Dw} (e : ρ[i]? = some (.rs t s)) : ∃ a l c, σ[i]? = some (some (.ref a)) ∧ H a = some (.dK (s.kvs l c)) ∧ H l = some (.lst (s.large.map V.int)) ∧ G c = some (.lst (s.cells.map V.int)) ∧
    (∀ r u, Z.R Ho G (ρ.set i (.rs t { s with rest := r, turn := u })) σ (upd H a (.dK (({ s with rest := r, turn := u } : Dw).kvs l c)))) ∧
    (∀ m, Z.R Ho G (ρ.set i (.rs t { s with large := m })) σ (upd H l (.lst (m.map V.int)))) := by
  obtain ⟨a, l, c, h1, h2, h3, h4, h5, h6⟩ := x.rs.draw e
  exact ⟨a, l, c, h1, h2, h3, h4, fun r u => x.to (h5 r u) Gr.refl, fun m => x.to (h6 m) Gr.refl⟩
def drw : Option Sl → Option (Option Nat × Dw)
  | some (.rs t s) => some (t, s)
  | _ => none
theorem drw_some {o : Option Sl} {t : Option Nat} {s : Dw} (h : drw o = some (t, s)) : o = some (.rs t s) := by
  match o, h with
  | some (.rs t s), h => cases h; rfl
def dwI (f : Dw → Int) (i : Nat) : M D := fun ρ => match drw ρ[i]? with
  | some (_, s) => .ok (.int (f s)) ρ
  | none => .no
theorem nosl_c {c : PySem.Const} : NoSl (.Constant c j p) := fun _ _ => rfl
/-- draw['rest'] -/
theorem de_drawR (i : Nat) {x : Str} (hN : Z.X.N[i]? = some x := by rfl) (hv : Vis Z.X.env.scope x := by first | exact Or.inl rfl | exact Or.inr (Or.inl rfl) | exact Or.inr (Or.inr rfl)) (hd : (x == ("__debug__" : Str)) = false := by decide)
    (hcd : (x == ("__classdict__" : Str)) = false := by decide) : DE Z ⟨true, false⟩ (.Subscript (.Name x p) (.Constant (.str "rest") j p2) pos) (dwI (·.rest) i) := by
  refine ⟨_, pe_dget (Nat.lt_of_le_of_lt (by omega) Z.units) (pe_var hN hv hd hcd) pe_str (fun _ _ => rfl), fun Ho hw G ρ σ H Q x q => ?_⟩
  unfold dwI at q
  cases ed : drw ρ[i]? with
  | none => rw [ed] at q; exact q.elim
  | some ts =>
    obtain ⟨t, s⟩ := ts
    rw [ed] at q
    obtain ⟨a, l, c, h1, h2, h3, h4, _, _⟩ := x.draw (drw_some ed)
    refine ⟨_, h1, a, _, rfl, ?_, q (.int s.rest) G H x Gr.refl (fun _ => Same.refl _) (.inl rep_int)⟩
    have := DGet.k (k := .inr kRe) h2
    rw [kvs_rest] at this
    exact this
/-- draw['turn'] -/
theorem de_drawT (i : Nat) {x : Str} (hN : Z.X.N[i]? = some x := by rfl) (hv : Vis Z.X.env.scope x := by first | exact Or.inl rfl | exact Or.inr (Or.inl rfl) | exact Or.inr (Or.inr rfl)) (hd : (x == ("__debug__" : Str)) = false := by decide)
    (hcd : (x == ("__classdict__" : Str)) = false := by decide) : DE Z ⟨true, false⟩ (.Subscript (.Name x p) (.Constant (.str "turn") j p2) pos) (dwI (·.turn) i) := by
  refine ⟨_, pe_dget (Nat.lt_of_le_of_lt (by omega) Z.units) (pe_var hN hv hd hcd) pe_str (fun _ _ => rfl), fun Ho hw G ρ σ H Q x q => ?_⟩
  unfold dwI at q
  cases ed : drw ρ[i]? with
  | none => rw [ed] at q; exact q.elim
  | some ts =>
    obtain ⟨t, s⟩ := ts
    rw [ed] at q
    obtain ⟨a, l, c, h1, h2, h3, h4, _, _⟩ := x.draw (drw_some ed)
    refine ⟨_, h1, a, _, rfl, ?_, q (.int s.turn) G H x Gr.refl (fun _ => Same.refl _) (.inl rep_int)⟩
    have := DGet.k (k := .inr kTu) h2
    rw [kvs_turn] at this
    exact this
/-- draw[..] = an int -/
def sDw (f : Dw → Int → Dw) (i : Nat) (t : M D) : MS := fun ρ => (t ρ).andS fun d ρ => match d, drw ρ[i]? with
  | .int z, some (t, s) => .nx (ρ.set i (.rs t (f s z)))
  | _, _ => .no
theorem st_drawR (i : Nat) {x : Str} (h : DE Z m e t) (hN : Z.X.N[i]? = some x := by rfl) (hv : Vis Z.X.env.scope x := by first | exact Or.inl rfl | exact Or.inr (Or.inl rfl) | exact Or.inr (Or.inr rfl)) (hd : (x == ("__debug__" : Str)) = false := by decide)
    (hcd : (x == ("__classdict__" : Str)) = false := by decide) (hs : swapsWith e (some (.Subscript (.Name x p) (.Constant (.str "rest") j p2) pos')) pos.line Z.X.env = pure false := by rfl) :
    DSt Z (.Assign [.Subscript (.Name x p) (.Constant (.str "rest") j p2) pos'] e pos) (sDw (fun s z => { s with rest := z }) i t) := by
  obtain ⟨te, pa, sa⟩ := h
  refine ⟨_, ps_dput (Nat.lt_of_le_of_lt (by omega) Z.units) (pe_var hN hv hd hcd) pe_str pa hs, fun Ho hw G ρ σ H E x q => ?_⟩
  refine sa Ho hw G ρ σ H _ x (DE.thenS q fun d ρ1 v G1 H1 x1 g1 s1 b1 q1 => ?_)
  cases ed : drw ρ1[i]? with
  | none => simp only [ed] at q1; cases d <;> exact q1.elim
  | some ts =>
    obtain ⟨t, s⟩ := ts
    cases d <;> try (exact q1.elim)
    rename_i z
    simp only [ed] at q1
    have := b1.int
    subst this
    obtain ⟨a, l, c, h1, h2, h3, h4, h5, _⟩ := x1.draw (drw_some ed)
    have y := h5 z s.turn
    refine ⟨_, h1, a, _, rfl, DPut.k (k := .inr kRe) h2 (by unfold Dw.kvs; simp; decide), ?_⟩
    rw [kvs_putR]
    exact q1 σ G1 _ y g1
theorem st_drawT (i : Nat) {x : Str} (h : DE Z m e t) (hN : Z.X.N[i]? = some x := by rfl) (hv : Vis Z.X.env.scope x := by first | exact Or.inl rfl | exact Or.inr (Or.inl rfl) | exact Or.inr (Or.inr rfl)) (hd : (x == ("__debug__" : Str)) = false := by decide)
    (hcd : (x == ("__classdict__" : Str)) = false := by decide) (hs : swapsWith e (some (.Subscript (.Name x p) (.Constant (.str "turn") j p2) pos')) pos.line Z.X.env = pure false := by rfl) :
    DSt Z (.Assign [.Subscript (.Name x p) (.Constant (.str "turn") j p2) pos'] e pos) (sDw (fun s z => { s with turn := z }) i t) := by
  obtain ⟨te, pa, sa⟩ := h
  refine ⟨_, ps_dput (Nat.lt_of_le_of_lt (by omega) Z.units) (pe_var hN hv hd hcd) pe_str pa hs, fun Ho hw G ρ σ H E x q => ?_⟩
  refine sa Ho hw G ρ σ H _ x (DE.thenS q fun d ρ1 v G1 H1 x1 g1 s1 b1 q1 => ?_)
  cases ed : drw ρ1[i]? with
  | none => simp only [ed] at q1; cases d <;> exact q1.elim
  | some ts =>
    obtain ⟨t, s⟩ := ts
    cases d <;> try (exact q1.elim)
    rename_i z
    simp only [ed] at q1
    have := b1.int
    subst this
    obtain ⟨a, l, c, h1, h2, h3, h4, h5, _⟩ := x1.draw (drw_some ed)
    have y := h5 s.rest z
    refine ⟨_, h1, a, _, rfl, DPut.k (k := .inr kTu) h2 (by unfold Dw.kvs; simp; decide), ?_⟩
    rw [kvs_putT]
    exact q1 σ G1 _ y g1
/-- for .. in draw['cells'] -/
def lDwC (i : Nat) : M (List D) := fun ρ => match drw ρ[i]? with
  | some (_, s) => .ok (s.cells.map D.int) ρ
  | none => .no
theorem di_drawC (i : Nat) {x : Str} (hN : Z.X.N[i]? = some x := by rfl) (hv : Vis Z.X.env.scope x := by first | exact Or.inl rfl | exact Or.inr (Or.inl rfl) | exact Or.inr (Or.inr rfl)) (hd : (x == ("__debug__" : Str)) = false := by decide)
    (hcd : (x == ("__classdict__" : Str)) = false := by decide) : DI Z tg (.Subscript (.Name x p) (.Constant (.str "cells") j p2) pos) (lDwC i) := by
  refine ⟨_, pi_list (pe_dget (Nat.lt_of_le_of_lt (by omega) Z.units) (pe_var hN hv hd hcd) pe_str (fun _ _ => rfl)), fun Ho hw G ρ σ H R x q => ?_⟩
  unfold lDwC at q
  cases ed : drw ρ[i]? with
  | none => rw [ed] at q; exact q.elim
  | some ts =>
    obtain ⟨t, s⟩ := ts
    rw [ed] at q
    obtain ⟨a, l, c, h1, h2, h3, h4, _, _⟩ := x.draw (drw_some ed)
    refine ⟨_, h1, a, _, rfl, ?_, c, rfl, ⟨_, SqL.of (x.gh _ _ h4)⟩, q _ G H x Gr.refl (it_list (SqL.of h4) (RepL.ints _))⟩
    have := DGet.k (k := .inr kCe) h2
    rw [kvs_cells] at this
    exact this
/-- draw['large'], looked at -/
def dwL (i : Nat) : M D := fun ρ => match drw ρ[i]? with
  | some (_, s) => .ok (.lst (s.large.map D.int)) ρ
  | none => .no
theorem de_drawL (i : Nat) {x : Str} (hN : Z.X.N[i]? = some x := by rfl) (hv : Vis Z.X.env.scope x := by first | exact Or.inl rfl | exact Or.inr (Or.inl rfl) | exact Or.inr (Or.inr rfl)) (hd : (x == ("__debug__" : Str)) = false := by decide)
    (hcd : (x == ("__classdict__" : Str)) = false := by decide) : DE Z ⟨true, true⟩ (.Subscript (.Name x p) (.Constant (.str "large") j p2) pos) (dwL i) := by
  refine ⟨_, pe_dget (Nat.lt_of_le_of_lt (by omega) Z.units) (pe_var hN hv hd hcd) pe_str (fun _ _ => rfl), fun Ho hw G ρ σ H Q x q => ?_⟩
  unfold dwL at q
  cases ed : drw ρ[i]? with
  | none => rw [ed] at q; exact q.elim
  | some ts =>
    obtain ⟨t, s⟩ := ts
    rw [ed] at q
    obtain ⟨a, l, c, h1, h2, h3, h4, _, _⟩ := x.draw (drw_some ed)
    refine ⟨_, h1, a, _, rfl, ?_, q (.ref l) G H x Gr.refl (fun _ => Same.refl _) (.inr ⟨rfl, l, _, rfl, h3, .lst (RepL.ints _)⟩)⟩
    have := DGet.k (k := .inr kLg) h2
    rw [kvs_large] at this
    exact this
/-- [], looked at -/
theorem de_nilL : DE Z ⟨true, false⟩ (.List [] pos) (ret (.lst [])) := by
  refine ⟨_, pe_lst pa_nil, fun Ho hw G ρ σ H Q x q => ?_⟩
  refine ⟨Nat.zero_le _, fun p hp => ?_⟩
  obtain ⟨x2, g2⟩ := x.allocF (o := .lst []) hp
  refine q _ _ _ x2 g2 (fun _ => same_upd hp) (.inl ?_)
  unfold Rep
  exact ⟨p, [], rfl, upd_same, RepL.nil⟩
/-- draw['large'].pop(0) -/
def dwP (i : Nat) : M D := fun ρ => match drw ρ[i]? with
  | some (t, s) => match s.large with
    | n :: ns => .ok (.int n) (ρ.set i (.rs t { s with large := ns }))
    | [] => .no
  | none => .no
theorem de_drawP (i : Nat) {x : Str} {apos cpos : Pos} {j2 : Nat} (hN : Z.X.N[i]? = some x := by rfl) (hv : Vis Z.X.env.scope x := by first | exact Or.inl rfl | exact Or.inr (Or.inl rfl) | exact Or.inr (Or.inr rfl)) (hd : (x == ("__debug__" : Str)) = false := by decide)
    (hcd : (x == ("__classdict__" : Str)) = false := by decide)
    (hbase : attributeBase (.Subscript (.Name x p) (.Constant (.str "large") j p2) pos) "pop" Z.X.env (eval (.Subscript (.Name x p) (.Constant (.str "large") j p2) pos) Z.X.env) = eval (.Subscript (.Name x p) (.Constant (.str "large") j p2) pos) Z.X.env := by rfl)
    (hfew : ((backTo cpos (starEach ((.Constant (.int 0) j2 p3 : Expr) :: []) Z.X.env)).all (fun x => !x.1) && (backToKw cpos (keywordEach [] Z.X.env)).all (fun x => x.1.isSome)
      && decide (((.Constant (.int 0) j2 p3 : Expr) :: ([] : List Expr)).length + ([] : List Keyword).length + (if ([] : List Keyword).isEmpty then 0 else 1) < 30)) = true := by rfl)
    (hline : (apos.endLine == cpos.line) = true := by rfl) (hs : starEach ((.Constant (.int 0) j2 p3 : Expr) :: []) Z.X.env = (false, eval (.Constant (.int 0) j2 p3) Z.X.env) :: starEach [] Z.X.env := by rfl) (hplain : (backTo cpos (starEach [] Z.X.env)).any (·.1) = false := by rfl) :
    DE Z ⟨false, false⟩ (.Call (.Attribute (.Subscript (.Name x p) (.Constant (.str "large") j p2) pos) "pop" apos) [.Constant (.int 0) j2 p3] [] cpos) (dwP i) := by
  refine ⟨_, pe_bm PySem.F.plainAttrs_list PySem.F.slot_list_pop PySem.F.type_list_pop mt_popAt (pe_dget (Nat.lt_of_le_of_lt (by omega) Z.units) (pe_var hN hv hd hcd) pe_str (fun _ _ => rfl)) (pa_cons pe_int pa_nil hs) hbase hfew hline hs hplain, fun Ho hw G ρ σ H Q x q => ?_⟩
  unfold dwP at q
  cases ed : drw ρ[i]? with
  | none => rw [ed] at q; exact q.elim
  | some ts =>
    obtain ⟨t, s⟩ := ts
    rw [ed] at q
    obtain ⟨a, l, c, h1, h2, h3, h4, _, h6⟩ := x.draw (drw_some ed)
    cases el : s.large with
    | nil => simp only [el] at q; exact q.elim
    | cons n ns =>
      simp only [el] at q
      rw [el] at h3
      have g : DGet H a (.str kLg) (some (.ref l)) := by
        have := DGet.k (k := .inr kLg) h2
        rw [kvs_large] at this
        exact this
      refine ⟨_, h1, a, _, rfl, g, .inl ⟨rfl, _, SqL.of h3⟩, ?_⟩
      refine ⟨l, _, 0, 0, .int n, rfl, rfl, h3, by decide, by decide, ?_, rfl, ?_⟩
      · simp [seqIndex?]
      · have y := h6 ns
        simp only [List.map_cons, List.eraseIdx_cons_zero]
        exact q (.int n) G _ y Gr.refl (fun h => nomatch h) (.inl rep_int)
def asInt : D → Option Int
  | .int n => some n
  | _ => none
def asInts : List D → Option (List Int)
  | [] => some []
  | d :: ds => match asInt d, asInts ds with
    | some n, some ns => some (n :: ns)
    | _, _ => none
theorem asInts_some : ∀ {ds : List D} {ns : List Int}, asInts ds = some ns → ds = ns.map D.int
  | [], ns, h => by unfold asInts at h; cases h; rfl
  | d :: ds, ns, h => by
    unfold asInts at h
    cases hd : asInt d with
    | none => rw [hd] at h; cases h
    | some n =>
      cases hs : asInts ds with
      | none => rw [hd, hs] at h; cases h
      | some ns' =>
        rw [hd, hs] at h
        cases h
        cases d <;> try (cases hd; done)
        cases hd
        rw [asInts_some hs]
        rfl
def dwNew (t1 : M Sl) (t2 : M D) : M Sl := bnd t1 fun s1 => bnd t2 fun d2 => lft (match s1, d2 with
  | .ow _ (.lst ds), .lst es => match asInts ds, asInts es with
    | some ns, some ks => some (.rs none ⟨ns, ks, 0, 0⟩)
    | _, _ => none
  | _, _ => none)
/-- the new draw -/
theorem dr_draw {t1 : M Sl} {t2 : M D} (h1 : DR Z e1 t1) (h2 : DE Z m2 e2 t2) (hb : m2.b = false := by rfl) : DR Z (.Dict [some (.Constant (.str "large") j1 p), some (.Constant (.str "cells") j2 p2), some (.Constant (.str "rest") j3 p3), some (.Constant (.str "turn") j4 p4)] [e1, e2, .Constant (.int 0) j p5, .Constant (.int 0) j5 p6] pos) (dwNew t1 t2) := by
  obtain ⟨te1, pa1, sa1⟩ := h1
  obtain ⟨te2, pa2, sa2⟩ := h2
  refine ⟨_, pe_disp (pps_cons pe_str pa1 (pps_cons pe_str pa2 (pps_cons pe_str pe_int (pps_cons pe_str pe_int pps_nil)))) rfl rfl (by simp) (show (4 : Nat) ≤ 15 by decide), fun Ho hw G ρ σ H Q x q => ?_⟩
  intro pp hp
  have y := x.pushO (d := .dct []) (o := .dK []) (.dct (by unfold RepK; rfl)) hp
  obtain ⟨Ho1, hh1, y1, bk1⟩ := y.lend
  refine sa1 Ho1 (hw.trans hh1) G ρ σ _ _ y1 (DR.then (L := fun r => LR Z Ho G σ r Q) (fun _ _ h => h) (fun h => h) q fun s1 ρ1 v1 G1 H1 x1 g1 q1 => ?_)
  obtain ⟨Ho2, hh2, y2, bk2⟩ := x1.lend
  refine sa2 Ho2 ((hw.trans hh1).trans hh2) G1 ρ1 σ H1 _ y2 (DE.then (L := fun r => LR Z Ho G σ r Q) (fun _ _ h => h) (fun h => h) q1 fun d2 ρ2 v2 G2 H2 x2 g2 s2 b2 q2 => ?_)
  rw [hb] at b2
  replace b2 := b2.rep
  have z := bk1 _ _ _ _ (g1.trans (g2.anti hh2)) (bk2 _ _ _ _ g2 x2)
  unfold lft at q2
  cases s1 <;> try (exact q2.elim)
  rename_i t1 dd
  cases dd <;> try (exact q2.elim)
  rename_i ds
  cases d2 <;> try (exact q2.elim)
  rename_i es
  cases en : asInts ds with
  | none => simp only [en] at q2; exact q2.elim
  | some ns =>
    cases ek : asInts es with
    | none => simp only [en, ek] at q2; exact q2.elim
    | some ks =>
      simp only [en, ek] at q2
      unfold Rep at b2
      obtain ⟨c, vs, rfl, hc, hr⟩ := b2
      have hvs : vs = ks.map V.int := by
        have := asInts_some ek
        subst this
        exact RepL.intsInv hr
      subst hvs
      obtain ⟨l, rfl, z2⟩ := z.rs.newDraw (s := ⟨ns, ks, 0, 0⟩) (c := c) (asInts_some en) hc
      obtain ⟨a0, o0, e0, h0, t0, _⟩ := z.mut (i := 0) rfl
      simp at e0
      subst e0
      cases t0 with
      | dct t0 =>
        unfold RepK at t0
        subst t0
        refine ⟨h0, [(.inr kLg, .ref l), (.inr kCe, .ref c), (.inr kRe, .int 0), (.inr kTu, .int 0)], rfl, by simp, ?_⟩
        have em : mergeK [] ([(.inr kLg, .ref l), (.inr kCe, .ref c), (.inr kRe, .int 0), (.inr kTu, .int 0)] : List (Key × V)) = (⟨ns, ks, 0, 0⟩ : Dw).kvs l c := by
          exact mergeK_draw
        rw [em]
        exact q2 _ G2 _ (x.to z2 ((g1.trans (g2.anti hh2)).anti hh1)) ((g1.trans (g2.anti hh2)).anti hh1)
end
end DS

set_option Elab.async false
set_option linter.all false
set_option maxRecDepth 100000
namespace DS
open PySem PySem.Spec PyProof.Rows L2

/-! ### isinstance, with classes of the language -/
def D.tyS : D → Option String
  | .non => some "NoneType"
  | .bl _ => some "bool"
  | .int _ => some "int"
  | .str _ => some "str"
  | .tup _ => some "tuple"
  | .lst _ => some "list"
  | .dct _ => some "dict"
  | .scr _ => some "list"
  | _ => none
section
variable {Z : DC} {m m1 m2 : Md} {e a b : Expr} {t ta tb : M D} {pos p p2 p3 : Pos} {es : List Expr}
theorem seqL_ty {K : PySem.W.Frag} {H : Hp} {a : Addr} {xs : List V} (h : SqL K H a xs) : TyX K H (.ref a) (.type "list") := by
  rcases h with (h | ⟨o, h⟩) | ⟨o, its, n, h1, h2, _⟩
  · exact .base (.lst h)
  · exact .base (.frz h)
  · exact .kList h1 h2
theorem seqT_ty {K : PySem.W.Frag} {H : Hp} {a : Addr} {xs : List V} (h : SqT K H a xs) : TyX K H (.ref a) (.type "tuple") := by
  rcases h with (h | ⟨o, h⟩) | ⟨o, its, n, h1, h2, _⟩
  · exact .base (.tup h)
  · exact .fTuple h
  · exact .kTuple h1 h2
theorem BR.tyX {K : PySem.W.Frag} {mg : Str → Option Value} {b : Bool} {G H : Hp} {d : D} {v : V} {s : String} (e : Same G H) (h : BR K mg b G H d v) (hs : d.tyS = some s) : TyX K H v (.type s) := by
  cases d <;> try (cases hs; done)
  · cases hs; rw [h.non]; exact .base .non
  · cases hs; rw [h.bl]; exact .base (.bl _)
  · cases hs; rw [h.int]; exact .base (.int _)
  · cases hs; rw [h.str.1]; exact .base (.str _)
  · cases hs; obtain ⟨a, vs, rfl, h1, _⟩ := h.tup; exact seqT_ty (Same.sqt e h1)
  · cases hs; obtain ⟨a, vs, rfl, h1, _⟩ := h.lst e; exact seqL_ty (SqL.of h1)
  · cases hs; obtain ⟨a, vs, rfl, h1, _⟩ := h.dct e; exact .base (.dK h1)
  · cases hs; obtain ⟨a, rfl, h1⟩ := h.scr; exact seqL_ty (Same.seq e h1)
/-- the classes' names, as arguments -/
def DCl (Z : DC) (es : List Expr) (cs : List String) : Prop := ∃ ta, PA Z.X es ta ∧ ∀ σ H Q, Q (cs.map V.ty) H → ta σ H Q
theorem dcl_nil : DCl Z [] [] := ⟨_, pa_nil, fun σ H Q q => q⟩
theorem dcl_cons {x : Str} {c : String} {cs : List String} (hv : bootBuiltins x = some (.type c)) (hm : Z.X.mg x = none) (hr : DCl Z es cs) (hg : Gl Z.X x := by rfl) (hn : x ≠ "__name__" := by decide) (hd : (x == ("__debug__" : Str)) = false := by decide)
    (hs : starEach ((.Name x p : Expr) :: es) Z.X.env = (false, eval (.Name x p) Z.X.env) :: starEach es Z.X.env := by rfl) : DCl Z (.Name x p :: es) (c :: cs) := by
  obtain ⟨ta, pa, sa⟩ := hr
  refine ⟨_, pa_cons (pe_bltn (v := .ty c) hg hm hv rfl hn hd) pa hs, fun σ H Q q => ?_⟩
  exact sa σ H _ q
def kitAnyB (a : String) : List String → Option Bool
  | [] => some false
  | c :: cs => match kitB a c with
    | some true => some true
    | some false => kitAnyB a cs
    | none => none
theorem kitAnyB_ok {K : PySem.W.Frag} {a : String} : ∀ {cs : List String} {r : Bool}, kitAnyB a cs = some r → PySem.W.kitAny K (.type a) (cs.map Value.type) = some r
  | [], r, h => by cases h; exact kitAny_nil
  | c :: cs, r, h => by
    unfold kitAnyB at h
    rw [List.map_cons]
    split at h
    · rename_i q
      cases h
      exact kitAny_cons (kit_ty q) (fun z => nomatch z) fun _ => rfl
    · rename_i q
      exact kitAny_cons (kit_ty q) (fun _ => kitAnyB_ok h) fun z => nomatch z
    · cases h
def fIsi (cs : List String) : D → Option D := fun d => d.tyS.bind fun a => (kitAnyB a cs).map D.bl
theorem kitAnyB_one {a c : String} {r : Bool} (h : kitAnyB a [c] = some r) : kitB a c = some r := by
  unfold kitAnyB at h
  split at h
  · rename_i q; cases h; exact q
  · rename_i q; unfold kitAnyB at h; cases h; exact q
  · cases h
/-- isinstance(e, C) -/
theorem de_isi {x : Str} {c : String} (hm : Z.X.mg "isinstance" = none) (h : DE Z m e t) (hv : bootBuiltins x = some (.type c)) (hm2 : Z.X.mg x = none) (hg : Gl Z.X "isinstance" := by rfl) (hg2 : Gl Z.X x := by rfl) (hn : x ≠ "__name__" := by decide) (hd : (x == ("__debug__" : Str)) = false := by decide)
    (he : starEach (e :: [(.Name x p2 : Expr)]) Z.X.env = (false, eval e Z.X.env) :: starEach [.Name x p2] Z.X.env := by rfl) (he2 : starEach [(.Name x p2 : Expr)] Z.X.env = (false, eval (.Name x p2) Z.X.env) :: starEach [] Z.X.env := by rfl) (hpl : (backTo pos (starEach [(.Name x p2 : Expr)] Z.X.env)).any (·.1) = false := by rfl) :
    DE Z ⟨m.p, false⟩ (.Call (.Name "isinstance" p) [e, .Name x p2] [] pos) (d1 (fIsi [c]) t) := by
  obtain ⟨te, pa, sa⟩ := h
  refine ⟨_, pe_callB call_isi hg hm (by decide +kernel) (pa_cons pa (pa_cons (pe_bltn (v := .ty c) hg2 hm2 hv rfl hn hd) pa_nil he2) he) (by decide) (by decide) he hpl, fun Ho hw G ρ σ H Q x q => ?_⟩
  refine sa Ho hw G ρ σ H _ x (DE.then (L := fun r => LJ Z Ho ⟨m.p, false⟩ G H σ r Q) (fun _ _ h => h) (fun h => h) q fun d ρ1 v G1 H1 x1 g1 s1 b1 q1 => ?_)
  unfold lft fIsi at q1
  cases ed : d.tyS with
  | none => simp only [ed] at q1; exact q1.elim
  | some s =>
    cases ek : kitAnyB s [c] with
    | none => simp only [ed, Option.bind_some, ek, Option.map_none] at q1; exact q1.elim
    | some r =>
      simp only [ed, Option.bind_some, ek, Option.map_some] at q1
      exact ⟨v, .ty c, .type s, .type c, r, rfl, .ty c, b1.tyX x1.gh ed, kit_ty (kitAnyB_one ek), q1 _ G1 H1 x1 g1 s1 (.inl rep_bl)⟩
/-- isinstance(e, (C, ..)) -/
theorem de_isiT {cs : List String} {k : Nat} (hm : Z.X.mg "isinstance" = none) (h : DE Z m e t) (hc : DCl Z es cs) (hz : cs.length ≤ sizeLine := by show _ ≤ _; decide) (hg : Gl Z.X "isinstance" := by rfl)
    (he : starEach (e :: [(.Tuple es k p2 : Expr)]) Z.X.env = (false, eval e Z.X.env) :: starEach [.Tuple es k p2] Z.X.env := by rfl) (he2 : starEach [(.Tuple es k p2 : Expr)] Z.X.env = (false, eval (.Tuple es k p2) Z.X.env) :: starEach [] Z.X.env := by rfl) (hpl : (backTo pos (starEach [(.Tuple es k p2 : Expr)] Z.X.env)).any (·.1) = false := by rfl) :
    DE Z ⟨m.p, false⟩ (.Call (.Name "isinstance" p) [e, .Tuple es k p2] [] pos) (d1 (fIsi cs) t) := by
  obtain ⟨te, pa, sa⟩ := h
  obtain ⟨tc, pc, sc⟩ := hc
  refine ⟨_, pe_callB call_isiT hg hm (by decide +kernel) (pa_cons pa (pa_cons (pe_tup pc) pa_nil he2) he) (by decide) (by decide) he hpl, fun Ho hw G ρ σ H Q x q => ?_⟩
  refine sa Ho hw G ρ σ H _ x (DE.then (L := fun r => LJ Z Ho ⟨m.p, false⟩ G H σ r Q) (fun _ _ h => h) (fun h => h) q fun d ρ1 v G1 H1 x1 g1 s1 b1 q1 => ?_)
  unfold lft fIsi at q1
  cases ed : d.tyS with
  | none => simp only [ed] at q1; exact q1.elim
  | some s =>
    cases ek : kitAnyB s cs with
    | none => simp only [ed, Option.bind_some, ek, Option.map_none] at q1; exact q1.elim
    | some r =>
      simp only [ed, Option.bind_some, ek, Option.map_some] at q1
      refine sc σ H1 _ ⟨by rw [List.length_map]; exact hz, fun tp htp => ?_⟩
      have pc : ∀ l : List String, Paired ClsV (l.map V.ty) (l.map Value.type) := by
        intro l
        induction l with
        | nil => exact .nil
        | cons c l ih => exact .cons (.ty c) ih
      have b2 : Z.BR m.b G1 (upd H1 tp (.tup (cs.map V.ty))) d v := b1.go (Same.refl _) fun _ => same_upd htp
      refine ⟨v, tp, cs.map V.ty, .type s, cs.map Value.type, r, rfl, upd_same, pc cs, b2.tyX (x1.gh.trans (same_upd htp)) ed, kitAnyB_ok ek, ?_⟩
      exact q1 _ G1 _ (x1.to (x1.rs.garb htp) Gr.refl) g1 (fun hp => (s1 hp).trans (same_upd htp)) (.inl rep_bl)

/-! ### values of the module -/
def RepG (K : PySem.W.Frag) (mg : Str → Option Value) (x : Str) (d : D) : Prop := ∃ u v, mg x = some u ∧ RelV v u ∧ ∀ G, Rep K mg G d v
theorem de_glob {x : Str} {d : D} (h : RepG Z.X.K Z.X.mg x d) (hg : Gl Z.X x := by rfl) (hd : (x == ("__debug__" : Str)) = false := by decide) : DE Z ⟨true, false⟩ (.Name x pos) (ret d) := by
  obtain ⟨u, v, h1, h2, h3⟩ := h
  exact de_c (pe_glob hg h1 h2 hd) h3
theorem repG_int {K : PySem.W.Frag} {mg : Str → Option Value} {x : Str} {i : Int} {t : Tok} (h : mg x = some (.int i t)) : RepG K mg x (.int i) := ⟨_, .int i, h, ⟨t, rfl⟩, fun G => rep_int⟩
theorem repG_str {K : PySem.W.Frag} {mg : Str → Option Value} {x : Str} {i : Str} {t : Tok} (h : mg x = some (.str i t)) (hs : PyData.strOk i = true) : RepG K mg x (.str i) := ⟨_, .str i, h, ⟨t, rfl⟩, fun G => rep_str hs⟩
/-- data of the module's own objects -/
inductive KD (K : PySem.W.Frag) : D → Value → Prop where
  | non : KD K .non .none
  | bl (b : Bool) : KD K (.bl b) (.bool b)
  | int (i : Int) (t : Tok) : KD K (.int i) (.int i t)
  | str (x : Str) (t : Tok) (h : PyData.strOk x = true) : KD K (.str x) (.str x t)
  | tup0 {a : Addr} {o : Obj} {n : Nat} (h : K.lookup a = some o) (hc : o.cls = .type "tuple") (hd : o.data = .seq #[] n) : KD K (.tup []) (.ref a)
  | tup {a : Addr} {o : Obj} {us : Array Value} {n : Nat} {ds : List D} (h : K.lookup a = some o) (hc : o.cls = .type "tuple") (hd : o.data = .seq us n) (hz : us.size ≤ sizeLine) (l : ds.length = us.toList.length)
      (hi : ∀ (i : Nat) (d : D) (u : Value), ds[i]? = some d → us.toList[i]? = some u → KD K d u) : KD K (.tup ds) (.ref a)
theorem KD.rep {K : PySem.W.Frag} {mg : Str → Option Value} {d : D} {u : Value} (h : KD K d u) : ∃ v, RelV v u ∧ ∀ G, Rep K mg G d v := by
  induction h with
  | non => exact ⟨.non, rfl, fun G => rep_non⟩
  | bl b => exact ⟨.bl b, rfl, fun G => rep_bl⟩
  | int i t => exact ⟨.int i, ⟨t, rfl⟩, fun G => rep_int⟩
  | str x t h => exact ⟨.str x, ⟨t, rfl⟩, fun G => rep_str h⟩
  | @tup0 a o n h hc hd =>
    refine ⟨.ref a, rfl, fun G => ?_⟩
    unfold Rep
    exact ⟨a, [], rfl, .inr ⟨o, #[], n, h, hc, hd, Nat.zero_le _, .nil⟩, RepL.nil⟩
  | @tup a o us n ds h hc hd hz l hi ih =>
    have key : ∀ (ds : List D) (us : List Value), ds.length = us.length → (∀ (i : Nat) (d : D) (u : Value), ds[i]? = some d → us[i]? = some u → ∃ v, RelV v u ∧ ∀ G, Rep K mg G d v) → ∃ vs, Vals vs us ∧ ∀ G, RepL K mg G ds vs := by
      intro ds
      induction ds with
      | nil =>
        intro us l _
        cases us with
        | nil => exact ⟨[], .nil, fun G => RepL.nil⟩
        | cons u us => cases l
      | cons d ds ih2 =>
        intro us l hh
        cases us with
        | nil => cases l
        | cons u us =>
          obtain ⟨v, r, q⟩ := hh 0 d u rfl rfl
          obtain ⟨vs, r2, q2⟩ := ih2 us (by simpa using l) fun i d u e1 e2 => hh (i + 1) d u (by simpa using e1) (by simpa using e2)
          exact ⟨v :: vs, .cons r r2, fun G => RepL.cons (q G) (q2 G)⟩
    obtain ⟨vs, r, q⟩ := key ds us.toList l ih
    refine ⟨.ref a, rfl, fun G => ?_⟩
    unfold Rep
    exact ⟨a, vs, rfl, .inr ⟨o, us, n, h, hc, hd, hz, r⟩, q G⟩
theorem repG_k {K : PySem.W.Frag} {mg : Str → Option Value} {x : Str} {d : D} {u : Value} (h : mg x = some u) (k : KD K d u) : RepG K mg x d := by
  obtain ⟨v, r, q⟩ := k.rep (mg := mg)
  exact ⟨u, v, h, r, q⟩
inductive KDs (K : PySem.W.Frag) : List D → List Value → Prop where
  | nil : KDs K [] []
  | cons {d : D} {u : Value} {ds : List D} {us : List Value} : KD K d u → KDs K ds us → KDs K (d :: ds) (u :: us)
theorem KDs.get {K : PySem.W.Frag} {ds : List D} {us : List Value} (h : KDs K ds us) : ds.length = us.length ∧ ∀ (i : Nat) (d : D) (u : Value), ds[i]? = some d → us[i]? = some u → KD K d u := by
  induction h with
  | nil => exact ⟨rfl, fun i d u e _ => by simp at e⟩
  | cons k _ ih =>
    refine ⟨by simp [ih.1], fun i d u e1 e2 => ?_⟩
    cases i with
    | zero => simp at e1 e2; subst e1 e2; exact k
    | succ i => exact ih.2 i d u (by simpa using e1) (by simpa using e2)
theorem kd_tup {K : PySem.W.Frag} {a : Addr} {od : Option Addr} {us : List Value} {n : Nat} {sl : Array (Option Value)} {ds : List D} (h : K.lookup a = some ⟨.type "tuple", od, .seq us.toArray n, sl⟩) (hz : us.length ≤ 1000) (hi : KDs K ds us) : KD K (.tup ds) (.ref a) :=
  .tup h rfl rfl (by simp; exact Nat.le_trans hz (by decide)) (by simp [hi.get.1]) fun i d u e1 e2 => hi.get.2 i d u e1 (by simpa using e2)

/-! ### repr -/
def fRepr : D → Option D := fun d => if d.pur = true ∧ d.py.showable = true ∧ d.py.shown.length ≤ sizeLine ∧ d.dep ≤ 40 ∧ PyData.strOk d.py.shown = true then some (.str d.py.shown) else none
mutual
theorem py_noDict : ∀ d : D, d.pur = true → d.py.hasDict = false
  | .non, _ => by simp [D.py, PyData.hasDict]
  | .bl _, _ => by simp [D.py, PyData.hasDict]
  | .int _, _ => by simp [D.py, PyData.hasDict]
  | .str _, _ => by simp [D.py, PyData.hasDict]
  | .tup ds, h => by simp only [D.pur] at h; simp only [D.py, PyData.hasDict]; exact pyL_noDict ds h
  | .lst ds, h => by simp only [D.pur] at h; simp only [D.py, PyData.hasDict]; exact pyL_noDict ds h
  | .dct _, h => by simp [D.pur] at h
  | .obj _ _, h => by simp [D.pur] at h
  | .exc _ _, h => by simp [D.pur] at h
  | .glo _, h => by simp [D.pur] at h
  | .scr _, h => by simp [D.pur] at h
  | .ty _, h => by simp [D.pur] at h
theorem pyL_noDict : ∀ ds : List D, purL ds = true → PyData.hasDictAll (pyL ds) = false
  | [], _ => by simp [pyL, PyData.hasDictAll]
  | d :: ds, h => by
    simp only [purL, Bool.and_eq_true] at h
    simp only [pyL, PyData.hasDictAll, py_noDict d h.1, pyL_noDict ds h.2, Bool.or_false]
end
theorem call_repr_D {X : Cx} (hg : X.A.guards = some []) (hu : X.A.units + 64 < cLine) : CallR X (.builtin "repr") (fun xs H Q => ∃ x d, xs = [x] ∧ Dp X.K H x d ∧ d.hasDict = false ∧ d.showable = true ∧ d.shown.length ≤ sizeLine ∧ d.depth ≤ 40 ∧ Q (.str d.shown) H) := by
  intro pins s σ H xs us Q I r h
  obtain ⟨x, d, rfl, hd, hn, hs, hz, hp, q⟩ := h
  obtain ⟨u, rfl, ru⟩ := r.one
  obtain ⟨as, rd⟩ := Dp.reads I d x u hd ru
  cases rd with
  | none => exact PySem.P.repr_of_none ⟨.str _, H, I.tok _, ⟨_, rfl⟩, q⟩
  | bool b => exact PySem.P.repr_of_bool ⟨.str _, H, I.tok _, ⟨_, rfl⟩, q⟩
  | int i t => exact PySem.P.repr_of_int (by simpa [PyData.showable] using hs) ⟨.str _, H, I.tok _, ⟨_, rfl⟩, q⟩
  | str y t => exact PySem.P.repr_of_str ⟨.str _, H, I.tok _, ⟨_, rfl⟩, q⟩ hz
  | list h1 h2 h3 h4 => exact repr_of_reads' (.list h1 h2 h3 h4) hs (PyData.noDict_hsm hn) hg (by omega) (fun _ _ e => e) (fun h' u tk hk => ⟨.str _, H, I.kept (t' := tk) hk, ⟨_, rfl⟩, q⟩) hz
  | tuple h1 h2 h3 h4 => exact repr_of_reads' (.tuple h1 h2 h3 h4) hs (PyData.noDict_hsm hn) hg (by omega) (fun _ _ e => e) (fun h' u tk hk => ⟨.str _, H, I.kept (t' := tk) hk, ⟨_, rfl⟩, q⟩) hz
  | dict h1 h2 h3 h4 h5 => simp [PyData.hasDict] at hn
theorem cld_repr : ClD Z (fun xs H Q => ∃ x d, xs = [x] ∧ Dp Z.X.K H x d ∧ d.hasDict = false ∧ d.showable = true ∧ d.shown.length ≤ sizeLine ∧ d.depth ≤ 40 ∧ Q (.str d.shown) H) fRepr := by
  refine ⟨?_⟩
  intro Ho G ρ σ H d z x Q hR hx hf hq
  unfold fRepr at hf
  split at hf
  · rename_i hh
    obtain ⟨h1, h2, h3, h4, h5⟩ := hh
    cases hf
    exact ⟨x, d.py, rfl, Rep.dp d x h1 (hx.inH hR.gh), py_noDict d h1, h2, h3, by rw [D.py_depth]; exact h4, hq _ _ _ hR Gr.refl (Same.refl _) (rep_str h5)⟩
  · cases hf
theorem de_repr (hgd : Z.g = true) (hm : Z.X.mg "repr" = none) (ha : DE Z m1 a ta) (hg : Gl Z.X "repr" := by rfl) (he : starEach (a :: []) Z.X.env = (false, eval a Z.X.env) :: starEach [] Z.X.env := by rfl) :
    DE Z ⟨m1.p, false⟩ (.Call (.Name "repr" p2) [a] [] pos) (d1 fRepr ta) := de_blt1 (call_repr_D (Z.gd hgd) Z.units) cld_repr PyProof.Rows.bootS_repr hm ha hg (he := he)

/-! ### all, any of a list of truths -/
def asBs : List D → Option (List Bool)
  | [] => some []
  | .bl b :: ds => (asBs ds).map (b :: ·)
  | _ => none
theorem asBs_rep {K : PySem.W.Frag} {mg : Str → Option Value} {G : Hp} : ∀ {ds : List D} {bs : List Bool} {vs : List V}, asBs ds = some bs → RepL K mg G ds vs → vs = bs.map V.bl
  | [], bs, vs, h, r => by cases h; unfold RepL at r; subst r; rfl
  | d :: ds, bs, vs, h, r => by
    unfold RepL at r
    obtain ⟨v, vs', rfl, r1, r2⟩ := r
    cases d <;> try (cases h; done)
    rename_i b
    unfold asBs at h
    cases q : asBs ds with
    | none => rw [q] at h; cases h
    | some bs' =>
      rw [q] at h
      cases h
      unfold Rep at r1
      rw [r1, asBs_rep q r2, List.map_cons]
def fAll : D → Option D
  | .lst ds => (asBs ds).map fun bs => .bl (bs.all id)
  | _ => none
def fAny : D → Option D
  | .lst ds => (asBs ds).map fun bs => .bl (bs.any id)
  | _ => none
theorem cld_all : ClD Z (rAll Z.X.K) fAll := by
  refine ⟨?_⟩
  intro Ho G ρ σ H d z x Q hR hx hf hq
  cases d <;> try (cases hf; done)
  rename_i ds
  unfold fAll at hf
  cases q : asBs ds with
  | none => simp only [q, Option.map_none] at hf; cases hf
  | some bs =>
    simp only [q, Option.map_some] at hf
    cases hf
    obtain ⟨a, vs, rfl, h1, h2⟩ := hx.lst hR.gh
    have := asBs_rep q h2
    subst this
    exact ⟨a, bs, rfl, SqL.of h1, hq _ _ _ hR Gr.refl (Same.refl _) rep_bl⟩
theorem cld_any : ClD Z (rAny Z.X.K) fAny := by
  refine ⟨?_⟩
  intro Ho G ρ σ H d z x Q hR hx hf hq
  cases d <;> try (cases hf; done)
  rename_i ds
  unfold fAny at hf
  cases q : asBs ds with
  | none => simp only [q, Option.map_none] at hf; cases hf
  | some bs =>
    simp only [q, Option.map_some] at hf
    cases hf
    obtain ⟨a, vs, rfl, h1, h2⟩ := hx.lst hR.gh
    have := asBs_rep q h2
    subst this
    exact ⟨a, bs, rfl, SqL.of h1, hq _ _ _ hR Gr.refl (Same.refl _) rep_bl⟩
theorem de_all (hm : Z.X.mg "all" = none) (ha : DE Z m1 a ta) (hg : Gl Z.X "all" := by rfl) (he : starEach (a :: []) Z.X.env = (false, eval a Z.X.env) :: starEach [] Z.X.env := by rfl) (hh : Z.hot = false := by rfl) :
    DE Z ⟨m1.p, false⟩ (.Call (.Name "all" p2) [a] [] pos) (d1 fAll ta) := de_blt1 (cr_all (Z.calm hh)) cld_all (by decide +kernel) hm ha hg (he := he)
theorem de_any (hm : Z.X.mg "any" = none) (ha : DE Z m1 a ta) (hg : Gl Z.X "any" := by rfl) (he : starEach (a :: []) Z.X.env = (false, eval a Z.X.env) :: starEach [] Z.X.env := by rfl) (hh : Z.hot = false := by rfl) :
    DE Z ⟨m1.p, false⟩ (.Call (.Name "any" p2) [a] [] pos) (d1 fAny ta) := de_blt1 (cr_any (Z.calm hh)) cld_any (by decide +kernel) hm ha hg (he := he)
end
end DS

set_option Elab.async false
set_option linter.all false
set_option maxRecDepth 100000
set_option maxHeartbeats 1000000
namespace DSX
open PySem PySem.W PySem.Calls PyProof.Rows PySem.HandSPX

/-! ### own errors over ValueError whose __init__ calls super().__init__ first -/
section
variable {prog : Program} {w : World} {M : Model} {A : Around} {E : Value → Shared → Prop} {h : Heap} {g : Array GenState} {d : Drawn} {t : Nat} {os : OsState}
variable {nm q : Str} {C N : Addr} {bs bm : List Value} {hdct : Bool} {sn : List Str} {sub : List Value} {ab : Bool} {col : Option Bool} {dd : Option Addr} {k0 k1 k2 k3 k5 : Option Value}
/-- ValueError.__init__, bound to e, called -/
theorem call_up {u e t0 : Addr} {rest : List Value} {Q : Value → Shared → Prop}
    (hC : h.get? C = some (excClassObj nm q C N bs bm hdct sn sub ab col dd k0 k1 k2 k3 k5 "ValueError.__new__")) (he : h.get? e = some (excO C t0)) (hu : h.get? u = some (kxs_mw "ValueError.__init__" e)) (hz : rest.length ≤ sizeLine)
    (hq : ∀ h' t1, (∀ b o, b ≠ e → h.get? b = some o → h'.get? b = some o) → h'.get? e = some (excO C t1) → Q .none ⟨h', g, d, t, os⟩) :
    wpAny (model prog w) A (call (.ref u) rest) Q E ⟨h, g, d, t, os⟩ := by
  have FB := PySem.F.excBase_ValueError
  refine wpAny_call (codeAny_of_tree ?_)
  show wpAny _ A.in1 (callAny (.ref u) { pos := rest, kw := [] }) _ _ _
  simp only [callAny]
  refine wpAny_bind (wpAny_load hu ?_)
  have hor : (Value.type "method-wrapper" == Value.type "method" || Value.type "method-wrapper" == Value.type "builtin_function_or_method" || Value.type "method-wrapper" == Value.type "method-wrapper") = true := by decide
  simp only [kxs_mw, hor, if_true]
  refine KFB.if_so (by decide) ?_
  refine wpAny_bind (check_bound_init FB.toExcCallFacts hC he rfl ?_)
  refine wpAny_bind (wpAny_pure (wpAny_pure ?_))
  refine ⟨plainId_quiet FB.init.plain _, codeAny_builtin FB.initEntry ?_⟩
  exact exc_init_tree (cls := .ref C) (t0 := t0) (dv := none) (c2 := .none) (c3 := .none) (b4 := .bool false) he hz fun h' k e' _ => hq h' _ k e'
end
/-- what the module tells of the class x (at C) and of its __init__ (at fI), the statement st; fs the fields -/
structure Err (P : Program) (K : Frag) (mg : Str → Option Value) (x qual : Str) (st : Stmt) (C fI cc cda : Addr) (fs : List Str) : Prop where
  gC : mg x = some (.ref C)
  cls : ∃ nm q N bs bm sn sub ab col dd k0 k1 k2 k3 k5, K.lookup C = some (excClassObj nm q C N bs bm true sn sub ab col dd k0 k1 k2 k3 k5 "ValueError.__new__") ∧ refsVE bm = true
  sa : findIn K (.ref C) "__setattr__" = some (some (.builtin "object.__setattr__"))
  ga : findIn K (.ref C) "__getattribute__" = some (some (.builtin "BaseException.__getattribute__"))
  gg : findIn K (.ref C) "__getattr__" = some none
  no : ∀ f ∈ fs, findIn K (.ref C) f = some none
  iC : findIn K (.ref C) "__init__" = some (some (.ref fI))
  tC : typeIn K (.ref fI) = some (.type "function")
  kC : keepIn K (.ref C) = true
  exC : subIn K (.ref C) (.type "BaseException") = some true
  veC : subIn K (.ref C) (.type "ValueError") = some true
  tyC : typeIn K (.ref C) = some (.type "type")
  hdC : hasDictIn K C = true
  fn : ∃ (oc : Value) (od : Option Addr) (kV doc pm : Value) (an : Option Addr) (ct : Value) (osl : Array (Option Value)),
    K.lookup fI = some ⟨oc, od, .func (ksFn "__init__" qual (L2.defArgs st) (L2.defBody st) (L2.defScope st) .none kV doc pm an (.ref cda) ct cc), osl⟩ ∧ codeIn K (.ref cda) qual = true
  sup : nsIn K mainGlobals "super" = some none
  up : ks_superIn K C C "__init__" = some (some (.builtin "ValueError.__init__"))
  op : nsIn K cStatics "thirdparty.any" = some none
  own : mroIn K C (.ref C) = some true
  cell : ∃ cl cld csl, K.lookup cc = some ⟨cl, cld, .cell (some (.ref C)), csl⟩
  code : ∃ ccl cdd vs ccs file tf, K.lookup cda = some ⟨ccl, cdd, .fields vs, ccs⟩ ∧ vs[2]? = some (.str file tf) ∧ ((P.main.file : Str) == file) = true
  top : (P.main.scope.names.lookup ("super" : Str)).isSome = false
section
variable {P : Program} {w : World} {A : Around} {R : Result → Shared → Prop} {K : Frag} {mg mb : Str → Option Value} {x qual : Str} {st : Stmt} {C fI cc cda : Addr} {fs : List Str}
/-- super().__init__(m), the first statement of __init__ -/
theorem sup_step {oc kV doc pm ct : Value} {od an : Option Addr} {osl : Array (Option Value)} {a t0 L : Addr} {m : Str → Option Value} {body : List Stmt} {ar : Arg} {txt : Str} {j : Nat} {p0 p1 p2 p3 p4 p5 : Pos} {Q : Flow → Shared → Prop} {E : Value → Shared → Prop} {s : Shared}
    (T : Err P K mg x qual st C fI cc cda fs) (lk : K.lookup fI = some ⟨oc, od, .func (ksFn "__init__" qual (L2.defArgs st) (L2.defBody st) (L2.defScope st) .none kV doc pm an (.ref cda) ct cc), osl⟩)
    (X : K.In s.heap) (G : s.heap.Ns mainGlobals mg) (B : s.heap.Ns builtinsNs mb) (hB : mb "super" = some (.type "super")) (hn : s.heap.Ns L m) (hv : m ar.arg = some (.ref a)) (hx : s.heap.get? a = some (excO C t0)) (hxC : a ≠ C) (gS : mg "super" = none)
    (hp : ((L2.defArgs st).posonlyargs ++ (L2.defArgs st).args).head? = some ar) (hk : (L2.defScope st).kind = .function) (hks : (L2.defScope st).names.lookup ("super" : Str) = some .globalImplicit) (hkc : (L2.defScope st).names.lookup ("__class__" : Str) = some .free) (hka : (L2.defScope st).names.lookup ar.arg = some .local)
    {pl : Sem Bool} (hi : interactive (ksEnv qual (L2.defScope st) L fI (.ref cda) cc) = false) (he : eval (.Call (.Attribute (.Call (.Name "super" p0) [] [] p1) "__init__" p2) [.Constant (.str txt) j p3] [] p4) (ksEnv qual (L2.defScope st) L fI (.ref cda) cc) = (do
      let ov ← attributeBase (.Call (.Name "super" p0) [] [] p1) "__init__" (ksEnv qual (L2.defScope st) L fI (.ref cda) cc) (eval (.Call (.Name "super" p0) [] [] p1) (ksEnv qual (L2.defScope st) L fI (.ref cda) cc))
      standAt p2.atName
      let (f, first) ← holding [ov] (getMethod ov "__init__" pl)
      callWith p4 f first (backTo p4 (starEach [.Constant (.str txt) j p3] (ksEnv qual (L2.defScope st) L fI (.ref cda) cc))) []))
    (hq : ∀ h' tk t1, (∀ b o, b ≠ a → s.heap.get? b = some o → h'.get? b = some o) → h'.get? a = some (excO C t1) → Q .next { s with heap := h', toks := tk }) :
    _root_.PySem.wpAt (model P w) A (.func body (ksEnv qual (L2.defScope st) L fI (.ref cda) cc)) (exec (.Expr (.Call (.Attribute (.Call (.Name "super" p0) [] [] p1) "__init__" p2) [.Constant (.str txt) j p3] [] p4) p5) (ksEnv qual (L2.defScope st) L fI (.ref cda) cc)) Q E s := by
  obtain ⟨nm, q, N, bs, bm, sn, sub, ab, col, dd, k0, k1, k2, k3, k5, hC, hbm⟩ := T.cls
  have hcl : clsIn K C = some { name := nm, bases := bs, mro := .ref C :: bm, ns := N, qualname := q, hasDict := true, slotNames := sn, subclasses := sub, abstract := ab, collection := col, hasDel := false } := by unfold clsIn; rw [hC] <;> rfl
  obtain ⟨cl, cld, csl, hcell⟩ := T.cell
  obtain ⟨ccl, cdd, vs, ccs, file, tf, hcode, hvs, hfile⟩ := T.code
  obtain ⟨h, g, d, t, os⟩ := s
  refine ks_wpAt_Expr_any (ks_wpAt_MethodCall (pl := pl) ?_ he) hi (by rfl)
  refine ks_wpAt_super_base (env := ksEnv qual (L2.defScope st) L fI (.ref cda) cc) hks hkc (by decide) rfl (X _ _ lk) rfl hp rfl (X _ _ hcode) rfl hvs hfile T.top ?_
  refine ks_loadName_global hk hks (loadGlobal_builtin (env := ksEnv qual (L2.defScope st) L fI (.ref cda) cc) G gS B hB ⟨rfl, ?_⟩)
  refine wpAny_loadName_free hk hkc rfl ⟨_, X _ _ hcell, rfl⟩ ?_
  refine wpAny_loadName_local hk hka hn hv ?_
  refine ks_wpAny_isType_cls (X _ _ hC) rfl ⟨rfl, ?_⟩
  refine ks_wpAny_call_super (X _ _ hC) rfl hx rfl (fun c e => nomatch e) (looks_mroIn X T.own) (fun h1 e1 k1' => ?_)
  have X1 : K.In h1 := X.keeps k1'
  have I1 : InstAt h1 a (excO C t0) C none := ⟨k1' _ _ hx, rfl, rfl, trivial⟩
  have hI : Looks (model P w) h1 (isInstance (.ref a) (.type "ValueError")) true := I1.type.andThen (looks_subIn X1 T.veC)
  have hup := T.up
  unfold ks_superIn at hup
  rw [hcl] at hup
  refine kxs_getMethod kxs_ValueError e1 (looks_opaque X1 T.op) (l₀ := .ref C :: bm) ?_ rfl X1 hup hI hxC (by decide) ?_
  · exact fun A Q E s k q => wpAny_bind ((looks_clsIn X1 hcl) A _ E s k (wpAny_pure q))
  have k2' : ∀ b o, h1.get? b = some o → (h1.push (kxs_mw "ValueError.__init__" a)).get? b = some o := fun b o e => Heap.get?_push_of_some _ e
  refine kxs_callWith (i := "ValueError.__init__") (x := a) (by rfl) (evalArgs_plain (Calls.spliced_cons (Calls.Constant_str (k := j) (pos := p3) (Calls.spliced_nil ⟨?_, ?_⟩))))
  · exact Heap.get?_push_at rfl rfl
  · refine call_up (X1.keeps k2' _ _ hC) (k2' _ _ (k1' _ _ hx)) (Heap.get?_push_at rfl rfl) (by rw [sizeLine_eq]; exact (by decide : 1 ≤ 16777216)) (fun h' t1 k3' e3 => ?_)
    exact hq h' _ t1 (fun b o hb e => k3' b o hb (k2' b o (k1' b o e))) e3
theorem ldK {M : Model} {A : Around} {E : Value → Shared → Prop} {s : Shared} {scope : Scope} {L a cc : Addr} {cd : Value} {m : Str → Option Value} {x : Str} {pos : Pos} {v : Value} {Q : Value → Shared → Prop} (hn : s.heap.Ns L m) (hv : m x = some v) (h : Q v s)
    (hk : scope.kind = .function) (hl : scope.names.lookup x = some .local) (hd : (x == ("__debug__" : Str)) = false) :
    wpAny M A (eval (.Name x pos) (ksEnv qual scope L a cd cc)) Q E s := wpAny_Name (wpAny_loadName_local hk hl hn hv h) hd
/-- self.f = v, the first -/
theorem fld_new {a t1 L : Addr} {m : Str → Option Value} {f : Str} {v : Value} {q1 q2 q3 q4 : Pos} {Q : Flow → Shared → Prop} {E : Value → Shared → Prop} {s : Shared} (T : Err P K mg x qual st C fI cc cda fs)
    (X : K.In s.heap) (hn : s.heap.Ns L m) (hs : m "self" = some (.ref a)) (hv : m f = some v) (hx : s.heap.get? a = some (excO C t1)) (hf : f ∈ fs) (hk : (L2.defScope st).kind = .function)
    (ls : (L2.defScope st).names.lookup ("self" : Str) = some .local) (lf : (L2.defScope st).names.lookup f = some .local) (hd : (f == ("__debug__" : Str)) = false)
    (hsw : swapsWith (.Name f q3) (some (.Attribute (.Name "self" q1) f q2)) q4.line (ksEnv qual (L2.defScope st) L fI (.ref cda) cc) = pure false)
    (hq : ∀ h' tk dx, (∀ b o, b ≠ a → s.heap.get? b = some o → h'.get? b = some o) → s.heap.objs.size ≤ dx → dx ≠ a → h'.get? a = some { cls := .ref C, dict := some dx, data := .fields #[.ref t1, .none, .none, .none, .bool false, .none] } →
      h'.Ns1 dx (fun y => if y = f then some v else none) → Q .next { s with heap := h', toks := tk }) :
    wpAny (model P w) A (exec (.Assign [.Attribute (.Name "self" q1) f q2] (.Name f q3) q4) (ksEnv qual (L2.defScope st) L fI (.ref cda) cc)) Q E s := by
  obtain ⟨nm, q, N, bs, bm, sn, sub, ab, col, dd, k0, k1, k2, k3, k5, hC, hbm⟩ := T.cls
  have hcl : clsIn K C = some { name := nm, bases := bs, mro := .ref C :: bm, ns := N, qualname := q, hasDict := true, slotNames := sn, subclasses := sub, abstract := ab, collection := col, hasDel := false } := by unfold clsIn; rw [hC] <;> rfl
  refine plainObj_wpAny_Assign_Attribute ?_ (hs := hsw)
  refine ldK (v := v) hn hv (ldK (v := .ref a) hn hs ?_ hk ls (by decide)) hk lf hd
  refine set_plain X (ox := excO C t1) (od := none) ⟨hx, rfl, rfl, trivial⟩ T.sa ?_
  exact exc_osa X hx hcl (show refsVE (.ref C :: bm) = true from hbm) rfl (T.no f hf) fun h3 tk3 dx k3 dn dne hx3 hn3 => hq h3 tk3 dx k3 dn dne hx3 hn3
/-- self.f = v, a further one -/
theorem fld_old {a t1 L dx : Addr} {m mA : Str → Option Value} {nl : List Str} {f : Str} {v : Value} {q1 q2 q3 q4 : Pos} {Q : Flow → Shared → Prop} {E : Value → Shared → Prop} {s : Shared} (T : Err P K mg x qual st C fI cc cda fs)
    (X : K.In s.heap) (hn : s.heap.Ns L m) (hs : m "self" = some (.ref a)) (hv : m f = some v) (hx : s.heap.get? a = some { cls := .ref C, dict := some dx, data := .fields #[.ref t1, .none, .none, .none, .bool false, .none] }) (hm : s.heap.Ns1 dx mA) (hw : Within mA nl) (hz : nl.length ≤ 1000)
    (hf : f ∈ fs) (hk : (L2.defScope st).kind = .function)
    (ls : (L2.defScope st).names.lookup ("self" : Str) = some .local) (lf : (L2.defScope st).names.lookup f = some .local) (hd : (f == ("__debug__" : Str)) = false)
    (hsw : swapsWith (.Name f q3) (some (.Attribute (.Name "self" q1) f q2)) q4.line (ksEnv qual (L2.defScope st) L fI (.ref cda) cc) = pure false)
    (hq : ∀ h' tk, (∀ b o, b ≠ dx → s.heap.get? b = some o → h'.get? b = some o) → h'.Ns1 dx (fun y => if y = f then some v else mA y) → Q .next { s with heap := h', toks := tk }) :
    wpAny (model P w) A (exec (.Assign [.Attribute (.Name "self" q1) f q2] (.Name f q3) q4) (ksEnv qual (L2.defScope st) L fI (.ref cda) cc)) Q E s := by
  obtain ⟨nm, q, N, bs, bm, sn, sub, ab, col, dd, k0, k1, k2, k3, k5, hC, hbm⟩ := T.cls
  have hcl : clsIn K C = some { name := nm, bases := bs, mro := .ref C :: bm, ns := N, qualname := q, hasDict := true, slotNames := sn, subclasses := sub, abstract := ab, collection := col, hasDel := false } := by unfold clsIn; rw [hC] <;> rfl
  obtain ⟨oD, esD, epD, hoD, hdD, hcD⟩ := hm.count hw
  refine plainObj_wpAny_Assign_Attribute ?_ (hs := hsw)
  refine ldK (v := v) hn hv (ldK (v := .ref a) hn hs ?_ hk ls (by decide)) hk lf hd
  refine set_plain X (ox := { cls := .ref C, dict := some dx, data := .fields #[.ref t1, .none, .none, .none, .bool false, .none] }) (od := some oD) ⟨hx, rfl, rfl, hoD⟩ T.sa ?_
  exact PySem.OEX.osa_old X hx hm hw hz hcl (show refsVE (.ref C :: bm) = true from hbm) rfl (T.no f hf) fun h3 tk3 k3 hn3 => hq h3 tk3 k3 hn3
end
/-- a made error: all else stays -/
structure Made (h h' : Heap) (e C d : Addr) (mA : Str → Option Value) : Prop where
  keep : ∀ b o, h.get? b = some o → h'.get? b = some o
  new : h.objs.size ≤ e
  obj : ∃ oe vs, h'.get? e = some oe ∧ oe.cls = .ref C ∧ oe.dict = some d ∧ oe.data = .fields vs ∧ vs[1]? = some .none
  dbig : h.objs.size ≤ d
  dne : d ≠ e
  ns : h'.Ns1 d mA
def MadeBy (P : Program) (w : World) (K : Frag) (mg : Str → Option Value) (C : Addr) (fs : List Str) : Prop :=
  ∀ (A : Around) (R : Result → Shared → Prop) (s : Shared) (us : List Value) (mb : Str → Option Value), us.length = fs.length → K.In s.heap → s.heap.NoLimit → s.heap.Ns mainGlobals mg → s.heap.Ns builtinsNs mb → mb "super" = some (.type "super") → A.depth + 1 < recursionLimit →
    (∀ h' tk e d mA, Made s.heap h' e C d mA → (∀ vs, L2.Vals vs us → ∀ f, L2.RelO ((fs.zip vs).lookup f) (mA f)) → R (.ok (.ret (.ref e))) { s with heap := h', toks := tk }) →
    codeAny (model P w) A (.call (.ref C) ⟨us, []⟩) R s
/-- what is asked of the text of __init__ -/
structure Txt (qual : Str) (st : Stmt) (fI cc cda : Addr) (fs : List Str) (ar : Arg) (he : Stmt) (rest : List Stmt) : Prop where
  body : L2.defBody st = he :: rest
  first : ((L2.defArgs st).posonlyargs ++ (L2.defArgs st).args).head? = some ar
  self : ar.arg = "self"
  kind : (L2.defScope st).kind = .function
  co : (L2.defScope st).isCoroutine = false
  gen : (L2.defScope st).isGenerator = false
  nocell : ∀ y ∈ (L2.defScope st).names, y.2 ≠ .cell
  sup : (L2.defScope st).names.lookup ("super" : Str) = some .globalImplicit
  cls : (L2.defScope st).names.lookup ("__class__" : Str) = some .free
  slf : (L2.defScope st).names.lookup ("self" : Str) = some .local
  loc : ∀ f ∈ fs, (L2.defScope st).names.lookup f = some .local
  nself : ∀ f ∈ fs, ¬ f = "self"
  dbg : ∀ f ∈ fs, (f == ("__debug__" : Str)) = false
  inter : ∀ L, interactive (ksEnv qual (L2.defScope st) L fI (.ref cda) cc) = false
  binds : ∀ (kV doc pm : Value) (an : Option Addr) (ct u : Value) (us : List Value), us.length = fs.length → bindArgs (ksFn "__init__" qual (L2.defArgs st) (L2.defBody st) (L2.defScope st) .none kV doc pm an (.ref cda) ct cc) ⟨u :: us, []⟩ = pure ((("self" : Str), u) :: fs.zip us)
theorem _root_.L2.Vals.one' {vs : List L2.V} {u : Value} (r : L2.Vals vs [u]) : ∃ v, vs = [v] ∧ L2.RelV v u := by
  cases r with
  | cons h t => cases t; exact ⟨_, rfl, h⟩
theorem _root_.L2.Vals.two' {vs : List L2.V} {u u2 : Value} (r : L2.Vals vs [u, u2]) : ∃ v v2, vs = [v, v2] ∧ L2.RelV v u ∧ L2.RelV v2 u2 := by
  cases r with
  | cons h t =>
    obtain ⟨v2, rfl, h2⟩ := L2.Vals.one' t
    exact ⟨_, _, rfl, h, h2⟩
section
variable {P : Program} {w : World} {K : Frag} {mg : Str → Option Value} {x qual : Str} {st : Stmt} {C fI cc cda : Addr} {f f2 txt : Str} {ar : Arg} {j : Nat} {p0 p1 p2 p3 p4 p5 q1 q2 q3 q4 r1 r2 r3 r4 : Pos} {pl : Sem Bool}
abbrev supS (p0 p1 p2 p3 p4 p5 : Pos) (txt : Str) (j : Nat) : Stmt := .Expr (.Call (.Attribute (.Call (.Name "super" p0) [] [] p1) "__init__" p2) [.Constant (.str txt) j p3] [] p4) p5
abbrev fldS (f : Str) (q1 q2 q3 q4 : Pos) : Stmt := .Assign [.Attribute (.Name "self" q1) f q2] (.Name f q3) q4
def supE (p0 p1 p2 p3 p4 : Pos) (txt : Str) (j : Nat) (pl : Sem Bool) (env : Env) : Prop := eval (.Call (.Attribute (.Call (.Name "super" p0) [] [] p1) "__init__" p2) [.Constant (.str txt) j p3] [] p4) env = (do
  let ov ← attributeBase (.Call (.Name "super" p0) [] [] p1) "__init__" env (eval (.Call (.Name "super" p0) [] [] p1) env)
  standAt p2.atName
  let (f, first) ← holding [ov] (getMethod ov "__init__" pl)
  callWith p4 f first (backTo p4 (starEach [.Constant (.str txt) j p3] env)) [])
theorem K_none {s : Shared} (X : K.In s.heap) {e : Addr} (h : s.heap.objs.size ≤ e) : K.lookup e = none := by
  cases q : K.lookup e with
  | none => rfl
  | some o => exact absurd (Heap.lt_size (X _ _ q)) (Nat.not_lt.mpr h)
theorem made1 (T : Err P K mg x qual st C fI cc cda [f]) (D : Txt qual st fI cc cda [f] ar (supS p0 p1 p2 p3 p4 p5 txt j) [fldS f q1 q2 q3 q4]) (he : ∀ L, supE p0 p1 p2 p3 p4 txt j pl (ksEnv qual (L2.defScope st) L fI (.ref cda) cc))
    (hsw : ∀ L, swapsWith (.Name f q3) (some (.Attribute (.Name "self" q1) f q2)) q4.line (ksEnv qual (L2.defScope st) L fI (.ref cda) cc) = pure false) : MadeBy P w K mg C [f] := by
  intro A R s us mb hl X hlim G B hB hroom hq
  obtain ⟨v, rfl⟩ : ∃ v, us = [v] := by
    match us, hl with
    | [v], _ => exact ⟨v, rfl⟩
  obtain ⟨oc, od, kV, doc, pm, an, ct, osl, lk, hcd⟩ := T.fn
  obtain ⟨nm, q, N, bs, bm, sn, sub, ab, col, dd, k0, k1, k2, k3, k5, hC, hbm⟩ := T.cls
  obtain ⟨hp, g, dr, tk, os⟩ := s
  have k : ∀ b o, hp.get? b = some o → ((hp.push (kdv_tup [v])).push (excO C hp.objs.size)).get? b = some o := fun b o e => Heap.get?_push_of_some _ (Heap.get?_push_of_some _ e)
  have hget : ((hp.push (kdv_tup [v])).push (excO C hp.objs.size)).get? (hp.objs.size + 1) = some (excO C hp.objs.size) := by heap_get
  have hnx : K.lookup (hp.objs.size + 1) = none := K_none X (Nat.le_succ _)
  have gS : mg "super" = none := mg_none_of X G T.sup
  have hxC : hp.objs.size + 1 ≠ C := fun z => by rw [z, hC] at hnx; cases hnx
  refine call_own PySem.F.excBase_ValueError (fun X => refsVE_contains X bm hbm) (X _ _ hC) (looks_findIn X T.iC) (fun self => bind_fn X self T.tC) (by rw [sizeLine_eq]; exact (by decide : 1 ≤ 16777216)) ?_
  refine ks_codeAny_call_defAt (fd := ksFn "__init__" qual (L2.defArgs st) (L2.defBody st) (L2.defScope st) .none kV doc pm an (.ref cda) ct cc) (body := L2.defBody st) (binds := [(("self" : Str), .ref (hp.objs.size + 1)), (f, v)]) hroom (k _ _ (X _ _ lk)) rfl (hlim.keeps k) (codeRec_of (X.keeps k) hcd) rfl
    (BindsTo.of_eq (D.binds kV doc pm an ct (.ref (hp.objs.size + 1)) [v] rfl)) D.nocell (fun y hy => ?_) (fun h1 hns hk1 => ?_) D.co D.gen D.kind
  · have hy' : y = (("self" : Str), Value.ref (hp.objs.size + 1)) ∨ y = (f, v) := by simpa using hy
    rcases hy' with rfl | rfl
    · exact D.slf
    · exact D.loc f List.mem_cons_self
  have ms : (fun y => List.lookup y [(("self" : Str), Value.ref (hp.objs.size + 1)), (f, v)].reverse) ("self" : Str) = some (.ref (hp.objs.size + 1)) := by
    have : (("self" : Str) == f) = false := by simpa using fun z => D.nself f List.mem_cons_self z.symm
    simp [List.lookup, this]
  have mf : (fun y => List.lookup y [(("self" : Str), Value.ref (hp.objs.size + 1)), (f, v)].reverse) f = some v := by simp [List.lookup]
  have hxL : ((hp.push (kdv_tup [v])).push (excO C hp.objs.size)).objs.size ≠ hp.objs.size + 1 := Nat.ne_of_gt (Heap.lt_size hget)
  rw [D.body]
  have ka : ∀ b o, hp.get? b = some o → h1.get? b = some o := fun b o e => hk1 b o (k b o e)
  refine ks_wpAt_execs_cons (sup_step (a := hp.objs.size + 1) (t0 := hp.objs.size) (pl := pl) T lk (X.keeps ka) (G.keeps ka) (B.keeps ka) hB hns (by rw [D.self]; exact ms) (hk1 _ _ hget) hxC gS D.first D.kind D.sup D.cls (by rw [D.self]; exact D.slf) (D.inter _) (he _) fun h2 tk2 t1 k2' e2 => ?_)
  have kb : ∀ b o, b ≠ hp.objs.size + 1 → h1.get? b = some o → h2.get? b = some o := k2'
  have kc : ∀ b o, hp.get? b = some o → h2.get? b = some o := fun b o e => kb b o (Nat.ne_of_lt (Nat.lt_succ_of_lt (Heap.lt_size e))) (ka b o e)
  have hns2 : h2.Ns ((hp.push (kdv_tup [v])).push (excO C hp.objs.size)).objs.size _ := hns.at fun o e => kb _ o hxL e
  refine ks_wpAt_execs_cons (wpAt_of_wpAny (fld_new T (X.keeps kc) hns2 ms mf e2 List.mem_cons_self D.kind D.slf (D.loc f List.mem_cons_self) (D.dbg f List.mem_cons_self) (hsw _) fun h3 tk3 dx k3' dn dne e3 hn3 => ?_))
  refine wpAt_of_wpAny (wpAny_execs_nil ⟨rfl, ?_⟩)
  have kd : ∀ b o, hp.get? b = some o → h3.get? b = some o := fun b o e => k3' b o (Nat.ne_of_lt (Nat.lt_succ_of_lt (Heap.lt_size e))) (kc b o e)
  refine hq h3 tk3 (hp.objs.size + 1) dx _ ⟨kd, Nat.le_succ _, ⟨_, _, e3, rfl, rfl, rfl, rfl⟩, Nat.le_trans (Nat.le_of_lt (Nat.lt_of_succ_lt (Heap.lt_size e2))) dn, dne, hn3⟩ fun vs r g => ?_
  obtain ⟨u, rfl, ru⟩ := L2.Vals.one' r
  rw [List.zip_cons_cons, List.zip_nil_left, L2.lookup_put]
  by_cases hg : g = f
  · rw [if_pos hg, if_pos hg]; exact ru
  · rw [if_neg hg, if_neg hg]; trivial
theorem made2 (T : Err P K mg x qual st C fI cc cda [f, f2]) (D : Txt qual st fI cc cda [f, f2] ar (supS p0 p1 p2 p3 p4 p5 txt j) [fldS f q1 q2 q3 q4, fldS f2 r1 r2 r3 r4]) (hff : ¬ f = f2) (he : ∀ L, supE p0 p1 p2 p3 p4 txt j pl (ksEnv qual (L2.defScope st) L fI (.ref cda) cc))
    (hsw : ∀ L, swapsWith (.Name f q3) (some (.Attribute (.Name "self" q1) f q2)) q4.line (ksEnv qual (L2.defScope st) L fI (.ref cda) cc) = pure false)
    (hsw2 : ∀ L, swapsWith (.Name f2 r3) (some (.Attribute (.Name "self" r1) f2 r2)) r4.line (ksEnv qual (L2.defScope st) L fI (.ref cda) cc) = pure false) : MadeBy P w K mg C [f, f2] := by
  intro A R s us mb hl X hlim G B hB hroom hq
  obtain ⟨v, v2, rfl⟩ : ∃ v v2, us = [v, v2] := by
    match us, hl with
    | [v, v2], _ => exact ⟨v, v2, rfl⟩
  obtain ⟨oc, od, kV, doc, pm, an, ct, osl, lk, hcd⟩ := T.fn
  obtain ⟨nm, q, N, bs, bm, sn, sub, ab, col, dd, k0, k1, k2, k3, k5, hC, hbm⟩ := T.cls
  obtain ⟨hp, g, dr, tk, os⟩ := s
  have k : ∀ b o, hp.get? b = some o → ((hp.push (kdv_tup [v, v2])).push (excO C hp.objs.size)).get? b = some o := fun b o e => Heap.get?_push_of_some _ (Heap.get?_push_of_some _ e)
  have hget : ((hp.push (kdv_tup [v, v2])).push (excO C hp.objs.size)).get? (hp.objs.size + 1) = some (excO C hp.objs.size) := by heap_get
  have hnx : K.lookup (hp.objs.size + 1) = none := K_none X (Nat.le_succ _)
  have gS : mg "super" = none := mg_none_of X G T.sup
  have hxC : hp.objs.size + 1 ≠ C := fun z => by rw [z, hC] at hnx; cases hnx
  refine call_own PySem.F.excBase_ValueError (fun X => refsVE_contains X bm hbm) (X _ _ hC) (looks_findIn X T.iC) (fun self => bind_fn X self T.tC) (by rw [sizeLine_eq]; exact (by decide : 2 ≤ 16777216)) ?_
  refine ks_codeAny_call_defAt (fd := ksFn "__init__" qual (L2.defArgs st) (L2.defBody st) (L2.defScope st) .none kV doc pm an (.ref cda) ct cc) (body := L2.defBody st) (binds := [(("self" : Str), .ref (hp.objs.size + 1)), (f, v), (f2, v2)]) hroom (k _ _ (X _ _ lk)) rfl (hlim.keeps k) (codeRec_of (X.keeps k) hcd) rfl
    (BindsTo.of_eq (D.binds kV doc pm an ct (.ref (hp.objs.size + 1)) [v, v2] rfl)) D.nocell (fun y hy => ?_) (fun h1 hns hk1 => ?_) D.co D.gen D.kind
  · have hy' : y = (("self" : Str), Value.ref (hp.objs.size + 1)) ∨ y = (f, v) ∨ y = (f2, v2) := by simpa using hy
    rcases hy' with rfl | rfl | rfl
    · exact D.slf
    · exact D.loc f List.mem_cons_self
    · exact D.loc f2 (by simp)
  have ms : (fun y => List.lookup y [(("self" : Str), Value.ref (hp.objs.size + 1)), (f, v), (f2, v2)].reverse) ("self" : Str) = some (.ref (hp.objs.size + 1)) := by
    have : (("self" : Str) == f) = false := by simpa using fun z => D.nself f List.mem_cons_self z.symm
    have this2 : (("self" : Str) == f2) = false := by simpa using fun z => D.nself f2 (by simp) z.symm
    simp [List.lookup, this, this2]
  have mf : (fun y => List.lookup y [(("self" : Str), Value.ref (hp.objs.size + 1)), (f, v), (f2, v2)].reverse) f = some v := by
    have this : (f == f2) = false := by simpa using hff
    simp [List.lookup, this]
  have mf2 : (fun y => List.lookup y [(("self" : Str), Value.ref (hp.objs.size + 1)), (f, v), (f2, v2)].reverse) f2 = some v2 := by simp [List.lookup]
  have hxL : ((hp.push (kdv_tup [v, v2])).push (excO C hp.objs.size)).objs.size ≠ hp.objs.size + 1 := Nat.ne_of_gt (Heap.lt_size hget)
  rw [D.body]
  have ka : ∀ b o, hp.get? b = some o → h1.get? b = some o := fun b o e => hk1 b o (k b o e)
  refine ks_wpAt_execs_cons (sup_step (a := hp.objs.size + 1) (t0 := hp.objs.size) (pl := pl) T lk (X.keeps ka) (G.keeps ka) (B.keeps ka) hB hns (by rw [D.self]; exact ms) (hk1 _ _ hget) hxC gS D.first D.kind D.sup D.cls (by rw [D.self]; exact D.slf) (D.inter _) (he _) fun h2 tk2 t1 k2' e2 => ?_)
  have kb : ∀ b o, b ≠ hp.objs.size + 1 → h1.get? b = some o → h2.get? b = some o := k2'
  have kc : ∀ b o, hp.get? b = some o → h2.get? b = some o := fun b o e => kb b o (Nat.ne_of_lt (Nat.lt_succ_of_lt (Heap.lt_size e))) (ka b o e)
  have hns2 : h2.Ns ((hp.push (kdv_tup [v, v2])).push (excO C hp.objs.size)).objs.size _ := hns.at fun o e => kb _ o hxL e
  refine ks_wpAt_execs_cons (wpAt_of_wpAny (fld_new T (X.keeps kc) hns2 ms mf e2 List.mem_cons_self D.kind D.slf (D.loc f List.mem_cons_self) (D.dbg f List.mem_cons_self) (hsw _) fun h3 tk3 dx k3' dn dne e3 hn3 => ?_))
  have hw : Within (fun y => if y = f then some v else none) [f] := fun y hy => by
    by_cases h : y = f
    · rw [h]; exact List.mem_cons_self
    · exact absurd (if_neg h) hy
  have ke : ∀ b o, hp.get? b = some o → h3.get? b = some o := fun b o e => k3' b o (Nat.ne_of_lt (Nat.lt_succ_of_lt (Heap.lt_size e))) (kc b o e)
  have hns3 : h3.Ns ((hp.push (kdv_tup [v, v2])).push (excO C hp.objs.size)).objs.size _ := hns2.at fun o e => k3' _ o hxL e
  have hdx : hp.objs.size < dx := Nat.lt_of_lt_of_le (Nat.lt_of_succ_lt (Heap.lt_size e2)) dn
  refine ks_wpAt_execs_cons (wpAt_of_wpAny (fld_old T (X.keeps ke) hns3 ms mf2 e3 hn3 hw (by show 1 ≤ 1000; decide) (by simp) D.kind D.slf (D.loc f2 (by simp)) (D.dbg f2 (by simp)) (hsw2 _) fun h4 tk4 k4' hn4 => ?_))
  refine wpAt_of_wpAny (wpAny_execs_nil ⟨rfl, ?_⟩)
  have kd : ∀ b o, hp.get? b = some o → h4.get? b = some o := fun b o e => k4' b o (Nat.ne_of_lt (Nat.lt_trans (Heap.lt_size e) hdx)) (ke b o e)
  refine hq h4 tk4 (hp.objs.size + 1) dx _ ⟨kd, Nat.le_succ _, ⟨_, _, k4' _ _ (Ne.symm dne) e3, rfl, rfl, rfl, rfl⟩, Nat.le_of_lt hdx, dne, hn4⟩ fun vs r g => ?_
  obtain ⟨u, u2, rfl, ru, ru2⟩ := L2.Vals.two' r
  rw [List.zip_cons_cons, List.zip_cons_cons, List.zip_nil_left, L2.lookup_put, L2.lookup_put]
  by_cases hg : g = f
  · have hg2 : ¬ g = f2 := by rw [hg]; exact hff
    simp only [if_neg hg2, if_pos hg]
    exact ru
  · by_cases hg2 : g = f2
    · simp only [if_neg hg, if_pos hg2]
      exact ru2
    · simp only [if_neg hg, if_neg hg2]
      trivial
end
end DSX
namespace L2
open PySem PySem.Spec PyProof.Rows
/-- x(e, ..), an error of the module with fields -/
theorem pmk_err {X : Cx} {x : Str} {C : Addr} {fs : List Str} {e : Expr} {es : List Expr} {ta : TA} {p pos : Pos} {k : Nat} (T : DSX.MadeBy X.prog X.w X.K X.mg C fs) (gC : X.mg x = some (.ref C)) (kC : PySem.W.keepIn X.K (.ref C) = true) (exC : PySem.W.subIn X.K (.ref C) (.type "BaseException") = some true) (tyC : PySem.W.typeIn X.K (.ref C) = some (.type "type"))
    (hr : Room k X.A) (ha : PA X (e :: es) ta) (hg : Gl X x) (hd : (x == ("__debug__" : Str)) = false) (he : starEach (e :: es) X.env = (false, eval e X.env) :: starEach es X.env) (hpl : (backTo pos (starEach es X.env)).any (·.1) = false) :
    PMk X (.Call (.Name x p) (e :: es) [] pos) (fun σ H Q => ta σ H fun vs H1 => vs.length = fs.length ∧ ∀ d, H1 d = none → Q (.ref C) (some d) (upd H1 d (.xd (fs.zip vs)))) := by
  intro pins s σ H Q I h
  refine wpAny_Call_Name_kw (ld_glob I hg gC ?_ hd)
  refine PySem.W.callWith_K (h₀ := X.base) I.ok.mod.kin kC (thn (ha.run pos pins s σ H _ I h) fun us s1 hh => ?_) he hpl
  obtain ⟨vs, H1, I1, r1, hl, q1⟩ := hh
  refine ⟨I1.kIn, ?_⟩
  show wpAny _ _ (call (.ref C) us) _ _ _
  have hlim := I1.nolimit
  have gl : s1.heap.Ns mainGlobals X.mg := I1.ok.mod.glob.keeps I1.bk
  obtain ⟨mb, hb, hbb⟩ := I1.ok.mod.blt
  have bl : s1.heap.Ns builtinsNs mb := hb.keeps I1.bk
  obtain ⟨hp, g, dr, tk, os⟩ := s1
  refine wpAny_call (T _ _ _ us mb (by rw [← r1.length]; exact hl) I1.kIn hlim gl bl ((hbb _ (by decide)).trans (by decide +kernel)) (by have := hr.dp; omega) fun h' tk' e d mA M rel => ?_)
  show MkP X pins σ Q (.ref e) ⟨h', g, dr, tk', os⟩
  obtain ⟨oe, fv, hoe, hc, hdd, hdat, h1⟩ := M.obj
  have hns := M.ns
  obtain ⟨G', g1, g2⟩ := restrict h' fun b => decide (b ≠ e)
  have gk : ∀ b, b ≠ e → G'.get? b = h'.get? b := fun b hb => g1 b (decide_eq_true hb)
  have ge : G'.get? e = none := g2 e (by simp)
  have old : ∀ b o, hp.get? b = some o → G'.get? b = some o := fun b o q => (gk b (Nat.ne_of_lt (Nat.lt_of_lt_of_le (Heap.lt_size q) M.new))).trans (M.keep b o q)
  have ob : ObjOk X.prog X.w (upd H1 d (.xd (fs.zip vs))) G' d (.xd (fs.zip vs)) := ⟨_, hns.at (fun o q => (gk d M.dne).trans q), rel vs r1⟩
  have J : Inv X pins σ (upd H1 d (.xd (fs.zip vs))) ⟨G', g, dr, tk', os⟩ := I1.laid (t' := tk') old M.dbig ob
  refine ⟨e, oe, fv, ⟨G', g, dr, tk', os⟩, _, .ref C, some d, rfl, J, fun b o q => ?_, ge, hoe, ⟨hc, hdd⟩, hdat, h1, ?_, rfl, I1.bare, raises_own exC tyC, q1 d (I1.hok.fresh M.dbig)⟩
  · by_cases hb : b = e
    · have q' : G'.get? b = some o := q
      rw [hb, ge] at q'; cases q'
    · exact (gk b hb).symm.trans q
  · rw [upd_ne (Ne.symm M.dne)]
    exact I1.hok.fresh M.new
end L2

set_option Elab.async false
set_option linter.all false
set_option maxRecDepth 100000
namespace DS
open PySem PySem.Spec PyProof.Rows L2

/-! ### raise -/
section
variable {Z : DC} {Ho : Hp} {m : Md} {e : Expr} {es : List Expr} {t : M D} {pos p pos2 p2 : Pos} {u : M (List D)} {x : Str} {C : Addr} {fs : List Str}
def sRaise (c : Str) (fs : List Str) (u : M (List D)) : MS := fun ρ => (u ρ).andS fun ds ρ => if ds.length = fs.length then .ex ⟨c, fs.zip ds⟩ ρ else .no
theorem RepF.zip {K : PySem.W.Frag} {mg : Str → Option Value} {G : Hp} : ∀ {fs : List Str} {ds : List D} {vs : List V}, RepL K mg G ds vs → RepF K mg G (fs.zip ds) (fs.zip vs)
  | [], ds, vs, _ => by simp [RepF]
  | f :: fs, [], vs, h => by unfold RepL at h; subst h; simp [RepF]
  | f :: fs, d :: ds, vs, h => by
    unfold RepL at h
    obtain ⟨v, vs', rfl, h2, h3⟩ := h
    rw [List.zip_cons_cons, List.zip_cons_cons]
    unfold RepF
    exact ⟨v, _, rfl, h2, RepF.zip h3⟩
/-- raise x(e, ..), an own error with fields -/
theorem st_raise (T : DSX.MadeBy Z.X.prog Z.X.w Z.X.K Z.X.mg C fs) (gC : Z.X.mg x = some (.ref C)) (kC : PySem.W.keepIn Z.X.K (.ref C) = true) (exC : PySem.W.subIn Z.X.K (.ref C) (.type "BaseException") = some true) (tyC : PySem.W.typeIn Z.X.K (.ref C) = some (.type "type"))
    (ha : DA Z (e :: es) u) (hg : Gl Z.X x := by first | rfl | decide) (hd : (x == ("__debug__" : Str)) = false := by decide) (he : starEach (e :: es) Z.X.env = (false, eval e Z.X.env) :: starEach es Z.X.env := by rfl) (hpl : (backTo pos (starEach es Z.X.env)).any (·.1) = false := by rfl) (hh : Z.hot = false := by rfl) :
    DSt Z (.Raise (some (.Call (.Name x p) (e :: es) [] pos)) none pos2) (sRaise x fs u) := by
  obtain ⟨ta, pa, sa⟩ := ha
  refine ⟨_, ps_raise (Z.calm hh) Z.tk (pmk_err T gC kC exC tyC (Z.room hh) pa hg hd he hpl), fun Ho hw G ρ σ H E x q => ?_⟩
  refine sa Ho hw G ρ σ H _ x (DA.thenS q fun ds ρ1 vs G1 H1 x1 g1 b1 q1 => ?_)
  by_cases hl : ds.length = fs.length
  · rw [if_pos hl] at q1
    refine ⟨by rw [b1.length]; exact hl, fun d hd => ?_⟩
    obtain ⟨x2, g2⟩ := x1.allocF (o := .xd (fs.zip vs)) hd
    exact ⟨_, ρ1, _, x2.rs.anti hw, x2.g0, ⟨C, gC, rfl, .inr ⟨d, _, rfl, upd_same, RepF.zip (RepL.mono g2.1 _ _ b1)⟩⟩, q1⟩
  · rw [if_neg hl] at q1
    exact q1.elim
/-- raise x(a text), an own error without fields -/
theorem st_raise0 {bmB : List Value} {B newId initId : String} {msg : Str} {j : Nat} (F : ExcBaseFacts B newId initId bmB) (q : PySem.W.excIn Z.X.K C bmB newId = true) (gC : Z.X.mg x = some (.ref C)) (kC : PySem.W.keepIn Z.X.K (.ref C) = true)
    (exC : PySem.W.subIn Z.X.K (.ref C) (.type "BaseException") = some true) (tyC : PySem.W.typeIn Z.X.K (.ref C) = some (.type "type")) (hg : Gl Z.X x := by first | rfl | decide) (hd : (x == ("__debug__" : Str)) = false := by decide) (hh : Z.hot = false := by rfl) :
    DSt Z (.Raise (some (.Call (.Name x p) [.Constant (.str msg) j p2] [] pos)) none pos2) (fun ρ => .ex ⟨x, []⟩ ρ) := by
  refine ⟨_, ps_raise (Z.calm hh) Z.tk (pmk_own F q gC kC (raises_own exC tyC) hg hd), fun Ho hw G ρ σ H E x q => ?_⟩
  exact ⟨G, ρ, _, x.rs.anti hw, x.g0, ⟨C, gC, rfl, .inl ⟨rfl, rfl⟩⟩, q⟩
end

/-! ### try -/
def unE1 : Sl → Sl
  | .er _ => .no
  | .th _ => .no
  | .td _ => .no
  | .tb => .no
  | s => s
def unE (ρ : List Sl) : List Sl := ρ.map unE1
section
variable {K : PySem.W.Frag} {mg : Str → Option Value} {τ τ' : Tau} {Ho G : Hp} {ρ ρ' : List Sl} {σ σ' : L2.St} {H : Hp} {i : Nat} {a : Addr} {cls : Value} {d : Option Addr} {x : Exn}
theorem tg.ar {t : Option Nat} (h : τ'.ar = τ.ar) (x : DS.tg τ' t a) : DS.tg τ t a := fun k e => by rw [← h]; exact x k e
theorem SlOk.unE1 {hh : Hp} {s : Sl} {v : Option V} (h : τ'.ar = τ.ar) (x : SlOk K mg τ' G hh s v) : SlOk K mg τ G hh (DS.unE1 s) v := by
  cases s with
  | no => trivial
  | sh d => exact x
  | ow t d => obtain ⟨b, o, h1, h2, h3⟩ := x; exact ⟨b, o, h1, DS.tg.ar h h2, h3⟩
  | rs t R => obtain ⟨b, h1, h2, h3⟩ := x; exact ⟨b, h1, DS.tg.ar h h2, h3⟩
  | er y => trivial
  | th y => trivial
  | td y => trivial
  | tb => trivial
theorem unE_get {j : Nat} {s' : Sl} (e : (unE ρ)[j]? = some s') : ∃ s, ρ[j]? = some s ∧ s' = DS.unE1 s := by
  unfold unE at e
  rw [List.getElem?_map] at e
  cases q : ρ[j]? with
  | none => rw [q] at e; cases e
  | some s => rw [q] at e; cases e; exact ⟨s, rfl, rfl⟩
theorem RS.unE (x : RS K mg τ' Ho G ρ σ H) (h : τ'.ar = τ.ar) : RS K mg τ Ho G (DS.unE ρ) σ H := by
  refine x.recast (by simp [DS.unE, x.len]) fun j s' e => ?_
  obtain ⟨s, h1, rfl⟩ := unE_get e
  exact .inr ⟨s, h1, fun hh y => y.unE1 h⟩
theorem RS.putE (y : RS K mg τ Ho G ρ σ H) (h : τ'.ar = τ.ar) (he : τ'.er = some (a, cls, d)) (r : RepX K mg G x cls d) : RS K mg τ' Ho G ((DS.unE ρ).set i (.er x)) (σ.set i (some (.ref a))) H := by
  obtain ⟨O, y⟩ := y
  have l : ρ.length = σ.length := y.len
  refine ⟨O, y.gh, y.oh, y.out, by simp [DS.unE, l], fun j s' e => ?_⟩
  by_cases q : j = i
  · subst q
    have hj : j < σ.length := by
      have := (List.getElem?_eq_some_iff.mp e).1
      simpa [DS.unE, l] using this
    rw [List.getElem?_set_self (by simp [DS.unE]; omega)] at e
    cases e
    rw [List.getElem?_set_self hj]
    exact ⟨a, cls, d, rfl, he, r⟩
  · rw [List.getElem?_set_ne (Ne.symm q)] at e ⊢
    obtain ⟨s, h1, rfl⟩ := unE_get e
    exact (y.sl j s h1).unE1 h.symm
theorem RS.offE (y : RS K mg τ' Ho G ρ σ H) (h : τ'.ar = τ.ar) : RS K mg τ Ho G ((DS.unE ρ).set i .no) (σ.set i none) H := by
  obtain ⟨O, y⟩ := y
  have l : ρ.length = σ.length := y.len
  refine ⟨O, y.gh, y.oh, y.out, by simp [DS.unE, l], fun j s' e => ?_⟩
  by_cases q : j = i
  · subst q
    have hj : j < σ.length := by
      have := (List.getElem?_eq_some_iff.mp e).1
      simpa [DS.unE, l] using this
    rw [List.getElem?_set_self (by simp [DS.unE]; omega)] at e
    cases e
    trivial
  · rw [List.getElem?_set_ne (Ne.symm q)] at e ⊢
    obtain ⟨s, h1, rfl⟩ := unE_get e
    exact (y.sl j s h1).unE1 h
end
/-- the body of a try -/
def trZ (Z : DC) (pn : List (Addr × Obj)) (xe : Value → Shared → Prop) (Ho G0 : Hp) (Ex : Exn → List Sl → Prop)
    (tk : Takes (Z.X.tr pn xe) (fun cls d σ H => ∃ G ρ x, RS Z.X.K Z.X.mg Z.τ Ho G ρ σ H ∧ Gr Ho G0 G ∧ RepX Z.X.K Z.X.mg G x cls d ∧ Ex x ρ)) : DC := ⟨Z.X.tr pn xe, Z.τ, Ho, G0, Ex, Z.k, Z.g, Z.gd, Z.hot, Z.dp, Z.un, Z.hd, Z.calm, tk⟩
/-- an except suite: the exception at a, of class cls, with the dict d -/
def suZ (Z : DC) (a : Addr) (oe : Obj) (cls : Value) (d : Option Addr) (pn : List (Addr × Obj)) : DC :=
  ⟨Z.X.suite a ((a, oe) :: pn), ⟨Z.τ.ar, some (a, cls, d), none, []⟩, Z.Ho, Z.G0, fun _ _ => False, Z.k, Z.g, Z.gd, true, Z.dp, Z.un, (fun h => nomatch h), (fun h => nomatch h), fun u s' x => by
    obtain ⟨_, _, _, _, _, _, _, _, _, _, _, _, _, _, _, _, z⟩ := x
    obtain ⟨_, _, _, _, _, _, z⟩ := z
    exact z.elim⟩
/-- which classes which clause takes -/
structure ExT (K : PySem.W.Frag) (mg : Str → Option Value) (tab : Str → Option Bool) (c : Value) : Prop where
  ok : ∀ x C b, mg x = some (.ref C) → tab x = some b → PySem.W.exmOne K (.ref C) c = some b
def sSuite (fin : List Sl → List Sl) (r : SR) : SR := match r with
  | .nx ρ => .nx (fin ρ)
  | .rt s ρ => .rt (unE1 s) (fin ρ)
  | .bk ρ => .bk (fin ρ)
  | .ct ρ => .ct (fin ρ)
  | .ex _ _ => .no
  | .no => .no
def sTryAs (i : Nat) (tab : Str → Option Bool) (b su : MS) : MS := fun ρ => match b ρ with
  | .ex x ρ1 => match tab x.cls with
    | some true => sSuite (fun ρ => (unE ρ).set i .no) (su ((unE ρ1).set i (.er x)))
    | some false => .ex x ρ1
    | none => .no
  | r => r
section
variable {Z : DC} {Ho : Hp} {pos pos' np : Pos} {b su : MS} {body suite : List Stmt} {b0 : Stmt} {x n : Str} {c : Value}
theorem LX.rs {r : SR} {G : Hp} {E E' : Ends} {Z' : DC} (hr : ∀ G ρ σ H, Z'.R Ho G ρ σ H → Z.R Ho G ρ σ H) (hex : ∀ x ρ, Z.Ex x ρ → Z'.Ex x ρ) (hE : E = E') (q : LX Z Ho G r E) : LX Z' Ho G r E' := by
  subst hE
  cases r with
  | nx ρ => exact fun σ G' H x g' => q σ G' H (hr _ _ _ _ x) g'
  | rt s ρ => exact fun v σ G' H x g' => q v σ G' H (hr _ _ _ _ x) g'
  | bk ρ => exact fun σ G' H x g' => q σ G' H (hr _ _ _ _ x) g'
  | ct ρ => exact fun σ G' H x g' => q σ G' H (hr _ _ _ _ x) g'
  | ex x ρ => exact hex x ρ q
  | no => exact q
/-- try: body; except x as n: suite -/
theorem st_tryAs (i : Nat) {tab : Str → Option Bool} (T : ExT Z.X.K Z.X.mg tab c) (hs : Z.X.stack = Z.X.env :: Z.X.outer) (hf : Z.X.env.frame = some Z.X.env.locals) (hN : Z.X.N.Nodup) (hc : Names Z.X x c)
    (hb : ∀ pn xe Ho G0 Ex tk, PassesOwn (model Z.X.prog Z.X.w) Z.X.A Z.X.env xe → DSs (trZ Z pn xe Ho G0 Ex tk) body b)
    (hsu : ∀ a oe cls d pn, Zc cls d oe → (∃ vs, oe.data = .fields vs) → DSs (suZ Z a oe cls d pn) (b0 :: suite) su)
    (hi : Z.X.N[i]? = some n := by rfl) (hln : Z.X.env.kindOf n = some .local := by rfl) :
    DSt Z (.Try body [.ExceptHandler (some (.Name x np)) (some n) (b0 :: suite) pos'] [] [] pos) (sTryAs i tab b su) := by
  have key := ps_try_as (X := Z.X) (x := x) (n := n) (c := c) (i := i) (body := body) (suite := suite) (b₀ := b0) (np := np) (pos := pos) (pos' := pos') (Wout := Z.W)
    (tb := fun W D σ H => ∀ pn xe (hT : Takes (Z.X.tr pn xe) W) (hp : PassesOwn (model Z.X.prog Z.X.w) Z.X.A Z.X.env xe), ∃ Ho G0 Ex, ∃ hEx : ∀ cls d σ H, (∃ G ρ x, RS Z.X.K Z.X.mg Z.τ Ho G ρ σ H ∧ Gr Ho G0 G ∧ RepX Z.X.K Z.X.mg G x cls d ∧ Ex x ρ) → W cls d σ H, (hb pn xe Ho G0 Ex (hT.imp hEx) hp).choose D σ H)
    (ts := fun a cls d D σ H => ∀ oe pn hz hf, (hsu a oe cls d pn hz hf).choose D σ H) hs hf hN hi hln hc Z.tk
    (fun W pn xe hT hp => ⟨fun pins s σ H D I h => by
      obtain ⟨Ho, G0, Ex, hEx, h⟩ := h pn xe hT hp
      exact (hb pn xe Ho G0 Ex (hT.imp hEx) hp).choose_spec.1.run pins s σ H D I h⟩)
    (fun a oe cls d pn hz hf => ⟨fun pins s σ H D I h => (hsu a oe cls d pn hz hf).choose_spec.1.run pins s σ H D I (h oe pn hz hf)⟩)
  refine ⟨_, key, fun Ho hw G ρ σ H E y q => ?_⟩
  intro pn xe hT hp
  have ncls : ∀ {G : Hp} {x : Exn} {cls : Value} {d : Option Addr}, RepX Z.X.K Z.X.mg G x cls d → ∀ bb, tab x.cls = some bb → PySem.W.exmOne Z.X.K cls c = some bb := by
    rintro G x cls d ⟨C, h1, rfl, _⟩ bb ht
    exact T.ok _ _ _ h1 ht
  have hEx : ∀ cls d σ1 H1, (∃ G1 ρ1 x, RS Z.X.K Z.X.mg Z.τ Ho G1 ρ1 σ1 H1 ∧ Gr Ho G G1 ∧ RepX Z.X.K Z.X.mg G1 x cls d ∧ b ρ = .ex x ρ1) → wAs Z.X.K c i (fun a cls d D σ H => ∀ oe pn hz hf, (hsu a oe cls d pn hz hf).choose D σ H) Z.W E cls d σ1 H1 := by
    rintro cls d σ1 H1 ⟨G1, ρ1, x1, r1, g1, rx, eb⟩
    unfold sTryAs at q
    rw [eb] at q
    simp only at q
    cases et : tab x1.cls with
    | none => rw [et] at q; exact q.elim
    | some bb =>
      rw [et] at q
      refine ⟨bb, ncls rx bb et, fun hbb => ?_, fun hbb => ?_⟩
      · subst hbb
        simp only at q
        intro a ha oe pn hz hf
        have y1 : (suZ Z a oe cls d pn).R Ho G1 ((DS.unE ρ1).set i (.er x1)) (σ1.set i (some (.ref a))) H1 := ⟨r1.putE rfl rfl rx, y.ho, y.g0.trans (g1.anti y.ho)⟩
        refine (hsu a oe cls d pn hz hf).choose_spec.2 Ho hw G1 _ _ H1 _ y1 ?_
        have back : ∀ {G' : Hp} {ρ2 : List Sl} {σ2 : L2.St} {H2 : Hp}, (suZ Z a oe cls d pn).R Ho G' ρ2 σ2 H2 → Gr Ho G1 G' → Z.R Ho G' ((DS.unE ρ2).set i .no) (σ2.set i none) H2 := fun z g => y.to (z.rs.offE (τ := Z.τ) rfl) (g1.trans g)
        cases es : su ((DS.unE ρ1).set i (.er x1)) with
        | nx ρ2 =>
          rw [es] at q
          exact fun σ2 G2 H2 z g => q _ G2 H2 (back z g) (g1.trans g)
        | rt s ρ2 =>
          rw [es] at q
          intro v σ2 G2 H2 z g
          have z2 : RS Z.X.K Z.X.mg Z.τ Ho G2 (DS.unE (s :: ρ2)) (some v :: σ2) H2 := z.rs.unE (τ := Z.τ) rfl
          have z3 : RS Z.X.K Z.X.mg Z.τ Ho G2 ((DS.unE1 s) :: (DS.unE ρ2).set i .no) (some v :: σ2) H2 := z2.forget (i + 1)
          exact q v σ2 G2 H2 (y.to z3 (g1.trans g)) (g1.trans g)
        | bk ρ2 =>
          rw [es] at q
          exact fun σ2 G2 H2 z g => q _ G2 H2 (back z g) (g1.trans g)
        | ct ρ2 =>
          rw [es] at q
          exact fun σ2 G2 H2 z g => q _ G2 H2 (back z g) (g1.trans g)
        | ex x2 ρ2 => rw [es] at q; exact q.elim
        | no => rw [es] at q; exact q.elim
      · subst hbb
        simp only at q
        exact ⟨G1, ρ1, x1, r1.anti hw, y.g0.trans (g1.anti y.ho), rx, q⟩
  refine ⟨Ho, G, fun x ρ1 => b ρ = .ex x ρ1, hEx, ?_⟩
  refine (hb pn xe Ho G _ (hT.imp hEx) hp).choose_spec.2 Ho (Same.refl _) G ρ σ H E ⟨y.rs, Same.refl _, Gr.refl⟩ ?_
  unfold sTryAs at q
  suffices z : ∀ r, r = b ρ → LX (trZ Z pn xe Ho G (fun x ρ1 => b ρ = .ex x ρ1) (hT.imp hEx)) Ho G r E from z _ rfl
  intro r er
  have up : ∀ {G' : Hp} {ρ' : List Sl} {σ' : L2.St} {H' : Hp}, (trZ Z pn xe Ho G (fun x ρ1 => b ρ = .ex x ρ1) (hT.imp hEx)).R Ho G' ρ' σ' H' → Z.R Ho G' ρ' σ' H' := fun z => ⟨z.rs, y.ho, y.g0.trans (z.g0.anti y.ho)⟩
  cases r with
  | nx ρ2 => rw [← er] at q; exact fun σ2 G2 H2 z g => q σ2 G2 H2 (up z) g
  | rt s ρ2 => rw [← er] at q; exact fun v σ2 G2 H2 z g => q v σ2 G2 H2 ⟨z.rs, y.ho, y.g0.trans (z.g0.anti y.ho)⟩ g
  | bk ρ2 => rw [← er] at q; exact fun σ2 G2 H2 z g => q σ2 G2 H2 (up z) g
  | ct ρ2 => rw [← er] at q; exact fun σ2 G2 H2 z g => q σ2 G2 H2 (up z) g
  | ex x ρ2 => exact er.symm
  | no => rw [← er] at q; exact q
end
end DS

set_option Elab.async false
set_option linter.all false
set_option maxRecDepth 100000
namespace DS
open PySem PySem.Spec PyProof.Rows L2

/-! ### the exception that a suite holds -/
/-- what is asked of a class whose errors are looked at -/
structure KxC (K : PySem.W.Frag) (C : Addr) : Prop where
  cl : (PySem.W.clsIn K C).isSome = true
  ga : PySem.W.findIn K (.ref C) "__getattribute__" = some (some (.builtin "BaseException.__getattribute__"))
  gg : PySem.W.findIn K (.ref C) "__getattr__" = some none
  exC : PySem.W.subIn K (.ref C) (.type "BaseException") = some true
  hdC : PySem.W.hasDictIn K C = true
  ha : PySem.W.findIn K (.ref C) "__class__" = some (some (.builtin "object.__class__"))
  hn : PySem.W.specialIn K (.builtin "object.__class__") "__get__" = some (some (.builtin "getset_descriptor.__get__"))
  ht : PySem.W.takesIn K (.builtin "object.__class__") = some true
  hm : PySem.W.mroIn K C (.type "object") = some true
/-- fields that are read -/
structure XfT (K : PySem.W.Frag) (mg : Str → Option Value) (f : Str) (ok : Str → Bool) : Prop where
  get : ∀ x C, mg x = some (.ref C) → ok x = true → XfC K C ∧ PySem.W.findIn K (.ref C) f = some none
/-- classes that are asked for, c the one asked -/
structure IsT (K : PySem.W.Frag) (mg : Str → Option Value) (tab : Str → Option Bool) (c : Addr) : Prop where
  get : ∀ x C b, mg x = some (.ref C) → tab x = some b → KxC K C ∧ PySem.W.kitOne K (.ref C) (.ref c) = some b
section
variable {Z : DC} {a : Addr} {oe : Obj} {cls : Value} {d : Option Addr} {pn : List (Addr × Obj)} {p pos p2 p3 : Pos} {n f : Str}
theorem DC.R.held {Ho G : Hp} {ρ : List Sl} {σ : L2.St} {H : Hp} {i : Nat} {x : Exn} (y : (suZ Z a oe cls d pn).R Ho G ρ σ H) (e : ρ[i]? = some (.er x)) : σ[i]? = some (some (.ref a)) ∧ RepX Z.X.K Z.X.mg G x cls d := by
  obtain ⟨O, z⟩ := y.rs
  obtain ⟨a', cls', d', h1, h2, h3⟩ := z.sl i _ e
  cases h2
  refine ⟨?_, h3⟩
  cases q : σ[i]? with
  | none => rw [q] at h1; cases h1
  | some w => rw [q] at h1; rw [show w = some (.ref a) from h1]
def asEr : Option Sl → Option Exn
  | some (.er x) => some x
  | _ => none
theorem asEr_some {o : Option Sl} {x : Exn} (h : asEr o = some x) : o = some (.er x) := by
  match o, h with
  | some (.er x), h => cases h; rfl
def erFld (i : Nat) (ok : Str → Bool) (f : Str) : M D := fun ρ => match asEr ρ[i]? with
  | some x => if ok x.cls then (match x.fs.lookup f with
    | some z => .ok z ρ
    | none => .no) else .no
  | none => .no
theorem RepF.look {K : PySem.W.Frag} {mg : Str → Option Value} {G : Hp} {f : Str} : ∀ {fs : List (Str × D)} {ws : List (Str × V)} {z : D}, RepF K mg G fs ws → fs.lookup f = some z → ∃ v, ws.lookup f = some v ∧ Rep K mg G z v
  | [], ws, z, h, e => by simp at e
  | (g, y) :: fs, ws, z, h, e => by
    unfold RepF at h
    obtain ⟨v, ws', rfl, h2, h3⟩ := h
    by_cases q : f = g
    · subst q
      simp at e
      subst e
      exact ⟨v, by simp, h2⟩
    · have q' : (f == g) = false := by simpa using q
      simp only [List.lookup, q'] at e ⊢
      exact RepF.look h3 e
/-- err.f -/
theorem de_erFld (i : Nat) {ok : Str → Bool} (T : XfT Z.X.K Z.X.mg f ok) (hz : Zc cls d oe) (hf : ∃ vs, oe.data = .fields vs) (hN : Z.X.N[i]? = some n := by rfl) (hv : Vis Z.X.env.scope n := by first | exact Or.inl rfl | exact Or.inr (Or.inl rfl) | exact Or.inr (Or.inr rfl))
    (hd : (n == ("__debug__" : Str)) = false := by decide) (hcd : (n == ("__classdict__" : Str)) = false := by decide) (hb : attributeBase (.Name n p) f Z.X.env (eval (.Name n p) Z.X.env) = eval (.Name n p) Z.X.env := by rfl) :
    DE (suZ Z a oe cls d pn) ⟨true, false⟩ (.Attribute (.Name n p) f pos) (erFld i ok f) := by
  by_cases hC : ∃ C, cls = .ref C ∧ XfC Z.X.K C ∧ PySem.W.findIn Z.X.K (.ref C) f = some none
  · obtain ⟨C, rfl, hx, hno⟩ := hC
    refine ⟨_, pe_xf hx hno hz hf (pe_var (X := Z.X.suite a ((a, oe) :: pn)) (i := i) hN hv hd hcd) hb, fun Ho hw G ρ σ H Q y q => ?_⟩
    unfold erFld at q
    cases e : asEr ρ[i]? with
    | none => rw [e] at q; exact q.elim
    | some x =>
      rw [e] at q
      simp only at q
      by_cases hok : ok x.cls = true
      · rw [if_pos hok] at q
        cases el : x.fs.lookup f with
        | none => rw [el] at q; exact q.elim
        | some z =>
          rw [el] at q
          obtain ⟨h1, C', h2, h3, h4⟩ := y.held (asEr_some e)
          refine ⟨_, h1, rfl, rfl, ?_⟩
          rcases h4 with ⟨h4, _⟩ | ⟨dd, ws, h4, h5, h6⟩
          · rw [h4] at el; cases el
          · obtain ⟨v, h7, h8⟩ := h6.look el
            exact ⟨dd, ws, v, h4, y.gh _ _ h5, h7, q v G H y Gr.refl (fun _ => Same.refl _) (.inl h8)⟩
      · rw [if_neg hok] at q; exact q.elim
  · refine ⟨fun _ _ _ => False, ⟨fun _ _ _ _ _ _ z => z.elim⟩, fun Ho hw G ρ σ H Q y q => ?_⟩
    unfold erFld at q
    cases e : asEr ρ[i]? with
    | none => rw [e] at q; exact q.elim
    | some x =>
      rw [e] at q
      simp only at q
      by_cases hok : ok x.cls = true
      · obtain ⟨h1, C', h2, h3, h4⟩ := y.held (asEr_some e)
        exact hC ⟨C', h3, T.get _ _ h2 hok⟩
      · rw [if_neg hok] at q; exact q.elim
/-- isinstance(err, c) -/
theorem call_isX {X : Cx} {a D : Addr} {oe : Obj} {d : Option Addr} {pn : List (Addr × Obj)} (C : KxC X.K D) (hz : Zc (.ref D) d oe) (hf : ∃ vs, oe.data = .fields vs) : CallR (X.suite a ((a, oe) :: pn)) (.builtin "isinstance")
    (fun xs H Q => ∃ (c : Addr) (b : Bool), xs = [.ref a, .ref c] ∧ (d = none ∨ ∃ dd ws, d = some dd ∧ H dd = some (.xd ws)) ∧ PySem.W.kitOne X.K (.ref D) (.ref c) = some b ∧ Q (.bl b) H) := by
  intro pins s σ H xs us Q I r h
  obtain ⟨c, b, rfl, hd, e, q⟩ := h
  cases r with
  | cons rx rr =>
    cases rr with
    | cons rt rr =>
      cases rr
      cases rx
      cases rt
      obtain ⟨hget, _⟩ := I.pin (a, oe) (List.mem_append.mpr (.inl List.mem_cons_self))
      obtain ⟨vs, hv⟩ := hf
      have hno : PySem.W.notCls oe = true := by unfold PySem.W.notCls; rw [hv]
      have J : ∃ odx, PySem.W.InstAt s.heap a oe D odx := by
        rcases hd with hd | ⟨dd, ws, hd, hw⟩
        · refine ⟨none, hget, hz.1, hno, ?_⟩
          rw [hz.2, hd]; trivial
        · have hx : ObjOk X.prog X.w H s.heap dd (.xd ws) := I.hok dd _ hw
          obtain ⟨mA, hns, _⟩ := hx
          obtain ⟨od, ho, _⟩ := lookIn_ns hns
          refine ⟨some od, hget, hz.1, hno, ?_⟩
          rw [hz.2, hd]; exact ho
      obtain ⟨odx, J⟩ := J
      exact PySem.W.kia_one (PySem.W.kitx_exc C.cl C.ga C.gg C.exC C.ha C.hn C.ht C.hm) I.kIn J e (fun z => nomatch z) fun tk => ⟨.bl b, H, I.tok tk, rfl, q⟩
def erIs (i : Nat) (tab : Str → Option Bool) : M D := fun ρ => match asEr ρ[i]? with
  | some x => match tab x.cls with
    | some b => .ok (.bl b) ρ
    | none => .no
  | none => .no
theorem de_erIs (i : Nat) {c : Addr} {cn : Str} {tab : Str → Option Bool} (T : IsT Z.X.K Z.X.mg tab c) (hz : Zc cls d oe) (hf : ∃ vs, oe.data = .fields vs) (hm : Z.X.mg "isinstance" = none) (hc : Z.X.mg cn = some (.ref c)) (hN : Z.X.N[i]? = some n := by rfl) (hv : Vis Z.X.env.scope n := by first | exact Or.inl rfl | exact Or.inr (Or.inl rfl) | exact Or.inr (Or.inr rfl))
    (hd : (n == ("__debug__" : Str)) = false := by decide) (hcd : (n == ("__classdict__" : Str)) = false := by decide) (hg : Gl Z.X "isinstance" := by rfl) (hg2 : Gl Z.X cn := by rfl) (hd2 : (cn == ("__debug__" : Str)) = false := by decide)
    (he : starEach ((.Name n p : Expr) :: [.Name cn p2]) Z.X.env = (false, eval (.Name n p) Z.X.env) :: starEach [.Name cn p2] Z.X.env := by rfl) (he2 : starEach ((.Name cn p2 : Expr) :: []) Z.X.env = (false, eval (.Name cn p2) Z.X.env) :: starEach [] Z.X.env := by rfl)
    (hpl : (backTo pos (starEach [(.Name cn p2 : Expr)] Z.X.env)).any (·.1) = false := by rfl) :
    DE (suZ Z a oe cls d pn) ⟨true, false⟩ (.Call (.Name "isinstance" p3) [.Name n p, .Name cn p2] [] pos) (erIs i tab) := by
  by_cases hC : ∃ C, cls = .ref C ∧ KxC Z.X.K C
  · obtain ⟨C, rfl, hx⟩ := hC
    refine ⟨_, pe_callB (X := Z.X.suite a ((a, oe) :: pn)) (call_isX hx hz hf) hg hm (by decide +kernel) (pa_cons (pe_var (X := Z.X.suite a ((a, oe) :: pn)) (i := i) hN hv hd hcd) (pa_cons (pe_glob (X := Z.X.suite a ((a, oe) :: pn)) (v := .ref c) hg2 hc rfl hd2) pa_nil he2) he) (by decide) (by decide) he hpl, fun Ho hw G ρ σ H Q y q => ?_⟩
    unfold erIs at q
    cases e : asEr ρ[i]? with
    | none => rw [e] at q; exact q.elim
    | some x =>
      rw [e] at q
      simp only at q
      cases et : tab x.cls with
      | none => rw [et] at q; exact q.elim
      | some b =>
        rw [et] at q
        obtain ⟨h1, C', h2, h3, h4⟩ := y.held (asEr_some e)
        cases h3
        refine ⟨_, h1, c, b, rfl, ?_, (T.get _ _ _ h2 et).2, q _ G H y Gr.refl (fun _ => Same.refl _) (.inl rep_bl)⟩
        rcases h4 with ⟨_, h4⟩ | ⟨dd, ws, h4, h5, _⟩
        · exact .inl h4
        · exact .inr ⟨dd, ws, h4, y.gh _ _ h5⟩
  · refine ⟨fun _ _ _ => False, ⟨fun _ _ _ _ _ _ z => z.elim⟩, fun Ho hw G ρ σ H Q y q => ?_⟩
    unfold erIs at q
    cases e : asEr ρ[i]? with
    | none => rw [e] at q; exact q.elim
    | some x =>
      rw [e] at q
      simp only at q
      cases et : tab x.cls with
      | none => rw [et] at q; exact q.elim
      | some b =>
        obtain ⟨h1, C', h2, h3, h4⟩ := y.held (asEr_some e)
        exact hC ⟨C', h3, (T.get _ _ _ h2 et).1⟩
end

/-! ### a def by its derivation -/
/-- a def of the module, as its callers have it -/
structure Fd (g : Bool) (P : Program) (w : World) (K : PySem.W.Frag) (mg : Str → Option Value) (base : Heap) (x : Str) (k n : Nat) (F : FS) : Prop where
  ex : ∃ f fd ps, mg x = some (.ref f) ∧ PySem.W.keepIn K (.ref f) = true ∧ Binds K fd ps [] ∧ FnG g P w K mg base k f fd ps (liftSp K mg n F)
/-- what the module's top leaves of a def -/
structure FnAt (K : PySem.W.Frag) (mg : Str → Option Value) (x : Str) (st : Stmt) (ps : List Str) (f : Addr) (fd : FuncData) : Prop where
  mg : mg x = some (.ref f)
  fn : Fun K x x st f fd
  bi : Binds K fd ps []
theorem fd_of {g : Bool} {P : Program} {w : World} {K : PySem.W.Frag} {mg : Str → Option Value} {base : Heap} {x : Str} {st : Stmt} {f : Addr} {fd : FuncData} {N ps : List Str} {k : Nat} {body : MS} (A : FnAt K mg x st ps f fd) (S : FnScope N ps (defScope st))
    (hb : ∀ cdv A outer s H E τ Ho G0 Ex hg room tk, DSs (mkZ P w K mg base N x (defScope st) f cdv A outer s H E τ Ho G0 Ex k g hg room tk) (defBody st) body) : Fd g P w K mg base x (k + 1) ps.length (mkF ps.length N.length body) :=
  ⟨f, fd, ps, A.mg, A.fn.kp, A.bi, fn_ds A.fn S hb⟩
theorem dr_fn {Z : DC} {e : Expr} {es : List Expr} {pos p : Pos} {rs : List (Option Nat)} {u : M (List D)} {x : Str} {k n : Nat} {F : FS} {g : Bool} (O : Fd g Z.X.prog Z.X.w Z.X.K Z.X.mg Z.X.base x k n F) (ha : DAr Z (e :: es) rs u) (hgg : g = true → Z.g = true := by first | exact fun h => nomatch h | exact fun h => h | exact fun _ => rfl) (hk : k ≤ Z.k := by exact Nat.le_of_ble_eq_true rfl) (hn : rs.length = n := by rfl)
    (hg : Gl Z.X x := by first | rfl | decide) (hdb : (x == ("__debug__" : Str)) = false := by decide) (he : starEach (e :: es) Z.X.env = (false, eval e Z.X.env) :: starEach es Z.X.env := by rfl) (hpl : (backTo pos (starEach es Z.X.env)).any (·.1) = false := by rfl) (hh : Z.hot = false := by rfl) :
    DR Z (.Call (.Name x p) (e :: es) [] pos) (dCall F rs u) := by
  obtain ⟨f, fd, ps, hm, kp, hb, G⟩ := O.ex
  exact dr_call G hgg hk hm kp hb ha hn hg hdb he hpl hh
end DS

set_option Elab.async false
set_option linter.all false
set_option maxRecDepth 100000
namespace DS
open PySem PySem.Spec PyProof.Rows L2

/-! ### and, or, not as values (of truths) -/
section
variable {Z : DC} {m m1 m2 : Md} {a b : Expr} {rest : List Expr} {ta tb : M D} {pos : Pos} {op : BoolOp}
def dAndV (ta tb : M D) : M D := bnd (dB ta) fun c => if c then tb else ret (.bl false)
def dOrV (ta tb : M D) : M D := bnd (dB ta) fun c => if c then ret (.bl true) else tb
def dNotV (ta : M D) : M D := bnd (dB ta) fun c => ret (.bl (!c))
theorem de_one (h : DE Z m a ta) : DE Z m (.BoolOp op [a] pos) ta := by
  obtain ⟨te, pa, sa⟩ := h
  exact ⟨_, pe_one pa, sa⟩
theorem LT.thenJ {Ho : Hp} {p : Bool} {r : Res Bool} {u : Bool → M D} {G H : Hp} {σ : L2.St} {Q : Bool → Hp → Prop} {Q' : VK} (h : LJ Z Ho m G H σ (r.bind u) Q')
    (hq : ∀ c ρ G' H', Z.R Ho G' ρ σ H' → Gr Ho G G' → (p = true → Same H H') → LJ Z Ho m G H σ (u c ρ) Q' → Q c H') : LT Z Ho p G H σ r Q := by
  cases r with
  | ok d ρ => exact fun G' H' x g s => hq d ρ G' H' x g s h
  | ex x ρ => exact h
  | no => exact h
theorem de_andV (ha : DE Z m1 a ta) (hr : DE Z m2 (.BoolOp .And (b :: rest) pos) tb) (hb : m2.b = false := by rfl) : DE Z ⟨m1.p && m2.p, false⟩ (.BoolOp .And (a :: b :: rest) pos) (dAndV ta tb) := by
  obtain ⟨tea, pa, sa⟩ := ha
  obtain ⟨teb, pb, sb⟩ := hr
  refine ⟨_, pe_and pa pb, fun Ho hw G ρ σ H Q x q => ?_⟩
  refine tstB sa hw x (LT.thenJ (m := ⟨m1.p && m2.p, false⟩) q fun c ρ1 G1 H1 x1 g1 s1 q1 => ?_)
  have ss : (m1.p && m2.p) = true → Same H H1 := fun h => s1 (by rw [Bool.and_eq_true] at h; exact h.1)
  cases c with
  | true =>
    rw [if_pos rfl] at q1 ⊢
    exact sb Ho hw G1 ρ1 σ H1 Q x1 (LJ.from g1 ss q1 (fun h => by simp only [Bool.and_eq_true] at h; exact h.2) (fun h => by rw [hb] at h; cases h))
  | false =>
    rw [if_neg Bool.false_ne_true] at q1 ⊢
    exact q1 _ G1 H1 x1 g1 ss (.inl rep_bl)
theorem de_orV (ha : DE Z m1 a ta) (hr : DE Z m2 (.BoolOp .Or (b :: rest) pos) tb) (hb : m2.b = false := by rfl) : DE Z ⟨m1.p && m2.p, false⟩ (.BoolOp .Or (a :: b :: rest) pos) (dOrV ta tb) := by
  obtain ⟨tea, pa, sa⟩ := ha
  obtain ⟨teb, pb, sb⟩ := hr
  refine ⟨_, pe_or pa pb, fun Ho hw G ρ σ H Q x q => ?_⟩
  refine tstB sa hw x (LT.thenJ (m := ⟨m1.p && m2.p, false⟩) q fun c ρ1 G1 H1 x1 g1 s1 q1 => ?_)
  have ss : (m1.p && m2.p) = true → Same H H1 := fun h => s1 (by rw [Bool.and_eq_true] at h; exact h.1)
  cases c with
  | true =>
    rw [if_pos rfl] at q1 ⊢
    exact q1 _ G1 H1 x1 g1 ss (.inl rep_bl)
  | false =>
    rw [if_neg Bool.false_ne_true] at q1 ⊢
    exact sb Ho hw G1 ρ1 σ H1 Q x1 (LJ.from g1 ss q1 (fun h => by simp only [Bool.and_eq_true] at h; exact h.2) (fun h => by rw [hb] at h; cases h))
theorem de_notV (ha : DE Z m1 a ta) : DE Z ⟨m1.p, false⟩ (.UnaryOp .Not a pos) (dNotV ta) := by
  obtain ⟨tea, pa, sa⟩ := ha
  refine ⟨_, pe_not pa, fun Ho hw G ρ σ H Q x q => ?_⟩
  refine tstB sa hw x (LT.thenJ (m := ⟨m1.p, false⟩) q fun c ρ1 G1 H1 x1 g1 s1 q1 => ?_)
  exact q1 _ G1 H1 x1 g1 s1 (.inl rep_bl)
end
end DS
namespace DS
open PySem PySem.Spec PyProof.Rows L2
/-- {} -/
theorem dr_dict0 {Z : DC} {pos : Pos} : DR Z (.Dict [] [] pos) (ret (.ow none (.dct []))) := by
  refine ⟨_, pe_dnewK, fun Ho hw G ρ σ H Q x q => ?_⟩
  intro p hp
  exact q _ G _ (x.pushO (d := .dct []) (o := .dK []) (.dct (by unfold RepK; rfl)) hp) Gr.refl
section
variable {K : PySem.W.Frag} {mg : Str → Option Value}
theorem look_mem {α : Type} : ∀ {l : List (Str × α)} {x : Str} {b : α}, l.lookup x = some b → (x, b) ∈ l
  | [], x, b, h => by simp at h
  | (y, c) :: l, x, b, h => by
    by_cases e : x = y
    · subst e
      simp at h
      subst h
      exact List.mem_cons_self
    · have e' : (x == y) = false := by simpa using e
      simp only [List.lookup, e'] at h
      exact List.mem_cons_of_mem _ (look_mem h)
theorem ExT.of {l : List (Str × Bool)} {c : Value} (h : ∀ p ∈ l, ∃ a, mg p.1 = some (.ref a) ∧ PySem.W.exmOne K (.ref a) c = some p.2) : ExT K mg (fun x => l.lookup x) c := ⟨fun x C b hx hb => by
  obtain ⟨a, h1, h2⟩ := h _ (look_mem hb)
  rw [show mg x = some (.ref a) from h1] at hx
  cases hx
  exact h2⟩
theorem XfT.of {l : List Str} {f : Str} (h : ∀ x ∈ l, ∃ a, mg x = some (.ref a) ∧ XfC K a ∧ PySem.W.findIn K (.ref a) f = some none) : XfT K mg f (fun x => l.contains x) := ⟨fun x C hx hb => by
  obtain ⟨a, h1, h2⟩ := h x (by simpa using hb)
  rw [h1] at hx
  cases hx
  exact h2⟩
theorem IsT.of {l : List (Str × Bool)} {c : Addr} (h : ∀ p ∈ l, ∃ a, mg p.1 = some (.ref a) ∧ KxC K a ∧ PySem.W.kitOne K (.ref a) (.ref c) = some p.2) : IsT K mg (fun x => l.lookup x) c := ⟨fun x C b hx hb => by
  obtain ⟨a, h1, h2⟩ := h _ (look_mem hb)
  rw [show mg x = some (.ref a) from h1] at hx
  cases hx
  exact h2⟩
end
end DS

set_option Elab.async false
set_option linter.all false
set_option maxRecDepth 100000
namespace DS
open PySem PySem.Spec PyProof.Rows L2

theorem exm_of {K : PySem.W.Frag} {S B : Addr} {b : Bool} (h1 : PySem.W.subIn K (.ref B) (.type "BaseException") = some true) (h2 : PySem.W.isClsIn K B = true) (h3 : PySem.W.typeIn K (.ref B) = some (.type "type")) (h4 : PySem.W.subIn K (.ref S) (.ref B) = some b) : PySem.W.exmOne K (.ref S) (.ref B) = some b := by
  have h2' : (PySem.W.clsIn K B).isSome = true := h2
  unfold PySem.W.exmOne PySem.W.kitCls
  simp [h1, h2', h3, h4]
theorem kit_of2 {K : PySem.W.Frag} {S B : Addr} {b : Bool} (h0 : S = B → b = true) (h2 : PySem.W.isClsIn K B = true) (h3 : PySem.W.typeIn K (.ref B) = some (.type "type")) (h4 : PySem.W.subIn K (.ref S) (.ref B) = some b) : PySem.W.kitOne K (.ref S) (.ref B) = some b := by
  have h2' : (PySem.W.clsIn K B).isSome = true := h2
  unfold PySem.W.kitOne PySem.W.kitCls
  by_cases h : S = B
  · rw [h0 h]; subst h; simp
  · have : (Value.ref S == Value.ref B) = false := by simpa using h
    simp [this, h2', h3, h4]
/-! ### the law's call, where nothing is shown on the way (FnG true) -/
theorem law_callG {P : Program} {w : World} {K : PySem.W.Frag} {mg mb : Str → Option Value} {k : Nat} {fa a : Addr} {fd : FuncData} {x : Str} {sp : Sp} {s₁ : Shared} {vs : List Value} {ns : List Int}
    (kin : K.In s₁.heap) (gl : s₁.heap.Ns mainGlobals mg) (bl : s₁.heap.Ns builtinsNs mb) (boot : ∀ x : Str, x ≠ "__name__" → mb x = bootBuiltins x) (lim : s₁.heap.NoLimit) (hg : s₁.gens = #[])
    (ha : s₁.heap.get? a = some { cls := .type "list", data := .seq vs.toArray }) (hi : IntsAre vs ns) (hl : ns.length ≤ sizeLine) (hr : Room k callerA)
    (F : ∀ base : Heap, K.In base → base.Ns mainGlobals mg → FnG true P w K mg base k fa fd [x] sp) (bind : ∀ (s : Shared) (u : Value), BindsTo s fd ⟨[u], []⟩ [(x, u)])
    (hsp : ∀ H : Hp, Only H → SqL K H a (ns.map V.int) → sp [.ref a] H (fun v _ => v = .bl true) fun _ _ _ => False) :
    codeAny (model P w) callerA (.call (.ref fa) ⟨[.ref a], []⟩) (fun r s' => r = .ok (.ret (.bool true)) ∧ OldK s₁.heap s'.heap ∧ s'.os = s₁.os ∧ AllBare s'.gens) s₁ := by
  have rv := vals_ints hi
  have lv := hi.length
  have main : ∀ H : Hp, Only H → SqL K H a (ns.map V.int) → HOk P w H s₁.heap → (∀ b, H b ≠ none → b = a) → (H a ≠ none → K.lookup a = none) →
      codeAny (model P w) callerA (.call (.ref fa) ⟨[.ref a], []⟩) (fun r s' => r = .ok (.ret (.bool true)) ∧ OldK s₁.heap s'.heap ∧ s'.os = s₁.os ∧ AllBare s'.gens) s₁ := by
    intro H only sq hok one notK
    have stay : ∀ {b : Addr} {o : Obj}, s₁.heap.get? b = some o → H b = none → (hidT s₁.heap H).get? b = some o := fun e n => hidT_get e n
    have dictFree : ∀ {b : Addr} {o : Obj} {es : Array DictEntry} {ep : Nat}, s₁.heap.get? b = some o → o.data = .dict es ep → H b = none := by
      intro b o es ep e d
      cases q : H b with
      | none => rfl
      | some u =>
        obtain rfl : b = a := one b (by simp [q])
        rw [ha] at e
        cases e
        exact nomatch (show Data.seq vs.toArray _ = Data.dict es ep from d)
    have nsStay : ∀ {b : Addr} {m : Str → Option Value}, s₁.heap.Ns b m → (hidT s₁.heap H).Ns b m := by
      rintro b m ⟨o, es, ep, e, d, r⟩
      exact ⟨o, es, ep, stay e (dictFree e d), d, r⟩
    have kB : K.In (hidT s₁.heap H) := fun b o e => stay (kin b o e) (by
      cases q : H b with
      | none => rfl
      | some u =>
        obtain rfl : b = a := one b (by simp [q])
        rw [notK (by simp [q])] at e
        cases e)
    have md : Mod K mg (hidT s₁.heap H) := ⟨kB, nsStay gl, ⟨mb, nsStay bl, boot⟩, by
      obtain ⟨mc, h1, h2⟩ := lim
      exact ⟨mc, nsStay h1, h2⟩⟩
    have e0 : Env0 P w K mg (hidT s₁.heap H) callerA [] s₁ H := ⟨rfl, md, fun b o e => of_hidT e, Nat.le_of_eq (hidT_size _ _), trivial, fun b hb => (by cases hb), hok, .of_eq hg⟩
    have run := (F _ kB (nsStay gl)).run callerA (fun _ => rfl) [] s₁ H ⟨[.ref a], []⟩ [.ref a] [.ref a] _ _ hr e0 (bind s₁ (.ref a)) (.cons rfl .nil) (hsp H only sq)
    refine codeAny_mono run fun r s' h => ?_
    cases r with
    | error e =>
      obtain ⟨_, _, _, _, _, _, _, _, _, _, _, _, z⟩ := h
      exact z.elim
    | ok fl =>
      cases fl with
      | next => exact h.elim
      | brk => exact h.elim
      | cont => exact h.elim
      | ret u =>
        obtain ⟨v, H', os, bare, un, hok', r', q⟩ := h
        obtain rfl : v = .bl true := q
        obtain rfl : u = Value.bool true := r'
        refine ⟨rfl, OldK.of_keep fun b o e => ?_, os, bare⟩
        cases q : H b with
        | none => exact un.keep b o e q (by simp [frs]) (by simp)
        | some u =>
          rcases only b with z | ⟨ob, xs, z⟩
          · rw [q] at z; cases z
          · have z2 := un.frzs b ob _ z
            obtain ⟨e1, _⟩ := hok b _ z
            obtain ⟨e2, _⟩ := hok' b _ z2
            rw [e] at e1
            cases e1
            exact e2
  cases hk : K.lookup a with
  | some o =>
    have e := kin a o hk
    rw [ha] at e
    cases e
    exact main (fun _ => none) (fun _ => .inl rfl) (.inr ⟨_, vs.toArray, _, hk, rfl, rfl, rfl, by rw [List.size_toArray, lv]; exact hl, by simpa using rv⟩) (fun b u z => nomatch z) (fun b z => absurd rfl z) fun z => absurd rfl z
  | none =>
    obtain ⟨ob, hob⟩ : ∃ ob : Obj, ob = { cls := .type "list", data := .seq vs.toArray } := ⟨_, rfl⟩
    obtain ⟨H, hH⟩ : ∃ H : Hp, H = fun b => if b = a then some (.frz ob (.lst (ns.map V.int))) else none := ⟨_, rfl⟩
    have hA : H a = some (.frz ob (.lst (ns.map V.int))) := by rw [hH]; simp
    have hN : ∀ b, b ≠ a → H b = none := fun b hb => by rw [hH]; simp [hb]
    refine main H (fun b => ?_) (.inl (.inr ⟨ob, hA⟩)) (fun b u z => ?_) (fun b z => ?_) fun _ => hk
    · by_cases hb : b = a
      · subst hb; exact .inr ⟨ob, _, hA⟩
      · exact .inl (hN b hb)
    · by_cases hb : b = a
      · subst hb
        rw [hA] at z
        cases z
        subst hob
        exact ⟨ha, by rw [List.length_map]; exact hl, vs, _, rv, ha⟩
      · rw [hN b hb] at z; cases z
    · by_cases hb : b = a
      · exact hb
      · exact absurd (hN b hb) z
/-- a law from its function: every script of at most n whole numbers -/
theorem walk_ds {l : PySem.W.OpenLaw} {n k : Nat} {q : Program} {loose : List Str} {XP : (Str → Option Value) → Heap → Prop} {YP : World → Heap → Prop} {d : DefRec} {K : Params → PySem.W.Frag} {x : Str} {Fn : FS}
    (hn : l.most = some n) (hn2 : n ≤ sizeLine) (hdf : d.params.defaults = []) (hr : Room k callerA) (hY : ∀ (w : World) (h : Heap), YP w h → (K w.params).In h)
    (F : ∀ (w : World) (mg : Str → Option Value) (fa : Addr) (h : Heap), (K w.params).In h → h.Ns mainGlobals mg → mg d.name = some (.ref fa) →
      ∃ fd : FuncData, (∀ (s : Shared) (u : Value), BindsTo s fd ⟨[u], []⟩ [(x, u)]) ∧ ∀ base : Heap, (K w.params).In base → base.Ns mainGlobals mg → FnG true l.prog w (K w.params) mg base k fa fd [x] (liftSp (K w.params) mg 1 Fn))
    (law : ∀ ns : List Int, ns.length ≤ n → ∃ ss, Fn [.sh (.scr ns)] = .ok (.sh (.bl true)) ss) :
    PySem.W.WalkO q loose XP YP l.row.toRowW d [] (fun f vs => PySem.call f vs) := by
  refine Att.attach_call hn hdf fun w s₀ s₁ mg mb fa o pm cd doc a vs ns G Y ho hd hcd hmg hobj hints hlen hg => ?_
  have kin := hY w _ Y
  obtain ⟨fd, hb, hF⟩ := F w mg fa _ kin G.T.g hmg
  refine law_callG kin G.T.g G.T.b G.T.builtins G.T.nolimit hg hobj hints (Nat.le_trans hlen hn2) hr hF hb fun H only sq => ?_
  obtain ⟨ss, hss⟩ := law ns hlen
  refine ⟨rfl, ⟨fun _ => none, none, none, []⟩, fun _ => none, H, [.sh (.scr ns)], ⟨fun _ => none, Same.refl _, (fun _ _ z => nomatch z), (fun _ _ z => nomatch z), rfl, fun i s e => ?_⟩, ?_⟩
  · match i, e with
    | 0, e =>
      simp at e
      subst e
      exact ⟨_, rfl, by unfold Rep; exact ⟨a, rfl, sq⟩⟩
    | i + 1, e => simp at e
  · rw [hss]
    intro v G' H' r g
    obtain ⟨u, h1, h2⟩ := r.sh (i := 0) rfl
    simp at h1
    subst h1
    unfold Rep at h2
    exact h2
end DS

set_option Elab.async false
set_option linter.all false
set_option maxRecDepth 100000
set_option maxHeartbeats 1000000
/-! the laws' draws: what they compute, and their promise -/
namespace DS
open PySem PySem.Spec PyProof.Rows L2

/-! ### running -/
theorem sSeq_nx {u w : MS} {ρ ρ' : List Sl} (h : u ρ = .nx ρ') : sSeq u w ρ = w ρ' := by simp [sSeq, h]
theorem sSeq_ex {u w : MS} {ρ ρ' : List Sl} {x : Exn} (h : u ρ = .ex x ρ') : sSeq u w ρ = .ex x ρ' := by simp [sSeq, h]
theorem sSeq_rt {u w : MS} {ρ ρ' : List Sl} {s : Sl} (h : u ρ = .rt s ρ') : sSeq u w ρ = .rt s ρ' := by simp [sSeq, h]
theorem sEach_nil {g : D → List Sl → Option (List Sl)} {b : MS} {kl : List Nat} {ρ : List Sl} : sEach g b kl [] ρ = .nx (drops kl ρ) := rfl
theorem sEach_nx {g : D → List Sl → Option (List Sl)} {b : MS} {kl : List Nat} {d : D} {ds : List D} {ρ ρ1 ρ2 : List Sl} (h : g d ρ = some ρ1) (h2 : b ρ1 = .nx ρ2) : sEach g b kl (d :: ds) ρ = sEach g b kl ds (drops kl ρ2) := by
  simp only [sEach, h, h2]
theorem sEach_ct {g : D → List Sl → Option (List Sl)} {b : MS} {kl : List Nat} {d : D} {ds : List D} {ρ ρ1 ρ2 : List Sl} (h : g d ρ = some ρ1) (h2 : b ρ1 = .ct ρ2) : sEach g b kl (d :: ds) ρ = sEach g b kl ds (drops kl ρ2) := by
  simp only [sEach, h, h2]
theorem sEach_ex {g : D → List Sl → Option (List Sl)} {b : MS} {kl : List Nat} {d : D} {ds : List D} {ρ ρ1 ρ2 : List Sl} {x : Exn} (h : g d ρ = some ρ1) (h2 : b ρ1 = .ex x ρ2) : sEach g b kl (d :: ds) ρ = .ex x ρ2 := by
  simp only [sEach, h, h2]
theorem sEach_rt {g : D → List Sl → Option (List Sl)} {b : MS} {kl : List Nat} {d : D} {ds : List D} {ρ ρ1 ρ2 : List Sl} {s : Sl} (h : g d ρ = some ρ1) (h2 : b ρ1 = .rt s ρ2) : sEach g b kl (d :: ds) ρ = .rt s ρ2 := by
  simp only [sEach, h, h2]
/-- a loop by its invariant: every turn ends plainly -/
theorem sEach_inv {g : D → List Sl → Option (List Sl)} {b : MS} {kl : List Nat} (I : List D → List Sl → Prop) : ∀ (ds : List D) (ρ : List Sl),
    I ds ρ → (∀ d ds ρ, I (d :: ds) ρ → ∃ ρ1 ρ2, g d ρ = some ρ1 ∧ (b ρ1 = .nx ρ2 ∨ b ρ1 = .ct ρ2) ∧ I ds (drops kl ρ2)) → ∃ ρ', sEach g b kl ds ρ = .nx (drops kl ρ') ∧ I [] ρ'
  | [], ρ, h, _ => ⟨ρ, rfl, h⟩
  | d :: ds, ρ, h, s => by
    obtain ⟨ρ1, ρ2, h1, h2, h3⟩ := s d ds ρ h
    obtain ⟨ρ', h4, h5⟩ := sEach_inv I ds _ h3 s
    rcases h2 with h2 | h2
    · exact ⟨ρ', by rw [sEach_nx h1 h2, h4], h5⟩
    · exact ⟨ρ', by rw [sEach_ct h1 h2, h4], h5⟩

/-! ### the laws' draws -/
namespace Drw
def b__law_begun : MS := (sSeq (sSet 1 (dLc (lItems (dVar 0)) (gN 2) (dB (d2 fGe (d1 fAbs (dVarB 2)) (d2 fPow (ret (.int 10)) (ret (.int 18))))) (d2 fSub (d1 fAbs (dVarB 2)) (d2 fPow (ret (.int 10)) (ret (.int 18)))) [2]))
    (sRet (dwNew (dMove 1) (dFz (dLc (lItems (dVar 0)) (gN 2) (ret true) (d2 fMod (d1 fAbs (dVarB 2)) (ret (.int 2147483629))) [2])))))
def F__law_begun : FS := mkF 1 3 b__law_begun
def l2 : MS := (sSet 4 (dSh (d2 fMod (d2 fAdd (d2 fAdd (d2 fMul (dVarB 4) (ret (.int 48271))) (dVarB 5)) (dVarB 1)) (dVarB 3))))
def l1 : MS := (sSeq (sSet 4 (dSh (d2 fAdd (d2 fMul (ret (.int 104729)) (dVarB 1)) (d2 fDiv (dVarB 3) (ret (.int 7))))))
    (sSeq (sFor (lDwC 0) (gN 5) l2 [5])
    (sSet 2 (dSh (d2 fAdd (d2 fMul (dVarB 2) (ret (.int 2147483647))) (d2 fMod (d2 fPow (dVarB 4) (ret (.int 5))) (dVarB 3)))))))
def b__law_mixed : MS := (sSeq (sSet 1 (dSh (d2 fAdd (dwI (·.turn) 0) (ret (.int 1)))))
    (sSeq (sDw (fun s z => { s with turn := z }) 0 (dVar 1))
    (sSeq (sSet 2 (dSh (ret (.int 0))))
    (sSeq (sFor (lItems (dFz (dLst (dCons (ret (.int 2147483629)) (dCons (ret (.int 2147483587)) (dCons (ret (.int 2147483579)) (dCons (ret (.int 2147483563)) dNil))))))) (gN 3) l1 [3, 4, 5])
    (sRet (dMove 2))))))
def F__law_mixed : FS := mkF 1 6 b__law_mixed
def b__law_take : MS := (sSeq (sIf (dAndT (dB (d2 fEq (dwI (·.rest) 0) (ret (.int 0)))) (dB (d2 fNe (dwL 0) (ret (.lst []))))) (sDw (fun s z => { s with rest := z }) 0 (dwP 0)) (sIf (dB (d2 fEq (dwI (·.rest) 0) (ret (.int 0)))) (sDw (fun s z => { s with rest := z }) 0 (dFz (dCall F__law_mixed [some 0] (dRef 0 dNil)))) sNil))
    (sSeq (sSet 2 (dSh (d2 fMod (dwI (·.rest) 0) (dVarB 1))))
    (sSeq (sDw (fun s z => { s with rest := z }) 0 (d2 fDiv (dwI (·.rest) 0) (dVarB 1)))
    (sRet (dMove 2)))))
def F__law_take : FS := mkF 2 3 b__law_take
def b__law_pick : MS := (sRet (dSh (d2 fIx (dVar 1) (dFz (dCall F__law_take [some 0, none] (dRef 0 (dCons (d1 fLen (dVarB 1)) dNil)))))))
def F__law_pick : FS := mkF 2 2 b__law_pick
end Drw
open Drw
/-- a draw that may be asked n times -/
structure DwOk (n : Nat) (s : Dw) : Prop where
  large : ∀ z ∈ s.large, 0 ≤ z
  cells : ∀ z ∈ s.cells, 0 ≤ z
  rest : 0 ≤ s.rest
  turn : 0 ≤ s.turn
  few : s.turn + n ≤ 1000000000
theorem DwOk.le {m n : Nat} {s : Dw} (h : DwOk n s) (l : m ≤ n) : DwOk m s := ⟨h.large, h.cells, h.rest, h.turn, by have := h.few; omega⟩
theorem flat_int (i : Int) : (D.int i).flat = true := by simp [D.flat, D.pur, D.dep]
theorem flat_bl (i : Bool) : (D.bl i).flat = true := by simp [D.flat, D.pur, D.dep]
theorem flat_non : (D.non).flat = true := by simp [D.flat, D.pur, D.dep]
theorem flat_str (x : Str) : (D.str x).flat = true := by simp [D.flat, D.pur, D.dep]
theorem eqv_int (i j : Int) : (D.int i).eqv (.int j) = (i == j) := by simp [D.eqv, D.py, PyData.eqv]
theorem eqv_str (x y : Str) : (D.str x).eqv (.str y) = (x == y) := by simp [D.eqv, D.py, PyData.eqv]
theorem purL_ints : ∀ ns : List Int, purL (ns.map D.int) = true
  | [] => rfl
  | n :: ns => by simp [purL, D.pur, purL_ints ns]
theorem depL_ints : ∀ ns : List Int, depL (ns.map D.int) = 0
  | [] => rfl
  | n :: ns => by simp [depL, D.dep, depL_ints ns]
theorem flat_ints (ns : List Int) : (D.lst (ns.map D.int)).flat = true := by simp [D.flat, D.pur, D.dep, purL_ints, depL_ints]
theorem flat_lst0 : (D.lst []).flat = true := flat_ints []
theorem eqv_lst0 (ds : List D) : (D.lst ds).eqv (.lst []) = ds.isEmpty := by
  cases ds <;> simp [D.eqv, D.py, pyL, PyData.eqv, PyData.eqvAll]
theorem big0 : 100000 < sizeLine := by decide
theorem l2_run {s : Dw} {t : Option Nat} {tu : Int} {f p b c : Int} (hp : 0 < p) (h0 : 0 ≤ b) (hc : 0 ≤ c) (ht : 0 ≤ tu) :
    ∃ b', 0 ≤ b' ∧ b' < p ∧ l2 [.rs t s, .sh (.int tu), .sh (.int f), .sh (.int p), .sh (.int b), .sh (.int c)] = .nx [.rs t s, .sh (.int tu), .sh (.int f), .sh (.int p), .sh (.int b'), .sh (.int c)] := by
  have hs : small64 48271 = true := by decide
  have e : (b * 48271 + c + tu).fmod p = (b * 48271 + c + tu) % p := Int.fmod_eq_emod_of_nonneg _ (by omega)
  refine ⟨(b * 48271 + c + tu) % p, Int.emod_nonneg _ (by omega), Int.emod_lt_of_pos _ hp, ?_⟩
  have hp' : p ≠ 0 := by omega
  simp [l2, sSet, dSh, d2, bnd, Res.bind, Res.andS, dVarB, ret, lft, fMod, fI, fAdd, fMul, fMulI, fOr, hs, hp', e]
theorem l2_loop {s : Dw} {t : Option Nat} {tu : Int} {f p : Int} (hp : 0 < p) (ht : 0 ≤ tu) : ∀ (cs : List Int) (b : Int), (∀ z ∈ cs, 0 ≤ z) → 0 ≤ b →
    ∃ b', 0 ≤ b' ∧ b' ≤ max b p ∧ sEach (gN 5) l2 [5] (cs.map D.int) [.rs t s, .sh (.int tu), .sh (.int f), .sh (.int p), .sh (.int b), .no] = .nx [.rs t s, .sh (.int tu), .sh (.int f), .sh (.int p), .sh (.int b'), .no]
  | [], b, _, h0 => ⟨b, h0, by omega, rfl⟩
  | c :: cs, b, hc, h0 => by
    obtain ⟨b1, h1, h2, h3⟩ := l2_run (s := s) (t := t) (f := f) hp h0 (hc c List.mem_cons_self) ht
    obtain ⟨b2, h4, h5, h6⟩ := l2_loop (s := s) (t := t) (f := f) hp ht cs b1 (fun z hz => hc z (List.mem_cons_of_mem _ hz)) h1
    refine ⟨b2, h4, by omega, ?_⟩
    rw [List.map_cons, sEach_nx (ρ1 := [.rs t s, .sh (.int tu), .sh (.int f), .sh (.int p), .sh (.int b), .sh (.int c)]) rfl h3]
    exact h6
theorem l1_run {s : Dw} {t : Option Nat} {tu : Int} {f p : Int} {x : Sl} (hp : 0 < p) (hp2 : p < 2147483648) (hc : ∀ z ∈ s.cells, 0 ≤ z) (ht : 0 ≤ tu) (ht2 : tu ≤ 1000000000) (hf : 0 ≤ f) :
    ∃ f' b', 0 ≤ f' ∧ l1 [.rs t s, .sh (.int tu), .sh (.int f), .sh (.int p), x, .no] = .nx [.rs t s, .sh (.int tu), .sh (.int f'), .sh (.int p), .sh (.int b'), .no] := by
  have hs : small64 104729 = true := by decide
  have hs2 : small64 2147483647 = true := by decide
  have e7 : p.fdiv 7 = p / 7 := Int.fdiv_eq_ediv_of_nonneg _ (by omega)
  have hb : 0 ≤ 104729 * tu + p / 7 := by omega
  obtain ⟨b', h1, h2, h3⟩ := l2_loop (s := s) (t := t) (f := f) hp ht s.cells _ hc hb
  have hp' : p ≠ 0 := by omega
  have e : (b' ^ 5).fmod p = (b' ^ 5) % p := Int.fmod_eq_emod_of_nonneg _ (by omega)
  have hb5 : 0 ≤ (b' ^ 5) % p := Int.emod_nonneg _ hp'
  have hsm : b'.natAbs < 2 ^ 64 := by omega
  refine ⟨f * 2147483647 + (b' ^ 5) % p, b', by omega, ?_⟩
  simp only [l1]
  rw [sSeq_nx (ρ' := [.rs t s, .sh (.int tu), .sh (.int f), .sh (.int p), .sh (.int (104729 * tu + p / 7)), .no])]
  · rw [sSeq_nx (ρ' := [.rs t s, .sh (.int tu), .sh (.int f), .sh (.int p), .sh (.int b'), .no])]
    · have h5 : (5 : Int).toNat = 5 := rfl
      simp [sSet, dSh, d2, bnd, Res.bind, Res.andS, dVarB, ret, lft, fMod, fI, fAdd, fMul, fMulI, fOr, fPow, hs2, hp', e, hsm, h5]
    · simpa [sFor, lDwC, drw, Res.andS] using h3
  · simp [sSet, dSh, d2, bnd, Res.bind, Res.andS, dVarB, ret, lft, fI, fAdd, fMul, fMulI, fOr, fDiv, hs, e7]
theorem mixed_run {n : Nat} {s : Dw} {t : Option Nat} (h : DwOk (n + 1) s) : ∃ m, 0 ≤ m ∧ F__law_mixed [.rs t s] = .ok (.sh (.int m)) [.rs none { s with turn := s.turn + 1 }] := by
  have hf := h.few
  have h0 := h.turn
  let s' : Dw := { s with turn := s.turn + 1 }
  have L : ∃ f', 0 ≤ f' ∧ sEach (gN 3) l1 [3, 4, 5] [.int 2147483629, .int 2147483587, .int 2147483579, .int 2147483563] [.rs (some 0) s', .sh (.int (s.turn + 1)), .sh (.int 0), .no, .no, .no] = .nx [.rs (some 0) s', .sh (.int (s.turn + 1)), .sh (.int f'), .no, .no, .no] := by
    have hc : ∀ z ∈ s'.cells, 0 ≤ z := h.cells
    obtain ⟨f1, b1, z1, e1⟩ := l1_run (s := s') (t := some 0) (tu := s.turn + 1) (f := 0) (p := 2147483629) (x := .no) (by omega) (by omega) hc (by omega) (by omega) (by omega)
    obtain ⟨f2, b2, z2, e2⟩ := l1_run (s := s') (t := some 0) (tu := s.turn + 1) (f := f1) (p := 2147483587) (x := .no) (by omega) (by omega) hc (by omega) (by omega) z1
    obtain ⟨f3, b3, z3, e3⟩ := l1_run (s := s') (t := some 0) (tu := s.turn + 1) (f := f2) (p := 2147483579) (x := .no) (by omega) (by omega) hc (by omega) (by omega) z2
    obtain ⟨f4, b4, z4, e4⟩ := l1_run (s := s') (t := some 0) (tu := s.turn + 1) (f := f3) (p := 2147483563) (x := .no) (by omega) (by omega) hc (by omega) (by omega) z3
    refine ⟨f4, z4, ?_⟩
    rw [sEach_nx rfl e1, sEach_nx rfl e2, sEach_nx rfl e3, sEach_nx rfl e4]
    rfl
  obtain ⟨m, hm, L⟩ := L
  refine ⟨m, hm, ?_⟩
  have z4 : 4 ≤ sizeLine := by decide
  simp [F__law_mixed, mkF, b__law_mixed, tagFrom, Sl.tagged, sSeq, sSet, dSh, d2, bnd, Res.bind, Res.andS, dwI, drw, ret, lft, fAdd, sDw, dVar, sFor, lItems, dFz, dLst, dCons, dNil, z4, Sl.d, D.items]
  simp only [s'] at L
  rw [L]
  simp [sRet, dMove, Res.andS, keepL, keep1, Sl.tagged]
theorem take_run {n : Nat} {s : Dw} {t : Option Nat} {k : Int} (h : DwOk (n + 1) s) (hk : 0 < k) (hk2 : k < 1073741824) :
    ∃ r s', 0 ≤ r ∧ r < k ∧ DwOk n s' ∧ F__law_take [.rs t s, .sh (.int k)] = .ok (.sh (.int r)) [.rs none s', .no] := by
  have fin : ∀ s1 : Dw, DwOk n s1 → ∃ r s', 0 ≤ r ∧ r < k ∧ DwOk n s' ∧ (sSeq (sSet 2 (dSh (d2 fMod (dwI (·.rest) 0) (dVarB 1))))
      (sSeq (sDw (fun s z => { s with rest := z }) 0 (d2 fDiv (dwI (·.rest) 0) (dVarB 1)))
      (sRet (dMove 2)))) [.rs (some 0) s1, .sh (.int k), .no] = .rt (.sh (.int r)) [.rs (some 0) s', .sh (.int k), .sh (.int r)] := by
    intro s1 h1
    have hk' : k ≠ 0 := by omega
    have hn : k.natAbs < 1073741824 := by omega
    have e : s1.rest.fmod k = s1.rest % k := Int.fmod_eq_emod_of_nonneg _ (by omega)
    have e2 : s1.rest.fdiv k = s1.rest / k := Int.fdiv_eq_ediv_of_nonneg _ (by omega)
    refine ⟨s1.rest % k, { s1 with rest := s1.rest / k }, Int.emod_nonneg _ hk', Int.emod_lt_of_pos _ hk, ⟨h1.large, h1.cells, Int.ediv_nonneg h1.rest (by omega), h1.turn, h1.few⟩, ?_⟩
    simp [sSeq, sSet, dSh, d2, bnd, Res.bind, Res.andS, dwI, drw, dVarB, lft, ret, fMod, fDiv, fI, hk', hn, e, e2, sDw, sRet, dMove]
  have go : ∃ s1, DwOk n s1 ∧ (sIf (dAndT (dB (d2 fEq (dwI (·.rest) 0) (ret (.int 0)))) (dB (d2 fNe (dwL 0) (ret (.lst []))))) (sDw (fun s z => { s with rest := z }) 0 (dwP 0)) (sIf (dB (d2 fEq (dwI (·.rest) 0) (ret (.int 0)))) (sDw (fun s z => { s with rest := z }) 0 (dFz (dCall F__law_mixed [some 0] (dRef 0 dNil)))) sNil)) [.rs (some 0) s, .sh (.int k), .no] = .nx [.rs (some 0) s1, .sh (.int k), .no] := by
    by_cases hr : s.rest = 0
    · cases hl : s.large with
      | nil =>
        obtain ⟨m, hm, e⟩ := mixed_run (t := some 0) h
        refine ⟨{ s with turn := s.turn + 1, rest := m }, ⟨h.large, h.cells, hm, by have := h.turn; show 0 ≤ s.turn + 1; omega, by have := h.few; show s.turn + 1 + n ≤ _; omega⟩, ?_⟩
        simp [sIf, dAndT, dB, d2, bnd, Res.bind, Res.andS, dwI, drw, ret, lft, fEq, fNe, flat_int, eqv_int, hr, asB, dwL, hl, flat_lst0, eqv_lst0, sDw, dFz, dCall, dRef, refOk, dNil, mk, e, back, Sl.tagged, tagOf, Sl.d]
      | cons z zs =>
        have hz : 0 ≤ z := h.large z (by rw [hl]; exact List.mem_cons_self)
        have fl : (D.lst (D.int z :: zs.map D.int)).flat = true := flat_ints (z :: zs)
        refine ⟨{ s with large := zs, rest := z }, ⟨fun y hy => h.large y (by rw [hl]; exact List.mem_cons_of_mem _ hy), h.cells, hz, h.turn, by have := h.few; show s.turn + n ≤ _; omega⟩, ?_⟩
        simp [sIf, dAndT, dB, d2, bnd, Res.bind, Res.andS, dwI, drw, ret, lft, fEq, fNe, flat_int, eqv_int, hr, asB, dwL, hl, flat_lst0, eqv_lst0, fl, sDw, dwP]
    · refine ⟨s, h.le (by omega), ?_⟩
      simp [sIf, dAndT, dB, d2, bnd, Res.bind, Res.andS, dwI, drw, ret, lft, fEq, fNe, flat_int, eqv_int, hr, asB, sNil]
  obtain ⟨s1, h1, e1⟩ := go
  obtain ⟨r, s', q1, q2, q3, e2⟩ := fin s1 h1
  refine ⟨r, s', q1, q2, q3, ?_⟩
  have B : b__law_take [.rs (some 0) s, .sh (.int k), .no] = .rt (.sh (.int r)) [.rs (some 0) s', .sh (.int k), .sh (.int r)] := by
    unfold b__law_take
    rw [sSeq_nx e1]
    exact e2
  simp [F__law_take, mkF, tagFrom, Sl.tagged, B, keepL, keep1]
theorem asInts_ints : ∀ ns : List Int, asInts (ns.map D.int) = some ns
  | [] => rfl
  | n :: ns => by simp [asInts, asInt, asInts_ints ns]
theorem ten18 : (if 0 ≤ (18 : Int) ∧ (18 : Int) ≤ 1000000 ∧ (10 : Int).natAbs < 2 ^ 64 then some ((10 : Int) ^ (18 : Int).toNat) else none) = some 1000000000000000000 := by decide
theorem begun_large (sc : D) (x : Sl) : ∀ (ns : List Int) (acc : List Int), acc.length + ns.length ≤ 1000 → (∀ z ∈ acc, 0 ≤ z) →
    ∃ ls : List Int, (∀ z ∈ ls, 0 ≤ z) ∧ lcRun (gN 2) (dB (d2 fGe (d1 fAbs (dVarB 2)) (d2 fPow (ret (.int 10)) (ret (.int 18))))) (d2 fSub (d1 fAbs (dVarB 2)) (d2 fPow (ret (.int 10)) (ret (.int 18)))) [2] (ns.map D.int) (acc.map D.int) [.sh sc, x, .no] = some (ls.map D.int, [.sh sc, x, .no])
  | [], acc, _, h => ⟨acc, h, rfl⟩
  | n :: ns, acc, hl, h => by
    have hz : acc.length < sizeLine := Nat.lt_trans (by simp only [List.length_cons] at hl; omega) big0
    by_cases hn : (1000000000000000000 : Int) ≤ (if n < 0 then -n else n)
    · obtain ⟨ls, h1, h2⟩ := begun_large sc x ns (acc ++ [(if n < 0 then -n else n) - 1000000000000000000]) (by simp only [List.length_cons, List.length_append, List.length_nil] at hl ⊢; omega) (fun z hz => by
        rcases List.mem_append.mp hz with q | q
        · exact h z q
        · simp at q; omega)
      refine ⟨ls, h1, ?_⟩
      rw [← h2]
      simp only [List.map_cons, lcRun, gN]
      simp [dB, d2, d1, bnd, Res.bind, dVarB, ret, lft, fAbs, fPow, fI, ten18, fGe, asB, hn, fSub, hz, drops]
    · obtain ⟨ls, h1, h2⟩ := begun_large sc x ns acc (by simp only [List.length_cons] at hl; omega) h
      refine ⟨ls, h1, ?_⟩
      rw [← h2]
      simp only [List.map_cons, lcRun, gN]
      simp [dB, d2, d1, bnd, Res.bind, dVarB, ret, lft, fAbs, fPow, fI, ten18, fGe, asB, hn, drops]
theorem begun_cells (sc : D) (x : Sl) : ∀ (ns : List Int) (acc : List Int), acc.length + ns.length ≤ 1000 → (∀ z ∈ acc, 0 ≤ z) →
    ∃ ls : List Int, (∀ z ∈ ls, 0 ≤ z) ∧ lcRun (gN 2) (ret true) (d2 fMod (d1 fAbs (dVarB 2)) (ret (.int 2147483629))) [2] (ns.map D.int) (acc.map D.int) [.sh sc, x, .no] = some (ls.map D.int, [.sh sc, x, .no])
  | [], acc, _, h => ⟨acc, h, rfl⟩
  | n :: ns, acc, hl, h => by
    have hz : acc.length < sizeLine := Nat.lt_trans (by simp only [List.length_cons] at hl; omega) big0
    obtain ⟨ls, h1, h2⟩ := begun_cells sc x ns (acc ++ [(if n < 0 then -n else n) % 2147483629]) (by simp only [List.length_cons, List.length_append, List.length_nil] at hl ⊢; omega) (fun z hz => by
      rcases List.mem_append.mp hz with q | q
      · exact h z q
      · simp at q; omega)
    refine ⟨ls, h1, ?_⟩
    rw [← h2]
    have e : (if n < 0 then -n else n).fmod 2147483629 = (if n < 0 then -n else n) % 2147483629 := Int.fmod_eq_emod_of_nonneg _ (by omega)
    simp only [List.map_cons, lcRun, gN]
    simp [d2, d1, bnd, Res.bind, dVarB, ret, lft, fAbs, fMod, fI, hz, drops, e]
theorem begun_run {ns : List Int} (h : ns.length ≤ 63) : ∃ s, DwOk 1000000000 s ∧ F__law_begun [.sh (.scr ns)] = .ok (.rs none s) [.no] := by
  obtain ⟨ls, h1, h2⟩ := begun_large (.scr ns) .no ns [] (by simp; omega) (by simp)
  obtain ⟨cs, h3, h4⟩ := begun_cells (.scr ns) .no ns [] (by simp; omega) (by simp)
  refine ⟨⟨ls, cs, 0, 0⟩, ⟨h1, h3, Int.le_refl _, Int.le_refl _, by simp⟩, ?_⟩
  simp only [List.map_nil] at h2 h4
  simp [F__law_begun, mkF, b__law_begun, tagFrom, Sl.tagged, sSeq, sSet, dLc, lItems, bnd, Res.bind, Res.andS, dVar, lft, D.items, drops, h2, mend, shOr, sRet, dwNew, dMove, ret, dFz, h4, Sl.d, asInts_ints, keepL, keep1]
/-- items that may be picked -/
def D.itemsN : D → Option (List D)
  | .lst ds => some ds
  | .tup ds => some ds
  | _ => none
theorem atI_ok {ds : List D} {r : Int} (h0 : 0 ≤ r) (h1 : r < ds.length) : ∃ d, d ∈ ds ∧ atI ds r = some d := by
  have hr : r.toNat < ds.length := by omega
  refine ⟨ds[r.toNat], List.getElem_mem hr, ?_⟩
  have e : ixN ds.length r = some r.toNat := by
    unfold ixN
    simp [h0, h1]
  simp [atI, e, hr]
theorem pick_run {n : Nat} {s : Dw} {t : Option Nat} {d : D} {ds : List D} (h : DwOk (n + 1) s) (hd : d.itemsN = some ds) (h0 : ds ≠ []) (hl : ds.length < 1000000) :
    ∃ e s', e ∈ ds ∧ DwOk n s' ∧ F__law_pick [.rs t s, .sh d] = .ok (.sh e) [.rs none s', .no] := by
  have hp : 0 < ds.length := List.length_pos_iff.mpr h0
  obtain ⟨r, s', q1, q2, q3, e⟩ := take_run (t := some 0) (k := ds.length) h (by omega) (by omega)
  obtain ⟨y, hy, ey⟩ := atI_ok q1 q2
  refine ⟨y, s', hy, q3, ?_⟩
  have e1 : fLen d = some (.int ds.length) := by
    cases d <;> simp [D.itemsN] at hd <;> subst hd <;> rfl
  have e2 : fIx d (.int r) = some y := by
    cases d <;> simp [D.itemsN] at hd <;> subst hd <;> simpa [fIx] using ey
  simp [F__law_pick, mkF, b__law_pick, tagFrom, Sl.tagged, sRet, dSh, d2, bnd, Res.bind, Res.andS, dVar, dVarB, dFz, dCall, dRef, refOk, dCons, d1, e1, lft, dNil, ret, mk, e, back, tagOf, Sl.d, e2, keepL, keep1]
end DS

set_option Elab.async false
set_option linter.all false
set_option maxRecDepth 100000
set_option maxHeartbeats 1000000
/-! running the functions of the slots by simp -/
namespace DS
open PySem PySem.Spec PyProof.Rows L2
variable {α β : Type} {ρ ρ1 : List Sl} {a : α} {u : α → M β} {x : Exn}
@[simp] theorem x_bnd (t : M α) (u : α → M β) : bnd t u ρ = (t ρ).bind u := rfl
@[simp] theorem x_bok : (Res.ok a ρ).bind u = u a ρ := rfl
@[simp] theorem x_bex : (Res.ex x ρ : Res α).bind u = .ex x ρ := rfl
@[simp] theorem x_bno : (Res.no : Res α).bind u = .no := rfl
@[simp] theorem x_aok {u : α → MS} : (Res.ok a ρ).andS u = u a ρ := rfl
@[simp] theorem x_aex {u : α → MS} : (Res.ex x ρ : Res α).andS u = .ex x ρ := rfl
@[simp] theorem x_ano {u : α → MS} : (Res.no : Res α).andS u = .no := rfl
@[simp] theorem x_ret : ret a ρ = .ok a ρ := rfl
@[simp] theorem x_lft1 : lft (some a) ρ = .ok a ρ := rfl
@[simp] theorem x_lft0 : lft (none : Option α) ρ = .no := rfl
/-- what a slot gives -/
def slD (ρ : List Sl) (i : Nat) : Option Sl → Res D
  | some (.sh d) => .ok d ρ
  | some (.ow _ d) => .ok d (ρ.set i (.sh d))
  | _ => .no
def slB (ρ : List Sl) : Option Sl → Res D
  | some (.sh d) => .ok d ρ
  | some (.ow _ d) => .ok d ρ
  | _ => .no
def slM (ρ : List Sl) (i : Nat) : Option Sl → Res Sl
  | some (.sh d) => .ok (.sh d) ρ
  | some (.ow t d) => .ok (.ow t d) (ρ.set i .no)
  | _ => .no
@[simp] theorem x_var (i : Nat) : dVar i ρ = slD ρ i ρ[i]? := by unfold dVar slD; rfl
@[simp] theorem x_varB (i : Nat) : dVarB i ρ = slB ρ ρ[i]? := by unfold dVarB slB; rfl
@[simp] theorem x_move (i : Nat) : dMove i ρ = slM ρ i ρ[i]? := by unfold dMove slM; rfl
@[simp] theorem x_slD1 {i : Nat} {d : D} : slD ρ i (some (.sh d)) = .ok d ρ := rfl
@[simp] theorem x_slD2 {i : Nat} {d : D} {t : Option Nat} : slD ρ i (some (.ow t d)) = .ok d (ρ.set i (.sh d)) := rfl
@[simp] theorem x_slB1 {d : D} : slB ρ (some (.sh d)) = .ok d ρ := rfl
@[simp] theorem x_slB2 {d : D} {t : Option Nat} : slB ρ (some (.ow t d)) = .ok d ρ := rfl
@[simp] theorem x_slM1 {i : Nat} {d : D} : slM ρ i (some (.sh d)) = .ok (.sh d) ρ := rfl
@[simp] theorem x_slM2 {i : Nat} {d : D} {t : Option Nat} : slM ρ i (some (.ow t d)) = .ok (.ow t d) (ρ.set i .no) := rfl
@[simp] theorem x_d2 (f : D → D → Option D) (ta tb : M D) : d2 f ta tb ρ = (ta ρ).bind fun d => bnd tb fun e => lft (f d e) := rfl
@[simp] theorem x_d1 (f : D → Option D) (ta : M D) : d1 f ta ρ = (ta ρ).bind fun d => lft (f d) := rfl
@[simp] theorem x_dB (t : M D) : dB t ρ = (t ρ).bind fun d => lft (asB d) := rfl
@[simp] theorem x_asB (b : Bool) : asB (.bl b) = some b := rfl
@[simp] theorem x_notT (t : M Bool) : dNotT t ρ = (t ρ).bind fun c => ret (!c) := rfl
@[simp] theorem x_andT (t v : M Bool) : dAndT t v ρ = (t ρ).bind fun c => if c then v else ret false := rfl
@[simp] theorem x_orT (t v : M Bool) : dOrT t v ρ = (t ρ).bind fun c => if c then ret true else v := rfl
@[simp] theorem x_andV (ta tb : M D) : dAndV ta tb ρ = (dB ta ρ).bind fun c => if c then tb else ret (.bl false) := rfl
@[simp] theorem x_orV (ta tb : M D) : dOrV ta tb ρ = (dB ta ρ).bind fun c => if c then ret (.bl true) else tb := rfl
@[simp] theorem x_notV (ta : M D) : dNotV ta ρ = (dB ta ρ).bind fun c => ret (.bl (!c)) := rfl
@[simp] theorem x_if (t : M Bool) (ta tb : M α) : dIf t ta tb ρ = (t ρ).bind fun c => if c then ta else tb := rfl
@[simp] theorem x_nil : dNil ρ = .ok [] ρ := rfl
@[simp] theorem x_cons (t : M D) (v : M (List D)) : dCons t v ρ = (t ρ).bind fun d => bnd v fun ds => ret (d :: ds) := rfl
@[simp] theorem x_tup (v : M (List D)) : dTup v ρ = (v ρ).bind fun ds => lft (if ds.length ≤ sizeLine then some (.tup ds) else none) := rfl
@[simp] theorem x_lst (v : M (List D)) : dLst v ρ = (v ρ).bind fun ds => lft (if ds.length ≤ sizeLine then some (.ow none (.lst ds)) else none) := rfl
@[simp] theorem x_sh (t : M D) : dSh t ρ = (t ρ).bind fun d => ret (.sh d) := rfl
@[simp] theorem x_fz (t : M Sl) : dFz t ρ = (t ρ).bind fun s => lft s.d := rfl
@[simp] theorem x_d_sh (d : D) : (Sl.sh d).d = some d := rfl
@[simp] theorem x_d_ow (t : Option Nat) (d : D) : (Sl.ow t d).d = some d := rfl
@[simp] theorem x_sl (ta : M D) (tl th : M (Option Int)) : dSl ta tl th ρ = (ta ρ).bind fun d => bnd tl fun l => bnd th fun h => lft (fSl d l h) := rfl
@[simp] theorem x_part (t : M D) : dPart t ρ = (t ρ).bind fun d => bnd (lft (asI d)) fun i => ret (some i) := rfl
@[simp] theorem x_asI (i : Int) : asI (.int i) = some i := rfl
/-! statements -/
def SR.thn (r : SR) (w : MS) : SR := match r with
  | .nx ρ' => w ρ'
  | r => r
@[simp] theorem x_seq (t w : MS) : sSeq t w ρ = (t ρ).thn w := rfl
@[simp] theorem x_thn1 {w : MS} : (SR.nx ρ).thn w = w ρ := rfl
@[simp] theorem x_thn2 {w : MS} {s : Sl} : (SR.rt s ρ).thn w = .rt s ρ := rfl
@[simp] theorem x_thn3 {w : MS} : (SR.ex x ρ).thn w = .ex x ρ := rfl
@[simp] theorem x_thn4 {w : MS} : (SR.bk ρ).thn w = .bk ρ := rfl
@[simp] theorem x_thn5 {w : MS} : (SR.ct ρ).thn w = .ct ρ := rfl
@[simp] theorem x_snil : sNil ρ = .nx ρ := rfl
@[simp] theorem x_sif (t : M Bool) (v w : MS) : sIf t v w ρ = (t ρ).andS fun c => if c then v else w := rfl
@[simp] theorem x_sret (t : M Sl) : sRet t ρ = (t ρ).andS .rt := rfl
@[simp] theorem x_sset (i : Nat) (t : M Sl) : sSet i t ρ = (t ρ).andS fun s ρ => .nx (ρ.set i s) := rfl
@[simp] theorem x_sdrop (t : M D) : sDrop t ρ = (t ρ).andS fun _ => .nx := rfl
@[simp] theorem x_scons (t : M Sl) (v : M (List Sl)) : sCons t v ρ = (t ρ).bind fun s => bnd v fun ss => ret (s :: ss) := rfl
@[simp] theorem x_par2 (i j : Nat) {t : M (List Sl)} : sPar2 i j t ρ = (t ρ).andS fun ss ρ => match ss with
  | [s1, s2] => .nx ((ρ.set i s1).set j s2)
  | _ => .no := rfl
@[simp] theorem x_par3 (i j k : Nat) {t : M (List Sl)} : sPar3 i j k t ρ = (t ρ).andS fun ss ρ => match ss with
  | [s1, s2, s3] => .nx (((ρ.set i s1).set j s2).set k s3)
  | _ => .no := rfl
@[simp] theorem x_parN (is : List Nat) {t : M (List Sl)} : sParN is t ρ = (t ρ).andS fun ss ρ => if ss.length = is.length ∧ ss.length ≤ sizeLine then .nx (setAll is ss ρ) else .no := rfl
@[simp] theorem x_setAll {i : Nat} {is : List Nat} {s : Sl} {ss : List Sl} : setAll (i :: is) (s :: ss) ρ = setAll is ss (ρ.set i s) := rfl
@[simp] theorem x_setAll0 : setAll [] [] ρ = ρ := rfl
@[simp] theorem x_sfor (t : M (List D)) (g : D → List Sl → Option (List Sl)) (b : MS) (kl : List Nat) : sFor t g b kl ρ = (t ρ).andS fun ds => sEach g b kl ds := rfl
@[simp] theorem x_items (t : M D) : lItems t ρ = (t ρ).bind fun d => lft d.items := rfl
@[simp] theorem x_enum (t : M D) : lEnum t ρ = (t ρ).bind fun d => lft (d.items.map (pairs0 0)) := rfl
@[simp] theorem x_range (f : List D → Option (List D)) (v : M (List D)) : lRange f v ρ = (v ρ).bind fun ds => lft (f ds) := rfl
@[simp] theorem x_itl (ds : List D) : (D.lst ds).items = some ds := rfl
@[simp] theorem x_itt (ds : List D) : (D.tup ds).items = some ds := rfl
@[simp] theorem x_its (y : Str) : (D.str y).items = some ((signs y).map D.str) := rfl
def appR (ρ : List Sl) (i : Nat) (d : D) : Option Sl → SR
  | some (.ow t (.lst ds)) => if ds.length < sizeLine then .nx (ρ.set i (.ow t (.lst (ds ++ [d])))) else .no
  | _ => .no
@[simp] theorem x_app (i : Nat) (t : M D) : sApp i t ρ = (t ρ).andS fun d ρ => appR ρ i d ρ[i]? := rfl
@[simp] theorem x_appG (i : Nat) (t : M D) : sAppG i t ρ = if isL ρ[i]? then sApp i t ρ else .no := rfl
@[simp] theorem x_isL {t : Option Nat} {ds : List D} : isL (some (.ow t (.lst ds))) = true := rfl
@[simp] theorem x_appR {i : Nat} {d : D} {t : Option Nat} {ds : List D} : appR ρ i d (some (.ow t (.lst ds))) = if ds.length < sizeLine then .nx (ρ.set i (.ow t (.lst (ds ++ [d])))) else .no := rfl
@[simp] theorem x_raise (c : Str) (fs : List Str) (v : M (List D)) : sRaise c fs v ρ = (v ρ).andS fun ds ρ => if ds.length = fs.length then .ex ⟨c, fs.zip ds⟩ ρ else .no := rfl
@[simp] theorem x_asg (t : M D) (g : D → List Sl → Option (List Sl)) : sAsg t g ρ = (t ρ).andS fun d ρ => match g d ρ with
  | some ρ' => .nx ρ'
  | none => .no := rfl
/-! calls -/
def callR (rs : List (Option Nat)) (ρ1 ss ρ2 : List Sl) : FR → Res Sl
  | .ok s ss' => if ss'.length = ss.length then .ok s (back rs ss' ρ1 ρ2) else .no
  | .ex x ss' => if ss'.length = ss.length then .ex x (back rs ss' ρ1 ρ2) else .no
  | .no => .no
def callM (F : FS) (rs : List (Option Nat)) (ρ1 : List Sl) : Option (List Sl × List Sl) → Res Sl
  | some (ss, ρ2) => callR rs ρ1 ss ρ2 (F ss)
  | none => .no
@[simp] theorem x_call (F : FS) (rs : List (Option Nat)) (v : M (List D)) : dCall F rs v ρ = (v ρ).bind fun ds ρ1 => callM F rs ρ1 (mk rs ds ρ1) := by
  unfold dCall
  rw [x_bnd]
  congr 1
  funext ds ρ1
  cases h : mk rs ds ρ1 with
  | none => rfl
  | some p =>
    obtain ⟨ss, ρ2⟩ := p
    cases h2 : F ss <;> simp [callM, callR, h2]
@[simp] theorem x_callM {F : FS} {rs : List (Option Nat)} {ss ρ2 : List Sl} : callM F rs ρ1 (some (ss, ρ2)) = callR rs ρ1 ss ρ2 (F ss) := rfl
@[simp] theorem x_callR1 {rs : List (Option Nat)} {ss ρ2 ss' : List Sl} {s : Sl} : callR rs ρ1 ss ρ2 (.ok s ss') = if ss'.length = ss.length then .ok s (back rs ss' ρ1 ρ2) else .no := rfl
@[simp] theorem x_callR2 {rs : List (Option Nat)} {ss ρ2 ss' : List Sl} : callR rs ρ1 ss ρ2 (.ex x ss') = if ss'.length = ss.length then .ex x (back rs ss' ρ1 ρ2) else .no := rfl
def mkN (s : Sl) : Option (List Sl × List Sl) → Option (List Sl × List Sl)
  | some (ss, ρ') => some (s :: ss, ρ')
  | none => none
def mkS (i : Nat) : Option (List Sl × List Sl) → Option (List Sl × List Sl)
  | some (ss, ρ') => if refOk ρ'[i]? then (ρ'[i]?).map fun s => (s :: ss, ρ'.set i .no) else none
  | none => none
@[simp] theorem x_mk0 : mk [] [] ρ = some ([], ρ) := rfl
@[simp] theorem x_mkN {rs : List (Option Nat)} {d : D} {ds : List D} : mk (none :: rs) (d :: ds) ρ = mkN (.sh d) (mk rs ds ρ) := by
  rw [mk]; cases mk rs ds ρ with
  | none => rfl
  | some p => rfl
@[simp] theorem x_mkS {rs : List (Option Nat)} {i : Nat} {ds : List D} : mk (some i :: rs) ds ρ = mkS i (mk rs ds ρ) := by
  rw [mk]; cases mk rs ds ρ with
  | none => rfl
  | some p => rfl
@[simp] theorem x_mkN1 {s : Sl} {ss : List Sl} : mkN s (some (ss, ρ)) = some (s :: ss, ρ) := rfl
@[simp] theorem x_mkS1 {i : Nat} {ss : List Sl} : mkS i (some (ss, ρ)) = if refOk ρ[i]? then (ρ[i]?).map fun s => (s :: ss, ρ.set i .no) else none := rfl
@[simp] theorem x_ref (i : Nat) (v : M (List D)) : dRef i v ρ = if refOk ρ[i]? then v ρ else .no := rfl
@[simp] theorem x_refR {t : Option Nat} {s : Dw} : refOk (some (.rs t s)) = true := rfl
@[simp] theorem x_refO {t : Option Nat} {d : D} : refOk (some (.ow t d)) = true := rfl
@[simp] theorem x_back0 {ss : List Sl} : back [] ss ρ1 ρ = ρ := by cases ss <;> rfl
@[simp] theorem x_backN {rs : List (Option Nat)} {s : Sl} {ss : List Sl} : back (none :: rs) (s :: ss) ρ1 ρ = back rs ss ρ1 ρ := rfl
@[simp] theorem x_backS {rs : List (Option Nat)} {i : Nat} {r : Sl} {ss : List Sl} : back (some i :: rs) (r :: ss) ρ1 ρ = back rs ss ρ1 (ρ.set i (r.tagged (tagOf ρ1[i]?))) := rfl
@[simp] theorem x_tagOw {t : Option Nat} {d : D} : tagOf (some (.ow t d)) = t := rfl
@[simp] theorem x_tagRs {t : Option Nat} {s : Dw} : tagOf (some (.rs t s)) = t := rfl
@[simp] theorem x_tgR {t t' : Option Nat} {s : Dw} : (Sl.rs t s).tagged t' = .rs t' s := rfl
@[simp] theorem x_tgO {t t' : Option Nat} {d : D} : (Sl.ow t d).tagged t' = .ow t' d := rfl
@[simp] theorem x_tgS {t' : Option Nat} {d : D} : (Sl.sh d).tagged t' = .sh d := rfl
@[simp] theorem x_tgN {t' : Option Nat} : (Sl.no).tagged t' = .no := rfl
/-! a def from its body -/
def finF (n : Nat) : SR → FR
  | .nx ρ => .ok (.sh .non) (keepL 0 n ρ)
  | .rt s ρ => .ok (s.tagged none) (keepL 0 n ρ)
  | .ex x ρ => .ex x (keepL 0 n ρ)
  | _ => .no
theorem mkF_eq (n N : Nat) (b : MS) (ss : List Sl) : mkF n N b ss = finF n (b (tagFrom 0 ss ++ List.replicate (N - n) .no)) := by
  unfold mkF finF
  cases b (tagFrom 0 ss ++ List.replicate (N - n) Sl.no) <;> rfl
@[simp] theorem x_fin1 {n : Nat} : finF n (.nx ρ) = .ok (.sh .non) (keepL 0 n ρ) := rfl
@[simp] theorem x_fin2 {n : Nat} {s : Sl} : finF n (.rt s ρ) = .ok (s.tagged none) (keepL 0 n ρ) := rfl
@[simp] theorem x_fin3 {n : Nat} : finF n (.ex x ρ) = .ex x (keepL 0 n ρ) := rfl
@[simp] theorem x_tf0 {j : Nat} : tagFrom j [] = [] := rfl
@[simp] theorem x_tf1 {j : Nat} {s : Sl} {ss : List Sl} : tagFrom j (s :: ss) = s.tagged (some j) :: tagFrom (j + 1) ss := rfl
@[simp] theorem x_kp0 {j : Nat} : keepL j 0 ρ = [] := by cases ρ <;> rfl
@[simp] theorem x_kp1 {j n : Nat} {r : Sl} : keepL j (n + 1) (r :: ρ) = keep1 j r :: keepL (j + 1) n ρ := rfl
@[simp] theorem x_k1 {j : Nat} {d : D} : keep1 j (.sh d) = .no := rfl
@[simp] theorem x_k2 {j : Nat} : keep1 j .no = .no := rfl
@[simp] theorem x_k3 {j k : Nat} {d : D} : keep1 j (.ow (some k) d) = if k = j then .ow none d else .no := rfl
@[simp] theorem x_k4 {j k : Nat} {s : Dw} : keep1 j (.rs (some k) s) = if k = j then .rs none s else .no := rfl
@[simp] theorem x_k5 {j : Nat} {d : D} : keep1 j (.ow none d) = .no := rfl
/-! a try -/
def tryC (i : Nat) (su : MS) (x : Exn) (ρ1 : List Sl) : Option Bool → SR
  | some true => sSuite (fun ρ => (unE ρ).set i .no) (su ((unE ρ1).set i (.er x)))
  | some false => .ex x ρ1
  | none => .no
def tryK (i : Nat) (tab : Str → Option Bool) (su : MS) : SR → SR
  | .ex x ρ1 => tryC i su x ρ1 (tab x.cls)
  | r => r
@[simp] theorem x_try (i : Nat) (tab : Str → Option Bool) (b su : MS) : sTryAs i tab b su ρ = tryK i tab su (b ρ) := by
  unfold sTryAs
  cases b ρ with
  | ex x ρ1 =>
    simp only [tryK]
    cases tab x.cls with
    | none => rfl
    | some c => cases c <;> rfl
  | nx _ => rfl
  | rt _ _ => rfl
  | bk _ => rfl
  | ct _ => rfl
  | no => rfl
@[simp] theorem x_tryK1 {i : Nat} {tab : Str → Option Bool} {su : MS} : tryK i tab su (.nx ρ) = .nx ρ := rfl
@[simp] theorem x_tryK2 {i : Nat} {tab : Str → Option Bool} {su : MS} {s : Sl} : tryK i tab su (.rt s ρ) = .rt s ρ := rfl
@[simp] theorem x_tryK3 {i : Nat} {tab : Str → Option Bool} {su : MS} : tryK i tab su (.ex x ρ1) = tryC i su x ρ1 (tab x.cls) := rfl
@[simp] theorem x_tryC1 {i : Nat} {su : MS} : tryC i su x ρ1 (some true) = sSuite (fun ρ => (unE ρ).set i .no) (su ((unE ρ1).set i (.er x))) := rfl
@[simp] theorem x_tryC2 {i : Nat} {su : MS} : tryC i su x ρ1 (some false) = .ex x ρ1 := rfl
@[simp] theorem x_suite1 {fin : List Sl → List Sl} : sSuite fin (.nx ρ) = .nx (fin ρ) := rfl
@[simp] theorem x_suite2 {fin : List Sl → List Sl} {s : Sl} : sSuite fin (.rt s ρ) = .rt (unE1 s) (fin ρ) := rfl
@[simp] theorem x_unE0 : unE [] = [] := rfl
@[simp] theorem x_unE1 {s : Sl} : unE (s :: ρ) = unE1 s :: unE ρ := rfl
@[simp] theorem x_unE2 : unE1 (.er x) = .no := rfl
@[simp] theorem x_unE3 {d : D} : unE1 (.sh d) = .sh d := rfl
@[simp] theorem x_unE4 {t : Option Nat} {d : D} : unE1 (.ow t d) = .ow t d := rfl
@[simp] theorem x_unE5 {t : Option Nat} {s : Dw} : unE1 (.rs t s) = .rs t s := rfl
@[simp] theorem x_unE6 : unE1 .no = .no := rfl
def isR (ρ : List Sl) : Option Bool → Res D
  | some b => .ok (.bl b) ρ
  | none => .no
def erIsR (tab : Str → Option Bool) (ρ : List Sl) : Option Exn → Res D
  | some x => isR ρ (tab x.cls)
  | none => .no
@[simp] theorem x_erIs (i : Nat) (tab : Str → Option Bool) : erIs i tab ρ = erIsR tab ρ (asEr ρ[i]?) := by
  unfold erIs
  cases asEr ρ[i]? with
  | none => rfl
  | some x => simp only [erIsR]; cases tab x.cls <;> rfl
@[simp] theorem x_asEr : asEr (some (.er x)) = some x := rfl
@[simp] theorem x_erIsR {tab : Str → Option Bool} : erIsR tab ρ (some x) = isR ρ (tab x.cls) := rfl
@[simp] theorem x_isR {b : Bool} : isR ρ (some b) = .ok (.bl b) ρ := rfl
def fldR (ρ : List Sl) : Option D → Res D
  | some z => .ok z ρ
  | none => .no
def erFldR (ok : Str → Bool) (f : Str) (ρ : List Sl) : Option Exn → Res D
  | some x => if ok x.cls then fldR ρ (x.fs.lookup f) else .no
  | none => .no
@[simp] theorem x_erFld (i : Nat) (ok : Str → Bool) (f : Str) : erFld i ok f ρ = erFldR ok f ρ (asEr ρ[i]?) := by
  unfold erFld
  cases asEr ρ[i]? with
  | none => rfl
  | some x => simp only [erFldR]; cases x.fs.lookup f <;> rfl
@[simp] theorem x_erFldR {ok : Str → Bool} {f : Str} : erFldR ok f ρ (some x) = if ok x.cls then fldR ρ (x.fs.lookup f) else .no := rfl
@[simp] theorem x_fldR {z : D} : fldR ρ (some z) = .ok z ρ := rfl
/-! targets -/
@[simp] theorem x_gN (i : Nat) (d : D) : gN i d ρ = some (ρ.set i (.sh d)) := rfl
@[simp] theorem x_gsNil : gsNil [] ρ = some ρ := rfl
@[simp] theorem x_gsCons (g : D → List Sl → Option (List Sl)) (gs : List D → List Sl → Option (List Sl)) (d : D) (ds : List D) : gsCons g gs (d :: ds) ρ = (g d ρ).bind (gs ds) := rfl
@[simp] theorem x_gTp (n : Nat) (gs : List D → List Sl → Option (List Sl)) (ds : List D) : gTp n gs (.tup ds) ρ = if ds.length = n then gs ds ρ else none := rfl
@[simp] theorem x_dr0 : drops [] ρ = ρ := rfl
@[simp] theorem x_dr1 {k : Nat} {kl : List Nat} : drops (k :: kl) ρ = drops kl (ρ.set k .no) := rfl
/-! comprehensions -/
def lcR (own : List Nat) (ρ1 : List Sl) : Option (List D × List Sl) → Res Sl
  | some (acc, ρe) => .ok (.ow none (.lst acc)) (mend own ρ1 ρe)
  | none => .no
@[simp] theorem x_lc (t : M (List D)) (g : D → List Sl → Option (List Sl)) (tt : M Bool) (te : M D) (own : List Nat) : dLc t g tt te own ρ = (t ρ).bind fun ds ρ1 => lcR own ρ1 (lcRun g tt te own ds [] (drops own ρ1)) := by
  unfold dLc; rfl
@[simp] theorem x_lcR {own : List Nat} {acc : List D} {ρe : List Sl} : lcR own ρ1 (some (acc, ρe)) = .ok (.ow none (.lst acc)) (mend own ρ1 ρe) := rfl
@[simp] theorem x_mend0 : mend [] ρ1 ρ = ρ := rfl
@[simp] theorem x_mend1 {i : Nat} {vs : List Nat} : mend (i :: vs) ρ1 ρ = (mend vs ρ1 ρ).set i (shOr ρ1[i]?) := rfl
@[simp] theorem x_shOr1 {d : D} : shOr (some (.sh d)) = .sh d := rfl
@[simp] theorem x_shOr2 : shOr (some .no) = .no := rfl
/-- a comprehension that changes nothing: filter and map -/
theorem lcRun_pure {g : D → List Sl → Option (List Sl)} {tt : M Bool} {te : M D} {own : List Nat} {ρ : List Sl} (p : D → Bool) (f : D → D) : ∀ (ds acc : List D),
    (∀ d ∈ ds, ∃ ρ1 ρ2, g d ρ = some ρ1 ∧ tt ρ1 = .ok (p d) ρ2 ∧ (p d = false → drops own ρ2 = ρ) ∧ (p d = true → ∃ ρ3, te ρ2 = .ok (f d) ρ3 ∧ drops own ρ3 = ρ)) → acc.length + ds.length ≤ 100000 →
    lcRun g tt te own ds acc ρ = some (acc ++ (ds.filter p).map f, ρ)
  | [], acc, _, _ => by simp [lcRun]
  | d :: ds, acc, h, hl => by
    obtain ⟨ρ1, ρ2, h1, h2, h3, h4⟩ := h d List.mem_cons_self
    have hz : acc.length < sizeLine := Nat.lt_trans (by simp only [List.length_cons] at hl; omega) big0
    simp only [lcRun, h1, h2]
    cases hp : p d with
    | false =>
      have ih := lcRun_pure (g := g) (tt := tt) (te := te) (own := own) p f ds acc (fun d hd => h d (List.mem_cons_of_mem _ hd)) (by simp only [List.length_cons] at hl; omega)
      simp only [h3 hp, ih, List.filter_cons, hp]
      simp
    | true =>
      obtain ⟨ρ3, h5, h6⟩ := h4 hp
      have ih := lcRun_pure (g := g) (tt := tt) (te := te) (own := own) p f ds (acc ++ [f d]) (fun d hd => h d (List.mem_cons_of_mem _ hd)) (by simp only [List.length_cons, List.length_append, List.length_nil] at hl ⊢; omega)
      simp only [h5, if_pos hz, h6, ih, List.filter_cons, hp]
      simp
/-- a comprehension by an invariant of what is found, what is left and the slots -/
theorem lcRun_inv {g : D → List Sl → Option (List Sl)} {tt : M Bool} {te : M D} {own : List Nat} (I : List D → List D → List Sl → Prop) : ∀ (ds acc : List D) (ρ : List Sl), I acc ds ρ →
    (∀ d ds acc ρ, I acc (d :: ds) ρ → ∃ ρ1 ρ2 c, g d ρ = some ρ1 ∧ tt ρ1 = .ok c ρ2 ∧ (c = false → I acc ds (drops own ρ2)) ∧ (c = true → ∃ y ρ3, te ρ2 = .ok y ρ3 ∧ I (acc ++ [y]) ds (drops own ρ3))) → acc.length + ds.length ≤ 100000 →
    ∃ acc' ρ', lcRun g tt te own ds acc ρ = some (acc', ρ') ∧ I acc' [] ρ'
  | [], acc, ρ, h, _, _ => ⟨acc, ρ, rfl, h⟩
  | d :: ds, acc, ρ, h, s, hl => by
    obtain ⟨ρ1, ρ2, c, h1, h2, h3, h4⟩ := s d ds acc ρ h
    have hz : acc.length < sizeLine := Nat.lt_trans (by simp only [List.length_cons] at hl; omega) big0
    cases c with
    | false =>
      obtain ⟨acc', ρ', e1, e2⟩ := lcRun_inv (g := g) (tt := tt) (te := te) (own := own) I ds acc _ (h3 rfl) s (by simp only [List.length_cons] at hl; omega)
      refine ⟨acc', ρ', ?_, e2⟩
      simp only [lcRun, h1, h2, e1]
    | true =>
      obtain ⟨y, ρ3, h5, h6⟩ := h4 rfl
      obtain ⟨acc', ρ', e1, e2⟩ := lcRun_inv (g := g) (tt := tt) (te := te) (own := own) I ds (acc ++ [y]) _ h6 s (by simp only [List.length_cons, List.length_append, List.length_nil] at hl ⊢; omega)
      refine ⟨acc', ρ', ?_, e2⟩
      simp only [lcRun, h1, h2, h5, if_pos hz, e1]
/-! sizes -/
@[simp] theorem z_0 : 0 ≤ sizeLine := Nat.zero_le _
@[simp] theorem z_1 : 1 ≤ sizeLine := by decide
@[simp] theorem z_2 : 2 ≤ sizeLine := by decide
@[simp] theorem z_3 : 3 ≤ sizeLine := by decide
@[simp] theorem z_4 : 4 ≤ sizeLine := by decide
@[simp] theorem z_5 : 5 ≤ sizeLine := by decide
@[simp] theorem z_6 : 6 ≤ sizeLine := by decide
@[simp] theorem z_7 : 7 ≤ sizeLine := by decide
@[simp] theorem z_8 : 8 ≤ sizeLine := by decide
@[simp] theorem z_9 : 9 ≤ sizeLine := by decide
@[simp] theorem z_10 : 10 ≤ sizeLine := by decide
@[simp] theorem z_11 : 11 ≤ sizeLine := by decide
@[simp] theorem z_12 : 12 ≤ sizeLine := by decide
@[simp] theorem z_13 : 13 ≤ sizeLine := by decide
@[simp] theorem z_14 : 14 ≤ sizeLine := by decide
@[simp] theorem z_15 : 15 ≤ sizeLine := by decide
@[simp] theorem z_16 : 16 ≤ sizeLine := by decide
theorem big1 : sizeLine = 16777216 := by decide
/-! showing -/
def niceS (x : Str) : Bool := PyData.strOk x
mutual
/-- data of texts and small numbers, by how long it is shown -/
def D.w : D → Nat
  | .str x => 10 * x.length + 2
  | .int _ => 30
  | .tup ds => wL ds + 3
  | .lst ds => wL ds + 3
  | _ => 5
def wL : List D → Nat
  | [] => 0
  | d :: ds => d.w + 2 + wL ds
end
mutual
def D.nice : D → Bool
  | .non => true
  | .bl _ => true
  | .int i => decide (i.natAbs < 1000000000)
  | .str x => PyData.strOk x
  | .tup ds => niceL ds
  | .lst ds => niceL ds
  | _ => false
def niceL : List D → Bool
  | [] => true
  | d :: ds => d.nice && niceL ds
end
def sOk (l : List Nat) : Prop := ∀ c ∈ l, c < 0x110000
theorem strOk_iff {x : Str} : PyData.strOk x = true ↔ sOk x.cps.toList := by
  unfold PyData.strOk sOk
  rw [Array.all_eq_true_iff_forall_mem]
  constructor
  · intro h c hc; simpa using h c (by simpa using hc)
  · intro h c hc; simpa using h c (by simpa using hc)
theorem cps_append (x y : Str) : (x ++ y).cps.toList = x.cps.toList ++ y.cps.toList := by
  show (x.cps ++ y.cps).toList = _
  simp
theorem char_ok (ch : Char) : ch.toNat < 0x110000 := by
  have h : ch.val.isValidChar := ch.valid
  have e : ch.toNat = ch.val.toNat := rfl
  rw [e]
  rcases h with h | h
  · have h' : ch.val.toNat < 0xd800 := h
    omega
  · have h' : ch.val.toNat < 0x110000 := h.2
    omega
theorem hex_ok (w c : Nat) : ∀ k ∈ (List.replicate (w - ((Nat.toDigits 16 c).map Char.toNat).length) 48 ++ (Nat.toDigits 16 c).map Char.toNat), k < 0x110000 := by
  intro k hk
  rcases List.mem_append.mp hk with h | h
  · have := List.eq_of_mem_replicate h; omega
  · obtain ⟨ch, _, rfl⟩ := List.mem_map.mp h; exact char_ok ch
theorem reprChar_ok (q c : Nat) (hc : c < 0x110000) : ∀ k ∈ Builtin.Str.reprChar q c, k < 0x110000 := by
  intro k hk
  unfold Builtin.Str.reprChar at hk
  simp only at hk
  split at hk
  · simp at hk; omega
  · split at hk
    · simp at hk; omega
    · split at hk
      · simp at hk; omega
      · split at hk
        · simp at hk; omega
        · split at hk
          · simp at hk; omega
          · split at hk
            · rcases List.mem_append.mp hk with h | h
              · simp at h; omega
              · exact hex_ok _ _ k h
            · split at hk
              · rcases List.mem_append.mp hk with h | h
                · simp at h; omega
                · exact hex_ok _ _ k h
              · rcases List.mem_append.mp hk with h | h
                · simp at h; omega
                · exact hex_ok _ _ k h
theorem foldl_ok (q : Nat) : ∀ (l : List Nat) (acc : Array Nat), sOk l → sOk acc.toList → sOk (l.foldl (fun out c => out ++ (Builtin.Str.reprChar q c).toArray) acc).toList
  | [], acc, _, h => h
  | c :: l, acc, hl, h => by
    refine foldl_ok q l _ (fun k hk => hl k (List.mem_cons_of_mem _ hk)) ?_
    intro k hk
    rw [Array.toList_append] at hk
    rcases List.mem_append.mp hk with z | z
    · exact h k z
    · exact reprChar_ok q c (hl c List.mem_cons_self) k (by simpa using z)
theorem strOk_reprText {x : Str} (h : PyData.strOk x = true) : PyData.strOk (reprText x) = true := by
  rw [strOk_iff] at *
  have hq : reprQuote x < 0x110000 := by unfold reprQuote; split <;> omega
  unfold reprText
  intro k hk
  simp only [Array.toList_push] at hk
  rcases List.mem_append.mp hk with z | z
  · rw [← Array.foldl_toList] at z
    exact foldl_ok _ _ _ h (by intro c hc; simp at hc; rw [hc]; exact hq) k z
  · simp at z; rw [z]; exact hq
theorem strOk_ofString (y : String) : PyData.strOk (Str.ofString y) = true := by
  rw [strOk_iff]
  intro k hk
  rw [signs_ofString] at hk
  have : k ∈ (y.toList.map Char.toNat) := hk
  obtain ⟨ch, _, rfl⟩ := List.mem_map.mp this
  exact char_ok ch
theorem strOk_lit (y : String) : PyData.strOk (y : Str) = true := strOk_ofString y
def allOk (ts : List Str) : Prop := ∀ t ∈ ts, PyData.strOk t = true
theorem strOk_textFrom : ∀ (ts : List Str) (k : Nat) (acc : Str), allOk ts → PyData.strOk acc = true → PyData.strOk (textFrom k acc ts) = true
  | [], _, _, _, h => h
  | t :: ts, k, acc, ht, h => strOk_textFrom ts (k + 1) _ (fun z hz => ht z (List.mem_cons_of_mem _ hz)) (strOk_append (strOk_append h (strOk_lit _)) (ht t List.mem_cons_self))
theorem strOk_join {sep : Str} (hs : PyData.strOk sep = true) : ∀ (ts : List Str), allOk ts → PyData.strOk (Str.join sep ts) = true
  | [], _ => strOk_ofString ""
  | [t], h => h t List.mem_cons_self
  | t :: u :: ts, h => strOk_append (strOk_append (h t List.mem_cons_self) hs) (strOk_join hs (u :: ts) (fun z hz => h z (List.mem_cons_of_mem _ hz)))
theorem int_len {i : Int} (h : i.natAbs < 1000000000) : (Str.ofString (toString i)).length ≤ 30 := by
  have h1 := int_text_length_le10 (a := i) (k := 9) (by decide) (by simpa using h)
  have e : (Str.ofString (toString i)).cps.toList = (toString i).toList.map Char.toNat := signs_ofString _
  have : (Str.ofString (toString i)).length = (toString i).length := by
    show (Str.ofString (toString i)).cps.size = _
    rw [← Array.length_toList, e, List.length_map]
    rfl
  omega
theorem int_log {i : Int} (h : i.natAbs < 1000000000) : i.natAbs.log2 < 1920 := by
  by_cases h0 : i.natAbs = 0
  · rw [h0]; decide
  · rw [Nat.log2_lt h0]
    exact Nat.lt_trans h (by decide)
structure ShownOk (d : D) : Prop where
  len : d.py.shown.length ≤ d.w
  ok : PyData.strOk d.py.shown = true
  can : d.py.showable = true
  pur : d.pur = true
structure ShownOkL (ds : List D) : Prop where
  len : ((PyData.shownAll (pyL ds)).map (·.length)).sum + 2 * (PyData.shownAll (pyL ds)).length ≤ wL ds
  ok : allOk (PyData.shownAll (pyL ds))
  can : PyData.showableAll (pyL ds) = true
  pur : purL ds = true
theorem lit_len (y : String) (n : Nat) (h : (Str.ofString y).length = n) : ((y : Str)).length = n := h
mutual
theorem shown_ok : ∀ d : D, d.nice = true → ShownOk d
  | .non, _ => ⟨by decide, strOk_ofString "None", by decide, rfl⟩
  | .bl true, _ => ⟨by decide, strOk_ofString "True", by decide, rfl⟩
  | .bl false, _ => ⟨by decide, strOk_ofString "False", by decide, rfl⟩
  | .int i, h => by
    have h' : i.natAbs < 1000000000 := by simpa [D.nice] using h
    refine ⟨?_, ?_, ?_, rfl⟩
    · simp only [D.py, PyData.shown, D.w]; exact int_len h'
    · simp only [D.py, PyData.shown]; exact strOk_ofString _
    · simp only [D.py, PyData.showable]; simpa using int_log h'
  | .str x, h => by
    have h' : PyData.strOk x = true := by simpa [D.nice] using h
    refine ⟨?_, ?_, ?_, rfl⟩
    · simp only [D.py, PyData.shown, D.w]
      refine PySem.StrLaws.reprText_len x fun c hc => ?_
      have := strOk_iff.mp h' c hc
      omega
    · simp only [D.py, PyData.shown]; exact strOk_reprText h'
    · simp only [D.py, PyData.showable]
  | .lst ds, h => by
    have q := shownL_ok ds (by simpa [D.nice] using h)
    refine ⟨?_, ?_, ?_, by simpa [D.pur] using q.pur⟩
    · simp only [D.py, PyData.shown, D.w, listText]
      rw [strLen_append]
      have h1 := textFrom_len_le (PyData.shownAll (pyL ds)) 0 "["
      have h2 := q.len
      have e1 : (("[" : String) : Str).length = 1 := rfl
      have e2 : (("]" : String) : Str).length = 1 := rfl
      omega
    · simp only [D.py, PyData.shown, listText]
      exact strOk_append (strOk_textFrom _ _ _ q.ok (strOk_lit _)) (strOk_lit _)
    · simp only [D.py, PyData.showable]; exact q.can
  | .tup ds, h => by
    have q := shownL_ok ds (by simpa [D.nice] using h)
    refine ⟨?_, ?_, ?_, by simpa [D.pur] using q.pur⟩
    · simp only [D.py, PyData.shown, D.w, tupleText]
      rw [strLen_append, strLen_append]
      have h2 := q.len
      have e1 : (("(" : String) : Str).length = 1 := rfl
      have e3 : (((if ((PyData.shownAll (pyL ds)).length == 1) = true then ",)" else ")" : String) : Str)).length ≤ 2 := by split <;> decide
      have ep : piled (PyData.shownAll (pyL ds)) = ((PyData.shownAll (pyL ds)).map (·.length)).sum + 2 * (PyData.shownAll (pyL ds)).length := by
        generalize PyData.shownAll (pyL ds) = ts
        induction ts with
        | nil => rfl
        | cons t ts ih => rw [piled_cons, ih]; simp; omega
      by_cases hz : PyData.shownAll (pyL ds) = []
      · rw [hz] at e3 h2 ⊢
        have e4 : (Str.join ", " ([] : List Str)).length = 0 := rfl
        omega
      · have := join_length_add _ hz
        omega
    · simp only [D.py, PyData.shown, tupleText]
      exact strOk_append (strOk_append (strOk_lit _) (strOk_join (strOk_lit _) _ q.ok)) (strOk_lit _)
    · simp only [D.py, PyData.showable]; exact q.can
  | .ty _, h => by simp [D.nice] at h
  | .dct _, h => by simp [D.nice] at h
  | .obj _ _, h => by simp [D.nice] at h
  | .exc _ _, h => by simp [D.nice] at h
  | .glo _, h => by simp [D.nice] at h
  | .scr _, h => by simp [D.nice] at h
theorem shownL_ok : ∀ ds : List D, niceL ds = true → ShownOkL ds
  | [], _ => ⟨by simp [pyL, PyData.shownAll, wL], by simp [pyL, PyData.shownAll, allOk], by simp [pyL, PyData.showableAll], rfl⟩
  | d :: ds, h => by
    simp only [niceL, Bool.and_eq_true] at h
    have a := shown_ok d h.1
    have b := shownL_ok ds h.2
    refine ⟨?_, ?_, ?_, ?_⟩
    · simp only [pyL, PyData.shownAll, wL, List.map_cons, List.sum_cons, List.length_cons]
      have := a.len
      have := b.len
      omega
    · simp only [pyL, PyData.shownAll]
      intro t ht
      rcases List.mem_cons.mp ht with rfl | ht
      · exact a.ok
      · exact b.ok t ht
    · simp only [pyL, PyData.showableAll, a.can, b.can, Bool.and_self]
    · simp only [purL, a.pur, b.pur, Bool.and_self]
end
theorem repr_some {d : D} (h : d.nice = true) (hw : d.w ≤ 10000000) (hd : d.dep ≤ 40) : fRepr d = some (.str d.py.shown) := by
  have q := shown_ok d h
  unfold fRepr
  rw [if_pos]
  refine ⟨q.pur, q.can, ?_, hd, q.ok⟩
  have := q.len
  rw [big1]
  omega
end DS

set_option Elab.async false
set_option linter.all false
set_option maxRecDepth 100000
set_option maxHeartbeats 1000000
/-! more rules: str(n), int(t), min, max, join, op=, pop, chains of three -/
namespace DS
open PySem PySem.Spec PyProof.Rows L2
section
variable {Z : DC} {Ho : Hp} {m m1 m2 m3 m4 : Md} {p : Bool} {a b c d e : Expr} {t ta tb tc td : M D} {pos pos' p2 px apos : Pos} {u w : MS}
theorem cld_strof : ClD Z (fun xs H Q => ∃ i, xs = [.int i] ∧ i.natAbs.log2 < 1920 ∧ Q (.str (toString i)) H) fStrOf := by
  refine ⟨?_⟩
  intro Ho G ρ σ H d z x Q hR hx hf hq
  cases d <;> try (cases hf; done)
  rename_i i
  unfold fStrOf at hf
  by_cases hz : i.natAbs.log2 < 1920
  · simp only [if_pos hz] at hf
    cases hf
    exact ⟨i, by rw [hx.int], hz, hq _ _ _ hR Gr.refl (Same.refl _) (rep_str (strOk_ofString _))⟩
  · simp only [if_neg hz] at hf; cases hf
theorem de_strof (hm : Z.X.mg "str" = none) (ha : DE Z m1 a ta) (hg : Gl Z.X "str" := by rfl) (he : starEach (a :: []) Z.X.env = (false, eval a Z.X.env) :: starEach [] Z.X.env := by rfl) :
    DE Z ⟨m1.p, false⟩ (.Call (.Name "str" p2) [a] [] pos) (d1 fStrOf ta) := de_typ1 call_str_int cld_strof (by decide +kernel) hm ha hg (he := he)
/-- int(a) of an int, a bool, a text -/
def fIntT : D → Option D
  | .int i => some (.int i)
  | .bl k => some (.int (if k then 1 else 0))
  | .str x => if x.length ≤ 640 then (intText? x).map D.int else none
  | _ => none
theorem cld_intT : ClD Z (fun xs H Q => ((∃ i, xs = [.int i] ∧ Q (.int i) H) ∨ ∃ k, xs = [.bl k] ∧ Q (.int (if k then 1 else 0)) H) ∨ ∃ a n, xs = [.str a] ∧ PySem.intText? a = some n ∧ a.length ≤ 640 ∧ Q (.int n) H) fIntT := by
  refine ⟨?_⟩
  intro Ho G ρ σ H d z x Q hR hx hf hq
  cases d <;> try (cases hf; done)
  · cases hf
    rename_i k
    have q := hq _ _ _ hR Gr.refl (Same.refl _) rep_int
    exact .inl (.inr ⟨k, by rw [hx.bl], q⟩)
  · cases hf
    exact .inl (.inl ⟨_, by rw [hx.int], hq _ _ _ hR Gr.refl (Same.refl _) rep_int⟩)
  · rename_i y
    unfold fIntT at hf
    by_cases hz : y.length ≤ 640
    · simp only [if_pos hz] at hf
      cases ey : intText? y with
      | none => rw [ey] at hf; cases hf
      | some n =>
        rw [ey] at hf
        cases hf
        exact .inr ⟨y, n, by rw [hx.str.1], ey, hz, hq _ _ _ hR Gr.refl (Same.refl _) rep_int⟩
    · simp only [if_neg hz] at hf; cases hf
theorem de_intT (hm : Z.X.mg "int" = none) (ha : DE Z m1 a ta) (hg : Gl Z.X "int" := by rfl) (he : starEach (a :: []) Z.X.env = (false, eval a Z.X.env) :: starEach [] Z.X.env := by rfl) :
    DE Z ⟨m1.p, false⟩ (.Call (.Name "int" p2) [a] [] pos) (d1 fIntT ta) := de_typ1 (CallR.or' call_int1 call_int_str) cld_intT (by decide +kernel) hm ha hg (he := he)
/-- built-ins of two -/
theorem de_blt2 {x : Str} {id : String} {r : List V → Hp → VK → Prop} {f : D → D → Option D} (hc : CallR Z.X (.builtin id) r) (hf : OpD Z (fun x y H Q => r [x, y] H Q) f) (hv : bootBuiltins x = some (.builtin id)) (hm : Z.X.mg x = none) (ha : DE Z m1 a ta) (hb : DE Z m2 b tb) (hg : Gl Z.X x := by rfl)
    (hmm : (!m1.b || m2.p) = true := by rfl) (hn : x ≠ "__name__" := by decide) (hdb : (x == ("__debug__" : Str)) = false := by decide) (he : starEach (a :: [b]) Z.X.env = (false, eval a Z.X.env) :: starEach [b] Z.X.env := by rfl) (he2 : starEach (b :: []) Z.X.env = (false, eval b Z.X.env) :: starEach [] Z.X.env := by rfl)
    (hpl : (backTo pos (starEach [b] Z.X.env)).any (·.1) = false := by rfl) :
    DE Z ⟨m1.p && m2.p, false⟩ (.Call (.Name x p2) [a, b] [] pos) (d2 f ta tb) := by
  obtain ⟨tea, pa, sa⟩ := ha
  obtain ⟨teb, pb, sb⟩ := hb
  exact ⟨_, pe_callB hc hg hm hv (pa_cons pa (pa_cons pb pa_nil he2) he) hn hdb he hpl, fun Ho hw G ρ σ H Q x q => op2 hf sa sb hmm hw x q⟩
def fMin : D → D → Option D := fI fun i j => some (if j < i then j else i)
def fMax : D → D → Option D := fI fun i j => some (if j > i then j else i)
theorem opd_mm {g : Int → Int → Int} : OpD Z (fun x y H Q => (fun xs H Q => ∃ i j, xs = [V.int i, V.int j] ∧ Q (.int (g i j)) H) [x, y] H Q) (fI fun i j => some (g i j)) := by
  refine ⟨?_⟩
  intro Ho G ρ σ H d e z x y Q hR hx hy hf hq
  cases d <;> cases e <;> try (cases hf; done)
  cases hf
  exact ⟨_, _, by rw [hx.int, hy.int], hq _ _ _ hR Gr.refl (Same.refl _) rep_int⟩
theorem de_min (hm : Z.X.mg "min" = none) (ha : DE Z m1 a ta) (hb : DE Z m2 b tb) (hh : Z.hot = false := by rfl) (hg : Gl Z.X "min" := by rfl) (hmm : (!m1.b || m2.p) = true := by rfl) (he : starEach (a :: [b]) Z.X.env = (false, eval a Z.X.env) :: starEach [b] Z.X.env := by rfl) (he2 : starEach (b :: []) Z.X.env = (false, eval b Z.X.env) :: starEach [] Z.X.env := by rfl)
    (hpl : (backTo pos (starEach [b] Z.X.env)).any (·.1) = false := by rfl) :
    DE Z ⟨m1.p && m2.p, false⟩ (.Call (.Name "min" p2) [a, b] [] pos) (d2 fMin ta tb) := de_blt2 (call_min2 (Z.calm hh)) opd_mm (by decide +kernel) hm ha hb hg hmm (he := he) (he2 := he2) (hpl := hpl)
theorem de_max (hm : Z.X.mg "max" = none) (ha : DE Z m1 a ta) (hb : DE Z m2 b tb) (hh : Z.hot = false := by rfl) (hg : Gl Z.X "max" := by rfl) (hmm : (!m1.b || m2.p) = true := by rfl) (he : starEach (a :: [b]) Z.X.env = (false, eval a Z.X.env) :: starEach [b] Z.X.env := by rfl) (he2 : starEach (b :: []) Z.X.env = (false, eval b Z.X.env) :: starEach [] Z.X.env := by rfl)
    (hpl : (backTo pos (starEach [b] Z.X.env)).any (·.1) = false := by rfl) :
    DE Z ⟨m1.p && m2.p, false⟩ (.Call (.Name "max" p2) [a, b] [] pos) (d2 fMax ta tb) := de_blt2 (call_max2 (Z.calm hh)) opd_mm (by decide +kernel) hm ha hb hg hmm (he := he) (he2 := he2) (hpl := hpl)
/-! ### join -/
def asStrs : List D → Option (List Str)
  | [] => some []
  | .str x :: ds => (asStrs ds).map (x :: ·)
  | _ => none
theorem asStrs_rep {K : PySem.W.Frag} {mg : Str → Option Value} {G : Hp} : ∀ {ds : List D} {ys : List Str} {vs : List V}, asStrs ds = some ys → RepL K mg G ds vs → vs = ys.map V.str ∧ ∀ y ∈ ys, PyData.strOk y = true
  | [], ys, vs, h, r => by cases h; unfold RepL at r; subst r; exact ⟨rfl, by simp⟩
  | d :: ds, ys, vs, h, r => by
    cases d <;> try (simp [asStrs] at h; done)
    rename_i x
    unfold asStrs at h
    cases e : asStrs ds with
    | none => rw [e] at h; cases h
    | some ys' =>
      rw [e] at h
      cases h
      unfold RepL at r
      obtain ⟨v, vs', rfl, h2, h3⟩ := r
      obtain ⟨h4, h5⟩ := asStrs_rep e h3
      unfold Rep at h2
      rw [h2.1, h4]
      exact ⟨rfl, fun y hy => by
        rcases List.mem_cons.mp hy with rfl | hy
        · exact h2.2
        · exact h5 y hy⟩
def joinD (x : Str) (ys : Option (List Str)) : Option D := match ys with
  | some ys => if (ys.map (·.length)).sum + ys.length * x.length ≤ 16777216 then some (.str (Txt.join x ys)) else none
  | none => none
def fJoin : D → D → Option D := fun d e => match d, e with
  | .str x, .lst ds => joinD x (asStrs ds)
  | .str x, .tup ds => joinD x (asStrs ds)
  | _, _ => none
theorem joinD_some {x : Str} {o : Option (List Str)} {z : D} (h : joinD x o = some z) : ∃ ys, o = some ys ∧ (ys.map (·.length)).sum + ys.length * x.length ≤ 16777216 ∧ z = .str (Txt.join x ys) := by
  cases o with
  | none => cases h
  | some ys =>
    unfold joinD at h
    simp only at h
    split at h
    · rename_i hz
      cases h
      exact ⟨ys, rfl, hz, rfl⟩
    · cases h
theorem strOk_tjoin {x : Str} {ys : List Str} (hx : PyData.strOk x = true) (h : ∀ y ∈ ys, PyData.strOk y = true) : PyData.strOk (Txt.join x ys) = true := by
  have e : Txt.join x ys = Str.join x ys := StrLaws.glued_eq_join x ys
  rw [e]
  exact strOk_join hx ys h
def dJoin (ta tb : M D) : M D := bnd ta fun d => match d with
  | .str x => bnd tb fun e => lft (fJoin (.str x) e)
  | _ => fun _ => .no
theorem BR.lstT {K : PySem.W.Frag} {mg : Str → Option Value} {b : Bool} {G H : Hp} {ds : List D} {v : V} (e : Same G H) (h : BR K mg b G H (.lst ds) v) : ∃ p vs, v = .ref p ∧ SqL K H p vs ∧ RepL K mg G ds vs := by
  obtain ⟨p, vs, h1, h2, h3⟩ := h.lst e
  exact ⟨p, vs, h1, SqL.of h2, h3⟩
theorem de_join (ha : DE Z m1 a ta) (hb : DE Z m2 b tb)
    (hbase : attributeBase a "join" Z.X.env (eval a Z.X.env) = eval a Z.X.env := by rfl)
    (hfew : ((backTo pos (starEach (b :: []) Z.X.env)).all (fun x => !x.1) && (backToKw pos (keywordEach [] Z.X.env)).all (fun x => x.1.isSome)
      && decide ((b :: ([] : List Expr)).length + ([] : List Keyword).length + (if ([] : List Keyword).isEmpty then 0 else 1) < 30)) = true := by rfl)
    (hline : (apos.endLine == pos.line) = true := by rfl) (hs : starEach (b :: []) Z.X.env = (false, eval b Z.X.env) :: starEach [] Z.X.env := by rfl) (hplain : (backTo pos (starEach [] Z.X.env)).any (·.1) = false := by rfl) :
    DE Z ⟨m1.p && m2.p, false⟩ (.Call (.Attribute a "join" apos) [b] [] pos) (dJoin ta tb) := by
  obtain ⟨tea, pa, sa⟩ := ha
  obtain ⟨teb, pb, sb⟩ := hb
  refine ⟨_, pe_bm PySem.F.plainAttrs_str PySem.F.slot_str_join PySem.F.type_str_join mt_join pa (pa_cons pb pa_nil hs) hbase hfew hline hs hplain, fun Ho hw G ρ σ H Q x q => ?_⟩
  refine sa Ho hw G ρ σ H _ x (DE.then (L := fun r => LJ Z Ho ⟨m1.p && m2.p, false⟩ G H σ r Q) (fun _ _ h => h) (fun h => h) q fun d ρ1 v G1 H1 x1 g1 s1 b1 q1 => ?_)
  cases d <;> try (exact q1.elim)
  rename_i y
  have hy := b1.up.str
  rw [hy.1]
  refine ⟨rfl, ?_⟩
  refine sb Ho hw G1 ρ1 σ H1 _ x1 (DE.then (L := fun r => LJ Z Ho ⟨m1.p && m2.p, false⟩ G H σ r Q) (fun _ _ h => h) (fun h => h) q1 fun e ρ2 w G2 H2 x2 g2 s2 b2 q2 => ?_)
  have fin : ∀ {z : D} (hz : joinD y (some []) = joinD y (some [])) , True := fun _ => trivial
  cases e <;> try (exact q2.elim)
  · rename_i ds
    unfold lft fJoin at q2
    cases ef : joinD y (asStrs ds) with
    | none => simp only [ef] at q2; exact q2.elim
    | some z =>
      simp only [ef] at q2
      obtain ⟨ys, e1, e2, rfl⟩ := joinD_some ef
      obtain ⟨p, vs, rfl, h1, h2⟩ := b2.up.tup
      obtain ⟨rfl, h4⟩ := asStrs_rep e1 h2
      refine ⟨y, p, ys, rfl, rfl, .inr (Same.sqt x2.gh h1), e2, q2 _ _ _ x2 (g1.trans g2) (fun hp => ?_) (.inl (rep_str (strOk_tjoin hy.2 h4)))⟩
      rw [Bool.and_eq_true] at hp
      exact (s1 hp.1).trans (s2 hp.2)
  · rename_i ds
    unfold lft fJoin at q2
    cases ef : joinD y (asStrs ds) with
    | none => simp only [ef] at q2; exact q2.elim
    | some z =>
      simp only [ef] at q2
      obtain ⟨ys, e1, e2, rfl⟩ := joinD_some ef
      obtain ⟨p, vs, rfl, h1, h2⟩ := b2.up.lst x2.gh
      obtain ⟨rfl, h4⟩ := asStrs_rep e1 h2
      refine ⟨y, p, ys, rfl, rfl, .inl (SqL.of h1), e2, q2 _ _ _ x2 (g1.trans g2) (fun hp => ?_) (.inl (rep_str (strOk_tjoin hy.2 h4)))⟩
      rw [Bool.and_eq_true] at hp
      exact (s1 hp.1).trans (s2 hp.2)
/-! ### x op= e -/
def fAugA : D → D → Option D
  | .int i, .int j => some (.int (i + j))
  | .str x, .str y => if x.length + y.length ≤ sizeLine then some (.str (x ++ y)) else none
  | _, _ => none
def augR (f : D → D → Option D) (ρ : List Sl) (i : Nat) (e : D) : Option Sl → SR
  | some (.sh d) => match f d e with
    | some z => .nx (ρ.set i (.sh z))
    | none => .no
  | some (.ow t (.lst ds)) => match e with
    | .lst es => if ds.length + es.length ≤ sizeLine then .nx (ρ.set i (.ow t (.lst (ds ++ es)))) else .no
    | _ => .no
  | _ => .no
def isV : Option Sl → Bool
  | some (.sh _) => true
  | some (.ow _ (.lst _)) => true
  | _ => false
def sAug (f : D → D → Option D) (i : Nat) (t : M D) : MS := fun ρ => if isV ρ[i]? then (t ρ).andS fun e ρ1 => augR f ρ1 i e ρ1[i]? else .no
theorem isV_v {G H : Hp} {ρ : List Sl} {σ : L2.St} {i : Nat} (x : Z.R Ho G ρ σ H) (h : isV ρ[i]? = true) : ∃ v, σ[i]? = some (some v) := by
  cases e : ρ[i]? with
  | none => rw [e] at h; cases h
  | some s =>
    rw [e] at h
    cases s <;> try (cases h; done)
    · obtain ⟨v, h1, _⟩ := x.sh e
      exact ⟨v, h1⟩
    · rename_i t dd
      cases dd <;> try (cases h; done)
      obtain ⟨a, vs, h1, _⟩ := x.ownL e
      exact ⟨_, h1⟩
theorem st_augA (i : Nat) {x : Str} (h : DE Z m e t) (hN : Z.X.N.Nodup) (hb : m.b = false := by rfl) (hi : Z.X.N[i]? = some x := by rfl) (hx : Loc Z.X.env.scope x := by first | exact Or.inl rfl | exact Or.inr rfl)
    (hf : Z.X.fn x = true ∨ Z.X.env.scope.names.lookup x = some .local := by first | exact .inl rfl | exact .inr rfl) :
    DSt Z (.AugAssign (.Name x pos') .Add e pos) (sAug fAugA i t) := by
  obtain ⟨te, pa, sa⟩ := h
  refine ⟨_, ps_aug hN hi hx pa (ti := fun x y H Q => ((rI0 fun i j => .int (i + j)) x y H Q ∨ (∃ i j, x = V.str i ∧ y = .str j ∧ i.length + j.length ≤ sizeLine ∧ Q (.str (i ++ j)) H)) ∨ rExt2 x y H Q) (show PIp Z.X .Add _ from OpR.or (OpR.or iop_add iop_add_str) iop_ext) hf, fun Ho hw G ρ σ H E x q => ?_⟩
  unfold sAug at q
  by_cases hi : isV ρ[i]? = true
  · rw [if_pos hi] at q
    obtain ⟨v0, hv0⟩ := isV_v x hi
    refine ⟨v0, hv0, ?_⟩
    refine sa Ho hw G ρ σ H _ x (DE.thenS q fun d ρ1 v G1 H1 x1 g1 s1 b1 q1 => ?_)
    rw [hb] at b1
    replace b1 := b1.rep
    cases e1 : ρ1[i]? with
    | none => rw [e1] at q1; exact q1.elim
    | some s =>
      rw [e1] at q1
      cases s <;> try (exact q1.elim)
      · rename_i d0
        obtain ⟨v1, h1, r1⟩ := x1.sh e1
        rw [hv0] at h1
        cases h1
        unfold augR at q1
        cases ef : fAugA d0 d with
        | none => simp only [ef] at q1; exact q1.elim
        | some z =>
          simp only [ef] at q1
          cases d0 <;> cases d <;> try (cases ef; done)
          · cases ef
            unfold Rep at r1 b1
            refine .inl (.inl ⟨_, _, r1, b1, ?_⟩)
            exact q1 _ G1 H1 ((x1.push (d := .int _) rep_int).assign i) g1
          · rename_i y y'
            unfold Rep at r1 b1
            unfold fAugA at ef
            simp only at ef
            by_cases hz : y.length + y'.length ≤ sizeLine
            · rw [if_pos hz] at ef
              cases ef
              refine .inl (.inr ⟨_, _, r1.1, b1.1, hz, ?_⟩)
              exact q1 _ G1 H1 ((x1.push (rep_str (strOk_append r1.2 b1.2))).assign i) g1
            · rw [if_neg hz] at ef; cases ef
      · rename_i t1 dd
        cases dd <;> try (exact q1.elim)
        rename_i ds
        unfold augR at q1
        cases d <;> try (exact q1.elim)
        rename_i es
        simp only at q1
        by_cases hz : ds.length + es.length ≤ sizeLine
        · rw [if_pos hz] at q1
          obtain ⟨a, vs, h1, h2, h3, h4⟩ := x1.ownL e1
          rw [hv0] at h1
          cases h1
          unfold Rep at b1
          obtain ⟨b', ws, rfl, h5, h6⟩ := b1
          refine .inr ⟨a, b', vs, ws, rfl, rfl, h2, x1.gh _ _ h5, by rw [h3.length, h6.length]; exact hz, ?_⟩
          have y := h4 (vs ++ ws) (ds ++ es) (h3.append h6)
          have hs : σ.set i (some (.ref a)) = σ := by
            have := List.getElem?_eq_some_iff.mp hv0
            obtain ⟨hl, e⟩ := this
            rw [← e, List.set_getElem_self]
          show E.nx (σ.set i (some (.ref a))) _
          rw [hs]
          exact q1 σ G1 _ y g1
        · rw [if_neg hz] at q1; exact q1.elim
  · rw [if_neg hi] at q; exact q.elim
/-! ### pop -/
theorem RepL.eraseIdx {K : PySem.W.Frag} {mg : Str → Option Value} {G : Hp} : ∀ {ds : List D} {vs : List V} (j : Nat), RepL K mg G ds vs → RepL K mg G (ds.eraseIdx j) (vs.eraseIdx j)
  | [], vs, j, h => by unfold RepL at h; subst h; simp [RepL]
  | d :: ds, vs, 0, h => by
    unfold RepL at h
    obtain ⟨v, vs', rfl, h2, h3⟩ := h
    simpa using h3
  | d :: ds, vs, j + 1, h => by
    unfold RepL at h
    obtain ⟨v, vs', rfl, h2, h3⟩ := h
    exact RepL.cons h2 (RepL.eraseIdx j h3)
def popR (ρ : List Sl) (i : Nat) : Option Sl → Res D
  | some (.ow t (.lst ds)) => match ds[ds.length - 1]? with
    | some y => .ok y (ρ.set i (.ow t (.lst ds.dropLast)))
    | none => .no
  | _ => .no
def dPop (i : Nat) : M D := fun ρ => popR ρ i ρ[i]?
theorem de_pop (i : Nat) {x : Str} (hN : Z.X.N[i]? = some x := by rfl) (hv : Vis Z.X.env.scope x := by first | exact Or.inl rfl | exact Or.inr (Or.inl rfl) | exact Or.inr (Or.inr rfl)) (hd : (x == ("__debug__" : Str)) = false := by decide) (hcd : (x == ("__classdict__" : Str)) = false := by decide)
    (hbase : attributeBase (.Name x px) "pop" Z.X.env (eval (.Name x px) Z.X.env) = eval (.Name x px) Z.X.env := by rfl) (hline : (apos.endLine == pos.line) = true := by rfl) :
    DE Z ⟨false, false⟩ (.Call (.Attribute (.Name x px) "pop" apos) [] [] pos) (dPop i) := by
  refine ⟨_, pe_bm0 PySem.F.plainAttrs_list PySem.F.slot_list_pop PySem.F.type_list_pop mt_pop (pe_var hN hv hd hcd) hbase hline, fun Ho hw G ρ σ H Q x q => ?_⟩
  unfold dPop at q
  cases e1 : ρ[i]? with
  | none => rw [e1] at q; exact q.elim
  | some s =>
    rw [e1] at q
    cases s <;> try (exact q.elim)
    rename_i t1 dd
    cases dd <;> try (exact q.elim)
    rename_i ds
    obtain ⟨a, vs, h1, h2, h3, h4⟩ := x.ownL e1
    unfold popR at q
    simp only at q
    cases ey : ds[ds.length - 1]? with
    | none => rw [ey] at q; exact q.elim
    | some y =>
      rw [ey] at q
      obtain ⟨v, hv1, hv2⟩ := h3.get ey
      refine ⟨.ref a, h1, .inl ⟨rfl, vs, SqL.of h2⟩, a, vs, v, rfl, rfl, h2, by rw [h3.length]; exact hv1, ?_⟩
      have y' := h4 vs.dropLast ds.dropLast (by rw [List.dropLast_eq_take, List.dropLast_eq_take, h3.length]; exact h3.take _)
      exact q v G _ y' Gr.refl (fun h => nomatch h) (.inl hv2)
def popAtR (ρ : List Sl) (i : Nat) (d : D) : Option Sl → Res D
  | some (.ow t (.lst ds)) => match d with
    | .int k => if small62 k then (match ixN ds.length k with
      | some j => match ds[j]? with
        | some y => .ok y (ρ.set i (.ow t (.lst (ds.eraseIdx j))))
        | none => .no
      | none => .no) else .no
    | _ => .no
  | _ => .no
def dPopAt (i : Nat) (t : M D) : M D := fun ρ => if isL ρ[i]? then (t ρ).bind fun d ρ1 => popAtR ρ1 i d ρ1[i]? else .no
theorem de_popAt (i : Nat) {x : Str} (h : DE Z m e t) (hN : Z.X.N[i]? = some x := by rfl) (hv : Vis Z.X.env.scope x := by first | exact Or.inl rfl | exact Or.inr (Or.inl rfl) | exact Or.inr (Or.inr rfl)) (hd : (x == ("__debug__" : Str)) = false := by decide) (hcd : (x == ("__classdict__" : Str)) = false := by decide)
    (hbase : attributeBase (.Name x px) "pop" Z.X.env (eval (.Name x px) Z.X.env) = eval (.Name x px) Z.X.env := by rfl)
    (hfew : ((backTo pos (starEach (e :: []) Z.X.env)).all (fun x => !x.1) && (backToKw pos (keywordEach [] Z.X.env)).all (fun x => x.1.isSome)
      && decide ((e :: ([] : List Expr)).length + ([] : List Keyword).length + (if ([] : List Keyword).isEmpty then 0 else 1) < 30)) = true := by rfl)
    (hline : (apos.endLine == pos.line) = true := by rfl) (hs : starEach (e :: []) Z.X.env = (false, eval e Z.X.env) :: starEach [] Z.X.env := by rfl) (hplain : (backTo pos (starEach [] Z.X.env)).any (·.1) = false := by rfl) :
    DE Z ⟨false, false⟩ (.Call (.Attribute (.Name x px) "pop" apos) [e] [] pos) (dPopAt i t) := by
  obtain ⟨te, pa, sa⟩ := h
  refine ⟨_, pe_bm PySem.F.plainAttrs_list PySem.F.slot_list_pop PySem.F.type_list_pop mt_popAt (pe_var hN hv hd hcd) (pa_cons pa pa_nil hs) hbase hfew hline hs hplain, fun Ho hw G ρ σ H Q x q => ?_⟩
  unfold dPopAt at q
  by_cases hi : isL ρ[i]? = true
  · rw [if_pos hi] at q
    obtain ⟨t0, ds0, e0⟩ := isL_some hi
    obtain ⟨a, vs0, h1, h2, _, _⟩ := x.ownL e0
    refine ⟨.ref a, h1, .inl ⟨rfl, vs0, SqL.of h2⟩, ?_⟩
    refine sa Ho hw G ρ σ H _ x (DE.then (L := fun r => LJ Z Ho ⟨false, false⟩ G H σ r Q) (fun _ _ h => h) (fun h => h) q fun d ρ1 v G1 H1 x1 g1 s1 b1 q1 => ?_)
    cases e1 : ρ1[i]? with
    | none => rw [e1] at q1; exact q1.elim
    | some s =>
      rw [e1] at q1
      cases s <;> try (exact q1.elim)
      rename_i t1 dd
      cases dd <;> try (exact q1.elim)
      rename_i ds
      cases d <;> try (exact q1.elim)
      rename_i k
      unfold popAtR at q1
      simp only at q1
      by_cases hk : small62 k = true
      · rw [if_pos hk] at q1
        cases ej : ixN ds.length k with
        | none => rw [ej] at q1; exact q1.elim
        | some j =>
          rw [ej] at q1
          simp only at q1
          cases ey : ds[j]? with
          | none => rw [ey] at q1; exact q1.elim
          | some y =>
            rw [ey] at q1
            obtain ⟨a', vs, h1', h2', h3', h4'⟩ := x1.ownL e1
            rw [h1] at h1'
            cases h1'
            obtain ⟨w, hw1, hw2⟩ := h3'.get ey
            obtain ⟨k1, k2⟩ := small62_of hk
            refine ⟨a, vs, k, j, w, rfl, by rw [b1.up.int], h2', by omega, by omega, by rw [h3'.length]; exact (ixN_seq ej).1, hw1, ?_⟩
            exact q1 w G1 _ (h4' _ _ (h3'.eraseIdx j)) g1 (fun h => nomatch h) (.inl hw2)
      · rw [if_neg hk] at q1; exact q1.elim
  · rw [if_neg hi] at q; exact q.elim
end
end DS

set_option Elab.async false
set_option linter.all false
set_option maxRecDepth 100000
set_option maxHeartbeats 1000000
/-! objects: attributes read and stored, made, properties, methods; calls with keywords -/
namespace DS
open PySem PySem.Spec PyProof.Rows L2
section
variable {K : PySem.W.Frag} {mg : Str → Option Value} {τ : Tau} {Ho G : Hp} {ρ ρ' : List Sl} {σ σ' : L2.St} {H : Hp}
/-- some of the slots -/
theorem RS.pick (x : RS K mg τ Ho G ρ σ H) (f : Nat → Nat) (hf : ∀ i j, f i = f j → i = j) (hl : ρ'.length = σ'.length) (h : ∀ i s, ρ'[i]? = some s → ρ[f i]? = some s ∧ (σ'[i]?.join) = (σ[f i]?.join)) : RS K mg τ Ho G ρ' σ' H := by
  classical
  obtain ⟨O, x⟩ := x
  let O' : Addr → Option Nat := fun a => match O a with
    | some j => if hj : ∃ i, f i = j then some (Classical.choose hj) else none
    | none => none
  have hO : ∀ a i, O' a = some i ↔ O a = some (f i) := by
    intro a i
    show (match O a with
      | some j => if hj : ∃ i, f i = j then some (Classical.choose hj) else none
      | none => none) = some i ↔ _
    cases e : O a with
    | none => simp
    | some j =>
      simp only
      by_cases hj : ∃ i, f i = j
      · rw [dif_pos hj]
        have hc := Classical.choose_spec hj
        constructor
        · intro q; cases q; rw [hc]
        · intro q
          cases q
          rw [hf _ _ hc]
      · rw [dif_neg hj]
        constructor
        · intro q; cases q
        · intro q; cases q; exact absurd ⟨i, rfl⟩ hj
  refine ⟨O', x.gh, fun a i q => x.oh a _ ((hO a i).mp q), x.out, hl, fun i s q => ?_⟩
  obtain ⟨h1, h2⟩ := h i s q
  rw [h2, own_of fun a => hO a i]
  exact x.sl _ s h1
/-- a new thing that nobody looks at -/
theorem RS.allocU (x : RS K mg τ Ho G ρ σ H) {p : Addr} {o : HO} (h : H p = none) : RS K mg τ Ho G ρ σ (upd H p o) := by
  obtain ⟨O, x⟩ := x
  have op : ∀ i, O p ≠ some i := fun i e => (x.oh p i e).2.2 h
  refine ⟨O, x.gh.trans (same_upd h), fun a i e => ?_, x.out.trans (same_upd h), x.len, fun i s e => ?_⟩
  · have q : a ≠ p := fun q => op i (q ▸ e)
    obtain ⟨h1, h2, h3⟩ := x.oh a i e
    rw [upd_ne q]
    exact ⟨h1, h2, h3⟩
  · have z : own O i (upd H p o) = own O i H := by
      funext a
      unfold own
      by_cases q : O a = some i
      · rw [if_pos q, if_pos q, upd_ne]
        intro r; subst r; exact op i q
      · rw [if_neg q, if_neg q]
    rw [z]
    exact x.sl i s e
/-- data in front, many -/
theorem RS.pushes : ∀ {ds : List D} {vs : List V}, RS K mg τ Ho G ρ σ H → RepL K mg G ds vs → RS K mg τ Ho G (ds.map Sl.sh ++ ρ) (vs.map some ++ σ) H
  | [], vs, x, r => by unfold RepL at r; subst r; exact x
  | d :: ds, vs, x, r => by
    unfold RepL at r
    obtain ⟨v, vs', rfl, h2, h3⟩ := r
    exact (RS.pushes x h3).push h2
/-- what stands between the front and the rest is dropped -/
theorem RS.dropMid {s : Sl} {v : Option V} {mid : List Sl} {mv : L2.St} (x : RS K mg τ Ho G (s :: (mid ++ ρ)) (v :: (mv ++ σ)) H) (hm : mid.length = mv.length) : RS K mg τ Ho G (s :: ρ) (v :: σ) H := by
  have hl : ρ.length = σ.length := by
    have := x.len
    simp only [List.length_cons, List.length_append] at this
    omega
  refine x.pick (fun i => match i with
    | 0 => 0
    | i + 1 => i + 1 + mid.length) (fun i j q => ?_) (by simp [hl]) (fun i s q => ?_)
  · cases i <;> cases j <;> simp at q ⊢ <;> omega
  · cases i with
    | zero => exact ⟨by simpa using q, rfl⟩
    | succ i =>
      simp only [List.getElem?_cons_succ] at q ⊢
      refine ⟨?_, ?_⟩
      · rw [show i + 1 + mid.length = (i + mid.length) + 1 by omega, List.getElem?_cons_succ, List.getElem?_append_right (by omega)]
        simpa using q
      · rw [show i + 1 + mid.length = (i + mid.length) + 1 by omega, List.getElem?_cons_succ, List.getElem?_append_right (by omega), show i + mid.length - mv.length = i by omega]
end
/-! ### attributes -/
/-- the class of the name c, at C -/
structure KlAt (K : PySem.W.Frag) (mg : Str → Option Value) (c : Str) (C : Addr) : Prop where
  mg : mg c = some (.ref C)
  cl : Cls K C
def putD (f : Str) (d : D) : List (Str × D) → List (Str × D)
  | [] => [(f, d)]
  | (g, e) :: r => if g = f then (f, d) :: r else (g, e) :: putD f d r
theorem RepF.put {K : PySem.W.Frag} {mg : Str → Option Value} {G : Hp} {f : Str} {d : D} {v : V} (hd : Rep K mg G d v) : ∀ {fs : List (Str × D)} {ws : List (Str × V)}, RepF K mg G fs ws → RepF K mg G (putD f d fs) (putF f v ws)
  | [], ws, h => by
    unfold RepF at h; subst h
    unfold putD putF RepF
    exact ⟨v, [], rfl, hd, by unfold RepF; rfl⟩
  | (g, e) :: r, ws, h => by
    unfold RepF at h
    obtain ⟨u, ws', rfl, h2, h3⟩ := h
    unfold putD putF
    by_cases q : g = f
    · rw [if_pos q, if_pos q]
      subst q
      unfold RepF
      exact ⟨v, ws', rfl, hd, h3⟩
    · rw [if_neg q, if_neg q]
      unfold RepF
      exact ⟨u, _, rfl, h2, RepF.put hd h3⟩
theorem RepF.length {K : PySem.W.Frag} {mg : Str → Option Value} {G : Hp} : ∀ {fs : List (Str × D)} {ws : List (Str × V)}, RepF K mg G fs ws → ws.length = fs.length
  | [], ws, h => by unfold RepF at h; subst h; rfl
  | (g, e) :: r, ws, h => by
    unfold RepF at h
    obtain ⟨u, ws', rfl, h2, h3⟩ := h
    simp [RepF.length h3]
theorem RepF.none {K : PySem.W.Frag} {mg : Str → Option Value} {G : Hp} {f : Str} : ∀ {fs : List (Str × D)} {ws : List (Str × V)}, RepF K mg G fs ws → fs.lookup f = none → ws.lookup f = none
  | [], ws, h, _ => by unfold RepF at h; subst h; rfl
  | (g, e) :: r, ws, h, q => by
    unfold RepF at h
    obtain ⟨u, ws', rfl, h2, h3⟩ := h
    simp only [List.lookup] at q ⊢
    cases hb : f == g with
    | true => rw [hb] at q; cases q
    | false => rw [hb] at q; exact RepF.none h3 q
theorem BR.obj {K : PySem.W.Frag} {mg : Str → Option Value} {b : Bool} {G H : Hp} {c : Str} {fs : List (Str × D)} {v : V} (e : Same G H) (h : BR K mg b G H (.obj c fs) v) : ∃ a C dx ws, v = .ref a ∧ mg c = some (.ref C) ∧ H a = some (.ins C dx ws) ∧ RepF K mg G fs ws := by
  rcases h with h | ⟨_, a, o, rfl, h1, h⟩
  · unfold Rep at h
    obtain ⟨a, C, dx, ws, h1, h2, h3, h4⟩ := h
    exact ⟨a, C, dx, ws, h1, h2, e _ _ h3, h4⟩
  · cases h with
    | obj h2 h3 => exact ⟨a, _, _, _, rfl, h2, h1, h3⟩
section
variable {Z : DC} {Ho : Hp} {m m1 m2 : Md} {p : Bool} {e a b : Expr} {es : List Expr} {t : M D} {pos pos' p2 px apos : Pos} {u w : MS} {c f : Str} {C : Addr}
def fFld (c f : Str) : D → Option D
  | .obj c' fs => if c' = c then fs.lookup f else none
  | _ => none
/-- e.f -/
theorem de_fld (k : KlAt Z.X.K Z.X.mg c C) (n : NoAttr Z.X.K C f) (h : DE Z m e t) (hb : attributeBase e f Z.X.env (eval e Z.X.env) = eval e Z.X.env := by rfl) : DE Z ⟨m.p, false⟩ (.Attribute e f pos) (d1 (fFld c f) t) := by
  obtain ⟨te, pa, sa⟩ := h
  refine ⟨_, pe_fld pa hb, fun Ho hw G ρ σ H Q x q => ?_⟩
  refine sa Ho hw G ρ σ H _ x (DE.then (L := fun r => LJ Z Ho ⟨m.p, false⟩ G H σ r Q) (fun _ _ h => h) (fun h => h) q fun d ρ1 v G1 H1 x1 g1 s1 b1 q1 => ?_)
  cases d <;> try (exact q1.elim)
  rename_i c' fs
  unfold lft fFld at q1
  by_cases hc : c' = c
  · simp only [if_pos hc] at q1
    subst hc
    obtain ⟨a, C', dx, ws, rfl, h1, h2, h3⟩ := b1.obj x1.gh
    rw [k.mg] at h1
    cases h1
    cases el : fs.lookup f with
    | none => rw [el] at q1; exact q1.elim
    | some z =>
      rw [el] at q1
      obtain ⟨v, l1, l2⟩ := h3.look el
      exact ⟨a, _, dx, ws, v, rfl, h2, k.cl, n, l1, q1 v G1 H1 x1 g1 s1 (.inl l2)⟩
  · simp only [if_neg hc] at q1; exact q1.elim
def isO (c : Str) : Option Sl → Bool
  | some (.ow _ (.obj c' _)) => c' == c
  | _ => false
def putR (c f : Str) (ρ : List Sl) (i : Nat) (d : D) : Option Sl → SR
  | some (.ow t (.obj c' fs)) => if c' = c ∧ fs.length < 1000 then .nx (ρ.set i (.ow t (.obj c' (putD f d fs)))) else .no
  | _ => .no
/-- x.f = e -/
def sFldP (c f : Str) (i : Nat) (t : M D) : MS := fun ρ => (t ρ).andS fun d ρ => putR c f ρ i d ρ[i]?
theorem st_fld (i : Nat) {y : Str} (k : KlAt Z.X.K Z.X.mg c C) (n : NoAttr Z.X.K C f) (h : DE Z m e t) (hbb : m.b = false := by rfl) (hN : Z.X.N[i]? = some y := by rfl) (hv : Vis Z.X.env.scope y := by first | exact Or.inl rfl | exact Or.inr (Or.inl rfl) | exact Or.inr (Or.inr rfl))
    (hd : (y == ("__debug__" : Str)) = false := by decide) (hcd : (y == ("__classdict__" : Str)) = false := by decide) (hs : swapsWith e (some (.Attribute (.Name y px) f pos')) pos.line Z.X.env = pure false := by rfl) :
    DSt Z (.Assign [.Attribute (.Name y px) f pos'] e pos) (sFldP c f i t) := by
  obtain ⟨te, pa, sa⟩ := h
  refine ⟨_, ps_fld (pe_var hN hv hd hcd) pa hs, fun Ho hw G ρ σ H E x q => ?_⟩
  refine sa Ho hw G ρ σ H _ x (DE.thenS q fun d ρ1 v G1 H1 x1 g1 s1 b1 q1 => ?_)
  rw [hbb] at b1
  replace b1 := b1.rep
  cases e1 : ρ1[i]? with
  | none => rw [e1] at q1; exact q1.elim
  | some s =>
    rw [e1] at q1
    cases s <;> try (exact q1.elim)
    rename_i t1 dd
    cases dd <;> try (exact q1.elim)
    rename_i c' fs
    unfold putR at q1
    simp only at q1
    by_cases hc : c' = c ∧ fs.length < 1000
    · rw [if_pos hc] at q1
      obtain ⟨rfl, hl⟩ := hc
      obtain ⟨a, o, h1, h2, h3, h4⟩ := x1.mut e1
      cases h3 with
      | obj hm hr =>
        rw [k.mg] at hm
        cases hm
        exact ⟨.ref a, h1, a, _, _, _, rfl, h2, k.cl, n, by rw [hr.length]; exact hl, q1 σ G1 _ (h4 _ _ (.obj k.mg (hr.put b1))) g1⟩
    · rw [if_neg hc] at q1; exact q1.elim
/-- one or the other reading -/
def dAlt {α : Type} (t1 t2 : M α) : M α := fun ρ => match t1 ρ with
  | .no => t2 ρ
  | r => r
theorem pe_alt {X : Cx} {te1 te2 : TE} (h1 : PE X e te1) (h2 : PE X e te2) : PE X e (fun σ H Q => te1 σ H Q ∨ te2 σ H Q) :=
  ⟨fun pins s σ H Q I h => h.elim (h1.run pins s σ H Q I) (h2.run pins s σ H Q I)⟩
theorem de_alt {t1 t2 : M D} (h1 : DE Z m e t1) (h2 : DE Z m e t2) : DE Z m e (dAlt t1 t2) := by
  obtain ⟨te1, pa1, sa1⟩ := h1
  obtain ⟨te2, pa2, sa2⟩ := h2
  refine ⟨_, pe_alt pa1 pa2, fun Ho hw G ρ σ H Q x q => ?_⟩
  unfold dAlt at q
  cases e1 : t1 ρ with
  | no => rw [e1] at q; exact .inr (sa2 Ho hw G ρ σ H Q x q)
  | ok d ρ1 => rw [e1] at q; exact .inl (sa1 Ho hw G ρ σ H Q x (by rw [e1]; exact q))
  | ex y ρ1 => rw [e1] at q; exact .inl (sa1 Ho hw G ρ σ H Q x (by rw [e1]; exact q))
end
/-! ### made -/
/-- no argument by reference -/
theorem argR_data {K : PySem.W.Frag} {mg : Str → Option Value} {G : Hp} {σ : L2.St} : ∀ {ds : List D} {vs : List V}, RepL K mg G ds vs → ArgR K mg G σ (ds.map fun _ => none) ds vs
  | [], vs, h => by unfold RepL at h; subst h; exact .nil
  | d :: ds, vs, h => by
    unfold RepL at h
    obtain ⟨v, vs', rfl, h2, h3⟩ := h
    exact .dt h2 (argR_data h3)
/-- what a constructor's call binds: n positional arguments, keywords ks; arr puts their data in the parameters' order, defaults among them -/
structure KwM (K : PySem.W.Frag) (mg : Str → Option Value) (fd : FuncData) (ps : List Str) (n : Nat) (ks : List Str) (arr : List D → List D) : Prop where
  ex : ∃ g gV, KBn K fd ps (n + 1) ks g gV ∧ ∀ G ds es vs zs (x : V), RepL K mg G ds vs → RepL K mg G es zs → vs.length = n → zs.length = ks.length → ∃ rest, gV (x :: vs) zs = x :: rest ∧ RepL K mg G (arr (ds ++ es)) rest ∧ rest.length + 1 = ps.length
structure KwF (K : PySem.W.Frag) (mg : Str → Option Value) (fd : FuncData) (ps : List Str) (n : Nat) (ks : List Str) (arr : List D → List D) : Prop where
  ex : ∃ g gV, KBn K fd ps n ks g gV ∧ ∀ G ds es vs zs, RepL K mg G ds vs → RepL K mg G es zs → vs.length = n → zs.length = ks.length → RepL K mg G (arr (ds ++ es)) (gV vs zs) ∧ (gV vs zs).length = ps.length
/-- keywords' values -/
def DK (Z : DC) (kws : List Keyword) (t : M (List D)) : Prop := ∃ te, PK Z.X kws te ∧ ∀ Ho, Same Z.Ho Ho → ∀ G ρ σ H Q, Z.R Ho G ρ σ H → LA Z Ho G H σ (t ρ) Q → te σ H Q
def finM (ρ : List Sl) : FR → Res Sl
  | .ok (.sh .non) (.ow none d :: _) => .ok (.ow none d) ρ
  | .ex x _ => .ex x ρ
  | _ => .no
def dMake (F : FS) (c : Str) (n m : Nat) (arr : List D → List D) (u w : M (List D)) : M Sl := bnd u fun ds => bnd w fun es ρ1 => if ds.length = n ∧ es.length = m then finM ρ1 (F (.ow none (.obj c []) :: (arr (ds ++ es)).map Sl.sh)) else .no
section
variable {Z : DC} {Ho : Hp} {m m1 m2 : Md} {e a b : Expr} {es : List Expr} {kws : List Keyword} {t : M D} {pos pos' p p2 px apos kpos : Pos} {c f x : Str} {C g0 : Addr} {nm : Option Str} {u w : M (List D)} {k n : Nat} {fd : FuncData} {ps ks : List Str} {F : FS} {arr : List D → List D}
theorem dk_nil : DK Z [] dNil := ⟨_, pk_nil, fun Ho hw G ρ σ H Q x q => q [] G H x Gr.refl RepL.nil⟩
theorem dk_cons (h : DE Z m e t) (hr : DK Z kws w) (hb : m.b = false := by rfl) : DK Z (⟨nm, e, kpos⟩ :: kws) (dCons t w) := by
  obtain ⟨te, pa, sa⟩ := h
  obtain ⟨tu, pr, sr⟩ := hr
  refine ⟨_, pk_cons pa pr, fun Ho hw G ρ σ H Q x q => ?_⟩
  refine sa Ho hw G ρ σ H _ x (DE.then (L := fun r => LA Z Ho G H σ r Q) (fun _ _ h => h) (fun h => h) q fun d ρ1 v G1 H1 x1 g1 s1 b1 q1 => ?_)
  rw [hb] at b1
  replace b1 := b1.rep
  refine sr Ho hw G1 ρ1 σ H1 _ x1 (DA.then (L := fun r => LA Z Ho G H σ r Q) (fun _ _ h => h) (fun h => h) q1 fun ds ρ2 vs G2 H2 x2 g2 b2 q2 => ?_)
  exact q2 _ G2 H2 x2 (g1.trans g2) (RepL.cons (Rep.mono g2.1 _ _ b1) b2)
/-- C(e, .., k = v, ..), what is raised wished for at the slots -/
theorem pe_makeS {X : Cx} {sp : Sp} {E : L2.St → XK} {ta tk : TA} {g : List Value → List Value → List Value} {gV : List V → List V → List V} (M : Mk X.K C g0) (F : FnOk X.prog X.w X.K X.mg X.base (L2.CX X.prog X.w) k g0 fd ps sp) (hr : Room (k + 1) X.A) (hg : Gl X x) (hm : X.mg x = some (.ref C)) (hb : KBn X.K fd ps (n + 1) ks g gV)
    (hx : ∀ σ, PassesAt (L2.CX X.prog X.w) X σ (E σ)) (ha : PA X (e :: es) ta) (hkw : PK X kws tk) (hall : (backToKw pos (keywordEach kws X.env)).all (·.1.isSome) = true) (hks : (backToKw pos (keywordEach kws X.env)).filterMap (·.1) = ks)
    (hdb : (x == ("__debug__" : Str)) = false) (he : starEach (e :: es) X.env = (false, eval e X.env) :: starEach es X.env) (hpl : ((backTo pos (starEach (e :: es) X.env)).any (·.1) || (backToKw pos (keywordEach kws X.env)).any (·.1.isNone)) = false) :
    PE X (.Call (.Name x p) (e :: es) kws pos) (fun σ H Q => ta σ H fun vs H1 => tk σ H1 fun zs H2 => vs.length = n ∧ zs.length = ks.length ∧ ∀ y dx, H2 y = none → H2 dx = none → dx ≠ y → sp (gV (.ref y :: vs) zs) (upd (upd H2 dx (.own y)) y (.ins C dx [])) (fun v H3 => v = .non ∧ Q (.ref y) H3) (E σ)) := by
  refine ⟨fun pins s σ H Q I h => wpAny_Call_Name_kw (ld_glob I hg hm ?_ hdb)⟩
  refine PySem.W.callWith_KW (h₀ := X.base) I.ok.mod.kin M.kp hall (thn (ha.run pos pins s σ H _ I h) fun us s1 ⟨vs, H1, I1, ra, qa⟩ => ?_) hpl he
  refine thn (hkw.run pos pins s1 σ H1 _ I1 qa) fun ws s2 ⟨zs, H2, I2, rz, lv, lz, qz⟩ => ⟨I2.kIn, ?_⟩
  rw [hks]
  have J := Inv.made (C := C) I2
  have hq := qz _ _ (I2.hok.fresh (Nat.le_succ _)) (I2.hok.fresh (Nat.le_refl _)) (Nat.ne_of_lt (Nat.lt_succ_self _))
  have rs : Vals (V.ref (s2.heap.objs.size + 1) :: vs) (Value.ref (s2.heap.objs.size + 1) :: us) := .cons rfl ra
  have run := F.run _ X.stack _ _ ⟨Value.ref (s2.heap.objs.size + 1) :: us, ks.zip ws⟩ (g (Value.ref (s2.heap.objs.size + 1) :: us) ws) _ _ (E σ) (hr.make C us (ks.zip ws)) (J.env0.make C us (ks.zip ws)) (hb.to _ (Value.ref (s2.heap.objs.size + 1) :: us) ws J.kIn (rs.length.symm.trans (congrArg Nat.succ lv)) (rz.length.symm.trans lz)) (hb.rel rs rz) hq
  refine wpAny_call (make_map (f := g0) I2.kIn M.makes M.init (beq_iff_eq.mp M.fn) (codeAny_mono run fun r s' z => ?_))
  cases r with
  | error er => exact hx σ pins _ _ er s' J z
  | ok fl =>
    cases fl with
    | ret y =>
      obtain ⟨v, H', J2, rv, ev, q3⟩ := J.after z
      cases ev
      exact ⟨rv, V.ref _, H', J2, rfl, q3⟩
    | next => exact z.elim
    | brk => exact z.elim
    | cont => exact z.elim
theorem RS.dropFront {K : PySem.W.Frag} {mg : Str → Option Value} {τ : Tau} {Ho G : Hp} {ρ mid : List Sl} {σ mv : L2.St} {H : Hp} (x : RS K mg τ Ho G (mid ++ ρ) (mv ++ σ) H) (hm : mid.length = mv.length) : RS K mg τ Ho G ρ σ H :=
  (RS.dropMid (x.push (d := .non) (v := .non) rep_non) hm).pop
/-- C(e, .., k = v, ..) -/
theorem dr_makeN (kl : KlAt Z.X.K Z.X.mg c C) (M : Mk Z.X.K C g0) (O : FnG false Z.X.prog Z.X.w Z.X.K Z.X.mg Z.X.base k g0 fd ps (liftSp Z.X.K Z.X.mg ps.length F)) (hk : k + 1 ≤ Z.k) (B : KwM Z.X.K Z.X.mg fd ps n ks arr) (ha : DA Z (e :: es) u) (hw' : DK Z kws w)
    (hg : Gl Z.X c := by first | rfl | decide) (hall : (backToKw pos (keywordEach kws Z.X.env)).all (·.1.isSome) = true := by rfl) (hks : (backToKw pos (keywordEach kws Z.X.env)).filterMap (·.1) = ks := by rfl)
    (hdb : (c == ("__debug__" : Str)) = false := by decide) (he : starEach (e :: es) Z.X.env = (false, eval e Z.X.env) :: starEach es Z.X.env := by rfl) (hpl : ((backTo pos (starEach (e :: es) Z.X.env)).any (·.1) || (backToKw pos (keywordEach kws Z.X.env)).any (·.1.isNone)) = false := by rfl) (hh : Z.hot = false := by rfl) :
    DR Z (.Call (.Name c p) (e :: es) kws pos) (dMake F c n ks.length arr u w) := by
  obtain ⟨ta, pa, sa⟩ := ha
  obtain ⟨tk, pk, sk⟩ := hw'
  obtain ⟨g, gV, hb, hr⟩ := B.ex
  refine ⟨_, pe_makeS (E := WE Z.W) M O.ok ((Z.room hh).mono hk) hg kl.mg hb (passAt Z.tk) pa pk hall hks hdb he hpl, fun Ho hw G ρ σ H Q x q => ?_⟩
  refine sa Ho hw G ρ σ H _ x (DA.then (L := fun r => LR Z Ho G σ r Q) (fun _ _ h => h) (fun h => h) q fun ds ρ1 vs G1 H1 x1 g1 b1 q1 => ?_)
  refine sk Ho hw G1 ρ1 σ H1 _ x1 (DA.then (L := fun r => LR Z Ho G σ r Q) (fun _ _ h => h) (fun h => h) q1 fun es' ρ2 zs G2 H2 x2 g2 b2 q2 => ?_)
  by_cases hl : ds.length = n ∧ es'.length = ks.length
  · rw [if_pos hl] at q2
    have b1' := RepL.mono g2.1 _ _ b1
    have lv : vs.length = n := b1.length.trans hl.1
    have lz : zs.length = ks.length := b2.length.trans hl.2
    refine ⟨lv, lz, fun y dx ny ndx hne => ?_⟩
    obtain ⟨rest, e1, r1, l1⟩ := hr G2 ds es' vs zs (.ref y) b1' b2 lv lz
    rw [e1]
    have r2 := (x2.rs.pushes r1).allocU (o := .own y) ndx
    have ny' : upd H2 dx (.own y) y = none := by rw [upd_ne (Ne.symm hne)]; exact ny
    have r3 := r2.pushO (d := .obj c []) (o := .ins C dx []) (.obj kl.mg (by unfold RepF; rfl)) ny'
    have rl : (arr (ds ++ es')).length = rest.length := r1.length.symm
    obtain ⟨Ho', h1, z, bk⟩ := RS.split (ss := .ow none (.obj c []) :: (arr (ds ++ es')).map Sl.sh) (us := some (V.ref y) :: rest.map some) (ρ := ρ2) (σ := σ) (by simpa using r3) (by simp [rl])
    have lσ : ρ2.length = σ.length := x2.rs.len
    refine ⟨by simp only [List.length_cons]; exact l1, Z.τ, Ho', G2, _, by simpa using z, ?_⟩
    unfold finM at q2
    cases ef : F (.ow none (.obj c []) :: (arr (ds ++ es')).map Sl.sh) with
    | no => rw [ef] at q2; exact q2.elim
    | ex y' ss' =>
      rw [ef] at q2
      intro cls d G' H' r gg rx
      have t := bk G' ss' _ H' gg (by simpa using r)
      have g' : Gr Ho G2 G' := gg.anti h1
      have lt := t.len
      simp only [List.length_append, List.length_cons, List.length_map] at lt
      have t2 := RS.dropFront t (by simp only [List.length_cons, List.length_map]; omega)
      exact ⟨G', _, y', t2.anti hw, x2.g0.trans (g'.anti hw), rx, q2⟩
    | ok s ss' =>
      rw [ef] at q2
      intro v G' H' r gg
      have t := bk G' (s :: ss') (some v :: (some (V.ref y) :: rest.map some)) H' gg (by simpa using r)
      have g' : Gr Ho G2 G' := gg.anti h1
      cases s <;> try (exact q2.elim)
      rename_i dn
      cases dn <;> try (exact q2.elim)
      cases ss' with
      | nil => exact q2.elim
      | cons s1 rest' =>
        cases s1 <;> try (exact q2.elim)
        rename_i tt d
        cases tt with
        | some _ => exact q2.elim
        | none =>
          obtain ⟨v', hv, hrep⟩ := t.sh (i := 0) rfl
          simp at hv
          subst hv
          unfold Rep at hrep
          subst hrep
          have lt := t.len
          simp only [List.length_append, List.length_cons, List.length_map, List.cons_append] at lt
          have t2 := RS.dropMid (ρ := ρ2) (σ := σ) (mid := rest') (mv := rest.map some) (by simpa using t.pop) (by simp only [List.length_map]; omega)
          exact ⟨rfl, q2 _ G' H' (x2.to t2 g') ((g1.trans g2).trans g')⟩
  · rw [if_neg hl] at q2; exact q2.elim
/-- a property's getter, that raises nothing -/
def propR (F : FS) (c : Str) (ρ : List Sl) (d : D) : Res Sl := match d with
  | .obj c' _ => if c' = c then (match F [.sh d] with
    | .ok s [_] => .ok s ρ
    | _ => .no) else .no
  | _ => .no
def dProp (F : FS) (c : Str) (t : M D) : M Sl := bnd t fun d ρ1 => propR F c ρ1 d
theorem dr_prop {pp : Addr} (kl : KlAt Z.X.K Z.X.mg c C) (hp : PropOf Z.X.K C f pp g0) (O : FnG false Z.X.prog Z.X.w Z.X.K Z.X.mg Z.X.base k g0 fd ps (liftSp Z.X.K Z.X.mg 1 F)) (hk : k + 1 ≤ Z.k) (hb : Binds Z.X.K fd ps []) (h : DE Z m e t) (hbb : m.b = false := by rfl)
    (hab : attributeBase e f Z.X.env (eval e Z.X.env) = eval e Z.X.env := by rfl) (hh : Z.hot = false := by rfl) : DR Z (.Attribute e f pos) (dProp F c t) := by
  obtain ⟨te, pa, sa⟩ := h
  have pz : Passes (L2.CX Z.X.prog Z.X.w) Z.X.nox (fun _ _ _ => False) := fun _ _ _ _ _ _ _ z => by
    obtain ⟨_, _, _, _, _, _, _, _, _, _, _, _, z⟩ := z
    exact z.elim
  refine ⟨_, pe_prop pa kl.cl hp O.ok ((Z.room hh).mono hk) hb .nil pz hab, fun Ho hw G ρ σ H Q x q => ?_⟩
  refine sa Ho hw G ρ σ H _ x (DE.then (L := fun r => LR Z Ho G σ r Q) (fun _ _ h => h) (fun h => h) q fun d ρ1 v G1 H1 x1 g1 s1 b1 q1 => ?_)
  rw [hbb] at b1
  replace b1 := b1.rep
  unfold propR at q1
  cases d <;> try (exact q1.elim)
  rename_i c' fs
  simp only at q1
  by_cases hc : c' = c
  · rw [if_pos hc] at q1
    subst hc
    have b1' := b1
    unfold Rep at b1
    obtain ⟨a, C', dx, ws, rfl, h1, h2, h3⟩ := b1
    rw [kl.mg] at h1
    cases h1
    refine ⟨a, dx, ws, rfl, x1.gh _ _ h2, ?_⟩
    obtain ⟨Ho', h1, z, bk⟩ := RS.split (ss := [.sh (.obj c' fs)]) (us := [some (V.ref a)]) (ρ := ρ1) (σ := σ) (by simpa using x1.rs.push b1') (by simp)
    refine ⟨rfl, Z.τ, Ho', G1, _, by simpa using z, ?_⟩
    cases ef : F [.sh (.obj c' fs)] with
    | no => rw [ef] at q1; exact q1.elim
    | ex y' ss' => rw [ef] at q1; exact q1.elim
    | ok s ss' =>
      rw [ef] at q1
      cases ss' with
      | nil => exact q1.elim
      | cons s1 rr =>
        cases rr with
        | cons _ _ => exact q1.elim
        | nil =>
          intro v G' H' r gg
          have t := bk G' [s, s1] [some v, some (V.ref a)] H' gg (by simpa using r)
          have g' : Gr Ho G1 G' := gg.anti h1
          have t2 := RS.dropMid (ρ := ρ1) (σ := σ) (mid := [s1]) (mv := [some (V.ref a)]) (by simpa using t) (by simp)
          exact q1 v G' H' (x1.to t2 g') (g1.trans g')
  · rw [if_neg hc] at q1; exact q1.elim
end
end DS

set_option Elab.async false
set_option linter.all false
set_option maxRecDepth 100000
set_option maxHeartbeats 1000000
/-! running: whiles, texts; text * n -/
namespace DS
open PySem PySem.Spec PyProof.Rows L2
/-! ### while -/
section
variable {c : M Bool} {b : MS} {kl : List Nat} {ρ ρ1 ρ2 : List Sl} {s : Sl} {x : Exn}
theorem sWhile_eq {ρ' : List Sl} (h : ∀ n, wN c b kl (n + 1) ρ = wN c b kl n ρ') : sWhile c b kl ρ = sWhile c b kl ρ' := by
  by_cases q : ∃ n, wN c b kl n ρ' ≠ .no
  · obtain ⟨n, hn⟩ := q
    rw [sWhile_of hn, sWhile_of (n := n + 1) (by rw [h]; exact hn), h]
  · have z : ∀ n, wN c b kl n ρ' = .no := fun n => Classical.byContradiction fun z => q ⟨n, z⟩
    have z2 : ∀ n, wN c b kl n ρ = .no := fun n => by
      cases n with
      | zero => rfl
      | succ n => rw [h, z]
    unfold sWhile
    rw [dif_neg (fun ⟨n, hn⟩ => hn (z2 n)), dif_neg q]
theorem sWhile_nx (h : c ρ = .ok true ρ1) (h2 : b ρ1 = .nx ρ2) : sWhile c b kl ρ = sWhile c b kl (drops kl ρ2) := sWhile_eq fun n => by simp only [wN, h, h2]
theorem sWhile_ct (h : c ρ = .ok true ρ1) (h2 : b ρ1 = .ct ρ2) : sWhile c b kl ρ = sWhile c b kl (drops kl ρ2) := sWhile_eq fun n => by simp only [wN, h, h2]
theorem sWhile_end (h : c ρ = .ok false ρ1) : sWhile c b kl ρ = .nx (drops kl ρ1) := by
  have e : wN c b kl 1 ρ = .nx (drops kl ρ1) := by simp only [wN, h]
  rw [sWhile_of (n := 1) (by rw [e]; intro z; cases z), e]
theorem sWhile_rt (h : c ρ = .ok true ρ1) (h2 : b ρ1 = .rt s ρ2) : sWhile c b kl ρ = .rt s ρ2 := by
  have e : wN c b kl 1 ρ = .rt s ρ2 := by simp only [wN, h, h2]
  rw [sWhile_of (n := 1) (by rw [e]; intro z; cases z), e]
theorem sWhile_ex (h : c ρ = .ok true ρ1) (h2 : b ρ1 = .ex x ρ2) : sWhile c b kl ρ = .ex x ρ2 := by
  have e : wN c b kl 1 ρ = .ex x ρ2 := by simp only [wN, h, h2]
  rw [sWhile_of (n := 1) (by rw [e]; intro z; cases z), e]
theorem sWhile_bk (h : c ρ = .ok true ρ1) (h2 : b ρ1 = .bk ρ2) : sWhile c b kl ρ = .nx (drops kl ρ2) := by
  have e : wN c b kl 1 ρ = .nx (drops kl ρ2) := by simp only [wN, h, h2]
  rw [sWhile_of (n := 1) (by rw [e]; intro z; cases z), e]
end
/-! ### running what DST, DSV bring -/
section
variable {ρ ρ1 : List Sl} {x : Exn}
def joinR (tb : M D) (ρ : List Sl) : D → Res D
  | .str x => (tb ρ).bind fun e => lft (fJoin (.str x) e)
  | _ => .no
@[simp] theorem x_join (ta tb : M D) : dJoin ta tb ρ = (ta ρ).bind fun d ρ => joinR tb ρ d := by
  unfold dJoin
  rw [x_bnd]
  cases ta ρ with
  | ok d ρ' => simp only [x_bok]; cases d <;> rfl
  | ex _ _ => rfl
  | no => rfl
@[simp] theorem x_joinR {tb : M D} {y : Str} : joinR tb ρ (.str y) = (tb ρ).bind fun e => lft (fJoin (.str y) e) := rfl
@[simp] theorem x_aug (f : D → D → Option D) (i : Nat) (t : M D) : sAug f i t ρ = if isV ρ[i]? then (t ρ).andS fun e ρ1 => augR f ρ1 i e ρ1[i]? else .no := rfl
@[simp] theorem x_isV1 {d : D} : isV (some (.sh d)) = true := rfl
@[simp] theorem x_isV2 {t : Option Nat} {ds : List D} : isV (some (.ow t (.lst ds))) = true := rfl
@[simp] theorem x_augI {i : Nat} {j k : Int} : augR fAugA ρ i (.int k) (some (.sh (.int j))) = .nx (ρ.set i (.sh (.int (j + k)))) := rfl
theorem x_augS {i : Nat} {y z : Str} (h : y.length + z.length ≤ sizeLine) : augR fAugA ρ i (.str z) (some (.sh (.str y))) = .nx (ρ.set i (.sh (.str (y ++ z)))) := by simp [augR, fAugA, h]
theorem x_augL {i : Nat} {t : Option Nat} {ds es : List D} (h : ds.length + es.length ≤ sizeLine) : augR fAugA ρ i (.lst es) (some (.ow t (.lst ds))) = .nx (ρ.set i (.ow t (.lst (ds ++ es)))) := by simp [augR, h]
@[simp] theorem x_pop (i : Nat) : dPop i ρ = popR ρ i ρ[i]? := rfl
@[simp] theorem x_popAt (i : Nat) (t : M D) : dPopAt i t ρ = if isL ρ[i]? then (t ρ).bind fun d ρ1 => popAtR ρ1 i d ρ1[i]? else .no := rfl
@[simp] theorem x_ch (f f' : D → D → Option D) (ta tb tc : M D) : dCh f f' ta tb tc ρ = (ta ρ).bind fun d => bnd tb fun e => bnd (lft ((f d e).bind asB)) fun k => if k then bnd tc fun g => lft (f' e g) else ret (.bl false) := rfl
@[simp] theorem x_make (F : FS) (c : Str) (n m : Nat) (arr : List D → List D) (v w : M (List D)) : dMake F c n m arr v w ρ = (v ρ).bind fun ds => bnd w fun es ρ1 => if ds.length = n ∧ es.length = m then finM ρ1 (F (.ow none (.obj c []) :: (arr (ds ++ es)).map Sl.sh)) else .no := rfl
@[simp] theorem x_finM1 {d : D} {ss : List Sl} : finM ρ (.ok (.sh .non) (.ow none d :: ss)) = .ok (.ow none d) ρ := rfl
@[simp] theorem x_finM2 {ss : List Sl} : finM ρ (.ex x ss) = .ex x ρ := rfl
def prR (ρ : List Sl) : FR → Res Sl
  | .ok s [_] => .ok s ρ
  | _ => .no
@[simp] theorem x_prop (F : FS) (c : Str) (t : M D) : dProp F c t ρ = (t ρ).bind fun d ρ1 => propR F c ρ1 d := rfl
@[simp] theorem x_propR {F : FS} {c c' : Str} {fs : List (Str × D)} : propR F c ρ (.obj c' fs) = if c' = c then prR ρ (F [.sh (.obj c' fs)]) else .no := by
  unfold propR
  simp only
  split
  · cases F [.sh (.obj c' fs)] with
    | ok s ss =>
      cases ss with
      | nil => rfl
      | cons a b => cases b <;> rfl
    | ex _ _ => rfl
    | no => rfl
  · rfl
@[simp] theorem x_prR {s t : Sl} : prR ρ (.ok s [t]) = .ok s ρ := rfl
@[simp] theorem x_fldP (c f : Str) (i : Nat) (t : M D) : sFldP c f i t ρ = (t ρ).andS fun d ρ => putR c f ρ i d ρ[i]? := rfl
@[simp] theorem x_putR {c c' f : Str} {i : Nat} {d : D} {t : Option Nat} {fs : List (Str × D)} : putR c f ρ i d (some (.ow t (.obj c' fs))) = if c' = c ∧ fs.length < 1000 then .nx (ρ.set i (.ow t (.obj c' (putD f d fs)))) else .no := rfl
@[simp] theorem x_fFld {c c' f : Str} {fs : List (Str × D)} : fFld c f (.obj c' fs) = if c' = c then fs.lookup f else none := rfl
end
/-! ### text * n -/
def fRepS : D → D → Option D
  | .str x, .int k => if x.length ≤ 16 ∧ 0 ≤ k ∧ k ≤ 1048576 then some (.str (Txt.mul x k)) else none
  | _, _ => none
theorem fold_app : ∀ (n : Nat) (x acc : Array Nat), ((List.replicate n x).foldl (· ++ ·) acc).toList = acc.toList ++ (List.replicate n x.toList).flatten
  | 0, x, acc => by simp
  | n + 1, x, acc => by
    rw [List.replicate_succ, List.foldl_cons, fold_app n x (acc ++ x), List.replicate_succ, List.flatten_cons, Array.toList_append, List.append_assoc]
theorem mul_list {x : Str} {k : Nat} : (Txt.mul x (k : Int)).cps.toList = (List.replicate k x.cps.toList).flatten := by
  unfold Txt.mul
  by_cases h : (k : Int) < 1
  · have : k = 0 := by omega
    subst this
    rw [if_pos h]
    rfl
  · rw [if_neg h]
    by_cases h1 : ((k : Int) == 1 || x.length == 0) = true
    · rw [if_pos h1]
      rw [Bool.or_eq_true] at h1
      rcases h1 with h1 | h1
      · have : k = 1 := by
          have h2 : (k : Int) = 1 := by simpa using h1
          omega
        subst this
        simp
      · have hz : x.cps.toList = [] := by
          have h2 : x.cps.size = 0 := by
            have : x.length = 0 := by simpa using h1
            exact this
          have : x.cps = #[] := Array.eq_empty_of_size_eq_zero h2
          rw [this]
        rw [hz]
        simp
    · rw [if_neg h1]
      show ((List.replicate ((k : Int)).toNat x.cps).foldl (· ++ ·) #[]).toList = _
      rw [fold_app]
      simp
theorem strOk_mul {x : Str} {k : Nat} (h : PyData.strOk x = true) : PyData.strOk (Txt.mul x (k : Int)) = true := by
  rw [strOk_iff] at *
  rw [mul_list]
  intro c hc
  obtain ⟨l, h1, h2⟩ := List.mem_flatten.mp hc
  rw [List.eq_of_mem_replicate h1] at h2
  exact h c h2
section
variable {Z : DC} {m1 m2 : Md} {a b : Expr} {ta tb : M D} {pos : Pos}
theorem op_mulT {X : Cx} : OpR X (binaryOp .Mult) (fun x y H Q => ∃ i k, x = .str i ∧ y = .int k ∧ i.length ≤ 16 ∧ 0 ≤ k ∧ k ≤ 1048576 ∧ Q (.str (Txt.mul i k)) H) := by
  intro pins s σ H x y v u Q I rx ry h
  obtain ⟨i, k, rfl, rfl, h1, h2, h3, q⟩ := h
  obtain ⟨t, rfl⟩ := rx
  obtain ⟨t', rfl⟩ := ry
  exact SB.mul (mulOk_of 16 1048576 h1 (by omega) (by omega) (by decide) (by decide)) fun t' tk => ⟨.str _, H, I.tok _, ⟨_, rfl⟩, q⟩
theorem opd_repS : OpD Z (fun x y H Q => ∃ i k, x = V.str i ∧ y = .int k ∧ i.length ≤ 16 ∧ 0 ≤ k ∧ k ≤ 1048576 ∧ Q (.str (Txt.mul i k)) H) fRepS := by
  refine ⟨?_⟩
  intro Ho G ρ σ H d e z x y Q hR hx hy hf hq
  cases d <;> cases e <;> try (cases hf; done)
  rename_i i k
  unfold fRepS at hf
  by_cases hz : i.length ≤ 16 ∧ 0 ≤ k ∧ k ≤ 1048576
  · simp only [if_pos hz] at hf
    cases hf
    refine ⟨i, k, hx.str.1, hy.int, hz.1, hz.2.1, hz.2.2, hq _ _ _ hR Gr.refl (Same.refl _) (rep_str ?_)⟩
    have := strOk_mul (k := k.toNat) hx.str.2
    rwa [Int.toNat_of_nonneg hz.2.1] at this
  · simp only [if_neg hz] at hf; cases hf
def fMulS : D → D → Option D := fOr fMulI (fOr fRep fRepS)
theorem de_mulS (ha : DE Z m1 a ta) (hb : DE Z m2 b tb) (hm : (!m1.b || m2.p) = true := by rfl) : DE Z ⟨m1.p && m2.p, false⟩ (.BinOp a .Mult b pos) (d2 fMulS ta tb) := de_bin (op_mul.or (op_rep.or op_mulT)) (opd_mulI.or (opd_rep.or opd_repS)) ha hb hm
end
/-! ### list(text) -/
theorem vals_signs {y : Str} {acc : List Value} (hl : acc.length = y.cps.size) (h : ∀ (j : Nat) (v : Value), acc[j]? = some v → SignAt y j v) : Vals ((signs y).map V.str) acc := by
  have go : ∀ (cs : List Nat) (us : List Value), us.length = cs.length → (∀ (j : Nat) (v : Value), us[j]? = some v → ∃ (c : Nat) (u : Tok), cs[j]? = some c ∧ v = Value.str ⟨#[c]⟩ u) → Vals ((cs.map fun c => (⟨#[c]⟩ : Str)).map V.str) us := by
    intro cs
    induction cs with
    | nil => intro us hl _; cases us with
      | nil => exact .nil
      | cons _ _ => cases hl
    | cons c cs ih =>
      intro us hl h
      cases us with
      | nil => cases hl
      | cons u us =>
        obtain ⟨c', t, e1, e2⟩ := h 0 u rfl
        simp at e1
        subst e1
        rw [e2]
        refine .cons ⟨t, rfl⟩ (ih us (by simpa using hl) fun j v hj => ?_)
        obtain ⟨c', t, e1, e2⟩ := h (j + 1) v (by simpa using hj)
        exact ⟨c', t, by simpa using e1, e2⟩
  refine go y.cps.toList acc (by simpa using hl) fun j v hj => ?_
  obtain ⟨c, u, e1, e2⟩ := h j v hj
  exact ⟨c, u, by simpa using e1, e2⟩
theorem call_listS {X : Cx} (hc : X.calm = true) : CallR X (.type "list") (fun xs H Q => ∃ y : Str, xs = [.str y] ∧ y.length ≤ sizeLine ∧ ∀ l, H l = none → Q (.ref l) (upd H l (.lst ((signs y).map V.str)))) := by
  intro pins s σ H xs us Q I r h
  obtain ⟨y, rfl, hz, q⟩ := h
  obtain ⟨u, rfl, t, rfl⟩ := vals1 r
  refine call_list_str (I.ok.hd hc) y t (fun h' tk acc' c' kp e hi => ?_) hz
  have hv : Vals ((signs y).map V.str) acc'.toList := vals_signs (by rw [Array.length_toList]; exact hi.1) fun j v hj => hi.2 j v (by rw [← Array.getElem?_toList]; exact hj)
  exact ⟨.ref s.heap.objs.size, _, I.laid (t' := tk) kp (Nat.le_refl _) (show ObjOk X.prog X.w _ h' _ (.lst ((signs y).map V.str)) from ⟨by rw [List.length_map, signs_length]; exact hz, acc'.toList, c', hv, by rw [Array.toArray_toList]; exact e⟩), rfl, q _ (I.hok.fresh (Nat.le_refl _))⟩
def fLstT : D → Option D
  | .lst ds => some (.lst ds)
  | .tup ds => some (.lst ds)
  | .str y => if y.length ≤ sizeLine then some (.lst ((signs y).map D.str)) else none
  | _ => none
theorem repL_signs {K : PySem.W.Frag} {mg : Str → Option Value} {G : Hp} {y : Str} (h : PyData.strOk y = true) : RepL K mg G ((signs y).map D.str) ((signs y).map V.str) := by
  have go : ∀ l : List Str, (∀ z ∈ l, PyData.strOk z = true) → RepL K mg G (l.map D.str) (l.map V.str) := by
    intro l
    induction l with
    | nil => intro _; exact RepL.nil
    | cons z l ih => intro hl; exact RepL.cons (rep_str (hl z List.mem_cons_self)) (ih fun z hz => hl z (List.mem_cons_of_mem _ hz))
  refine go _ fun z hz => ?_
  unfold signs at hz
  obtain ⟨c, hc, rfl⟩ := List.mem_map.mp hz
  rw [strOk_iff] at *
  intro k hk
  have : k = c := by simpa using hk
  subst this
  exact h k hc
section
variable {Z : DC} {m1 : Md} {a : Expr} {ta : M D} {pos p2 : Pos}
theorem cld_lstT : ClD Z (fun xs H Q => (∃ p ys, xs = [V.ref p] ∧ (SqL Z.X.K H p ys ∨ SqT Z.X.K H p ys) ∧ ∀ l, H l = none → Q (.ref l) (upd H l (.lst ys))) ∨ ∃ y : Str, xs = [.str y] ∧ y.length ≤ sizeLine ∧ ∀ l, H l = none → Q (.ref l) (upd H l (.lst ((signs y).map V.str)))) fLstT := by
  refine ⟨?_⟩
  intro Ho G ρ σ H d z x Q hR hx hf hq
  cases d <;> try (cases hf; done)
  · rename_i y
    unfold fLstT at hf
    by_cases hz : y.length ≤ sizeLine
    · simp only [if_pos hz] at hf
      cases hf
      refine .inr ⟨y, by rw [hx.str.1], hz, fun p hp => ?_⟩
      obtain ⟨x4, g4⟩ := hR.allocF (o := .lst ((signs y).map V.str)) hp
      refine hq _ _ _ x4 g4 (same_upd hp) ?_
      unfold DC.rep Rep
      exact ⟨p, _, rfl, upd_same, repL_signs hx.str.2⟩
    · simp only [if_neg hz] at hf; cases hf
  · exact .inl ((cld_lstof (Z := Z)).ok hR hx hf hq)
  · exact .inl ((cld_lstof (Z := Z)).ok hR hx hf hq)
theorem de_lstT (hm : Z.X.mg "list" = none) (ha : DE Z m1 a ta) (hh : Z.hot = false := by rfl) (hg : Gl Z.X "list" := by rfl) (he : starEach (a :: []) Z.X.env = (false, eval a Z.X.env) :: starEach [] Z.X.env := by rfl) :
    DE Z ⟨m1.p, false⟩ (.Call (.Name "list" p2) [a] [] pos) (d1 fLstT ta) := de_typ1 (CallR.or' call_list_of (call_listS (Z.calm hh))) cld_lstT (by decide +kernel) hm ha hg (he := he)
end
/-! ### texts, by their codes -/
def chS (c : Nat) : Str := ⟨#[c]⟩
def mkS' (l : List Nat) : Str := ⟨l.toArray⟩
theorem len_list (x : Str) : x.length = x.cps.toList.length := by
  show x.cps.size = _
  simp
theorem str_ext {x y : Str} (h : x.cps.toList = y.cps.toList) : x = y := by
  cases x; cases y
  simp at h
  congr
theorem cut_list {x : Str} {i j : Nat} : (cutS x (some (i : Int)) (some (j : Int))).cps.toList = (x.cps.toList.drop (min i x.length)).take (min j x.length - min i x.length) := by
  simp [cutS, HT.sIx_nat]
theorem cut_one {x : Str} {i c : Nat} (h : x.cps.toList[i]? = some c) : cutS x (some (i : Int)) (some ((i : Int) + 1)) = chS c := by
  apply str_ext
  have := cut_list (x := x) (i := i) (j := i + 1)
  rw [show ((i + 1 : Nat) : Int) = (i : Int) + 1 by omega] at this
  rw [this]
  have hl : i < x.cps.toList.length := (List.getElem?_eq_some_iff.mp h).1
  have hx := len_list x
  rw [show min i x.length = i by omega, show min (i + 1) x.length - i = 1 by omega]
  have e := List.drop_eq_getElem_cons hl
  rw [e]
  have : x.cps.toList[i] = c := (List.getElem?_eq_some_iff.mp h).2
  simp [chS]
  simpa using this
theorem cut_end {x : Str} {i : Nat} (h : x.length ≤ i) : cutS x (some (i : Int)) (some ((i : Int) + 1)) = "" := by
  apply str_ext
  have := cut_list (x := x) (i := i) (j := i + 1)
  rw [show ((i + 1 : Nat) : Int) = (i : Int) + 1 by omega] at this
  rw [this]
  rw [show min (i + 1) x.length - min i x.length = 0 by omega]
  rfl
theorem ix_str {x : Str} {i c : Nat} (h : x.cps.toList[i]? = some c) (hz : x.length ≤ sizeLine) : fIx (.str x) (.int i) = some (.str (chS c)) := by
  have hl : i < x.cps.toList.length := (List.getElem?_eq_some_iff.mp h).1
  have e : ixN x.cps.toList.length (i : Int) = some i := by
    unfold ixN
    rw [if_pos (by omega), if_pos (by omega)]
    simp
  simp only [fIx, if_pos hz, atI, e, Option.bind_some, h]
  rfl
theorem chS_list (c : Nat) : (chS c).cps.toList = [c] := rfl
theorem sIn_ch (c : Nat) (y : Str) : sIn (chS c) y = decide (c ∈ y.cps.toList) := rfl
theorem chS_ne (c : Nat) : (chS c == ("" : Str)) = false := by
  have : chS c ≠ ("" : Str) := fun h => by
    have e : (("" : Str)).cps.toList = [] := by decide
    have e2 : (chS c).cps.toList = [] := by rw [h]; exact e
    rw [chS_list] at e2
    cases e2
  simpa using this
theorem chS_eq (c d : Nat) : (chS c == chS d) = (c == d) := by
  by_cases h : c = d
  · subst h; simp
  · have : chS c ≠ chS d := fun q => h (by simpa [chS_list] using congrArg (fun z : Str => z.cps.toList) q)
    rw [beq_eq_false_iff_ne.mpr this, beq_eq_false_iff_ne.mpr h]
end DS

set_option Elab.async false
set_option linter.all false
set_option maxRecDepth 100000
set_option maxHeartbeats 2000000
namespace DS
open PySem PySem.Spec PyProof.Rows L2

/-! ### an exception that is caught and kept, as data -/
theorem xcp_ok {P : Program} {w : World} {H : Hp} {h : Heap} {a : Addr} {cls : Value} {d : Option Addr} {oe : Obj} {vs : Array Value} (e : h.get? a = some oe) (z : Zc cls d oe) (hd : oe.data = .fields vs) : ObjOk P w H h a (.ext (XcP a cls d)) :=
  ⟨⟨oe, vs, e, z, hd⟩, ⟨oe, e⟩, fun _ _ ⟨o, v, q, r⟩ k => ⟨o, v, k o q, r⟩⟩
section
variable {X : Cx} {pins : List (Addr × Obj)} {σ : L2.St} {H : Hp} {s : Shared}
/-- an untracked thing that is newer than the entry is tracked -/
theorem inv_track {a : Addr} {oe : Obj} {vs : Array Value} {cls : Value} {d : Option Addr} (I : Inv X pins σ H s) (ha : s.heap.get? a = some oe) (hz : Zc cls d oe) (hd : oe.data = .fields vs) (na : H a = none) (nL : a ≠ X.env.locals) (new : X.s_0.heap.get? a = none ∨ a ∈ X.ex)
    (np : ∀ p ∈ X.pn ++ pins, p.1 ≠ a) : Inv X pins σ (upd H a (.ext (XcP a cls d))) s := by
  have nC : ∀ x c, X.env.cells.lookup x = some c → c ≠ a := fun x c e z => by
    obtain ⟨v, o, h1, h2⟩ := I.cell x c e
    rw [z, ha] at h1
    cases h1
    rw [hd] at h2
    cases h2
  refine ⟨I.ok, I.os, I.bare, ⟨I.base.keep, I.base.slot, fun b o e n hx => ?_, I.base.there, fun b xs e => ?_, fun b o u e => ?_, fun b ps e => ?_⟩, I.loc, I.cell, ?_, fun x c e => ?_, fun p hp => ?_, fun b u e => ?_, I.len⟩
  · have nb : b ≠ a := fun z => by
      rcases new with h | h
      · rw [z, h] at e; cases e
      · rw [z] at hx; exact hx h
    rw [upd_ne nb]
    exact I.base.free b o e n hx
  · have z := I.base.tups b xs e
    rw [upd_ne (ne_of_none z na)]; exact z
  · have z := I.base.frzs b o u e
    rw [upd_ne (ne_of_none z na)]; exact z
  · obtain ⟨more, z⟩ := I.base.tbls b ps e
    exact ⟨more, by rw [upd_ne (ne_of_none z na)]; exact z⟩
  · rw [upd_ne (Ne.symm nL)]; exact I.free
  · rw [upd_ne (nC x c e)]; exact I.freeC x c e
  · obtain ⟨h1, h2, h3⟩ := I.pin p hp
    exact ⟨h1, by rw [upd_ne (np p hp)]; exact h2, h3⟩
  · by_cases hb : b = a
    · subst hb
      rw [upd_same] at e
      cases e
      exact xcp_ok ha hz hd
    · rw [upd_ne hb] at e
      exact (I.hok b u e).stay (fun _ _ _ q => q) (fun c q => by rw [upd_ne (ne_of_none q na)]; exact q) fun c xs q => by rw [upd_ne (ne_of_none q na)]; exact q
/-- what the clause wishes -/
def wAsD (K : PySem.W.Frag) (c : Value) (i : Nat) (ts : Addr → Value → Option Addr → TS) (Wout : WX) (D : Ends) : WX := fun cls d σ H =>
  ∃ b, PySem.W.exmOne K cls c = some b ∧ (b = true → ∀ a, H a = none → ts a cls d { nx := fun σ' H' => D.nx (σ'.set i none) H', rt := D.rt, bk := fun σ' H' => D.bk (σ'.set i none) H', ct := fun σ' H' => D.ct (σ'.set i none) H' } (σ.set i (some (.ref a))) (upd H a (.ext (XcP a cls d)))) ∧
    (b = false → Wout cls d σ H)
end
section
variable {X : Cx} {x n : Str} {c : Value} {i : Nat} {body suite : List Stmt} {b₀ : Stmt} {np pos pos' : Pos} {tb : WX → TS} {ts : Addr → Value → Option Addr → TS} {Wout : WX}
theorem toSuite {pins : List (Addr × Obj)} {σ : L2.St} {H : Hp} {s : Shared} (I : Inv X pins σ H s) (a : Addr) : Inv (X.suite a (X.pn ++ pins)) [] σ H s :=
  ⟨I.ok.suite _ _, I.os, I.bare, I.base, I.loc, I.cell, I.free, I.freeC, fun p hp => I.pin p (by rw [List.append_nil] at hp; exact hp), I.hok, I.len⟩
theorem ofSuite {pins pn' : List (Addr × Obj)} {σ : L2.St} {H : Hp} {s : Shared} {a : Addr} (I : Inv (X.suite a (X.pn ++ pins)) pn' σ H s) (ok : X.Ok) : Inv X pins σ H s :=
  ⟨ok, I.os, I.bare, I.base, I.loc, I.cell, I.free, I.freeC, fun p hp => I.pin p (List.mem_append_left _ hp), I.hok, I.len⟩
theorem ps_try_asD (hs : X.stack = X.env :: X.outer) (hf : X.env.frame = some X.env.locals) (hN : X.N.Nodup) (hi : X.N[i]? = some n) (hln : X.env.kindOf n = some .local) (hc : Names X x c) (tk : Takes X Wout)
    (hb : ∀ (W : WX) (pn : List (Addr × Obj)) (xe : Value → Shared → Prop), Takes (X.tr pn xe) W → PassesOwn (model X.prog X.w) X.A X.env xe → PSs (X.tr pn xe) body (tb W))
    (hsu : ∀ (a : Addr) (cls : Value) (d : Option Addr) (pn : List (Addr × Obj)), PSs (X.suite a pn) (b₀ :: suite) (ts a cls d)) :
    PS X (.Try body [.ExceptHandler (some (.Name x np)) (some n) (b₀ :: suite) pos'] [] [] pos) (fun D σ H => tb (wAsD X.K c i ts Wout D) D σ H) := by
  refine ⟨fun pins s σ H D I h => ?_⟩
  have ok := I.ok
  have hfr : X.A.frames = some (X.env :: X.outer) := by rw [ok.frames, hs]
  have hloc : Loc X.env.scope n := .inl hln
  refine wpAny_Try_except ?_
  refine wpAny_mono ((hb (wAsD X.K c i ts Wout D) (X.pn ++ pins) (fun e s₁ => wpAny (model X.prog X.w) X.A (noteFrame e X.env) (fun _ s₂ => wpAny (model X.prog X.w) X.A (setFlight e none) (fun _ s₃ =>
    wpAny (model X.prog X.w) X.A (handleBy e X.env [.ExceptHandler (some (.Name x np)) (some n) (b₀ :: suite) pos']) (SP X pins D) X.xe s₃) X.xe s₂) X.xe s₁) (fun u s' xx => ?_) PassesOwn.looking).run [] s σ H D (I.toTry _) h) (fun f s1 hsp => ?_) (fun e s1 he => he)
  · obtain ⟨a, B, sI, pins', σ', H', cls, d, rfl, J', nb, up, sky, na, os, ag, b, hb1, hyes, hno⟩ := xx
    have J : Inv X pins σ' H' sI := J'.ofTry ok
    have sky' : Sky B (X.env :: X.outer) a (Zc cls d) X.env.locals s'.heap := by rw [← hs]; exact sky
    show wpAny (model X.prog X.w) X.A (noteFrame (.ref a) X.env) _ _ _
    refine Sky.land Zc.steady hfr hf sky' fun h3 fl3 up3 => ?_
    have J3 : Inv X pins σ' H' { s' with heap := h3 } := J.landed nb fl3.1 (up.trans up3) os ag
    obtain ⟨oe3, vs3, he3, hz3, hd3⟩ := fl3.there
    have notFr : ∀ {h : Heap} {o : Obj} {vs : Array Value}, h.FunFrames B (X.env :: X.outer) → h.get? a = some o → o.data = .fields vs → a ∉ frs (X.env :: X.outer) := fun {h o vs} ff e dd hm => by
      obtain ⟨_, o', e', hnf⟩ := ff.mem hm
      rw [e] at e'; cases e'
      exact hnf _ dd
    have nfr := notFr fl3.2.2.1 he3 hd3
    have nL : a ≠ X.env.locals := fun z => nfr (List.mem_filterMap.mpr ⟨X.env, List.mem_cons_self, by rw [hf, z]⟩)
    have nF : a ∉ X.fs := fun hm => by
      obtain ⟨e, he, q⟩ := List.mem_filterMap.mp hm
      exact nfr (List.mem_filterMap.mpr ⟨e, List.mem_cons_of_mem _ he, q⟩)
    have nB : B.get? a = none := fl3.2.1
    have nfs : a ∉ frs X.stack := by rw [hs]; exact nfr
    have nI : sI.heap.get? a = none := by
      cases q : sI.heap.get? a with
      | none => rfl
      | some o => rw [nb a o q nfs] at nB; cases nB
    have new : X.s_0.heap.get? a = none ∨ a ∈ X.ex := by
      by_cases hx : a ∈ X.ex
      · exact .inr hx
      · left
        cases q : X.s_0.heap.get? a with
        | none => rfl
        | some o =>
          obtain ⟨o', h'⟩ := J.base.there a o q hx
          rw [nI] at h'; cases h'
    have npa : ∀ p ∈ X.pn ++ pins, p.1 ≠ a := fun p hp z => by
      have h' := (J.pin p hp).1
      rw [z, nI] at h'; cases h'
    have S3 := J3.suite he3 hd3 na nL nF
    refine wpAny_handleBy_cons (codeAny_handlers_test ?_) (by intro q; cases q)
    have LT : PySem.W.Looks (model X.prog X.w) h3 (typeOf (.ref a)) cls := fun A Q E s k q => wpAny_typeOf_ref (k _ _ he3) (by rw [hz3.1]; exact q)
    have LM := PySem.W.exm_one (M := model X.prog X.w) (J3.kIn) LT hb1
    have test : ∀ {Q : Value → Shared → Prop} {E : Value → Shared → Prop}, Q c { s' with heap := h3 } → wpAny (model X.prog X.w) (X.A.mark (some (.ref a))) (eval (.Name x np) X.env) Q E { s' with heap := h3 } := fun {Q E} q => by
      obtain ⟨hg, hdbg, hm | ⟨hm, hv, hnn⟩⟩ := hc
      · exact ld_glob (X := X.suite a ((a, oe3) :: (X.pn ++ pins))) S3 hg hm q hdbg
      · exact ld_blt (X := X.suite a ((a, oe3) :: (X.pn ++ pins))) S3 hg hm hv q hnn hdbg
    refine test (LM.here ?_)
    cases b with
    | true =>
      refine codeAny_handlers_suite_as ?_
      refine HandSPX.lands_againZ fl3 fun h4 fl4 up4 => ?_
      have J4 : Inv X pins σ' H' { s' with heap := h4 } := J.landed nb fl4.1 ((up.trans up3).trans up4) os ag
      obtain ⟨oe4, vs4, he4, hz4, hd4⟩ := fl4.there
      have T4 : Inv X pins σ' (upd H' a (.ext (XcP a cls d))) { s' with heap := h4 } := inv_track J4 he4 hz4 hd4 na nL new npa
      have S4 := toSuite T4 a
      refine store_ok (X := X.suite a (X.pn ++ pins)) (v := .ref a) S4 hN hi hloc rfl (fun s5 S5 => ?_) (.inr hln)
      refine wpAny_mono ((hsu a cls d (X.pn ++ pins)).run [] s5 _ _ _ S5 (hyes rfl a na)) (fun f s6 hsp => ?_) (fun _ _ z => False.elim z)
      have end_ : ∀ {σ6 : L2.St} {H6 : Hp} {Q : Shared → Prop}, Inv (X.suite a (X.pn ++ pins)) [] σ6 H6 s6 → (∀ s7, Inv X pins (σ6.set i none) H6 s7 → Q s7) →
          wpAny (model X.prog X.w) X.A (do bindName X.env n .none; unbindBehindTheSuite X.env n pos') (fun _ s7 => Q s7) X.xe s6 := fun {σ6 H6 Q} S6 hq => gone_ok (ofSuite S6 ok) hN hi hln hq
      cases f with
      | next =>
        obtain ⟨σ6, H6, S6, q6⟩ := hsp
        exact end_ S6 fun s7 J7 => ⟨_, _, J7, q6⟩
      | brk =>
        obtain ⟨σ6, H6, S6, q6⟩ := hsp
        exact end_ S6 fun s7 J7 => ⟨_, _, J7, q6⟩
      | cont =>
        obtain ⟨σ6, H6, S6, q6⟩ := hsp
        exact end_ S6 fun s7 J7 => ⟨_, _, J7, q6⟩
      | ret u =>
        obtain ⟨v6, σ6, H6, S6, r6, q6⟩ := hsp
        exact end_ S6 fun s7 J7 => ⟨_, _, _, J7, r6, q6⟩
    | false =>
      show wpAny _ X.A (handleBy (.ref a) X.env []) _ _ _
      refine wpAny_handleBy_nil ?_
      obtain ⟨k1, k2, k3, oe, vs, T, oT, ts', he, hz, hd, h1, hr⟩ := id fl3
      unfold PySem.passOn
      refine wpAny_bind (wpAny_field he hd h1 ?_)
      rw [if_neg (show ¬ ((Value.ref T == Value.none) = true) from by simp)]
      have fin : wpAny (model X.prog X.w) X.A (setFlight (.ref a) X.env.frame) (fun _ s4 => wpAny (model X.prog X.w) X.A (throw (.ref a) : Sem Flow) (SP X pins D) X.xe s4) X.xe { s' with heap := h3 } := by
        rw [hf]
        refine HandSPX.setFlight_upZ fl3 fun h4 hh4 up4 => wpAny_throw (tk _ _ ?_)
        exact ⟨a, B, sI, pins, σ', H', cls, d, rfl, J, nb, (up.trans up3).trans up4, .inr (.inr (by rw [hs]; exact hh4)), na, os, ag, hno rfl⟩
      first
        | exact wpAny_bind (wpAny_pure (wpAny_bind fin))
        | exact wpAny_bind fin
  · cases f with
    | next =>
      obtain ⟨σ', H', J', q⟩ := hsp
      exact wpAny_execs_nil ⟨σ', H', J'.ofTry ok, q⟩
    | brk =>
      obtain ⟨σ', H', J', q⟩ := hsp
      exact ⟨σ', H', J'.ofTry ok, q⟩
    | cont =>
      obtain ⟨σ', H', J', q⟩ := hsp
      exact ⟨σ', H', J'.ofTry ok, q⟩
    | ret u =>
      obtain ⟨v, σ', H', J', r, q⟩ := hsp
      exact ⟨v, σ', H', J'.ofTry ok, r, q⟩
end

/-- a suite, the exception being data -/
def suD (Z : DC) (a : Addr) (pn : List (Addr × Obj)) : DC :=
  ⟨Z.X.suite a pn, Z.τ, Z.Ho, Z.G0, fun _ _ => False, Z.k, Z.g, Z.gd, true, Z.dp, Z.un, (fun h => nomatch h), (fun h => nomatch h), fun u s' x => by
    obtain ⟨_, _, _, _, _, _, _, _, _, _, _, _, _, _, _, _, z⟩ := x
    obtain ⟨_, _, _, _, _, _, z⟩ := z
    exact z.elim⟩
def sEndD (i : Nat) (r : SR) : SR := match r with
  | .nx ρ => .nx (ρ.set i .no)
  | .rt s ρ => .rt s (ρ.set i .no)
  | .bk ρ => .bk (ρ.set i .no)
  | .ct ρ => .ct (ρ.set i .no)
  | .ex _ _ => .no
  | .no => .no
def tryD (i : Nat) (su : MS) (x : Exn) (ρ1 : List Sl) : Option Bool → SR
  | some true => sEndD i (su (ρ1.set i (.sh (.exc x.cls x.fs))))
  | some false => .ex x ρ1
  | none => .no
def sTryD (i : Nat) (tab : Str → Option Bool) (b su : MS) : MS := fun ρ => match b ρ with
  | .ex x ρ1 => tryD i su x ρ1 (tab x.cls)
  | r => r
theorem RepX.exc {K : PySem.W.Frag} {mg : Str → Option Value} {G : Hp} {x : Exn} {cls : Value} {d : Option Addr} {a : Addr} (r : RepX K mg G x cls d) (na : G a = none) : Rep K mg (upd G a (.ext (XcP a cls d))) (.exc x.cls x.fs) (.ref a) := by
  obtain ⟨C, h1, rfl, h3⟩ := r
  unfold Rep
  refine ⟨a, C, rfl, h1, ?_⟩
  rcases h3 with ⟨h3, rfl⟩ | ⟨dd, ws, rfl, h4, h5⟩
  · exact .inl ⟨h3, upd_same⟩
  · exact .inr ⟨dd, ws, upd_same, same_upd na _ _ h4, RepF.mono (same_upd na) _ _ h5⟩
/-- a name is unbound -/
theorem RS.unset {K : PySem.W.Frag} {mg : Str → Option Value} {τ : Tau} {Ho G : Hp} {ρ : List Sl} {σ : L2.St} {H : Hp} (y : RS K mg τ Ho G ρ σ H) (i : Nat) : RS K mg τ Ho G (ρ.set i .no) (σ.set i none) H := by
  obtain ⟨O, y⟩ := y
  have l : ρ.length = σ.length := y.len
  refine ⟨O, y.gh, y.oh, y.out, by simp [l], fun j s' e => ?_⟩
  by_cases q : j = i
  · subst q
    have hj : j < ρ.length := by
      have := (List.getElem?_eq_some_iff.mp e).1
      simpa using this
    rw [List.getElem?_set_self hj] at e
    cases e
    trivial
  · rw [List.getElem?_set_ne (Ne.symm q)] at e ⊢
    exact y.sl j s' e
theorem RS.unset1 {K : PySem.W.Frag} {mg : Str → Option Value} {τ : Tau} {Ho G : Hp} {ρ : List Sl} {σ : L2.St} {H : Hp} {s : Sl} {v : Option V} (y : RS K mg τ Ho G (s :: ρ) (v :: σ) H) (i : Nat) : RS K mg τ Ho G (s :: ρ.set i .no) (v :: σ) H := y.forget (i + 1)
section
variable {Z : DC} {i : Nat} {n x : Str} {c : Value} {body suite : List Stmt} {b0 : Stmt} {np pos pos' : Pos} {b su : MS}
/-- try: body; except x as n: suite, the exception being data -/
theorem st_tryD (i : Nat) {tab : Str → Option Bool} (T : ExT Z.X.K Z.X.mg tab c) (hs : Z.X.stack = Z.X.env :: Z.X.outer) (hf : Z.X.env.frame = some Z.X.env.locals) (hN : Z.X.N.Nodup) (hc : Names Z.X x c)
    (hb : ∀ pn xe Ho G0 Ex tk, PassesOwn (model Z.X.prog Z.X.w) Z.X.A Z.X.env xe → DSs (trZ Z pn xe Ho G0 Ex tk) body b)
    (hsu : ∀ a pn, DSs (suD Z a pn) (b0 :: suite) su)
    (hi : Z.X.N[i]? = some n := by rfl) (hln : Z.X.env.kindOf n = some .local := by rfl) :
    DSt Z (.Try body [.ExceptHandler (some (.Name x np)) (some n) (b0 :: suite) pos'] [] [] pos) (sTryD i tab b su) := by
  have key := ps_try_asD (X := Z.X) (x := x) (n := n) (c := c) (i := i) (body := body) (suite := suite) (b₀ := b0) (np := np) (pos := pos) (pos' := pos') (Wout := Z.W)
    (tb := fun W D σ H => ∀ pn xe (hT : Takes (Z.X.tr pn xe) W) (hp : PassesOwn (model Z.X.prog Z.X.w) Z.X.A Z.X.env xe), ∃ Ho G0 Ex, ∃ hEx : ∀ cls d σ H, (∃ G ρ x, RS Z.X.K Z.X.mg Z.τ Ho G ρ σ H ∧ Gr Ho G0 G ∧ RepX Z.X.K Z.X.mg G x cls d ∧ Ex x ρ) → W cls d σ H, (hb pn xe Ho G0 Ex (hT.imp hEx) hp).choose D σ H)
    (ts := fun a cls d D σ H => ∀ pn, (hsu a pn).choose D σ H) hs hf hN hi hln hc Z.tk
    (fun W pn xe hT hp => ⟨fun pins s σ H D I h => by
      obtain ⟨Ho, G0, Ex, hEx, h⟩ := h pn xe hT hp
      exact (hb pn xe Ho G0 Ex (hT.imp hEx) hp).choose_spec.1.run pins s σ H D I h⟩)
    (fun a cls d pn => ⟨fun pins s σ H D I h => (hsu a pn).choose_spec.1.run pins s σ H D I (h pn)⟩)
  refine ⟨_, key, fun Ho hw G ρ σ H E y q => ?_⟩
  intro pn xe hT hp
  have ncls : ∀ {G : Hp} {x : Exn} {cls : Value} {d : Option Addr}, RepX Z.X.K Z.X.mg G x cls d → ∀ bb, tab x.cls = some bb → PySem.W.exmOne Z.X.K cls c = some bb := by
    rintro G x cls d ⟨C, h1, rfl, _⟩ bb ht
    exact T.ok _ _ _ h1 ht
  have hEx : ∀ cls d σ1 H1, (∃ G1 ρ1 x, RS Z.X.K Z.X.mg Z.τ Ho G1 ρ1 σ1 H1 ∧ Gr Ho G G1 ∧ RepX Z.X.K Z.X.mg G1 x cls d ∧ b ρ = .ex x ρ1) → wAsD Z.X.K c i (fun a cls d D σ H => ∀ pn, (hsu a pn).choose D σ H) Z.W E cls d σ1 H1 := by
    rintro cls d σ1 H1 ⟨G1, ρ1, x1, r1, g1, rx, eb⟩
    unfold sTryD at q
    rw [eb] at q
    simp only at q
    cases et : tab x1.cls with
    | none => rw [et] at q; exact q.elim
    | some bb =>
      rw [et] at q
      refine ⟨bb, ncls rx bb et, fun hbb => ?_, fun hbb => ?_⟩
      · subst hbb
        simp only [tryD] at q
        intro a ha pn
        have gp := r1.freeG ha
        obtain ⟨r2, g2⟩ := r1.allocF (o := .ext (XcP a cls d)) ha
        have r3 : RS Z.X.K Z.X.mg Z.τ Ho _ (ρ1.set i (.sh (.exc x1.cls x1.fs))) (σ1.set i (some (.ref a))) _ := (r2.push (rx.exc gp)).assign i
        have y1 : (suD Z a pn).R Ho _ (ρ1.set i (.sh (.exc x1.cls x1.fs))) (σ1.set i (some (.ref a))) _ := ⟨r3, y.ho, y.g0.trans ((g1.trans g2).anti y.ho)⟩
        refine (hsu a pn).choose_spec.2 Ho hw _ _ _ _ _ y1 ?_
        have back : ∀ {G' : Hp} {ρ2 : List Sl} {σ2 : L2.St} {H2 : Hp}, (suD Z a pn).R Ho G' ρ2 σ2 H2 → Gr Ho (upd G1 a (.ext (XcP a cls d))) G' → Z.R Ho G' (ρ2.set i .no) (σ2.set i none) H2 := fun z g => y.to (RS.unset (K := Z.X.K) (mg := Z.X.mg) (τ := Z.τ) z.rs i) ((g1.trans g2).trans g)
        cases es : su (ρ1.set i (.sh (.exc x1.cls x1.fs))) with
        | nx ρ2 =>
          rw [es] at q
          exact fun σ2 G2 H2 z g => q _ G2 H2 (back z g) ((g1.trans g2).trans g)
        | rt s ρ2 =>
          rw [es] at q
          intro v σ2 G2 H2 z g
          have z3 : RS Z.X.K Z.X.mg Z.τ Ho G2 (s :: ρ2.set i .no) (some v :: σ2) H2 := RS.unset1 (K := Z.X.K) (mg := Z.X.mg) (τ := Z.τ) z.rs i
          exact q v σ2 G2 H2 (y.to z3 ((g1.trans g2).trans g)) ((g1.trans g2).trans g)
        | bk ρ2 =>
          rw [es] at q
          exact fun σ2 G2 H2 z g => q _ G2 H2 (back z g) ((g1.trans g2).trans g)
        | ct ρ2 =>
          rw [es] at q
          exact fun σ2 G2 H2 z g => q _ G2 H2 (back z g) ((g1.trans g2).trans g)
        | ex x2 ρ2 => rw [es] at q; exact q.elim
        | no => rw [es] at q; exact q.elim
      · subst hbb
        simp only [tryD] at q
        exact ⟨G1, ρ1, x1, r1.anti hw, y.g0.trans (g1.anti y.ho), rx, q⟩
  refine ⟨Ho, G, fun x ρ1 => b ρ = .ex x ρ1, hEx, ?_⟩
  refine (hb pn xe Ho G _ (hT.imp hEx) hp).choose_spec.2 Ho (Same.refl _) G ρ σ H E ⟨y.rs, Same.refl _, Gr.refl⟩ ?_
  unfold sTryD at q
  suffices z : ∀ r, r = b ρ → LX (trZ Z pn xe Ho G (fun x ρ1 => b ρ = .ex x ρ1) (hT.imp hEx)) Ho G r E from z _ rfl
  intro r er
  have up : ∀ {G' : Hp} {ρ' : List Sl} {σ' : L2.St} {H' : Hp}, (trZ Z pn xe Ho G (fun x ρ1 => b ρ = .ex x ρ1) (hT.imp hEx)).R Ho G' ρ' σ' H' → Z.R Ho G' ρ' σ' H' := fun z => ⟨z.rs, y.ho, y.g0.trans (z.g0.anti y.ho)⟩
  cases r with
  | nx ρ2 => rw [← er] at q; exact fun σ2 G2 H2 z g => q σ2 G2 H2 (up z) g
  | rt s ρ2 => rw [← er] at q; exact fun v σ2 G2 H2 z g => q v σ2 G2 H2 ⟨z.rs, y.ho, y.g0.trans (z.g0.anti y.ho)⟩ g
  | bk ρ2 => rw [← er] at q; exact fun σ2 G2 H2 z g => q σ2 G2 H2 (up z) g
  | ct ρ2 => rw [← er] at q; exact fun σ2 G2 H2 z g => q σ2 G2 H2 (up z) g
  | ex x ρ2 => exact er.symm
  | no => rw [← er] at q; exact q.elim
end

/-! ### what is asked of a kept exception -/
/-- the object of a kept exception -/
theorem xc_inst {X : Cx} {pins : List (Addr × Obj)} {σ : L2.St} {H : Hp} {s : Shared} {a C : Addr} {d : Option Addr} (I : Inv X pins σ H s) (h : H a = some (.ext (XcP a (.ref C) d))) (hd : d = none ∨ ∃ dd ws, d = some dd ∧ H dd = some (.xd ws)) :
    ∃ oe odx, PySem.W.InstAt s.heap a oe C odx ∧ (d = none → odx = none) ∧ ∀ dd ws, d = some dd → H dd = some (.xd ws) → ∃ od mA, odx = some od ∧ s.heap.Ns1 dd mA ∧ s.heap.get? dd = some od ∧ ∀ f, RelO (ws.lookup f) (mA f) := by
  obtain ⟨⟨oe, vs, hget, hz, hv⟩, _, _⟩ := I.hok a _ h
  have hno : PySem.W.notCls oe = true := by unfold PySem.W.notCls; rw [hv]
  rcases hd with rfl | ⟨dd, ws, rfl, hw⟩
  · refine ⟨oe, none, ⟨hget, hz.1, hno, ?_⟩, fun _ => rfl, fun _ _ z => nomatch z⟩
    rw [hz.2]; trivial
  · have hx : ObjOk X.prog X.w H s.heap dd (.xd ws) := I.hok dd _ hw
    obtain ⟨mA, hns, hr⟩ := id hx
    obtain ⟨od, ho, _⟩ := lookIn_ns hns
    refine ⟨oe, some od, ⟨hget, hz.1, hno, ?_⟩, (fun z => nomatch z), fun dd' ws' e hw' => ?_⟩
    · rw [hz.2]; exact ho
    · cases e
      rw [hw] at hw'
      cases hw'
      exact ⟨od, mA, rfl, hns, ho, hr⟩
/-- a class that is asked for -/
structure IsK (K : PySem.W.Frag) (mg : Str → Option Value) (tab : Str → Option Bool) (cv : Value) : Prop where
  get : ∀ x C b, mg x = some (.ref C) → tab x = some b → KxC K C ∧ PySem.W.kitOne K (.ref C) cv = some b
  non : PySem.W.kitOne K (.type "NoneType") cv = some false
/-- isinstance(err, c) -/
theorem call_isK {X : Cx} : CallR X (.builtin "isinstance")
    (fun xs H Q => ∃ (a : Addr) (c : V) (cv : Value) (b : Bool), xs = [.ref a, c] ∧ ClsV c cv ∧ (∃ D d, H a = some (.ext (XcP a (.ref D) d)) ∧ (d = none ∨ ∃ dd ws, d = some dd ∧ H dd = some (.xd ws)) ∧ KxC X.K D ∧ PySem.W.kitOne X.K (.ref D) cv = some b) ∧ Q (.bl b) H) := by
  intro pins s σ H xs us Q I r h
  obtain ⟨a, c, cv, b, rfl, hc, ⟨D, d, hH, hd, C, e⟩, q⟩ := h
  cases r with
  | cons rx rr =>
    cases rr with
    | cons rt rr =>
      cases rr
      have e2 := hc.eq rt
      subst e2
      cases rx
      obtain ⟨oe, odx, J, _⟩ := xc_inst I hH hd
      exact PySem.W.kia_one (PySem.W.kitx_exc C.cl C.ga C.gg C.exC C.ha C.hn C.ht C.hm) I.kIn J e (fun z => nomatch z) fun tk => ⟨.bl b, H, I.tok tk, rfl, q⟩
theorem call_isKN {X : Cx} : CallR X (.builtin "isinstance") (fun xs H Q => (∃ (a : Addr) (c : V) (cv : Value) (b : Bool), xs = [.ref a, c] ∧ ClsV c cv ∧ (∃ D d, H a = some (.ext (XcP a (.ref D) d)) ∧ (d = none ∨ ∃ dd ws, d = some dd ∧ H dd = some (.xd ws)) ∧ KxC X.K D ∧ PySem.W.kitOne X.K (.ref D) cv = some b) ∧ Q (.bl b) H) ∨ rIsi X.K xs H Q) := by
  intro pins s σ H xs us Q I r h
  rcases h with h | h
  · exact call_isK pins s σ H xs us Q I r h
  · exact call_isi pins s σ H xs us Q I r h
theorem exc_rep {K : PySem.W.Frag} {mg : Str → Option Value} {H : Hp} {c : Str} {fs : List (Str × D)} {v : V} (h : Rep K mg H (.exc c fs) v) : ∃ a C d, v = .ref a ∧ mg c = some (.ref C) ∧ H a = some (.ext (XcP a (.ref C) d)) ∧ (d = none ∨ ∃ dd ws, d = some dd ∧ H dd = some (.xd ws)) := by
  unfold Rep at h
  obtain ⟨a, C, h1, h2, h3⟩ := h
  rcases h3 with ⟨_, h4⟩ | ⟨dd, ws, h3, h4, _⟩
  · exact ⟨a, C, none, h1, h2, h4, .inl rfl⟩
  · exact ⟨a, C, some dd, h1, h2, h3, .inr ⟨dd, ws, rfl, h4⟩⟩
def fIsK (tab : Str → Option Bool) : D → Option D
  | .non => some (.bl false)
  | .exc c _ => (tab c).map D.bl
  | _ => none
section
variable {Z : DC} {m : Md} {e : Expr} {t : M D} {pos p p2 : Pos} {f : Str}
/-- isinstance(e, c), e an exception that is kept, or None -/
theorem de_isK {cn : Str} {cv : V} {u : Value} {tc : TE} {tab : Str → Option Bool} (T : IsK Z.X.K Z.X.mg tab u) (hm : Z.X.mg "isinstance" = none) (h : DE Z m e t) (hc : PE Z.X (.Name cn p2) tc) (hcv : ∀ σ H Q, Q cv H → tc σ H Q) (hcu : ClsV cv u) (hg : Gl Z.X "isinstance" := by rfl)
    (he : starEach (e :: [(.Name cn p2 : Expr)]) Z.X.env = (false, eval e Z.X.env) :: starEach [.Name cn p2] Z.X.env := by rfl) (he2 : starEach [(.Name cn p2 : Expr)] Z.X.env = (false, eval (.Name cn p2) Z.X.env) :: starEach [] Z.X.env := by rfl) (hpl : (backTo pos (starEach [(.Name cn p2 : Expr)] Z.X.env)).any (·.1) = false := by rfl) :
    DE Z ⟨m.p, false⟩ (.Call (.Name "isinstance" p) [e, .Name cn p2] [] pos) (d1 (fIsK tab) t) := by
  obtain ⟨te, pa, sa⟩ := h
  refine ⟨_, pe_callB call_isKN hg hm (by decide +kernel) (pa_cons pa (pa_cons hc pa_nil he2) he) (by decide) (by decide) he hpl, fun Ho hw G ρ σ H Q x q => ?_⟩
  refine sa Ho hw G ρ σ H _ x (DE.then (L := fun r => LJ Z Ho ⟨m.p, false⟩ G H σ r Q) (fun _ _ h => h) (fun h => h) q fun d ρ1 v G1 H1 x1 g1 s1 b1 q1 => ?_)
  refine hcv _ _ _ ?_
  unfold lft at q1
  have b2 := b1.inH x1.gh
  cases d with
  | non =>
    have hv : v = .non := by unfold Rep at b2; exact b2
    subst hv
    simp only [fIsK] at q1
    exact .inr ⟨.non, cv, .type "NoneType", u, false, rfl, hcu, .base .non, T.non, q1 _ G1 H1 x1 g1 s1 (.inl rep_bl)⟩
  | exc c fs =>
    cases et : tab c with
    | none => simp only [fIsK, et, Option.map_none] at q1; exact q1.elim
    | some b =>
      simp only [fIsK, et, Option.map_some] at q1
      obtain ⟨a, C, dd, rfl, h2, h3, h4⟩ := exc_rep b2
      obtain ⟨k1, k2⟩ := T.get _ _ _ h2 et
      exact .inl ⟨a, cv, u, b, rfl, hcu, ⟨C, dd, h3, h4, k1, k2⟩, q1 _ G1 H1 x1 g1 s1 (.inl rep_bl)⟩
  | _ => exact q1.elim
/-- .. a class of the module -/
theorem de_isKo {c : Addr} {cn : Str} {tab : Str → Option Bool} (T : IsK Z.X.K Z.X.mg tab (.ref c)) (hm : Z.X.mg "isinstance" = none) (h : DE Z m e t) (hc : Z.X.mg cn = some (.ref c)) (hg : Gl Z.X "isinstance" := by rfl) (hg2 : Gl Z.X cn := by rfl) (hd2 : (cn == ("__debug__" : Str)) = false := by decide)
    (he : starEach (e :: [(.Name cn p2 : Expr)]) Z.X.env = (false, eval e Z.X.env) :: starEach [.Name cn p2] Z.X.env := by rfl) (he2 : starEach [(.Name cn p2 : Expr)] Z.X.env = (false, eval (.Name cn p2) Z.X.env) :: starEach [] Z.X.env := by rfl) (hpl : (backTo pos (starEach [(.Name cn p2 : Expr)] Z.X.env)).any (·.1) = false := by rfl) :
    DE Z ⟨m.p, false⟩ (.Call (.Name "isinstance" p) [e, .Name cn p2] [] pos) (d1 (fIsK tab) t) :=
  de_isK (cv := .ref c) T hm h (pe_glob (v := .ref c) hg2 hc rfl hd2) (fun _ _ _ q => q) (.own c) hg he he2 hpl
/-- .. a class of the language -/
theorem de_isKb {cn : Str} {c : String} {tab : Str → Option Bool} (T : IsK Z.X.K Z.X.mg tab (.type c)) (hm : Z.X.mg "isinstance" = none) (h : DE Z m e t) (hv : bootBuiltins cn = some (.type c)) (hm2 : Z.X.mg cn = none) (hg : Gl Z.X "isinstance" := by rfl) (hg2 : Gl Z.X cn := by rfl) (hn : cn ≠ "__name__" := by decide) (hd2 : (cn == ("__debug__" : Str)) = false := by decide)
    (he : starEach (e :: [(.Name cn p2 : Expr)]) Z.X.env = (false, eval e Z.X.env) :: starEach [.Name cn p2] Z.X.env := by rfl) (he2 : starEach [(.Name cn p2 : Expr)] Z.X.env = (false, eval (.Name cn p2) Z.X.env) :: starEach [] Z.X.env := by rfl) (hpl : (backTo pos (starEach [(.Name cn p2 : Expr)] Z.X.env)).any (·.1) = false := by rfl) :
    DE Z ⟨m.p, false⟩ (.Call (.Name "isinstance" p) [e, .Name cn p2] [] pos) (d1 (fIsK tab) t) :=
  de_isK (cv := .ty c) T hm h (pe_bltn (v := .ty c) hg2 hm2 hv rfl hn hd2) (fun _ _ _ q => q) (.ty c) hg he he2 hpl
/-- err.f -/
theorem pe_xfK {X : Cx} {te : TE} (he : PE X e te) (hb : attributeBase e f X.env (eval e X.env) = eval e X.env := by rfl) :
    PE X (.Attribute e f pos) (fun σ H Q => te σ H fun x H1 => ∃ (a C dd : Addr) (fs : List (Str × V)) (v : V), x = .ref a ∧ H1 a = some (.ext (XcP a (.ref C) (some dd))) ∧ H1 dd = some (.xd fs) ∧ XfC X.K C ∧ PySem.W.findIn X.K (.ref C) f = some none ∧ fs.lookup f = some v ∧ Q v H1) := by
  refine ⟨fun pins s σ H Q I h => ?_⟩
  refine attr_of hb (thn (he.run pins s σ H _ I h) fun u s1 hh => ?_)
  obtain ⟨x, H1, I1, rx, a, C, dd, fs, v, ex, ea, ed, T, hno, l, q⟩ := hh
  subst ex
  obtain rfl : u = Value.ref a := rx
  obtain ⟨oe, odx, J, _, hk⟩ := xc_inst I1 ea (.inr ⟨dd, fs, rfl, ed⟩)
  obtain ⟨od, mA, rfl, hns, ho, hr⟩ := hk dd fs rfl ed
  obtain ⟨od', ho', hl⟩ := lookIn_ns hns
  rw [ho] at ho'
  cases ho'
  obtain ⟨u, hu, ru⟩ := RelO.some_of (v := v) (o := mA f) (by rw [← l]; exact hr f)
  exact HandSPX.exc_get I1.kIn J T.ga T.gg T.exC (PySem.W.findObj_own T.hdC hno rfl (by rw [hl, hu])) (handed_of ru) ⟨v, H1, I1.tok _, ru, q⟩
def fXf (ok : Str → Bool) (f : Str) : D → Option D
  | .exc c fs => if ok c then fs.lookup f else none
  | _ => none
theorem de_xfK {ok : Str → Bool} (T : XfT Z.X.K Z.X.mg f ok) (h : DE Z m e t) (hb : attributeBase e f Z.X.env (eval e Z.X.env) = eval e Z.X.env := by rfl) : DE Z ⟨m.p, false⟩ (.Attribute e f pos) (d1 (fXf ok f) t) := by
  obtain ⟨te, pa, sa⟩ := h
  refine ⟨_, pe_xfK pa hb, fun Ho hw G ρ σ H Q x q => ?_⟩
  refine sa Ho hw G ρ σ H _ x (DE.then (L := fun r => LJ Z Ho ⟨m.p, false⟩ G H σ r Q) (fun _ _ h => h) (fun h => h) q fun d ρ1 v G1 H1 x1 g1 s1 b1 q1 => ?_)
  unfold lft at q1
  cases d with
  | exc c fs =>
    simp only [fXf] at q1
    by_cases hok : ok c = true
    · rw [if_pos hok] at q1
      cases el : fs.lookup f with
      | none => rw [el] at q1; exact q1.elim
      | some z =>
        rw [el] at q1
        have b2 : Rep Z.X.K Z.X.mg G1 (.exc c fs) v := by
          rcases b1 with b1 | ⟨_, a, o, _, _, b1⟩
          · exact b1
          · cases b1
        unfold Rep at b2
        obtain ⟨a, C, rfl, h2, h3⟩ := b2
        rcases h3 with ⟨rfl, _⟩ | ⟨dd, ws, h3, h4, h5⟩
        · cases el
        · obtain ⟨k1, k2⟩ := T.get _ _ h2 hok
          obtain ⟨v, h7, h8⟩ := h5.look el
          exact ⟨a, C, dd, ws, v, rfl, x1.gh _ _ h3, x1.gh _ _ h4, k1, k2, h7, q1 v G1 H1 x1 g1 s1 (.inl h8)⟩
    · rw [if_neg hok] at q1; exact q1.elim
  | _ => exact q1.elim
end
end DS

set_option Elab.async false
set_option linter.all false
set_option maxRecDepth 100000
set_option maxHeartbeats 2000000
namespace DS
open PySem PySem.Spec PyProof.Rows L2

/-! ### a thunk: the slots of its maker, owned by one slot of the def that got it -/
abbrev ThD.tau (T : ThD) : Tau := ⟨T.ar, T.er, none, T.tb⟩
def tauT (T : ThD) : Tau := ⟨fun _ => none, none, some T, []⟩
/-- no thunk among the slots -/
def noTh1 : Sl → Bool
  | .th _ => false
  | .td _ => false
  | _ => true
def noTh (ρ : List Sl) : Bool := ρ.all noTh1
theorem noTh_get {ρ : List Sl} (h : noTh ρ = true) {i : Nat} {s : Sl} (e : ρ[i]? = some s) : noTh1 s = true := List.all_eq_true.mp h s (List.mem_of_getElem? e)
section
variable {K : PySem.W.Frag} {mg : Str → Option Value} {τ τ' : Tau} {Ho G G' : Hp} {ρ ρ' : List Sl} {σ σ' : L2.St} {H H' : Hp} {T : ThD}
theorem SlOk.one {h : Hp} {s : Sl} {v : Option V} (x : SlOk K mg τ G h s v) (n : noTh1 s = true) (ha : τ.ar = T.ar) (he : τ.er = T.er) (hb : τ.tb = T.tb) : SlOk1 K mg T.tau G h s v := by
  cases s with
  | no => trivial
  | sh d => exact x
  | ow t d => obtain ⟨a, o, h1, h2, h3⟩ := x; exact ⟨a, o, h1, fun k e => by show T.ar k = _; rw [← ha]; exact h2 k e, h3⟩
  | rs t R => obtain ⟨a, h1, h2, h3⟩ := x; exact ⟨a, h1, fun k e => by show T.ar k = _; rw [← ha]; exact h2 k e, h3⟩
  | er x' => obtain ⟨a, cls, d, h1, h2, h3⟩ := x; exact ⟨a, cls, d, h1, by show T.er = _; rw [← he]; exact h2, h3⟩
  | th r => cases n
  | td r => cases n
  | tb => exact fun p hp => x p (by rw [hb]; exact hp)
theorem SlOk1.of {h : Hp} {s : Sl} {v : Option V} (x : SlOk1 K mg T.tau G h s v) (ha : τ.ar = T.ar) (he : τ.er = T.er) (hb : τ.tb = T.tb) : SlOk K mg τ G h s v := by
  cases s with
  | no => trivial
  | sh d => exact x
  | ow t d => obtain ⟨a, o, h1, h2, h3⟩ := x; exact ⟨a, o, h1, fun k e => by rw [ha]; exact h2 k e, h3⟩
  | rs t R => obtain ⟨a, h1, h2, h3⟩ := x; exact ⟨a, h1, fun k e => by rw [ha]; exact h2 k e, h3⟩
  | er x' => obtain ⟨a, cls, d, h1, h2, h3⟩ := x; exact ⟨a, cls, d, h1, by rw [he]; exact h2, h3⟩
  | th r => exact x.elim
  | td r => exact x.elim
  | tb => exact fun p hp => x p (by rw [hb] at hp; exact hp)
theorem SlOk.noTh {h : Hp} {s : Sl} {v : Option V} (x : SlOk K mg T.tau G h s v) : noTh1 s = true := by
  cases s with
  | th r => obtain ⟨_, h1, _⟩ := x; cases h1
  | td r => obtain ⟨_, h1, _⟩ := x; cases h1
  | _ => rfl
theorem ownTh {O : Addr → Option Nat} {i : Nat} {H : Hp} {a : Addr} (h : own O i H a ≠ none) : O a = some i := by
  unfold own at h
  by_cases q : O a = some i
  · exact q
  · rw [if_neg q] at h; exact absurd rfl h
theorem ownAt {O : Addr → Option Nat} {i : Nat} {H : Hp} {a : Addr} (h : O a = some i) : own O i H a = H a := by unfold own; rw [if_pos h]
/-- the maker's frame is put into a slot -/
theorem RS.wrap {N : List Str} (x : RS K mg τ Ho G ρ σ H) (n : DS.noTh ρ = true) (ha : T.ar = τ.ar) (he : T.er = τ.er) (hb : T.tb = τ.tb) (hs : T.σ = σ) (hc : G T.c = some (LamX.CodeO T.c T.q)) (hN : 0 < N.length) :
    RS K mg (tauT T) Ho G (.th ρ :: List.replicate (N.length - 1) .no) (L2.start N [.ref T.f]) H := by
  obtain ⟨O, x⟩ := x
  obtain ⟨O', eO⟩ : ∃ O' : Addr → Option Nat, O' = fun a => (O a).map fun _ => 0 := ⟨_, rfl⟩
  have o1 : ∀ a i, O a = some i → O' a = some 0 := fun a i e => by rw [eO]; simp [e]
  have o2 : ∀ a i, O' a = some i → i = 0 ∧ ∃ j, O a = some j := fun a i e => by
    rw [eO] at e
    cases q : O a with
    | none => simp [q] at e
    | some j => simp [q] at e; exact ⟨e.symm, j, rfl⟩
  refine ⟨O', x.gh, fun a i e => ?_, x.out, by simp [L2.start], fun i s e => ?_⟩
  · obtain ⟨_, j, h⟩ := o2 a i e
    exact x.oh a j h
  · cases i with
    | zero =>
      simp at e
      subst e
      refine ⟨T, rfl, by simp [L2.start], hc, by rw [hs]; exact x.len, O, fun a i e => ?_, fun i s e => ?_⟩
      · rw [ownAt (o1 a i e)]
        exact (x.oh a i e).2.2
      · have z : own O i (own O' 0 H) = own O i H := by
          funext a
          unfold own
          by_cases q : O a = some i
          · rw [if_pos q, if_pos q, if_pos (o1 a i q)]
          · rw [if_neg q, if_neg q]
        rw [z, hs]
        exact (x.sl i s e).one (noTh_get n e) ha.symm he.symm hb.symm
    | succ i =>
      simp only [List.getElem?_cons_succ, List.getElem?_replicate] at e
      split at e
      · cases e; trivial
      · cases e
def thOf : Option Sl → Option (List Sl)
  | some (.th ρ) => some ρ
  | some (.td ρ) => some ρ
  | _ => none
theorem SlOk.thk {h : Hp} {s : Sl} {v : Option V} {r : List Sl} (x : SlOk K mg τ G h s v) (e : thOf (some s) = some r) (ht : τ.th = some T) : ThOk K mg T G h r := by
  cases s with
  | th r' => obtain ⟨T', h1, _, _, h4⟩ := x; rw [ht] at h1; cases h1; cases e; exact h4
  | td r' => obtain ⟨T', h1, h4⟩ := x; rw [ht] at h1; cases h1; cases e; exact h4
  | _ => cases e
/-- the def that got the thunk returns -/
theorem RS.unwrap {s : Sl} {v : V} {ρt : List Sl} {σt : L2.St} (x : RS K mg (tauT T) Ho G (s :: ρt) (some v :: σt) H) (e : thOf ρt[0]? = some ρ) (ha : T.ar = τ.ar) (he : T.er = τ.er) (hb : T.tb = τ.tb) : RS K mg τ Ho G (s.tagged none :: ρ) (some v :: T.σ) H := by
  obtain ⟨O, x⟩ := x
  cases et : ρt[0]? with
  | none => rw [et] at e; cases e
  | some st =>
    rw [et] at e
    have st0 := x.sl 1 st (by simpa using et)
    obtain ⟨h1, Oc, h2, h3⟩ := st0.thk e rfl
    have oc : ∀ a i, Oc a = some i → O a = some 1 := fun a i q => ownTh (h2 a i q)
    obtain ⟨O', eO⟩ : ∃ O' : Addr → Option Nat, O' = fun a => if O a = some 0 then some 0 else (Oc a).map (· + 1) := ⟨_, rfl⟩
    have p0 : ∀ a, O' a = some 0 ↔ O a = some 0 := fun a => by
      rw [eO]
      by_cases q : O a = some 0
      · simp [q]
      · simp only [if_neg q]
        cases w : Oc a with
        | none => simp [q]
        | some j => simp [q]
    have p1 : ∀ a i, O' a = some (i + 1) ↔ Oc a = some i := fun a i => by
      rw [eO]
      by_cases q : O a = some 0
      · simp only [if_pos q]
        constructor
        · intro z; cases z
        · intro z; have := oc a i z; rw [q] at this; cases this
      · simp only [if_neg q]
        cases w : Oc a with
        | none => simp
        | some j => simp
    refine ⟨O', x.gh, fun a i q => ?_, x.out, by simp [h1], fun i s' q => ?_⟩
    · cases i with
      | zero => exact x.oh a 0 ((p0 a).mp q)
      | succ i => exact x.oh a 1 (oc a i ((p1 a i).mp q))
    · cases i with
      | zero =>
        simp at q
        subst q
        have z : own O' 0 H = own O 0 H := own_of p0
        rw [z]
        exact (x.sl 0 s rfl).tag fun a _ k z => nomatch z
      | succ i =>
        have z : own O' (i + 1) H = own Oc i (own O 1 H) := by
          funext a
          unfold own
          by_cases w : Oc a = some i
          · rw [if_pos ((p1 a i).mpr w), if_pos w, if_pos (oc a i w)]
          · rw [if_neg fun z => w ((p1 a i).mp z), if_neg w]
        rw [z]
        simpa using (h3 i s' (by simpa using q)).of (τ := τ) ha.symm he.symm hb.symm
def lendO (i : Nat) (O : Addr → Option Nat) (H Ho : Hp) : Hp := fun a => match O a with
  | some j => if j = i then Ho a else H a
  | none => Ho a
def mixO (i : Nat) (O2 O : Addr → Option Nat) : Addr → Option Nat := fun a => match O2 a with
  | some 0 => some 0
  | some (_ + 1) => some (i + 1)
  | none => match O a with
    | some j => if j = i then none else some (j + 1)
    | none => none
/-- the thunk runs: the maker's frame, what the others own being lent -/
theorem RS.act0 {i : Nat} {ρt : List Sl} {σt : L2.St} (x : RS K mg τ Ho G ρt σt H) (e : thOf ρt[i]? = some ρ) (ht : τ.th = some T) :
    ∃ Ho', Same Ho Ho' ∧ RS K mg T.tau Ho' G ρ T.σ H ∧ ∀ G' s v ρ' H', Gr Ho' G G' → RS K mg T.tau Ho' G' (s :: ρ') (some v :: T.σ) H' → RS K mg τ Ho G' (s.tagged none :: ρt.set i (.td ρ')) (some v :: σt) H' := by
  obtain ⟨O, x⟩ := x
  cases et : ρt[i]? with
  | none => rw [et] at e; cases e
  | some st =>
    rw [et] at e
    obtain ⟨h1, Oc, h2, h3⟩ := (x.sl i st et).thk e ht
    have oc : ∀ a j, Oc a = some j → O a = some i := fun a j q => ownTh (h2 a j q)
    obtain ⟨Ho', eHo⟩ : ∃ Ho' : Hp, Ho' = lendO i O H Ho := ⟨_, rfl⟩
    have g1 : ∀ a j, j ≠ i → O a = some j → Ho' a = H a := fun a j n q => by rw [eHo]; unfold lendO; rw [q]; exact if_neg n
    have g2 : ∀ a, (∀ j, j ≠ i → O a ≠ some j) → Ho' a = Ho a := fun a q => by
      rw [eHo]; unfold lendO
      cases w : O a with
      | none => rfl
      | some j =>
        by_cases n : j = i
        · exact if_pos n
        · exact absurd w (q j n)
    have cs : ∀ a, (∃ j, j ≠ i ∧ O a = some j) ∨ Ho' a = Ho a := fun a => by
      by_cases q : ∃ j, j ≠ i ∧ O a = some j
      · exact .inl q
      · exact .inr (g2 a fun j n z => q ⟨j, n, z⟩)
    have s1 : Same Ho Ho' := fun a o q => by
      rcases cs a with ⟨j, n, w⟩ | w
      · rw [(x.oh a j w).2.1] at q; cases q
      · rw [w]; exact q
    have s2 : Same Ho' H := fun a o q => by
      rcases cs a with ⟨j, n, w⟩ | w
      · rw [g1 a j n w] at q; exact q
      · rw [w] at q; exact x.out _ _ q
    refine ⟨Ho', s1, ⟨Oc, x.gh, fun a j q => ?_, s2, h1, fun j s q => ?_⟩, fun G' s v ρ' H' g y => ?_⟩
    · obtain ⟨z1, z2, z3⟩ := x.oh a i (oc a j q)
      refine ⟨z1, ?_, z3⟩
      rw [g2 a fun k n w => ?_]
      · exact z2
      · rw [oc a j q] at w; cases w; exact n rfl
    · have z : own Oc j H = own Oc j (own O i H) := by
        funext a
        unfold own
        by_cases w : Oc a = some j
        · rw [if_pos w, if_pos w, if_pos (oc a j w)]
        · rw [if_neg w, if_neg w]
      rw [z]
      exact (h3 j s q).of rfl rfl rfl
    · obtain ⟨O2, y⟩ := y
      have dis : ∀ a j, j ≠ i → O a = some j → O2 a = none := fun a j n q => by
        cases w : O2 a with
        | none => rfl
        | some k =>
          have z := (y.oh a k w).2.1
          rw [g1 a j n q] at z
          exact absurd z (x.oh a j q).2.2
      have keep : ∀ a j, j ≠ i → O a = some j → H' a = H a := fun a j n q => by
        cases w : H a with
        | none => exact absurd w (x.oh a j q).2.2
        | some o => exact y.out a o (by rw [g1 a j n q]; exact w)
      obtain ⟨O', eO⟩ : ∃ O' : Addr → Option Nat, O' = mixO i O2 O := ⟨_, rfl⟩
      have p0 : ∀ a, O' a = some 0 ↔ O2 a = some 0 := fun a => by
        rw [eO]; unfold mixO
        cases w : O2 a with
        | none =>
          cases w2 : O a with
          | none => simp
          | some j => by_cases q : j = i <;> simp [q]
        | some k => cases k with
          | zero => simp
          | succ k => simp
      have pi : ∀ a, O' a = some (i + 1) ↔ ∃ k, O2 a = some (k + 1) := fun a => by
        rw [eO]; unfold mixO
        cases w : O2 a with
        | none =>
          cases w2 : O a with
          | none => simp
          | some j => by_cases q : j = i <;> simp [q]
        | some k => cases k with
          | zero => simp
          | succ k => simp
      have pj : ∀ a j, j ≠ i → (O' a = some (j + 1) ↔ O a = some j) := fun a j n => by
        constructor
        · intro z
          rw [eO] at z; unfold mixO at z
          cases w : O2 a with
          | none =>
            rw [w] at z
            cases w2 : O a with
            | none => rw [w2] at z; cases z
            | some k =>
              rw [w2] at z
              by_cases q : k = i
              · simp [q] at z
              · simp [q] at z; rw [z]
          | some k =>
            rw [w] at z
            cases k with
            | zero => simp at z
            | succ k => simp at z; exact absurd z.symm n
        · intro z
          rw [eO]; unfold mixO
          simp only [dis a j n z, z, if_neg n]
      refine ⟨O', y.gh, fun a k q => ?_, s1.trans y.out, by simp [x.len], fun k s' q => ?_⟩
      · have case1 : ∀ k', O2 a = some k' → G' a = none ∧ Ho a = none ∧ H' a ≠ none := fun k' w => by
          obtain ⟨z1, z2, z3⟩ := y.oh a k' w
          refine ⟨z1, ?_, z3⟩
          cases w2 : Ho a with
          | none => rfl
          | some o => rw [s1 a o w2] at z2; cases z2
        cases k with
        | zero => exact case1 _ ((p0 a).mp q)
        | succ k =>
          by_cases hk : k = i
          · subst hk
            obtain ⟨k', w⟩ := (pi a).mp q
            exact case1 _ w
          · have w := (pj a k hk).mp q
            obtain ⟨z1, z2, z3⟩ := x.oh a k w
            have kp := keep a k hk w
            refine ⟨?_, z2, by rw [kp]; exact z3⟩
            cases w3 : H a with
            | none => exact absurd w3 z3
            | some o => rw [g.2 a o (by rw [g1 a k hk w]; exact w3)]; exact z1
      · cases k with
        | zero =>
          simp at q
          subst q
          have z : own O' 0 H' = own O2 0 H' := own_of p0
          rw [z]
          exact (y.sl 0 s rfl).tag fun a _ k z => nomatch z
        | succ k =>
          by_cases hk : k = i
          · subst hk
            have lt : k < ρt.length := (List.getElem?_eq_some_iff.mp et).1
            simp only [List.getElem?_cons_succ, List.getElem?_set_self lt] at q
            cases q
            refine ⟨T, ht, by have := y.len; simpa using this, popO O2, fun a j q => ?_, fun j s2 q => ?_⟩
            · have w := popO_some.mp q
              rw [ownAt ((pi a).mpr ⟨j, w⟩)]
              exact (y.oh a _ w).2.2
            · have z : own (popO O2) j (own O' (k + 1) H') = own O2 (j + 1) H' := by
                funext a
                unfold own
                by_cases w : O2 a = some (j + 1)
                · rw [if_pos (popO_some.mpr w), if_pos w, if_pos ((pi a).mpr ⟨j, w⟩)]
                · rw [if_neg fun z => w (popO_some.mp z), if_neg w]
              rw [z]
              have y1 := y.sl (j + 1) s2 (by simpa using q)
              exact y1.one y1.noTh rfl rfl rfl
          · simp only [List.getElem?_cons_succ, List.getElem?_set_ne (Ne.symm hk)] at q
            have z : own O' (k + 1) H' = own O k H := by
              funext a
              unfold own
              by_cases w : O a = some k
              · rw [if_pos ((pj a k hk).mpr w), if_pos w, keep a k hk w]
              · rw [if_neg fun z => w ((pj a k hk).mp z), if_neg w]
            rw [z]
            have y1 := (x.sl k s' q).mono g.1
            simpa using y1
end
end DS

set_option Elab.async false
set_option linter.all false
set_option maxRecDepth 100000
set_option maxHeartbeats 2000000
namespace DS
open PySem PySem.Spec PyProof.Rows L2

/-! ### a thunk runs over tagged slots: what it leaves is found again by the tags -/
def tagL1 (k : Nat) : Sl → Sl
  | .ow _ d => .ow (some k) d
  | .rs _ R => .rs (some k) R
  | .sh d => .sh d
  | .tb => .tb
  | _ => .no
def tagL : Nat → List Sl → List Sl
  | _, [] => []
  | k, s :: ρ => tagL1 k s :: tagL (k + 1) ρ
/-- the old slot, the new one -/
def rec1 (k : Nat) : Sl → Sl → Sl
  | .sh d, _ => .sh d
  | .ow t _, .ow (some j) d => if j = k then .ow t d else .no
  | .rs t _, .rs (some j) R => if j = k then .rs t R else .no
  | .tb, .tb => .tb
  | _, _ => .no
def recL : Nat → List Sl → List Sl → List Sl
  | _, [], _ => []
  | k, s :: ρ, [] => .no :: recL (k + 1) ρ []
  | k, s :: ρ, r :: ρ' => rec1 k s r :: recL (k + 1) ρ ρ'
theorem tagL_length : ∀ (k : Nat) (ρ : List Sl), (tagL k ρ).length = ρ.length
  | _, [] => rfl
  | k, s :: ρ => by simp [tagL, tagL_length (k + 1) ρ]
theorem tagL_get : ∀ (k : Nat) (ρ : List Sl) (i : Nat), (tagL k ρ)[i]? = ρ[i]?.map (tagL1 (k + i))
  | k, [], i => by simp [tagL]
  | k, s :: ρ, 0 => by simp [tagL]
  | k, s :: ρ, i + 1 => by
    simp only [tagL, List.getElem?_cons_succ]
    rw [tagL_get (k + 1) ρ i, show k + 1 + i = k + (i + 1) by omega]
theorem recL_length : ∀ (k : Nat) (ρ ρ' : List Sl), (recL k ρ ρ').length = ρ.length
  | _, [], _ => by simp [recL]
  | k, s :: ρ, [] => by simp [recL, recL_length (k + 1) ρ []]
  | k, s :: ρ, r :: ρ' => by simp [recL, recL_length (k + 1) ρ ρ']
theorem recL_get : ∀ (k : Nat) (ρ ρ' : List Sl) (i : Nat) (s : Sl), (recL k ρ ρ')[i]? = some s → s = .no ∨ ∃ a b, ρ[i]? = some a ∧ ρ'[i]? = some b ∧ s = rec1 (k + i) a b
  | k, [], ρ', i, s, h => by simp [recL] at h
  | k, a :: ρ, [], 0, s, h => by simp [recL] at h; exact .inl h.symm
  | k, a :: ρ, [], i + 1, s, h => by
    rcases recL_get (k + 1) ρ [] i s (by simpa [recL] using h) with h | ⟨_, b, _, h, _⟩
    · exact .inl h
    · simp at h
  | k, a :: ρ, b :: ρ', 0, s, h => by simp [recL] at h; exact .inr ⟨a, b, rfl, rfl, h.symm⟩
  | k, a :: ρ, b :: ρ', i + 1, s, h => by
    rcases recL_get (k + 1) ρ ρ' i s (by simpa [recL] using h) with h | ⟨a', b', h1, h2, h3⟩
    · exact .inl h
    · exact .inr ⟨a', b', by simpa using h1, by simpa using h2, by rw [h3, show k + 1 + i = k + (i + 1) by omega]⟩
def refN (σ : L2.St) (j : Nat) : Option Addr := match σ[j]? with
  | some (some (.ref a)) => some a
  | _ => none
theorem refN_some {σ : L2.St} {j : Nat} {a : Addr} (h : refN σ j = some a) : σ[j]? = some (some (.ref a)) := by
  unfold refN at h
  split at h
  · rename_i b e; cases h; exact e
  · cases h
theorem refN_of {σ : L2.St} {j : Nat} {a : Addr} (h : (σ[j]?).join = some (.ref a)) : refN σ j = some a := by
  cases q : σ[j]? with
  | none => rw [q] at h; cases h
  | some w =>
    rw [q] at h
    obtain rfl : w = some (.ref a) := h
    unfold refN
    rw [q]
def ThD.tagT (T : ThD) : Tau := ⟨refN T.σ, T.er, none, T.tb⟩
section
variable {K : PySem.W.Frag} {mg : Str → Option Value} {τ τ' : Tau} {Ho G G' : Hp} {ρ ρ' : List Sl} {σ σ' : L2.St} {H H' : Hp} {T : ThD}
theorem RS.tagL (x : RS K mg T.tau Ho G ρ T.σ H) : RS K mg T.tagT Ho G (DS.tagL 0 ρ) T.σ H := by
  refine x.recast (by rw [tagL_length]; exact x.len) fun i s' e => ?_
  rw [tagL_get, Nat.zero_add] at e
  cases q : ρ[i]? with
  | none => rw [q] at e; cases e
  | some s =>
    rw [q] at e
    cases e
    refine .inr ⟨s, rfl, fun hh y => ?_⟩
    cases s with
    | no => trivial
    | sh d => exact y
    | ow t d => obtain ⟨a, o, h1, h2, h3⟩ := y; exact ⟨a, o, h1, fun k e => by cases e; exact refN_of h1, h3⟩
    | rs t R => obtain ⟨a, h1, h2, h3⟩ := y; exact ⟨a, h1, fun k e => by cases e; exact refN_of h1, h3⟩
    | er x => trivial
    | th r => trivial
    | td r => trivial
    | tb => exact y
theorem RS.recL {s : Sl} {v : V} (x0 : RS K mg T.tau Ho G ρ T.σ H) (g : Gr Ho G G') (x : RS K mg T.tagT Ho G' (s :: ρ') (some v :: σ') H') : RS K mg T.tau Ho G' (s.tagged none :: DS.recL 0 ρ ρ') (some v :: T.σ) H' := by
  have l0 := x0.len
  have l1 := x.len
  obtain ⟨O0, x0⟩ := x0
  refine x.recast (by simp [recL_length, l0]) fun i s' e => ?_
  cases i with
  | zero =>
    simp at e
    subst e
    exact .inr ⟨s, rfl, fun hh y => y.tag fun a _ k q => nomatch q⟩
  | succ i =>
    simp only [List.getElem?_cons_succ] at e
    rcases recL_get _ _ _ _ _ e with rfl | ⟨a, b, h1, h2, h3⟩
    · exact .inl rfl
    rw [Nat.zero_add] at h3
    subst h3
    have sa := x0.sl i a h1
    refine .inr ⟨b, by simpa using h2, fun hh y => ?_⟩
    simp only [List.getElem?_cons_succ] at y ⊢
    cases a with
    | sh d =>
      obtain ⟨u, h1, h2⟩ := sa
      exact ⟨u, h1, Rep.mono g.1 _ _ h2⟩
    | ow t d =>
      cases b with
      | ow t' d' =>
        cases t' with
        | none => trivial
        | some j =>
          simp only [rec1]
          by_cases q : j = i
          · subst q
            rw [if_pos rfl]
            obtain ⟨a, o, h4, h5, h6⟩ := y
            obtain ⟨a0, o0, g1, g2, _⟩ := sa
            have h7 := refN_some (h5 j rfl)
            have : a0 = a := by rw [h7] at g1; cases g1; rfl
            subst this
            exact ⟨a0, o, by rw [h7]; rfl, g2, h6⟩
          · rw [if_neg q]; trivial
      | _ => trivial
    | rs t R =>
      cases b with
      | rs t' R' =>
        cases t' with
        | none => trivial
        | some j =>
          simp only [rec1]
          by_cases q : j = i
          · subst q
            rw [if_pos rfl]
            obtain ⟨a, h4, h5, h6⟩ := y
            obtain ⟨a0, g1, g2, _⟩ := sa
            have h7 := refN_some (h5 j rfl)
            have : a0 = a := by rw [h7] at g1; cases g1; rfl
            subst this
            exact ⟨a0, by rw [h7]; rfl, g2, h6⟩
          · rw [if_neg q]; trivial
      | _ => trivial
    | tb =>
      cases b with
      | tb => exact y
      | _ => trivial
    | no => trivial
    | er x => trivial
    | th r => trivial
    | td r => trivial
/-- the thunk runs -/
theorem RS.act {i : Nat} {ρt : List Sl} {σt : L2.St} (x : RS K mg τ Ho G ρt σt H) (e : thOf ρt[i]? = some ρ) (ht : τ.th = some T) :
    ∃ Ho', Same Ho Ho' ∧ RS K mg T.tagT Ho' G (DS.tagL 0 ρ) T.σ H ∧ ∀ G' s v ρ' σ' H', Gr Ho' G G' → RS K mg T.tagT Ho' G' (s :: ρ') (some v :: σ') H' →
      RS K mg τ Ho G' ((s.tagged none).tagged none :: ρt.set i (.td (DS.recL 0 ρ ρ'))) (some v :: σt) H' := by
  obtain ⟨Ho', h1, h2, h3⟩ := x.act0 e ht
  exact ⟨Ho', h1, h2.tagL, fun G' s v ρ' σ' H' g y => h3 G' _ v _ H' g (RS.recL h2 g y)⟩
/-- a code object is made, and put into the table -/
theorem RS.tabNew {jt : Nat} {P c' : Addr} {q : Str} {ps more : Array Value} (x : RS K mg τ Ho G ρ σ H) (e : ρ[jt]? = some .tb) (hm : (P, q) ∈ τ.tb) (hu : ∀ p ∈ τ.tb, p.1 = P → p.2 = q) (nc : H c' = none)
    (new : ∀ ps, H P = some (.tbl ps) → TriplesOk (ps ++ more).toList ∧ ∀ (p' : Pos) (cv : Value), codeAmong p' (ps ++ more).toList = some cv → codeAmong p' ps.toList = some cv ∨ cv = .ref c') (hP : H P = some (.tbl ps)) :
    RS K mg τ Ho (upd G c' (LamX.CodeO c' q)) ρ σ (upd (upd H P (.tbl (ps ++ more))) c' (LamX.CodeO c' q)) ∧ Gr Ho G (upd G c' (LamX.CodeO c' q)) := by
  have gc := x.freeG nc
  have hc := x.freeHo nc
  have g : Gr Ho G (upd G c' (LamX.CodeO c' q)) := ⟨same_upd gc, fun a u e => upd_ne (ne_of_none e hc)⟩
  refine ⟨?_, g⟩
  obtain ⟨O, x⟩ := x
  have tb0 := x.sl jt _ e
  have OP : O P = some jt := by
    obtain ⟨ps', h1, _⟩ := tb0 _ hm
    exact ownTh (by rw [h1]; simp)
  obtain ⟨zG, zHo, _⟩ := x.oh P jt OP
  have nPc : P ≠ c' := fun z => by rw [z, nc] at hP; cases hP
  have Oc : ∀ i, O c' ≠ some i := fun i z => (x.oh c' i z).2.2 nc
  have at_ : ∀ b, b ≠ P → b ≠ c' → upd (upd H P (.tbl (ps ++ more))) c' (LamX.CodeO c' q) b = H b := fun b h1 h2 => by rw [upd_ne h2, upd_ne h1]
  refine ⟨O, fun b u h => ?_, fun b i h => ?_, fun b u h => ?_, x.len, fun i s h => ?_⟩
  · by_cases hb : b = c'
    · subst hb; rw [upd_same] at h ⊢; exact h
    · rw [upd_ne hb] at h
      rw [at_ b (fun z => by rw [z, zG] at h; cases h) hb]
      exact x.gh b u h
  · have nb : b ≠ c' := fun z => Oc i (z ▸ h)
    obtain ⟨z1, z2, z3⟩ := x.oh b i h
    refine ⟨by rw [upd_ne nb]; exact z1, z2, ?_⟩
    by_cases hb : b = P
    · rw [hb, upd_ne nPc, upd_same]; simp
    · rw [at_ b hb nb]; exact z3
  · rw [at_ b (fun z => by rw [z, zHo] at h; cases h) (fun z => by rw [z, hc] at h; cases h)]
    exact x.out b u h
  · have s0 := (x.sl i s h).mono g.1
    by_cases hi : i = jt
    · subst hi
      rw [e] at h
      cases h
      intro p hp
      by_cases hq : p.1 = P
      · rw [hu p hp hq, hq]
        obtain ⟨ps', h1, h2, h3⟩ := tb0 _ hm
        rw [ownAt OP, hP] at h1
        cases h1
        obtain ⟨n1, n2⟩ := new ps hP
        refine ⟨ps ++ more, by rw [ownAt OP, upd_ne nPc, upd_same], n1, fun p' cv hcv => ?_⟩
        rcases n2 p' cv hcv with z | z
        · obtain ⟨c0, e1, e2⟩ := h3 p' cv z
          exact ⟨c0, e1, g.1 _ _ e2⟩
        · exact ⟨c', z, upd_same⟩
      · obtain ⟨ps', h1, h2, h3⟩ := s0 p hp
        have o1 : O p.1 = some i := ownTh (by rw [h1]; simp)
        refine ⟨ps', ?_, h2, h3⟩
        rw [ownAt o1] at h1 ⊢
        rw [at_ _ hq fun z => Oc i (z ▸ o1)]
        exact h1
    · have z : own O i (upd (upd H P (.tbl (ps ++ more))) c' (LamX.CodeO c' q)) = own O i H := by
        funext b
        unfold own
        by_cases w : O b = some i
        · rw [if_pos w, if_pos w, at_]
          · intro z; rw [z, OP] at w; cases w; exact hi rfl
          · intro z; exact Oc i (z ▸ w)
        · rw [if_neg w, if_neg w]
      rw [z]
      exact s0
/-- the table, as the heap has it -/
theorem RS.tab {jt : Nat} {P : Addr} {q : Str} (x : RS K mg τ Ho G ρ σ H) (e : ρ[jt]? = some .tb) (hm : (P, q) ∈ τ.tb) : TabG G H P q := by
  obtain ⟨O, x⟩ := x
  obtain ⟨ps, h1, h2, h3⟩ := x.sl jt _ e _ hm
  have o := ownTh (O := O) (i := jt) (H := H) (a := P) (by rw [h1]; simp)
  rw [ownAt o] at h1
  exact ⟨ps, h1, h2, h3⟩
end

/-! ### the lambda is made -/
section
variable {X : Cx} {pins : List (Addr × Obj)} {σ : L2.St} {H : Hp} {s : Shared}
theorem lam_make3 {G : Hp} {c P : Addr} {params : Arguments} {body : Expr} {scope : Scope} {pos : Pos} {E : Value → Shared → Prop} {Q : Value → Shared → Prop} (I : Inv X pins σ H s) (TB : LamX.TabB X.base X.mg c P) (hcode : X.env.code = .ref c)
    (hT : TabG G H P (X.env.qual ++ "<lambda>")) (gh : Same G H) (hdef : defaultsOf params X.env = ([], [])) (hfree : ∀ y ∈ scope.names, y.2 = .free → ∃ c, X.env.cells.lookup y.1 = some c)
    (h : ∀ (f c' : Addr) (pm ctv : Value) (H1 : Hp) (s' : Shared), Inv X pins σ H1 s' →
      ((H1 = H ∧ G c' = some (LamX.CodeO c' (X.env.qual ++ "<lambda>"))) ∨ ∃ ps more, H P = some (.tbl ps) ∧ H c' = none ∧ H1 = upd (upd H P (.tbl (ps ++ more))) c' (LamX.CodeO c' (X.env.qual ++ "<lambda>")) ∧ TriplesOk (ps ++ more).toList ∧
        ∀ (p' : Pos) (cv : Value), codeAmong p' (ps ++ more).toList = some cv → codeAmong p' ps.toList = some cv ∨ cv = .ref c') →
      s'.heap.get? f = some (PySem.W.kla_obj "<lambda>" (X.env.qual ++ "<lambda>") params body scope (cloFrom X.env.cells scope.names []) pm c' ctv) → H1 f = none → f ∉ frs X.stack → H1 c' = some (LamX.CodeO c' (X.env.qual ++ "<lambda>")) → Q (.ref f) s') :
    wpAny (model X.prog X.w) X.A (eval (.Lambda params body scope pos) X.env) Q E s := by
  obtain ⟨ps, hP, ht, ha⟩ := hT
  refine PySem.W.kla_eval hdef ?_
  have bP : s.heap.BuiltinsAt X.mg P := TB.bm.keeps I.bk
  have hP' : s.heap.get? P = some { cls := .none, data := .fields ps } := I.hok P _ hP
  have nofr : ∀ f, s.heap.objs.size ≤ f → f ∉ frs X.stack := fun f hf z => by
    rcases List.mem_cons.mp (I.stkSub _ z) with e | e
    · have h1 := I.lt
      rw [← e] at h1
      exact Nat.lt_irrefl _ (Nat.lt_of_lt_of_le h1 hf)
    · exact I.nofs hf e
  cases hc : codeAmong pos ps.toList with
  | none =>
    refine PySem.W.kla_makeFunction (mg := X.mg) (c := c) (P := P) (ps := ps) (closure_ok hfree) I.ok.glob (I.mod.glob.keeps I.bk) hcode (TB.code.keeps I.bk) hP' ht hc TB.gP bP fun c' ctv h' tk hx hge hlt hrec htb => ?_
    obtain ⟨c2, oc, vs, t, e2, hoc, hd, hv⟩ := hrec
    cases e2
    have hsz : s.heap.objs.size ≤ h'.objs.size := Nat.le_trans hge (Nat.le_of_lt hlt)
    have nC : H c' = none := I.hok.fresh hge
    have I1 := LamX.inv_table (t' := tk) (more := #[rawInt pos.line, rawInt pos.col, .ref c']) (h' := h'.push (PySem.W.kla_obj "<lambda>" (X.env.qual ++ "<lambda>") params body scope (cloFrom X.env.cells scope.names []) ((X.mg "__name__").getD .none) c' ctv)) I hP
      (fun b o hb e => Heap.get?_push_of_some _ (hx b o hb e)) (Heap.get?_push_of_some _ htb) hge ⟨oc, vs, t, Heap.get?_push_of_some _ hoc, hd, hv⟩
    have eL : (ps ++ #[rawInt pos.line, rawInt pos.col, .ref c']).toList = ps.toList ++ [rawInt pos.line, rawInt pos.col, .ref c'] := by simp
    refine h h'.objs.size c' ((X.mg "__name__").getD .none) ctv _ _ I1 (.inr ⟨ps, _, hP, nC, rfl, by rw [eL]; exact PySem.TriplesOk_snoc _ _ _ _ ht, fun p' cv hcv => ?_⟩) (Heap.get?_push_size _ rfl) ?_ (nofr _ hsz) upd_same
    · rw [eL] at hcv
      exact LamX.among_app _ ht hcv
    · have n1 : h'.objs.size ≠ c' := Nat.ne_of_gt hlt
      have n2 : h'.objs.size ≠ P := Nat.ne_of_gt (Nat.lt_of_lt_of_le (Heap.lt_size hP') hsz)
      rw [upd_ne n1, upd_ne n2]
      exact I.hok.fresh hsz
  | some cv =>
    obtain ⟨c', e, hco⟩ := ha pos cv hc
    subst e
    refine PySem.W.kla_makeFunctionHit (mg := X.mg) (c := c) (P := P) (ps := ps) (closure_ok hfree) I.ok.glob (I.mod.glob.keeps I.bk) hcode (TB.code.keeps I.bk) hP' ht hc bP fun ctv h' tk hx hsz => ?_
    have I1 : Inv X pins σ H { s with heap := h'.push (PySem.W.kla_obj "<lambda>" (X.env.qual ++ "<lambda>") params body scope (cloFrom X.env.cells scope.names []) ((X.mg "__name__").getD .none) c' ctv), toks := tk } := I.kept fun b o e => Heap.get?_push_of_some _ (hx b o e)
    exact h h'.objs.size c' ((X.mg "__name__").getD .none) ctv H _ I1 (.inl ⟨rfl, hco⟩) (Heap.get?_push_size _ rfl) (I.hok.fresh hsz) (nofr _ hsz) (gh _ _ hco)
end

/-! ### the thunk is called -/
/-- a lambda's context -/
def mkL (X : Cx) (A : Around) (outer : List Env) (s : Shared) (H : Hp) (E : XK) (scope : Scope) (f c' : Addr) (τ : Tau) (Ho G0 : Hp) (Ex : Exn → List Sl → Prop) (k : Nat) (g : Bool) (hg : g = true → A.guards = some [])
    (room : Room k (A.deeper (LamX.lamEnv X scope s.heap.objs.size f c'))) (tk : Takes (LamX.lamCx X A outer s H E scope f c') (fun cls d σ H => ∃ G ρ x, RS X.K X.mg τ Ho G ρ σ H ∧ Gr Ho G0 G ∧ RepX X.K X.mg G x cls d ∧ Ex x ρ)) : DC :=
  ⟨LamX.lamCx X A outer s H E scope f c', τ, Ho, G0, Ex, k, g, hg, false, room.dp, room.un, fun _ => room.hd, fun _ => rfl, tk⟩
/-- the thunk's function over its maker's slots; the result over the slots of the def that got it -/
def actR (i : Nat) (ρ ρc : List Sl) : Res Sl → Res Sl
  | .ok s ρ' => .ok ((s.tagged none).tagged none) (ρ.set i (.td (recL 0 ρc ρ')))
  | .ex x ρ' => .ex x (ρ.set i (.td (recL 0 ρc ρ')))
  | .no => .no
def dAct (i : Nat) (t : M Sl) : M Sl := fun ρ => match ρ[i]? with
  | some (.th ρc) => actR i ρ ρc (t (tagL 0 ρc))
  | _ => .no

section
variable {X : Cx} {pins : List (Addr × Obj)} {σ : L2.St} {H1 : Hp} {s1 : Shared} {T : ThD} {params : Arguments} {body : Expr} {scope : Scope} {t : M Sl} {kl : Nat} {gg : Bool}
/-- what the thunk's call asks -/
def LL (Z : DC) (T : ThD) (σZ : L2.St) (Ho G : Hp) (r : Res Sl) (Q : VK) : Prop := match r with
  | .ok s ρ' => ∀ v G' H', RS Z.X.K Z.X.mg T.tagT Ho G' (s :: ρ') (some v :: T.σ) H' → Gr Ho G G' → Q v H'
  | .ex x ρ' => ∀ cls d σ' G' H', RS Z.X.K Z.X.mg T.tagT Ho G' ρ' σ' H' → Gr Ho G G' → RepX Z.X.K Z.X.mg G' x cls d → Z.W cls d σZ H'
  | .no => False
theorem act_dr {Ng : List Str} {qg : Str} {sg : Scope} {g : Addr} {cdg pm ctv : Value} {Et : XK} {τ : Tau} {Ho0 G0 : Hp} {Ex : Exn → List Sl → Prop} {hg room tk} {pn : List (Addr × Obj)} {xe : Value → Shared → Prop} {Ho2 G2 : Hp} {Ex2 : Exn → List Sl → Prop} {tk2} {a : Str} {i : Nat} {p1 p2 : Pos}
    (I : Inv X pins σ H1 s1) (L : LamX.LamS X.env.scope scope) (hf : s1.heap.get? T.f = some (PySem.W.kla_obj "<lambda>" (X.env.qual ++ "<lambda>") params body scope (cloFrom X.env.cells scope.names []) pm T.c ctv)) (hfn : H1 T.f = none) (hfr : T.f ∉ frs X.stack)
    (hq : T.q = X.env.qual ++ "<lambda>") (hs : T.σ = σ) (hτ : τ.th = some T)
    (hbind : bindArgs (PySem.W.kla_fn "<lambda>" (X.env.qual ++ "<lambda>") params body scope (cloFrom X.env.cells scope.names []) pm (.ref T.c) ctv) ⟨[], []⟩ = pure [])
    (hlam : ∀ A outer s H E f c' τ Ho G0 Ex hg room tk, DR (mkL X A outer s H E scope f c' τ Ho G0 Ex kl gg hg room tk) body t)
    (hN : Ng[i]? = some a) (hv : Vis sg a) (hd : (a == ("__debug__" : Str)) = false) (hcd : (a == ("__classdict__" : Str)) = false) :
    DR (trZ (mkZ X.prog X.w X.K X.mg X.base Ng qg sg g cdg X.A X.stack s1 H1 Et τ Ho0 G0 Ex (kl + 1) gg hg room tk) pn xe Ho2 G2 Ex2 tk2) (.Call (.Name a p1) [] [] p2) (dAct i t) := by
  obtain ⟨Zt, hZ⟩ : ∃ Zt, Zt = trZ (mkZ X.prog X.w X.K X.mg X.base Ng qg sg g cdg X.A X.stack s1 H1 Et τ Ho0 G0 Ex (kl + 1) gg hg room tk) pn xe Ho2 G2 Ex2 tk2 := ⟨_, rfl⟩
  have hW : ∀ {cls d σZ H'}, Zt.W cls d σZ H' → ∃ G ρ x, RS X.K X.mg τ Ho2 G ρ σZ H' ∧ Gr Ho2 G2 G ∧ RepX X.K X.mg G x cls d ∧ Ex2 x ρ := fun {cls d σZ H'} h => by subst hZ; exact h
  refine ⟨fun σZ HZ Q => σZ[i]? = some (some (.ref T.f)) ∧ HZ T.c = some (LamX.CodeO T.c T.q) ∧ ∃ Ho G ρc, RS X.K X.mg T.tagT Ho G (tagL 0 ρc) T.σ HZ ∧ LL (trZ (mkZ X.prog X.w X.K X.mg X.base Ng qg sg g cdg X.A X.stack s1 H1 Et τ Ho0 G0 Ex (kl + 1) gg hg room tk) pn xe Ho2 G2 Ex2 tk2) T σZ Ho G (t (tagL 0 ρc)) Q, ⟨fun pinsZ sZ σZ HZ Q IZ h => ?_⟩, fun Ho hw G ρ σZ HZ Q x q => ?_⟩
  · obtain ⟨hs1, hc, Ho', Gc, ρc, rs, sem⟩ := h
    refine wpAny_Call_Name_kw (thn ((pe_var (pos := p1) (i := i) hN hv hd hcd).run pinsZ sZ σZ HZ (fun v H1 => v = .ref T.f ∧ H1 = HZ) IZ ⟨.ref T.f, hs1, rfl, rfl⟩) fun u s2 ⟨v, H2, I2, r1, q1⟩ => ?_)
    obtain ⟨ev, eH⟩ := q1
    subst ev
    subst eH
    obtain rfl : u = Value.ref T.f := r1
    have of1 : s2.heap.get? T.f = some (PySem.W.kla_obj "<lambda>" (X.env.qual ++ "<lambda>") params body scope (cloFrom X.env.cells scope.names []) pm T.c ctv) := I2.base.keep T.f _ hf hfn hfr (fun z => nomatch (show T.f ∈ ([] : List Addr) from z))
    refine PySem.W.callWith_F0 ⟨_, _, _, _, of1⟩ ?_
    have un : Un (frs X.stack) [] H1 H2 s1.heap s2.heap := I2.base
    obtain ⟨⟨oc, vs, tt, hoc, hdc, hvc⟩, _, _⟩ := I2.hok T.c _ hc
    obtain ⟨EE, hEE⟩ : ∃ EE : XK, EE = fun cls d H' => ∃ σ' G' ρ' x, t (tagL 0 ρc) = .ex x ρ' ∧ RS X.K X.mg T.tagT Ho' G' ρ' σ' H' ∧ Gr Ho' Gc G' ∧ RepX X.K X.mg G' x cls d := ⟨_, rfl⟩
    have rc : codeAny (model X.prog X.w) (X.A.deeper (envOfC qg sg s1.heap.objs.size g cdg)) (.call (.ref T.f) ⟨[], []⟩) (CR (L2.CX X.prog X.w) (envOfC qg sg s1.heap.objs.size g cdg :: X.stack) X.prog X.w H2 s2 Q EE) s2 := by
      have room' : Room (kl + 1) (X.A.deeper (envOfC qg sg s1.heap.objs.size g cdg)) := room
      refine PySem.W.kla_callFunE room'.depth of1 rfl L.co L.gen rfl ⟨T.c, oc, vs, tt, rfl, hoc, hdc, by rw [hvc, hq]⟩ ?_
      rw [hbind]
      refine wpAny_pure (wpAny_newFunctionEnv (fun y hy => (L.own y hy).2) (fun y hy => absurd hy (by simp)) (fun h₁ hns hsb => ⟨I2.nolimit.fresh _ hsb, ?_⟩) L.kind)
      show codeAny _ _ (.expr body (LamX.lamEnv X scope s2.heap.objs.size T.f T.c)) _ _
      have kp : ∀ b o, s2.heap.get? b = some o → h₁.get? b = some o := fun b o e => hsb.extBut b o (Nat.ne_of_lt (Heap.lt_size e)) (Heap.get?_push_of_some _ e)
      have J : Inv (LamX.lamCx X (X.A.deeper (envOfC qg sg s1.heap.objs.size g cdg)) (envOfC qg sg s1.heap.objs.size g cdg :: X.stack) s2 H2 EE scope T.f T.c) [] σ H2 { s2 with heap := h₁, toks := s2.toks + ([] : List (Str × Value)).length } :=
        LamX.lam_start2 I L I2.env0 room'.hd un hns kp
      have tkL : Takes (LamX.lamCx X (X.A.deeper (envOfC qg sg s1.heap.objs.size g cdg)) (envOfC qg sg s1.heap.objs.size g cdg :: X.stack) s2 H2 EE scope T.f T.c) (fun cls d σ' H' => ∃ G' ρ' x, RS X.K X.mg T.tagT Ho' G' ρ' σ' H' ∧ Gr Ho' Gc G' ∧ RepX X.K X.mg G' x cls d ∧ t (tagL 0 ρc) = .ex x ρ') := by
        refine (takes_of (E := EE) rfl rfl rfl rfl).imp fun cls d σ' H' ⟨G', ρ', x, h1, h2, h3, h4⟩ => ?_
        rw [hEE]
        exact ⟨σ', G', ρ', x, h4, h1, h2, h3⟩
      obtain ⟨teL, peL, semL⟩ := hlam (X.A.deeper (envOfC qg sg s1.heap.objs.size g cdg)) (envOfC qg sg s1.heap.objs.size g cdg :: X.stack) s2 H2 EE T.f T.c T.tagT Ho' Gc (fun x ρ' => t (tagL 0 ρc) = .ex x ρ') hg (room'.deeper _) tkL
      have ht : teL σ H2 Q := by
        refine semL Ho' (Same.refl _) Gc (tagL 0 ρc) σ H2 Q ⟨by rw [← hs]; exact rs, Same.refl _, Gr.refl⟩ ?_
        suffices z : ∀ r, r = t (tagL 0 ρc) → LR (mkL X (X.A.deeper (envOfC qg sg s1.heap.objs.size g cdg)) (envOfC qg sg s1.heap.objs.size g cdg :: X.stack) s2 H2 EE scope T.f T.c T.tagT Ho' Gc (fun x ρ' => t (tagL 0 ρc) = .ex x ρ') kl gg hg (room'.deeper _) tkL) Ho' Gc σ r Q from z _ rfl
        intro r er
        rw [← er] at sem
        cases r with
        | ok s ρ' => exact fun v G' H' y g => sem v G' H' (by rw [hs]; exact y.rs) g
        | ex x ρ' => exact er.symm
        | no => exact sem.elim
      refine PySem.W.kla_codeExpr (wpAny_mono (peL.run [] _ _ H2 Q J ht) (fun v s' hq => ?_) fun e s' hq => hq)
      obtain ⟨w', H', J', rv, q⟩ := hq
      exact ⟨w', H', J'.os, J'.bare, J'.base, J'.hok, rv, q⟩
    refine wpAny_call (codeAny_mono rc fun r s' hq => ?_)
    cases r with
    | error e =>
      refine tk2 e s' (XE.of_call (W := fun cls d σ H => ∃ G ρ x, RS X.K X.mg τ Ho2 G ρ σ H ∧ Gr Ho2 G2 G ∧ RepX X.K X.mg G x cls d ∧ Ex2 x ρ) (E := EE) I2 (fun cls d H' h => ?_) hq)
      rw [hEE] at h
      obtain ⟨σ', G', ρ', x, h1, h2, h3, h4⟩ := h
      rw [h1] at sem
      exact sem cls d σ' G' H' h2 h3 h4
    | ok fl =>
      cases fl with
      | ret u => exact I2.after hq
      | next => exact False.elim hq
      | brk => exact False.elim hq
      | cont => exact False.elim hq
  · unfold dAct at q
    cases er : ρ[i]? with
    | none => rw [er] at q; exact q.elim
    | some s =>
      rw [er] at q
      cases s with
      | th ρc =>
        simp only at q
        obtain ⟨O, x0⟩ := x.rs
        obtain ⟨T', e1, e2, e3, _⟩ := x0.sl i _ er
        have eT : T' = T := by
          have e1' : τ.th = some T' := e1
          rw [hτ] at e1'
          cases e1'
          rfl
        subst eT
        have hv2 : σZ[i]? = some (some (.ref T'.f)) := by
          cases w : σZ[i]? with
          | none => rw [w] at e2; cases e2
          | some u => rw [w] at e2; rw [show u = some (.ref T'.f) from e2]
        obtain ⟨Ho', g1, y1, back⟩ := RS.act (K := X.K) (mg := X.mg) (τ := τ) (T := T') x.rs (i := i) (ρ := ρc) (by rw [er]; rfl) hτ
        refine ⟨hv2, x.gh _ _ e3, Ho', G, ρc, y1, ?_⟩
        cases et : t (tagL 0 ρc) with
        | no => rw [et] at q; exact q.elim
        | ok s ρ' =>
          rw [et] at q
          intro v G' H' y g
          have z := back G' s v ρ' T'.σ H' g y
          exact q v G' H' (x.to z (g.anti g1)) (g.anti g1)
        | ex x' ρ' =>
          rw [et] at q
          intro cls d σ' G' H' y g rx
          have z := (back G' (.sh .non) .non ρ' σ' H' g (y.push rep_non)).pop
          have gg2 : Gr Ho G G' := g.anti g1
          exact ⟨G', _, x', z.anti hw, x.g0.trans (gg2.anti hw), rx, q⟩
      | _ => exact q.elim

/-! ### x(lambda: e) -/
/-- the function of the def that gets a thunk -/
def mkT (N : Nat) (body : MS) : M Sl := fun ρ => match body (.th ρ :: List.replicate (N - 1) .no) with
  | .nx ρt => (match thOf ρt[0]? with
    | some ρ' => .ok (.sh .non) ρ'
    | none => .no)
  | .rt s ρt => (match thOf ρt[0]? with
    | some ρ' => .ok (s.tagged none) ρ'
    | none => .no)
  | .ex x ρt => (match thOf ρt[0]? with
    | some ρ' => .ex x ρ'
    | none => .no)
  | _ => .no
def isTb : Option Sl → Bool
  | some .tb => true
  | _ => false
def dLam (jt : Nat) (F : M Sl) : M Sl := fun ρ => if isTb ρ[jt]? && noTh ρ then F ρ else .no
end
/-- a def's derivation, where it gets the thunk t as its one argument -/
abbrev ToldBy (P : Program) (w : World) (K : PySem.W.Frag) (mg : Str → Option Value) (base : Heap) (N : List Str) (x : Str) (st : Stmt) (a : Str) (g : Addr) (k : Nat) (gg : Bool) (t : M Sl) (bt : MS) : Prop :=
  ∀ cdv A outer s H E τ Ho G0 Ex hg room tk, (∀ pn xe Ho2 G2 Ex2 tk2 p1 p2, DR (trZ (mkZ P w K mg base N x (defScope st) g cdv A outer s H E τ Ho G0 Ex k gg hg room tk) pn xe Ho2 G2 Ex2 tk2) (.Call (.Name a p1) [] [] p2) (dAct 0 t)) →
    DSs (mkZ P w K mg base N x (defScope st) g cdv A outer s H E τ Ho G0 Ex k gg hg room tk) (defBody st) bt
section
variable {Z : DC} {params : Arguments} {body : Expr} {scope : Scope} {t : M Sl} {kl : Nat} {gg : Bool} {x a : Str} {st : Stmt} {g : Addr} {fd : FuncData} {Ng : List Str} {bt : MS} {p lpos pos : Pos}
theorem dr_lam {nn : Nat} {ql : Str} (jt : Nat) (A : FnAt Z.X.K Z.X.mg x st [a] g fd) (S : FnScope Ng [a] (defScope st)) (hN : Ng[0]? = some a) (hva : Vis (defScope st) a)
    (told : ToldBy Z.X.prog Z.X.w Z.X.K Z.X.mg Z.X.base Ng x st a g (kl + 1) gg t bt) {c P : Addr} (TB : LamX.TabB Z.X.base Z.X.mg c P) (hcode : Z.X.env.code = .ref c) (hτ : Z.τ.tb = [(P, ql ++ "<lambda>")])
    (L : LamX.LamS Z.X.env.scope scope)
    (hlam : ∀ A outer s H E f c' τ Ho G0 Ex hg room tk, DR (mkL Z.X A outer s H E scope f c' τ Ho G0 Ex kl gg hg room tk) body t)
    (hk : kl + 2 ≤ Z.k) (hgg : gg = true → Z.g = true) (hh : Z.hot = false := by rfl) (hdef : defaultsOf params Z.X.env = ([], []) := by rfl)
    (hbind : ∀ (q : Str) (cl : List (Str × Addr)) (pm cv ctv : Value), bindArgs (PySem.W.kla_fn "<lambda>" q params body scope cl pm cv ctv) ⟨[], []⟩ = pure [] := by intros; rfl)
    (hg : Gl Z.X x := by first | rfl | decide) (hdb : (x == ("__debug__" : Str)) = false := by decide) (hd : (a == ("__debug__" : Str)) = false := by decide) (hcd : (a == ("__classdict__" : Str)) = false := by decide) (hnn : Ng.length = nn := by rfl) (hql : Z.X.env.qual = ql := by rfl) :
    DR Z (.Call (.Name x p) [.Lambda params body scope lpos] [] pos) (dLam jt (mkT nn bt)) := by
  subst hnn
  subst hql
  have hmT : (P, Z.X.env.qual ++ "<lambda>") ∈ Z.τ.tb := by rw [hτ]; exact List.mem_cons_self
  have hu : ∀ p ∈ Z.τ.tb, p.1 = P → p.2 = Z.X.env.qual ++ "<lambda>" := fun p hp _ => by
    rw [hτ] at hp
    cases List.mem_singleton.mp hp
    rfl
  have hm := A.mg
  have kp := A.fn.kp
  obtain ⟨oc, od, kV, doc, pm, an, cdv, ct, osl, rfl, lk, hcd2⟩ := A.fn.ex
  have hb := A.bi
  refine ⟨fun σ H Q => ∃ Ho G ρ, Same Z.Ho Ho ∧ Z.R Ho G ρ σ H ∧ LR Z Ho G σ (dLam jt (mkT Ng.length bt) ρ) Q, ⟨fun pins s σ H Q I h => ?_⟩, fun Ho hw G ρ σ H Q y q => ⟨Ho, G, ρ, hw, y, q⟩⟩
  obtain ⟨Ho, G, ρ, hw, y, q⟩ := h
  unfold dLam at q
  have hb1 : (isTb ρ[jt]? && noTh ρ) = true := by
    cases e : (isTb ρ[jt]? && noTh ρ) with
    | true => rfl
    | false => rw [e] at q; exact q.elim
  rw [if_pos hb1] at q
  obtain ⟨hb2, hb3⟩ := Bool.and_eq_true_iff.mp hb1
  have htb : ρ[jt]? = some .tb := by
    cases e : ρ[jt]? with
    | none => rw [e] at hb2; cases hb2
    | some s' => rw [e] at hb2; cases s' <;> first | rfl | cases hb2
  have hT := y.rs.tab htb hmT
  refine wpAny_Call_Name_kw (ld_glob I hg hm ?_ hdb)
  refine PySem.W.callWith_K (h₀ := Z.X.base) I.ok.mod.kin kp ?_ (by rfl) (by rfl)
  show wpAny _ _ (spliced ((false, eval (.Lambda params body scope lpos) Z.X.env) :: backTo pos (starEach [] Z.X.env))) _ _ s
  refine Calls.spliced_cons (lam_make3 I TB hcode hT y.gh hdef (L.has I.ok) fun f c' pm' ctv H1 s' I1 hcase hf hfn hfr hco => ?_)
  refine Calls.spliced_nil ⟨I1.kIn, ?_⟩
  obtain ⟨G1, r1, g1, gc⟩ : ∃ G1, RS Z.X.K Z.X.mg Z.τ Ho G1 ρ σ H1 ∧ Gr Ho G G1 ∧ G1 c' = some (LamX.CodeO c' (Z.X.env.qual ++ "<lambda>")) := by
    rcases hcase with ⟨rfl, h2⟩ | ⟨ps, more, h1, h2, rfl, h4, h5⟩
    · exact ⟨G, y.rs, Gr.refl, h2⟩
    · obtain ⟨r, g⟩ := y.rs.tabNew (jt := jt) (P := _) (more := more) htb hmT hu h2 (fun ps' h' => by rw [h1] at h'; cases h'; exact ⟨h4, h5⟩) h1
      exact ⟨_, r, g, upd_same⟩
  obtain ⟨T, hTd⟩ : ∃ T : ThD, T = ⟨f, c', Z.X.env.qual ++ "<lambda>", Z.τ.ar, Z.τ.er, Z.τ.tb, σ⟩ := ⟨_, rfl⟩
  have hN0 : 0 < Ng.length := (List.getElem?_eq_some_iff.mp hN).1
  have rw1 : RS Z.X.K Z.X.mg (tauT T) Ho G1 (.th ρ :: List.replicate (Ng.length - 1) .no) (L2.start Ng [.ref f]) H1 := by
    subst hTd
    exact RS.wrap (T := ⟨f, c', Z.X.env.qual ++ "<lambda>", Z.τ.ar, Z.τ.er, Z.τ.tb, σ⟩) r1 hb3 rfl rfl rfl rfl gc hN0
  have unw : ∀ {s2 : Sl} {v : V} {ρt ρ' : List Sl} {σt : L2.St} {G' H' : Hp}, RS Z.X.K Z.X.mg (tauT T) Ho G' (s2 :: ρt) (some v :: σt) H' → thOf ρt[0]? = some ρ' → RS Z.X.K Z.X.mg Z.τ Ho G' (s2.tagged none :: ρ') (some v :: σ) H' := fun {s2 v ρt ρ' σt G' H'} z e => by
    have z2 := RS.unwrap (τ := Z.τ) (T := T) z e (by rw [hTd]) (by rw [hTd]) (by rw [hTd])
    rw [hTd] at z2
    exact z2
  have rc : codeAny (model Z.X.prog Z.X.w) Z.X.A (.call (.ref g) ⟨[.ref f], []⟩) (CR (L2.CX Z.X.prog Z.X.w) Z.X.stack Z.X.prog Z.X.w H1 s' Q (WE Z.W σ)) s' := by
    refine LamX.run_ofS (N := Ng) (ps := [a]) (us := [.ref f]) (vs := [.ref f]) lk hcd2 S ((Z.room hh).mono hk) I1.env0 (hb s' [.ref f] I1.kIn rfl) (.cons rfl .nil) rfl fun hr' => ?_
    have tkT : Takes (cxOf (L2.CX Z.X.prog Z.X.w) Z.X.prog Z.X.w Z.X.K Z.X.mg Z.X.base Ng x (defScope st) g cdv Z.X.A Z.X.stack s' H1 (WE Z.W σ)) (fun cls d σ' H' => ∃ G' ρt x, RS Z.X.K Z.X.mg (tauT T) Ho G' ρt σ' H' ∧ Gr Ho G1 G' ∧ RepX Z.X.K Z.X.mg G' x cls d ∧ bt (.th ρ :: List.replicate (Ng.length - 1) .no) = .ex x ρt) := by
      refine (takes_of (E := WE Z.W σ) rfl rfl rfl rfl).imp fun cls d σ' H' ⟨G', ρt, x', h1, h2, h3, h4⟩ => ?_
      unfold mkT at q
      rw [h4] at q
      simp only at q
      cases et : thOf ρt[0]? with
      | none => rw [et] at q; exact q.elim
      | some ρ' =>
        rw [et] at q
        have z := (unw (h1.push (d := .non) (v := .non) rep_non) et).pop
        have g2 : Gr Ho G G' := g1.trans h2
        exact ⟨G', ρ', x', z.anti hw, y.g0.trans (g2.anti hw), h3, q⟩
    obtain ⟨ts, pt, ht⟩ := told cdv Z.X.A Z.X.stack s' H1 (WE Z.W σ) (tauT T) Ho G1 (fun x ρt => bt (.th ρ :: List.replicate (Ng.length - 1) .no) = .ex x ρt) (fun h => Z.gd (hgg h)) hr' tkT (fun pn xe Ho2 G2 Ex2 tk2 p1 p2 =>
      act_dr (T := T) I1 L (by rw [hTd]; exact hf) (by rw [hTd]; exact hfn) (by rw [hTd]; exact hfr) (by rw [hTd]) (by rw [hTd]) rfl (hbind _ _ _ _ _) hlam hN hva hd hcd)
    refine ⟨ts, pt, ht Ho (Same.refl _) G1 _ _ H1 _ ⟨rw1, Same.refl _, Gr.refl⟩ ?_⟩
    unfold mkT at q
    suffices z : ∀ r1, r1 = bt (.th ρ :: List.replicate (Ng.length - 1) .no) → LX _ Ho G1 r1 _ from z _ rfl
    intro r er
    rw [← er] at q
    cases r with
    | nx ρt =>
      simp only at q
      intro σ' G' H' x' g'
      cases et : thOf ρt[0]? with
      | none => rw [et] at q; exact q.elim
      | some ρ' =>
        rw [et] at q
        have z := unw (x'.rs.push (d := .non) (v := .non) rep_non) et
        exact q .non G' H' (y.to z (g1.trans g')) (g1.trans g')
    | rt s2 ρt =>
      simp only at q
      intro v σ' G' H' x' g'
      cases et : thOf ρt[0]? with
      | none => rw [et] at q; exact q.elim
      | some ρ' =>
        rw [et] at q
        exact q v G' H' (y.to (unw x'.rs et) (g1.trans g')) (g1.trans g')
    | bk ρt => exact q.elim
    | ct ρt => exact q.elim
    | ex x' ρt => exact er.symm
    | no => exact q.elim
  refine wpAny_call (codeAny_mono rc fun r s2 hq => ?_)
  cases r with
  | error e => exact passAt Z.tk σ pins H1 s' e s2 I1 hq
  | ok fl =>
    cases fl with
    | ret u => exact I1.after hq
    | next => exact False.elim hq
    | brk => exact False.elim hq
    | cont => exact False.elim hq
end

/-! ### a op b op' c op'' d -/
def tChain3 (r r' r'' : R2) (ta tb tc td : TE) : TE := fun σ H Q => ta σ H fun x H1 => tb σ H1 fun y H2 => r x y H2 fun z H3 => ∃ k, z = .bl k ∧
  (if k = true then tc σ H3 fun w H4 => r' y w H4 fun z' H5 => ∃ k', z' = .bl k' ∧ (if k' = true then td σ H5 fun u H6 => r'' w u H6 Q else Q (.bl false) H5) else Q (.bl false) H3)
theorem pe_chain3 {X : Cx} {op op' op'' : CmpOp} {r r' r'' : R2} {a b c d : Expr} {ta tb tc td : TE} {pos : Pos} (ho : OpR X (compareOp op) r) (ho' : OpR X (compareOp op') r') (ho'' : OpR X (compareOp op'') r'') (ha : PE X a ta) (hb : PE X b tb) (hc : PE X c tc) (hd : PE X d td)
    (hm : lastMarks [op, op', op''] [b, c, d] = false) : PE X (.Compare a [op, op', op''] [b, c, d] pos) (tChain3 r r' r'' ta tb tc td) := by
  refine ⟨fun pins s σ H Q I h => ?_⟩
  refine Compare_chain (thn (ha.run pins s σ H _ I h) fun v s1 ⟨x, H1, I1, r1, q1⟩ => chain_link (thn (hb.run pins s1 σ H1 _ I1 q1) fun u s2 ⟨y, H2, I2, r2, q2⟩ =>
    thn (ho pins s2 σ H2 x y v u _ I2 r1 r2 q2) fun d1 s3 ⟨z, H3, I3, r3, k, e, q3⟩ => ?_)) hm
  subst e
  cases r3
  refine wpAny_truthy_bool ?_
  cases k with
  | false => exact ite_ff ⟨.bl false, H3, I3, rfl, q3⟩
  | true =>
    refine ite_tt (chain_link (thn (hc.run pins s3 σ H3 _ I3 q3) fun w' s4 ⟨z', H4, I4, r4, q4⟩ => thn (ho' pins s4 σ H4 y z' u w' _ I4 r2 r4 q4) fun d2 s5 ⟨z2, H5, I5, r5, k2, e2, q5⟩ => ?_))
    subst e2
    cases r5
    refine wpAny_truthy_bool ?_
    cases k2 with
    | false => exact ite_ff ⟨.bl false, H5, I5, rfl, q5⟩
    | true => exact ite_tt (chain_last (thn (hd.run pins s5 σ H5 _ I5 q5) fun t' s6 ⟨z3, H6, I6, r6, q6⟩ => ho'' pins s6 σ H6 z' z3 w' t' Q I6 r4 r6 q6))
def dCh3 (f f' f'' : D → D → Option D) (ta tb tc td : M D) : M D := bnd ta fun d => bnd tb fun e => bnd (lft ((f d e).bind asB)) fun k => if k then dCh f' f'' (ret e) tc td else ret (.bl false)
section
variable {Z : DC} {m1 m2 m3 m4 : Md} {a b c d : Expr} {ta tb tc td : M D} {pos : Pos} {op op' op'' : CmpOp} {f f' f'' : D → D → Option D}
theorem de_c3 (h : Cm Z op f) (h' : Cm Z op' f') (h'' : Cm Z op'' f'') (ha : DE Z m1 a ta) (hb : DE Z m2 b tb) (hc : DE Z m3 c tc) (hd : DE Z m4 d td) (hm : (m1.p && m2.p && m3.p && m4.p) = true := by rfl) (hx : lastMarks [op, op', op''] [b, c, d] = false := by with_unfolding_all rfl) :
    DE Z ⟨true, false⟩ (.Compare a [op, op', op''] [b, c, d] pos) (dCh3 f f' f'' ta tb tc td) := by
  obtain ⟨r, h1, h2⟩ := h.ok
  obtain ⟨r', h1', h2'⟩ := h'.ok
  obtain ⟨r'', h1'', h2''⟩ := h''.ok
  obtain ⟨tea, pa, sa⟩ := ha
  obtain ⟨teb, pb, sb⟩ := hb
  obtain ⟨tec, pc, sc⟩ := hc
  obtain ⟨ted, pd, sd⟩ := hd
  simp only [Bool.and_eq_true] at hm
  refine ⟨_, pe_chain3 h1 h1' h1'' pa pb pc pd hx, fun Ho hw G ρ σ H Q x q => ?_⟩
  refine sa Ho hw G ρ σ H _ x (DE.then (L := fun r => LJ Z Ho ⟨true, false⟩ G H σ r Q) (fun _ _ h => h) (fun h => h) q fun d ρ1 v G1 H1 x1 g1 s1 b1 q1 => ?_)
  refine sb Ho hw G1 ρ1 σ H1 _ x1 (DE.then (L := fun r => LJ Z Ho ⟨true, false⟩ G H σ r Q) (fun _ _ h => h) (fun h => h) q1 fun e ρ2 w G2 H2 x2 g2 s2 b2 q2 => ?_)
  have e2 : Same H1 H2 := s2 hm.1.1.2
  cases ef : f d e with
  | none => simp [bnd, lft, ef, Res.bind] at q2; exact q2.elim
  | some z =>
    refine h2.ok x2 (b1.go g2.1 fun _ => e2).up b2.up ef fun u G3 H3 x3 g3 s3 r3 => ?_
    cases ek : asB z with
    | none => simp [bnd, lft, ef, ek, Res.bind] at q2; exact q2.elim
    | some k =>
      have := asB_some ek
      subst this
      unfold DC.rep Rep at r3
      refine ⟨k, r3, ?_⟩
      have q2' : LJ Z Ho ⟨true, false⟩ G H σ ((if k then dCh f' f'' (ret e) tc td else ret (.bl false)) ρ2) Q := by simpa [bnd, lft, ef, ek, Res.bind] using q2
      have s03 : Same H H3 := ((s1 hm.1.1.1).trans e2).trans s3
      cases k with
      | false =>
        rw [if_neg Bool.false_ne_true] at q2' ⊢
        exact q2' _ _ _ x3 ((g1.trans g2).trans g3) (fun _ => s03) (.inl rep_bl)
      | true =>
        rw [if_pos rfl] at q2' ⊢
        have q3 : LJ Z Ho ⟨true, false⟩ G H σ (bnd tc (fun g => bnd (lft ((f' e g).bind asB)) fun k => if k then bnd td fun h => lft (f'' g h) else ret (.bl false)) ρ2) Q := q2'
        refine sc Ho hw G3 ρ2 σ H3 _ x3 (DE.then (L := fun r => LJ Z Ho ⟨true, false⟩ G H σ r Q) (fun _ _ h => h) (fun h => h) q3 fun g ρ4 y G4 H4 x4 g4 s4 b4 q4 => ?_)
        have e4 : Same H3 H4 := s4 hm.1.2
        cases eg : f' e g with
        | none => simp [bnd, lft, eg, Res.bind] at q4; exact q4.elim
        | some z' =>
          refine h2'.ok x4 ((b2.go g3.1 fun _ => s3).go g4.1 fun _ => e4).up b4.up eg fun u' G5 H5 x5 g5 s5 r5 => ?_
          cases ek : asB z' with
          | none => simp [bnd, lft, eg, ek, Res.bind] at q4; exact q4.elim
          | some k =>
            have := asB_some ek
            subst this
            unfold DC.rep Rep at r5
            refine ⟨k, r5, ?_⟩
            have q4' : LJ Z Ho ⟨true, false⟩ G H σ ((if k then bnd td fun h => lft (f'' g h) else ret (.bl false)) ρ4) Q := by simpa [bnd, lft, eg, ek, Res.bind] using q4
            have s05 : Same H H5 := (s03.trans e4).trans s5
            have g05 : Gr Ho G G5 := (((g1.trans g2).trans g3).trans g4).trans g5
            cases k with
            | false =>
              rw [if_neg Bool.false_ne_true] at q4' ⊢
              exact q4' _ _ _ x5 g05 (fun _ => s05) (.inl rep_bl)
            | true =>
              rw [if_pos rfl] at q4' ⊢
              refine sd Ho hw G5 ρ4 σ H5 _ x5 (DE.then (L := fun r => LJ Z Ho ⟨true, false⟩ G H σ r Q) (fun _ _ h => h) (fun h => h) q4' fun t ρ6 y6 G6 H6 x6 g6 s6 b6 q6 => ?_)
              have e6 : Same H5 H6 := s6 hm.2
              unfold lft at q6
              cases eh : f'' g t with
              | none => rw [eh] at q6; exact q6.elim
              | some z'' =>
                rw [eh] at q6
                refine h2''.ok x6 ((b4.go g5.1 fun _ => s5).go g6.1 fun _ => e6).up b6.up eh fun u'' G7 H7 x7 g7 s7 r7 => ?_
                exact q6 u'' G7 H7 x7 ((g05.trans g6).trans g7) (fun _ => (s05.trans e6).trans s7) (.inl r7)
end
end DS

set_option Elab.async false
set_option linter.all false
set_option maxRecDepth 100000
set_option maxHeartbeats 2000000
namespace DS
open PySem PySem.Spec PyProof.Rows L2

/-! ### a law that makes lambdas: the tables of its code objects are its own, in a slot without a name -/
/-- nothing is tracked but the script and the tables -/
def OnlyT (cs : List (Addr × Addr)) (H : Hp) : Prop := ∀ b, H b = none ∨ b ∈ cs.map (·.2) ∨ ∃ o xs, H b = some (.frz o (.lst xs))
theorem law_callGT {P : Program} {w : World} {K : PySem.W.Frag} {mg mb : Str → Option Value} {k : Nat} {fa a : Addr} {cs : List (Addr × Addr)} {fd : FuncData} {x : Str} {sp : Sp} {s₁ : Shared} {vs : List Value} {ns : List Int}
    (kin : K.In s₁.heap) (gl : s₁.heap.Ns mainGlobals mg) (bl : s₁.heap.Ns builtinsNs mb) (boot : ∀ x : Str, x ≠ "__name__" → mb x = bootBuiltins x) (lim : s₁.heap.NoLimit) (hg : s₁.gens = #[])
    (hT : ∀ p ∈ cs, s₁.heap.get? p.2 = some { cls := .none, data := .fields #[] }) (nT : ∀ p ∈ cs, K.lookup p.2 = none) (C : ∀ p ∈ cs, PySem.W.CodeHd s₁.heap p.1 p.2)
    (hbm : ∃ (bm : Addr) (ob : Obj), mg "__builtins__" = some (.ref bm) ∧ bm ≠ builtinsNs ∧ s₁.heap.get? bm = some ob ∧ ob.cls = .type "module" ∧ ob.dict = some builtinsNs ∧ ob.data = .plain)
    (ha : s₁.heap.get? a = some { cls := .type "list", data := .seq vs.toArray }) (hi : IntsAre vs ns) (hl : ns.length ≤ sizeLine) (hr : Room k callerA)
    (F : ∀ base : Heap, K.In base → base.Ns mainGlobals mg → (∀ p ∈ cs, LamX.TabB base mg p.1 p.2) → FnG true P w K mg base k fa fd [x] sp) (bind : ∀ (s : Shared) (u : Value), BindsTo s fd ⟨[u], []⟩ [(x, u)])
    (hsp : ∀ H : Hp, (∀ p ∈ cs, H p.2 = some (.tbl #[])) → a ∉ cs.map (·.2) → SqL K H a (ns.map V.int) → sp [.ref a] H (fun v _ => v = .bl true) fun _ _ _ => False) :
    codeAny (model P w) callerA (.call (.ref fa) ⟨[.ref a], []⟩) (fun r s' => r = .ok (.ret (.bool true)) ∧ OldK s₁.heap s'.heap ∧ s'.os = s₁.os ∧ AllBare s'.gens) s₁ := by
  have rv := vals_ints hi
  have lv := hi.length
  have tabAt : ∀ b : Addr, b ∈ cs.map (·.2) → s₁.heap.get? b = some { cls := .none, data := .fields #[] } := by
    intro b hb
    obtain ⟨p, hp, rfl⟩ := List.mem_map.mp hb
    exact hT p hp
  have aNo : a ∉ cs.map (·.2) := by
    intro z
    have q := (tabAt a z).symm.trans ha
    exact nomatch (show Data.fields #[] = Data.seq vs.toArray _ from congrArg Obj.data (Option.some.inj q))
  have inT : ∀ p ∈ cs, p.2 ∈ cs.map (·.2) := fun p hp => List.mem_map_of_mem hp
  have main : ∀ H : Hp, (∀ p ∈ cs, H p.2 = some (.tbl #[])) → OnlyT cs H → SqL K H a (ns.map V.int) → HOk P w H s₁.heap → (∀ b, H b ≠ none → b = a ∨ b ∈ cs.map (·.2)) → (H a ≠ none → K.lookup a = none) →
      codeAny (model P w) callerA (.call (.ref fa) ⟨[.ref a], []⟩) (fun r s' => r = .ok (.ret (.bool true)) ∧ OldK s₁.heap s'.heap ∧ s'.os = s₁.os ∧ AllBare s'.gens) s₁ := by
    intro H tabs only sq hok one notK
    have stay : ∀ {b : Addr} {o : Obj}, s₁.heap.get? b = some o → H b = none → (hidT s₁.heap H).get? b = some o := fun e n => hidT_get e n
    have noneAt : ∀ {b : Addr} {o : Obj}, s₁.heap.get? b = some o → (∀ us n, o.data ≠ .seq us n) → o.data ≠ .fields #[] → H b = none := by
      intro b o e h1 h2
      cases q : H b with
      | none => rfl
      | some u =>
        rcases one b (by simp [q]) with rfl | z
        · rw [ha] at e; cases e; exact absurd rfl (h1 _ _)
        · rw [tabAt b z] at e; cases e; exact absurd rfl h2
    have dictFree : ∀ {b : Addr} {o : Obj} {es : Array DictEntry} {ep : Nat}, s₁.heap.get? b = some o → o.data = .dict es ep → H b = none :=
      fun e d => noneAt e (fun _ _ z => by rw [d] at z; cases z) (fun z => by rw [d] at z; cases z)
    have nsStay : ∀ {b : Addr} {m : Str → Option Value}, s₁.heap.Ns b m → (hidT s₁.heap H).Ns b m := by
      rintro b m ⟨o, es, ep, e, d, r⟩
      exact ⟨o, es, ep, stay e (dictFree e d), d, r⟩
    have kB : K.In (hidT s₁.heap H) := fun b o e => stay (kin b o e) (by
      cases q : H b with
      | none => rfl
      | some u =>
        rcases one b (by simp [q]) with rfl | z
        · rw [notK (by simp [q])] at e; cases e
        · obtain ⟨p, hp, rfl⟩ := List.mem_map.mp z
          rw [nT p hp] at e; cases e)
    have md : Mod K mg (hidT s₁.heap H) := ⟨kB, nsStay gl, ⟨mb, nsStay bl, boot⟩, by
      obtain ⟨mc, h1, h2⟩ := lim
      exact ⟨mc, nsStay h1, h2⟩⟩
    have tb : ∀ p ∈ cs, LamX.TabB (hidT s₁.heap H) mg p.1 p.2 := by
      intro p hp
      have atP := hT p hp
      refine ⟨?_, ?_, fun z => ?_⟩
      · obtain ⟨o, us, file, tf, flags, tg, inF, text, tt, e1, r1, r2, rest⟩ := C p hp
        refine ⟨o, us, file, tf, flags, tg, inF, text, tt, stay e1 (noneAt e1 (fun _ _ z => by rw [r2] at z; cases z) fun z => ?_), r1, r2, rest⟩
        rw [r2] at z
        cases z
        simp at rest
      · obtain ⟨bm, ob, b1, b2, b3, b4, b5, b6⟩ := hbm
        have nG : bm ≠ mainGlobals := by
          rintro rfl
          obtain ⟨o, es, ep, e, hd, _⟩ := gl
          rw [e] at b3; cases b3; rw [hd] at b6; cases b6
        have nP : bm ≠ p.2 := by
          rintro rfl
          rw [atP] at b3; cases b3; cases b6
        exact ⟨bm, ob, b1, b2, nG, nP, stay b3 (noneAt b3 (fun _ _ z => by rw [b6] at z; cases z) (fun z => by rw [b6] at z; cases z)), b4, b5, b6⟩
      · obtain ⟨o, es, ep, e, hd, _⟩ := gl
        rw [z, atP] at e; cases e; cases hd
    have e0 : Env0 P w K mg (hidT s₁.heap H) callerA [] s₁ H := ⟨rfl, md, fun b o e => of_hidT e, Nat.le_of_eq (hidT_size _ _), trivial, fun b hb => (by cases hb), hok, .of_eq hg⟩
    have run := (F _ kB (nsStay gl) tb).run callerA (fun _ => rfl) [] s₁ H ⟨[.ref a], []⟩ [.ref a] [.ref a] _ _ hr e0 (bind s₁ (.ref a)) (.cons rfl .nil) (hsp H tabs aNo sq)
    refine codeAny_mono run fun r s' h => ?_
    cases r with
    | error e =>
      obtain ⟨_, _, _, _, _, _, _, _, _, _, _, _, z⟩ := h
      exact z.elim
    | ok fl =>
      cases fl with
      | next => exact h.elim
      | brk => exact h.elim
      | cont => exact h.elim
      | ret u =>
        obtain ⟨v, H', os, bare, un, hok', r', q⟩ := h
        obtain rfl : v = .bl true := q
        obtain rfl : u = Value.bool true := r'
        have kept : ∀ b o, b ∉ cs.map (·.2) → s₁.heap.get? b = some o → s'.heap.get? b = some o := by
          intro b o nb e
          cases q : H b with
          | none => exact un.keep b o e q (by simp [frs]) (by simp)
          | some u =>
            rcases only b with z | z | ⟨ob, xs, z⟩
            · rw [q] at z; cases z
            · exact absurd z nb
            · obtain ⟨e1, _⟩ := hok b _ z
              obtain ⟨e2, _⟩ := hok' b _ (un.frzs b ob _ z)
              rw [e] at e1
              cases e1
              exact e2
        have grown : ∀ p ∈ cs, ∃ more : Array Value, s'.heap.get? p.2 = some { cls := .none, data := .fields more } := by
          intro p hp
          obtain ⟨more, z⟩ := un.tbls p.2 #[] (tabs p hp)
          exact ⟨_, hok' p.2 _ z⟩
        refine ⟨rfl, ⟨fun b o e => ?_, fun b o e => ?_⟩, os, bare⟩
        · by_cases hb : b ∈ cs.map (·.2)
          · obtain ⟨p, hp, rfl⟩ := List.mem_map.mp hb
            obtain ⟨more, hm⟩ := grown p hp
            rw [hT p hp] at e
            cases e
            exact .inr (.inl ⟨((C p hp).tab (hT p hp)).isCodeTable, rfl, #[], more, rfl, by rw [Array.empty_append]; exact hm⟩)
          · exact .inl (kept b o hb e)
        · by_cases hb : b ∈ cs.map (·.2)
          · obtain ⟨p, hp, rfl⟩ := List.mem_map.mp hb
            obtain ⟨more, hm⟩ := grown p hp
            exact ⟨_, hm⟩
          · exact ⟨o, kept b o hb e⟩
  cases hk : K.lookup a with
  | some o =>
    have e := kin a o hk
    rw [ha] at e
    cases e
    obtain ⟨H, hH⟩ : ∃ H : Hp, H = fun b => if b ∈ cs.map (·.2) then some (.tbl #[]) else none := ⟨_, rfl⟩
    have h1 : ∀ b, b ∈ cs.map (·.2) → H b = some (.tbl #[]) := fun b hb => by rw [hH]; exact if_pos hb
    have h2 : ∀ b, b ∉ cs.map (·.2) → H b = none := fun b hb => by rw [hH]; exact if_neg hb
    refine main H (fun p hp => h1 _ (inT p hp)) (fun b => ?_) (.inr ⟨_, vs.toArray, _, hk, rfl, rfl, rfl, by rw [List.size_toArray, lv]; exact hl, by simpa using rv⟩) (fun b u z => ?_) (fun b z => ?_) fun z => absurd (h2 a aNo) z
    · by_cases hb : b ∈ cs.map (·.2)
      · exact .inr (.inl hb)
      · exact .inl (h2 b hb)
    · by_cases hb : b ∈ cs.map (·.2)
      · rw [h1 b hb] at z; cases z; exact tabAt b hb
      · rw [h2 b hb] at z; cases z
    · by_cases hb : b ∈ cs.map (·.2)
      · exact .inr hb
      · exact absurd (h2 b hb) z
  | none =>
    obtain ⟨ob, hob⟩ : ∃ ob : Obj, ob = { cls := .type "list", data := .seq vs.toArray } := ⟨_, rfl⟩
    obtain ⟨H, hH⟩ : ∃ H : Hp, H = fun b => if b = a then some (.frz ob (.lst (ns.map V.int))) else if b ∈ cs.map (·.2) then some (.tbl #[]) else none := ⟨_, rfl⟩
    have h0 : H a = some (.frz ob (.lst (ns.map V.int))) := by rw [hH]; simp
    have h1 : ∀ b, b ∈ cs.map (·.2) → H b = some (.tbl #[]) := fun b hb => by
      have : b ≠ a := fun z => aNo (z ▸ hb)
      rw [hH]; simp only [if_neg this, if_pos hb]
    have h2 : ∀ b, b ≠ a → b ∉ cs.map (·.2) → H b = none := fun b n hb => by rw [hH]; simp only [if_neg n, if_neg hb]
    refine main H (fun p hp => h1 _ (inT p hp)) (fun b => ?_) (.inl (.inr ⟨ob, h0⟩)) (fun b u z => ?_) (fun b z => ?_) fun _ => hk
    · by_cases hb : b = a
      · subst hb; exact .inr (.inr ⟨ob, _, h0⟩)
      · by_cases hc : b ∈ cs.map (·.2)
        · exact .inr (.inl hc)
        · exact .inl (h2 b hb hc)
    · by_cases hb : b = a
      · subst hb
        rw [h0] at z
        cases z
        subst hob
        exact ⟨ha, by rw [List.length_map]; exact hl, vs, _, rv, ha⟩
      · by_cases hc : b ∈ cs.map (·.2)
        · rw [h1 b hc] at z; cases z; exact tabAt b hc
        · rw [h2 b hb hc] at z; cases z
    · by_cases hb : b = a
      · exact .inl hb
      · by_cases hc : b ∈ cs.map (·.2)
        · exact .inr hc
        · exact absurd (h2 b hb hc) z

/-- the slots at the law's entry: the script, the names, the tables -/
def lawSl (N : Nat) (ns : List Int) : List Sl := .sh (.scr ns) :: (List.replicate (N - 2) .no ++ [.tb])
/-- the law's promise -/
def spLaw (K : PySem.W.Frag) (n : Nat) (T : List (Addr × Str)) : Sp := fun vs H Q E => ∃ (a : Addr) (ns : List Int), vs = [.ref a] ∧ ns.length ≤ n ∧ SqL K H a (ns.map V.int) ∧ (∀ p ∈ T, H p.1 = some (.tbl #[])) ∧ a ∉ T.map (·.1) ∧ (∀ v H', v = .bl true → Q v H')
def lawTau (T : List (Addr × Str)) : Tau := ⟨fun _ => none, none, none, T⟩
theorem lawRS {K : PySem.W.Frag} {mg : Str → Option Value} {T : List (Addr × Str)} {H : Hp} {a : Addr} {ns : List Int} {N : List Str} (h2 : 2 ≤ N.length) (sq : SqL K H a (ns.map V.int)) (tabs : ∀ p ∈ T, H p.1 = some (.tbl #[])) (na : a ∉ T.map (·.1)) :
    RS K mg (lawTau T) (fun _ => none) (fun b => if b ∈ T.map (·.1) then none else H b) (lawSl N.length ns) (L2.start N [.ref a]) H := by
  obtain ⟨O, hO⟩ : ∃ O : Addr → Option Nat, O = fun b => if b ∈ T.map (·.1) then some (N.length - 1) else none := ⟨_, rfl⟩
  have o1 : ∀ b, b ∈ T.map (·.1) → O b = some (N.length - 1) := fun b hb => by rw [hO]; exact if_pos hb
  have o2 : ∀ b i, O b = some i → b ∈ T.map (·.1) ∧ i = N.length - 1 := fun b i e => by
    rw [hO] at e
    by_cases hb : b ∈ T.map (·.1)
    · simp only [if_pos hb] at e; cases e; exact ⟨hb, rfl⟩
    · simp only [if_neg hb] at e; cases e
  refine ⟨O, fun b u e => ?_, fun b i e => ?_, (fun _ _ z => nomatch z), by simp [lawSl, L2.start]; omega, fun i s e => ?_⟩
  · by_cases hb : b ∈ T.map (·.1)
    · rw [if_pos hb] at e; cases e
    · rw [if_neg hb] at e; exact e
  · obtain ⟨hb, _⟩ := o2 b i e
    obtain ⟨p, hp, rfl⟩ := List.mem_map.mp hb
    exact ⟨if_pos hb, rfl, by rw [tabs p hp]; simp⟩
  · cases i with
    | zero =>
      simp [lawSl] at e
      subst e
      refine ⟨.ref a, by simp [L2.start], ?_⟩
      unfold Rep
      refine ⟨a, rfl, ?_⟩
      have e : (fun b => if b ∈ T.map (·.1) then none else H b) a = H a := if_neg na
      rcases sq with (h | ⟨o, h⟩) | h
      · exact .inl (.inl (e.trans h))
      · exact .inl (.inr ⟨o, e.trans h⟩)
      · exact .inr h
    | succ i =>
      unfold lawSl at e
      rw [List.getElem?_cons_succ] at e
      by_cases hi : i < N.length - 2
      · rw [List.getElem?_append_left (by simpa using hi), List.getElem?_replicate, if_pos hi] at e
        cases e
        trivial
      · rw [List.getElem?_append_right (by simpa using Nat.le_of_not_lt hi)] at e
        have hi2 : i - (N.length - 2) = 0 := by
          rcases Nat.eq_zero_or_pos (i - (N.length - 2)) with z | z
          · exact z
          · rw [List.length_replicate, List.getElem?_eq_none (by simp; omega)] at e; cases e
        rw [List.length_replicate, hi2] at e
        cases e
        have ei : i + 1 = N.length - 1 := by omega
        intro p hp
        refine ⟨#[], ?_, trivial, fun pos cv z => ?_⟩
        · unfold own
          rw [if_pos (by rw [ei]; exact o1 _ (List.mem_map_of_mem hp))]
          exact tabs p hp
        · have z' : codeAmong pos [] = some cv := z
          simp [codeAmong] at z'
/-- a law by its derivation -/
theorem fn_lawT {P : Program} {w : World} {K : PySem.W.Frag} {mg : Str → Option Value} {base : Heap} {x qual : Str} {st : Stmt} {f : Addr} {fd : FuncData} {N : List Str} {p : Str} {k n : Nat} {body : MS} {T : List (Addr × Str)} {c : Addr} (F : Fun K x qual st f fd) (S : FnScope N [p] (defScope st)) (h2 : 2 ≤ N.length) (hc : fd.code = .ref c)
    (hb : ∀ A outer s H E τ Ho G0 Ex hg room tk, τ.tb = T → DSs (mkZ P w K mg base N qual (defScope st) f (.ref c) A outer s H E τ Ho G0 Ex k true hg room tk) (defBody st) body)
    (law : ∀ ns : List Int, ns.length ≤ n → ∃ ρ, body (lawSl N.length ns) = .rt (.sh (.bl true)) ρ) : FnG true P w K mg base (k + 1) f fd [p] (spLaw K n T) := by
  have key : ∀ cdv, fd.code = cdv → cdv = .ref c := fun cdv e => e.symm.trans hc
  obtain ⟨oc, od, kV, doc, pm, an, cdv, ct, osl, rfl, lk, hcd⟩ := F.ex
  obtain rfl : cdv = .ref c := key cdv rfl
  refine ⟨fun vs H Q E h => by obtain ⟨a, ns, rfl, _⟩ := h; rfl, fun A hg outer s H args us vs Q E hr e0 hbd r hsp => ?_⟩
  obtain ⟨a, ns, rfl, hn, sq, tabs, na, hQ⟩ := hsp
  have kIn : K.In s.heap := e0.mod.kin.keeps fun b o e => (e0.bs b o e).1
  have noL : s.heap.NoLimit := e0.mod.nolimit.keeps fun b o e => (e0.bs b o e).1
  have hkind : ∀ y ∈ [p].zip us, (defScope st).names.lookup y.1 = some .local ∨ ((defScope st).names.lookup y.1 = some .cell ∧ ((cellsFrom (s.heap.objs.size + 1) (defScope st).names []).lookup y.1).isSome = true) := by
    rintro ⟨n, v⟩ hy
    rcases S.par n (List.of_mem_zip hy).1 with q | q
    · exact .inl q
    · exact .inr ⟨q, PySem.W.cellsFrom_some _ _ _ (.inl q)⟩
  refine codeAny_call_function hr.depth (kIn _ _ lk) rfl S.co S.gen rfl (PySem.W.codeRec_of kIn hcd) (hbd _ _ _ _ ?_)
  refine wpAny_newFunctionEnv_cells S.kind hkind fun env he s1 xx => ?_
  subst he
  refine ⟨noL.keeps xx.toInCall.keep, codeAny_func ?_⟩
  obtain ⟨G, hG⟩ : ∃ G : Hp, G = fun b => if b ∈ T.map (·.1) then none else H b := ⟨_, rfl⟩
  obtain ⟨ρ1, h1⟩ := law ns hn
  have rs0 : RS K mg (lawTau T) (fun _ => none) G (lawSl N.length ns) (L2.start N [.ref a]) H := by rw [hG]; exact lawRS h2 sq tabs na
  have tk : Takes (cxOf (L2.CX P w) P w K mg base N qual (defScope st) f (.ref c) A outer s H E) (fun cls d σ H => ∃ G1 ρ x, RS K mg (lawTau T) (fun _ => none) G1 ρ σ H ∧ Gr (fun _ => none) G G1 ∧ RepX K mg G1 x cls d ∧ False) :=
    (takes_of (E := E) rfl rfl rfl rfl).imp fun cls d σ H' ⟨_, _, _, _, _, _, z⟩ => z.elim
  obtain ⟨ts, pt, ht⟩ := hb A outer s H E (lawTau T) (fun _ => none) G (fun _ _ => False) hg (hr.deeper _) tk rfl
  have I : Inv (cxOf (L2.CX P w) P w K mg base N qual (defScope st) f (.ref c) A outer s H E) [] (L2.start N [.ref a]) H s1 := inv_start S hr.hd e0 (by rfl) r xx
  have hq : ts { nx := fun _ H' => Q .non H', rt := Q } (L2.start N [.ref a]) H := by
    refine ht (fun _ => none) (Same.refl _) G _ _ H _ ⟨rs0, Same.refl _, Gr.refl⟩ ?_
    rw [h1]
    intro v σ' G' H' y g
    obtain ⟨u, e1, e2⟩ := y.rs.sh (i := 0) rfl
    simp at e1
    subst e1
    unfold Rep at e2
    exact hQ v H' e2
  refine wpAny_mono (pt.run [] s1 (L2.start N [.ref a]) H _ I hq) (fun fl s' hs => ?_) fun e s' hs => hs
  cases fl with
  | ret u =>
    obtain ⟨v, σ', H', J, rv, q⟩ := hs
    exact ⟨v, H', J.os, J.bare, J.base, J.hok, rv, q⟩
  | next =>
    obtain ⟨σ', H', J, q⟩ := hs
    exact ⟨V.non, H', J.os, J.bare, J.base, J.hok, rfl, q⟩
  | brk =>
    obtain ⟨_, _, _, z⟩ := hs
    exact z.elim
  | cont =>
    obtain ⟨_, _, _, z⟩ := hs
    exact z.elim
/-- the tables of defs of the module's top -/
theorem walk_dsT {l : PySem.W.OpenLaw} {n k : Nat} {q : Program} {loose : List Str} {XP : (Str → Option Value) → Heap → Prop} {YP : World → Heap → Prop} {d : DefRec} {K : Params → PySem.W.Frag} {x : Str} (xs : List Str)
    (hn : l.most = some n) (hn2 : n ≤ sizeLine) (hdf : d.params.defaults = []) (hr : Room k callerA) (hY : ∀ (w : World) (h : Heap), YP w h → (K w.params).In h)
    (hq : ∀ y ∈ xs, ((recsOf q).find? (fun r => r.name == y)).isSome = true)
    (F : ∀ (w : World) (mg : Str → Option Value) (fa : Addr) (h : Heap), (K w.params).In h → h.Ns mainGlobals mg → mg d.name = some (.ref fa) →
      ∃ (fd : FuncData) (cs : List (Addr × Addr)) (T : List (Addr × Str)), T.map (·.1) = cs.map (·.2) ∧ (∀ e ∈ cs, ∃ y ∈ xs, PySem.W.tabIn (K w.params) y = some e ∧ (K w.params).lookup e.2 = none) ∧ (∀ (s : Shared) (u : Value), BindsTo s fd ⟨[u], []⟩ [(x, u)]) ∧
        ∀ base : Heap, (K w.params).In base → base.Ns mainGlobals mg → (∀ p ∈ cs, LamX.TabB base mg p.1 p.2) → FnG true l.prog w (K w.params) mg base k fa fd [x] (spLaw (K w.params) n T)) :
    PySem.W.WalkO q loose XP YP l.row.toRowW d [] (fun f vs => PySem.call f vs) := by
  refine Att.attach_call hn hdf fun w s₀ s₁ mg mb fa o pm cd doc a vs ns G Y ho hd hcd hmg hobj hints hlen hg => ?_
  have kin := hY w _ Y
  obtain ⟨fd, cs, T, hT, hcs, hb, hF⟩ := F w mg fa _ kin G.T.g hmg
  have tabs : ∀ e ∈ cs, PySem.W.CodeHd s₁.heap e.1 e.2 ∧ s₁.heap.get? e.2 = some { cls := .none, data := .fields #[] } := fun e he => by
    obtain ⟨y, hy, h2, _⟩ := hcs e he
    have h1 := hq y hy
    cases e1 : (recsOf q).find? (fun r => r.name == y) with
    | none => rw [e1] at h1; cases h1
    | some d' => exact PySem.W.tab_of G.T kin e1 h2
  have nT : ∀ e ∈ cs, (K w.params).lookup e.2 = none := fun e he => let ⟨_, _, _, h⟩ := hcs e he; h
  refine law_callGT kin G.T.g G.T.b G.T.builtins G.T.nolimit hg (fun e he => (tabs e he).2) nT (fun e he => (tabs e he).1) G.T.bmain hobj hints (Nat.le_trans hlen hn2) hr hF hb fun H ht na sq => ?_
  refine ⟨a, ns, rfl, hlen, sq, fun p hp => ?_, by rw [hT]; exact na, fun v H' e => e⟩
  have : p.1 ∈ cs.map (·.2) := by rw [← hT]; exact List.mem_map_of_mem hp
  obtain ⟨e, he, e2⟩ := List.mem_map.mp this
  rw [← e2]
  exact ht e he
theorem kit_nonO {K : PySem.W.Frag} {B : Addr} (h2 : PySem.W.isClsIn K B = true) (h3 : PySem.W.typeIn K (.ref B) = some (.type "type")) (h4 : PySem.W.subIn K (.type "NoneType") (.ref B) = some false) : PySem.W.kitOne K (.type "NoneType") (.ref B) = some false := by
  have h2' : (PySem.W.clsIn K B).isSome = true := h2
  unfold PySem.W.kitOne PySem.W.kitCls
  simp [h2', h3, h4]
theorem kit_b {K : PySem.W.Frag} {S : Addr} {c : String} {b : Bool} (h2 : PySem.W.kitMeta c = true) (h4 : PySem.W.subIn K (.ref S) (.type c) = some b) : PySem.W.kitOne K (.ref S) (.type c) = some b := by
  unfold PySem.W.kitOne PySem.W.kitCls
  simp [h2, h4]
theorem IsK.of {K : PySem.W.Frag} {mg : Str → Option Value} {l : List (Str × Bool)} {cv : Value} (h : ∀ p ∈ l, ∃ a, mg p.1 = some (.ref a) ∧ KxC K a ∧ PySem.W.kitOne K (.ref a) cv = some p.2) (non : PySem.W.kitOne K (.type "NoneType") cv = some false) : IsK K mg (fun x => l.lookup x) cv := ⟨fun x C b hx hb => by
  obtain ⟨a, h1, h2⟩ := h _ (look_mem hb)
  rw [show mg x = some (.ref a) from h1] at hx
  cases hx
  exact h2, non⟩

theorem tb_mem {T : List (Addr × Str)} {P : Addr} {q : Str} (h : T = [(P, q)]) : (P, q) ∈ T := by rw [h]; exact List.mem_cons_self
theorem tb_one {T : List (Addr × Str)} {P : Addr} {q : Str} (h : T = [(P, q)]) : ∀ p ∈ T, p.1 = P → p.2 = q := fun p hp _ => by
  rw [h] at hp
  cases List.mem_singleton.mp hp
  rfl
end DS

set_option Elab.async false
set_option linter.all false
set_option maxRecDepth 100000
set_option maxHeartbeats 1000000
/-! running thunks and kept exceptions by simp -/
namespace DS
open PySem PySem.Spec PyProof.Rows L2
variable {ρ ρ1 ρ' : List Sl} {x : Exn} {s r : Sl}
@[simp] theorem x_dLam (jt : Nat) (F : M Sl) : dLam jt F ρ = if isTb ρ[jt]? && noTh ρ then F ρ else .no := rfl
@[simp] theorem x_isTb : isTb (some .tb) = true := rfl
@[simp] theorem x_noTh0 : noTh [] = true := rfl
@[simp] theorem x_noTh1 : noTh (s :: ρ) = (noTh1 s && noTh ρ) := rfl
@[simp] theorem x_nt1 : noTh1 .no = true := rfl
@[simp] theorem x_nt2 {d : D} : noTh1 (.sh d) = true := rfl
@[simp] theorem x_nt3 {t : Option Nat} {d : D} : noTh1 (.ow t d) = true := rfl
@[simp] theorem x_nt4 {t : Option Nat} {R : Rsc} : noTh1 (.rs t R) = true := rfl
@[simp] theorem x_nt5 : noTh1 .tb = true := rfl
@[simp] theorem x_thOf1 : thOf (some (.th ρ)) = some ρ := rfl
@[simp] theorem x_thOf2 : thOf (some (.td ρ)) = some ρ := rfl
def tdO (f : List Sl → Res Sl) : Option (List Sl) → Res Sl
  | some ρ' => f ρ'
  | none => .no
@[simp] theorem x_tdO {f : List Sl → Res Sl} : tdO f (some ρ) = f ρ := rfl
def tdF : SR → Res Sl
  | .nx ρt => tdO (.ok (.sh .non)) (thOf ρt[0]?)
  | .rt s ρt => tdO (.ok (s.tagged none)) (thOf ρt[0]?)
  | .ex x ρt => tdO (.ex x) (thOf ρt[0]?)
  | _ => .no
theorem x_mkT {N : Nat} {body : MS} : mkT N body ρ = tdF (body (.th ρ :: List.replicate (N - 1) .no)) := by
  unfold mkT
  cases body (.th ρ :: List.replicate (N - 1) .no) with
  | nx ρt => simp only [tdF]; cases thOf ρt[0]? <;> rfl
  | rt s ρt => simp only [tdF]; cases thOf ρt[0]? <;> rfl
  | ex x ρt => simp only [tdF]; cases thOf ρt[0]? <;> rfl
  | bk ρt => rfl
  | ct ρt => rfl
  | no => rfl
@[simp] theorem x_tdF1 : tdF (.nx ρ) = tdO (.ok (.sh .non)) (thOf ρ[0]?) := rfl
@[simp] theorem x_tdF2 : tdF (.rt s ρ) = tdO (.ok (s.tagged none)) (thOf ρ[0]?) := rfl
@[simp] theorem x_tdF3 : tdF (.ex x ρ) = tdO (.ex x) (thOf ρ[0]?) := rfl
def actF (i : Nat) (t : M Sl) (ρ : List Sl) : Option Sl → Res Sl
  | some (.th ρc) => actR i ρ ρc (t (tagL 0 ρc))
  | _ => .no
@[simp] theorem x_dAct (i : Nat) (t : M Sl) : dAct i t ρ = actF i t ρ ρ[i]? := by
  unfold dAct actF
  cases ρ[i]? with
  | none => rfl
  | some s => cases s <;> rfl
@[simp] theorem x_actF {i : Nat} {t : M Sl} : actF i t ρ (some (.th ρ1)) = actR i ρ ρ1 (t (tagL 0 ρ1)) := rfl
@[simp] theorem x_actR1 {i : Nat} : actR i ρ ρ1 (.ok s ρ') = .ok ((s.tagged none).tagged none) (ρ.set i (.td (recL 0 ρ1 ρ'))) := rfl
@[simp] theorem x_actR2 {i : Nat} : actR i ρ ρ1 (.ex x ρ') = .ex x (ρ.set i (.td (recL 0 ρ1 ρ'))) := rfl
@[simp] theorem x_tagL0 {k : Nat} : tagL k [] = [] := rfl
@[simp] theorem x_tagL1 {k : Nat} : tagL k (s :: ρ) = tagL1 k s :: tagL (k + 1) ρ := rfl
@[simp] theorem x_tg1 {k : Nat} : tagL1 k .no = .no := rfl
@[simp] theorem x_tg2 {k : Nat} {d : D} : tagL1 k (.sh d) = .sh d := rfl
@[simp] theorem x_tg3 {k : Nat} {t : Option Nat} {d : D} : tagL1 k (.ow t d) = .ow (some k) d := rfl
@[simp] theorem x_tg4 {k : Nat} {t : Option Nat} {R : Rsc} : tagL1 k (.rs t R) = .rs (some k) R := rfl
@[simp] theorem x_tg5 {k : Nat} : tagL1 k .tb = .tb := rfl
@[simp] theorem x_recL0 {k : Nat} : recL k [] ρ = [] := by cases ρ <;> rfl
@[simp] theorem x_recL1 {k : Nat} : recL k (s :: ρ) (r :: ρ') = rec1 k s r :: recL (k + 1) ρ ρ' := rfl
@[simp] theorem x_rc1 {k : Nat} {d : D} : rec1 k (.sh d) r = .sh d := by cases r <;> rfl
@[simp] theorem x_rc2 {k : Nat} : rec1 k .no r = .no := by cases r <;> rfl
@[simp] theorem x_rc3 {k j : Nat} {t : Option Nat} {d d' : D} : rec1 k (.ow t d) (.ow (some j) d') = if j = k then .ow t d' else .no := rfl
@[simp] theorem x_rc4 {k j : Nat} {t : Option Nat} {R R' : Rsc} : rec1 k (.rs t R) (.rs (some j) R') = if j = k then .rs t R' else .no := rfl
@[simp] theorem x_rc5 {k : Nat} : rec1 k .tb .tb = .tb := rfl
def tryDF (i : Nat) (tab : Str → Option Bool) (su : MS) : SR → SR
  | .ex x ρ1 => tryD i su x ρ1 (tab x.cls)
  | r => r
@[simp] theorem x_sTryD {i : Nat} {tab : Str → Option Bool} {b su : MS} : sTryD i tab b su ρ = tryDF i tab su (b ρ) := by
  unfold sTryD
  cases b ρ <;> rfl
@[simp] theorem x_tdx {i : Nat} {tab : Str → Option Bool} {su : MS} : tryDF i tab su (.ex x ρ) = tryD i su x ρ (tab x.cls) := rfl
@[simp] theorem x_tdn {i : Nat} {tab : Str → Option Bool} {su : MS} : tryDF i tab su (.nx ρ) = .nx ρ := rfl
@[simp] theorem x_tdr {i : Nat} {tab : Str → Option Bool} {su : MS} : tryDF i tab su (.rt s ρ) = .rt s ρ := rfl
@[simp] theorem x_tryD1 {i : Nat} {su : MS} : tryD i su x ρ (some true) = sEndD i (su (ρ.set i (.sh (.exc x.cls x.fs)))) := rfl
@[simp] theorem x_tryD2 {i : Nat} {su : MS} : tryD i su x ρ (some false) = .ex x ρ := rfl
@[simp] theorem x_sEnd1 {i : Nat} : sEndD i (.nx ρ) = .nx (ρ.set i .no) := rfl
@[simp] theorem x_sEnd2 {i : Nat} : sEndD i (.rt s ρ) = .rt s (ρ.set i .no) := rfl
@[simp] theorem x_fIsK0 {tab : Str → Option Bool} : fIsK tab .non = some (.bl false) := rfl
@[simp] theorem x_fIsK1 {tab : Str → Option Bool} {c : Str} {fs : List (Str × D)} : fIsK tab (.exc c fs) = (tab c).map D.bl := rfl
@[simp] theorem x_fXf {ok : Str → Bool} {f c : Str} {fs : List (Str × D)} : fXf ok f (.exc c fs) = if ok c then fs.lookup f else none := rfl
@[simp] theorem x_isNx {c : Str} {fs : List (Str × D)} : fIsN (.exc c fs) .non = some (.bl false) := rfl
end DS

set_option Elab.async false
set_option linter.all false
set_option maxRecDepth 100000
set_option maxHeartbeats 2000000
namespace DS
open PySem PySem.Spec PyProof.Rows L2
section
variable {Z : DC} {m m1 m2 : Md} {a e : Expr} {ta t : M D} {pos p p2 pp px : Pos}
theorem ixN_lt {n j : Nat} {k : Int} (h : ixN n k = some j) : j < n := by
  unfold ixN at h
  split at h
  · split at h
    · cases h; omega
    · cases h
  · split at h
    · cases h; omega
    · cases h
/-- x[e] = v, x a list of one's own -/
def setR (i : Nat) (d k : D) (ρ : List Sl) : Option Sl → SR
  | some (.ow t (.lst ds)) => match k with
    | .int j => (match ixN ds.length j with
      | some n => .nx (ρ.set i (.ow t (.lst (ds.set n d))))
      | none => .no)
    | _ => .no
  | _ => .no
def sSetIx (i : Nat) (tk tv : M D) : MS := fun ρ => if isL ρ[i]? then (tv ρ).andS fun d ρ1 => if isL ρ1[i]? then (tk ρ1).andS fun k ρ2 => setR i d k ρ2 ρ2[i]? else .no else .no
theorem st_setIx {x : Str} {tk tv : M D} {ek ev : Expr} (i : Nat) (hk : DE Z m1 ek tk) (hv : DE Z m2 ev tv) (hb2 : m2.b = false := by rfl) (hN : Z.X.N[i]? = some x := by rfl) (hvis : Vis Z.X.env.scope x := by first | exact Or.inl rfl | exact Or.inr (Or.inl rfl) | exact Or.inr (Or.inr rfl))
    (hd : (x == ("__debug__" : Str)) = false := by decide) (hcd : (x == ("__classdict__" : Str)) = false := by decide)
    (hs : swapsWithSole [.Subscript (.Name x px) ek pp] ev pos.line Z.X.env = pure false := by rfl) (hw : swappedStores [.Subscript (.Name x px) ek pp] ev Z.X.env = pure none := by rfl)
    (h1 : (assignEach [.Subscript (.Name x px) ek pp] Z.X.env).map (·.2) = [assign (.Subscript (.Name x px) ek pp) Z.X.env] := by rfl)
    (hsub : ∀ v, assign (.Subscript (.Name x px) ek pp) Z.X.env v = (do
      let ov ← holding [v] (eval (.Name x px) Z.X.env)
      let iv ← holding [v, ov] (eval ek Z.X.env)
      standAt pp
      holding [v, ov, iv] (setItem ov iv v)
      release [v, ov, iv] []) := by intro _; rfl) :
    DSt Z (.Assign [.Subscript (.Name x px) ek pp] ev pos) (sSetIx i tk tv) := by
  obtain ⟨tek, pk, sk⟩ := hk
  obtain ⟨tev, pv, sv⟩ := hv
  refine ⟨_, ps_asg pv (pg_sub (pe_var (i := i) hN hvis hd hcd) pk set_list hsub) hs hw h1, fun Ho hw G ρ σ H E x q => ?_⟩
  unfold sSetIx at q
  by_cases hi : isL ρ[i]? = true
  · rw [if_pos hi] at q
    refine sv Ho hw G ρ σ H _ x (DE.thenS q fun d ρ1 v G1 H1 x1 g1 s1 b1 q1 => ?_)
    rw [hb2] at b1
    by_cases hi1 : isL ρ1[i]? = true
    · rw [if_pos hi1] at q1
      obtain ⟨t0, ds0, e0⟩ := isL_some hi1
      obtain ⟨l, vs0, z1, z2, _, _⟩ := x1.ownL e0
      refine ⟨.ref l, z1, ?_⟩
      refine sk Ho hw G1 ρ1 σ H1 _ x1 (DE.thenS (q1.from g1) fun k ρ2 kv G2 H2 x2 g2 s2 b2 q2 => ?_)
      cases e1 : ρ2[i]? with
      | none => rw [e1] at q2; exact q2.elim
      | some s =>
        rw [e1] at q2
        cases s <;> try (exact q2.elim)
        rename_i t1 dd
        cases dd <;> try (exact q2.elim)
        rename_i ds
        cases k <;> try (exact q2.elim)
        rename_i j
        obtain ⟨l', vs, z1', z2', z3', z4'⟩ := x2.ownL e1
        rw [z1] at z1'
        cases z1'
        simp only [setR] at q2
        cases ej : ixN ds.length j with
        | none => rw [ej] at q2; exact q2.elim
        | some nn =>
          rw [ej] at q2
          refine ⟨l, vs, j, nn, rfl, b2.int, z2', by rw [z3'.length]; exact ej, ?_⟩
          exact q2 σ G2 _ (z4' _ _ (z3'.set nn (Rep.mono g2.1 _ _ b1.rep))) g2
    · rw [if_neg hi1] at q1; exact q1.elim
  · rw [if_neg hi] at q; exact q.elim

/-- x[e], x[e'] = v, v' -/
def sSetK (i : Nat) (tk : M D) (d : D) : MS := fun ρ => if isL ρ[i]? then (tk ρ).andS fun k ρ2 => setR i d k ρ2 ρ2[i]? else .no
theorem setK_run {Ho : Hp} {tk : M D} {i : Nat} {tek : TE} {d : D} {v : V} {G H : Hp} {ρ : List Sl} {σ : L2.St} {Q : L2.St → Hp → Prop} {w : MS} {E : Ends} (hw : Same Z.Ho Ho)
    (sk : ∀ Ho, Same Z.Ho Ho → ∀ G ρ σ H Q, Z.R Ho G ρ σ H → LJ Z Ho m1 G H σ (tk ρ) Q → tek σ H Q) (y : Z.R Ho G ρ σ H) (rv : Z.rep G d v) (q : LX Z Ho G (sSeq (sSetK i tk d) w ρ) E)
    (k : ∀ ρ' G' H', Z.R Ho G' ρ' σ H' → Gr Ho G G' → LX Z Ho G' (w ρ') E → Q σ H') : gSub (tVar i) tek rSetL v σ H Q := by
  unfold sSeq sSetK at q
  by_cases hi : isL ρ[i]? = true
  · rw [if_pos hi] at q
    obtain ⟨t0, ds0, e0⟩ := isL_some hi
    obtain ⟨l, vs0, z1, z2, _, _⟩ := y.ownL e0
    refine ⟨.ref l, z1, ?_⟩
    cases ek : tk ρ with
    | no => rw [ek] at q; exact q.elim
    | ex x' ρ' => rw [ek] at q; exact sk Ho hw G ρ σ H _ y (by rw [ek]; exact q)
    | ok kd ρ2 =>
      rw [ek] at q
      refine sk Ho hw G ρ σ H _ y (by
        rw [ek]
        intro kv G2 H2 x2 g2 s2 b2
        cases e1 : ρ2[i]? with
        | none => simp only [Res.andS, e1, setR] at q; exact q.elim
        | some s =>
          simp only [Res.andS, e1] at q
          cases s <;> try (exact q.elim)
          rename_i t1 dd
          cases dd <;> try (exact q.elim)
          rename_i ds
          cases kd <;> try (exact q.elim)
          rename_i j
          obtain ⟨l', vs, z1', z2', z3', z4'⟩ := x2.ownL e1
          rw [z1] at z1'
          cases z1'
          simp only [setR] at q
          cases ej : ixN ds.length j with
          | none => rw [ej] at q; exact q.elim
          | some nn =>
            rw [ej] at q
            refine ⟨l, vs, j, nn, rfl, b2.int, z2', by rw [z3'.length]; exact ej, ?_⟩
            exact k _ G2 _ (z4' _ _ (z3'.set nn (Rep.mono g2.1 _ _ rv))) g2 (LX.from g2 q))
  · rw [if_neg hi] at q; exact q.elim

def sSwapIx (i : Nat) (t1 t2 : M D) (t : M (List D)) : MS := fun ρ => (t ρ).andS fun ds => match ds with
  | [d1, d2] => sSeq (sSetK i t1 d1) (sSeq (sSetK i t2 d2) sNil)
  | _ => fun _ => .no
theorem st_swapIx {x : Str} {k1 k2 v1 v2 : Expr} {t1 t2 : M D} {tv : M (List D)} {m1 m2 : Md} {px1 px2 pp1 pp2 pt pt2 : Pos} {kt kt2 : Nat} (i : Nat) (h1 : DE Z m1 k1 t1) (h2 : DE Z m2 k2 t2) (hv : DA Z [v1, v2] tv) (hN : Z.X.N[i]? = some x := by rfl) (hvis : Vis Z.X.env.scope x := by first | exact Or.inl rfl | exact Or.inr (Or.inl rfl) | exact Or.inr (Or.inr rfl))
    (hd : (x == ("__debug__" : Str)) = false := by decide) (hcd : (x == ("__classdict__" : Str)) = false := by decide)
    (hs : swapsWithSole [.Tuple [.Subscript (.Name x px1) k1 pp1, .Subscript (.Name x px2) k2 pp2] kt pt] (.Tuple [v1, v2] kt2 pt2) pos.line Z.X.env = pure false := by rfl)
    (hw : swappedStores [.Tuple [.Subscript (.Name x px1) k1 pp1, .Subscript (.Name x px2) k2 pp2] kt pt] (.Tuple [v1, v2] kt2 pt2) Z.X.env = pure none := by rfl)
    (ha : (assignEach [.Tuple [.Subscript (.Name x px1) k1 pp1, .Subscript (.Name x px2) k2 pp2] kt pt] Z.X.env).map (·.2) = [assign (.Tuple [.Subscript (.Name x px1) k1 pp1, .Subscript (.Name x px2) k2 pp2] kt pt) Z.X.env] := by rfl)
    (hn : (assignEach [.Subscript (.Name x px1) k1 pp1, .Subscript (.Name x px2) k2 pp2] Z.X.env).length = 2 := by rfl) (hst : (assignEach [.Subscript (.Name x px1) k1 pp1, .Subscript (.Name x px2) k2 pp2] Z.X.env).findIdx? (·.1) = none := by rfl)
    (hh : Z.hot = false := by rfl)
    (hc1 : (assignEach (.Subscript (.Name x px1) k1 pp1 :: [.Subscript (.Name x px2) k2 pp2]) Z.X.env).map (·.2) = assign (.Subscript (.Name x px1) k1 pp1) Z.X.env :: (assignEach [.Subscript (.Name x px2) k2 pp2] Z.X.env).map (·.2) := by rfl)
    (hc2 : (assignEach (.Subscript (.Name x px2) k2 pp2 :: []) Z.X.env).map (·.2) = assign (.Subscript (.Name x px2) k2 pp2) Z.X.env :: (assignEach [] Z.X.env).map (·.2) := by rfl)
    (hs1 : ∀ v, assign (.Subscript (.Name x px1) k1 pp1) Z.X.env v = (do
      let ov ← holding [v] (eval (.Name x px1) Z.X.env)
      let iv ← holding [v, ov] (eval k1 Z.X.env)
      standAt pp1
      holding [v, ov, iv] (setItem ov iv v)
      release [v, ov, iv] []) := by intro _; rfl)
    (hs2 : ∀ v, assign (.Subscript (.Name x px2) k2 pp2) Z.X.env v = (do
      let ov ← holding [v] (eval (.Name x px2) Z.X.env)
      let iv ← holding [v, ov] (eval k2 Z.X.env)
      standAt pp2
      holding [v, ov, iv] (setItem ov iv v)
      release [v, ov, iv] []) := by intro _; rfl) :
    DSt Z (.Assign [.Tuple [.Subscript (.Name x px1) k1 pp1, .Subscript (.Name x px2) k2 pp2] kt pt] (.Tuple [v1, v2] kt2 pt2) pos) (sSwapIx i t1 t2 tv) := by
  obtain ⟨te1, pk1, sk1⟩ := h1
  obtain ⟨te2, pk2, sk2⟩ := h2
  obtain ⟨tev, pv, sv⟩ := hv
  refine ⟨_, ps_asg (pe_tup pv) (pg_tup (Z.calm hh) (pgs_cons (pg_sub (pe_var (i := i) hN hvis hd hcd) pk1 set_list hs1) (pgs_cons (pg_sub (pe_var (i := i) hN hvis hd hcd) pk2 set_list hs2) pgs_nil hc2) hc1) hn hst) hs hw ha, fun Ho hw G ρ σ H E x q => ?_⟩
  refine sv Ho hw G ρ σ H _ x (DA.thenS q fun ds ρ1 vs G1 H1 x1 g1 r1 q1 => ?_)
  match ds, q1, r1 with
  | [d1, d2], q1, r1 =>
    unfold RepL at r1
    obtain ⟨w1, vs1, rfl, rw1, r1⟩ := r1
    unfold RepL at r1
    obtain ⟨w2, vs2, rfl, rw2, r1⟩ := r1
    unfold RepL at r1
    subst r1
    refine ⟨by show (2 : Nat) ≤ _; rw [big1]; omega, fun p hp => ⟨p, [w1, w2], rfl, SqT.of upd_same, rfl, w1, [w2], rfl, ?_⟩⟩
    have y := x1.garb (o := .tup [w1, w2]) hp
    refine setK_run hw sk1 y rw1 (q1.from g1) fun ρ' G' H' y' g' q' => ?_
    refine ⟨w2, [], rfl, ?_⟩
    refine setK_run hw sk2 y' (Rep.mono g'.1 _ _ rw2) q' fun ρ2 G2 H2 y2 g2 q2 => ?_
    exact ⟨rfl, q2 σ G2 H2 y2 Gr.refl⟩
  | [], q1, _ => exact q1.elim
  | [_], q1, _ => exact q1.elim
  | _ :: _ :: _ :: _, q1, _ => exact q1.elim
end
end DS

set_option Elab.async false
set_option linter.all false
set_option maxRecDepth 100000
set_option maxHeartbeats 2000000
namespace DS
open PySem PySem.Spec PyProof.Rows L2
section
variable {Z : DC} {m1 m2 : Md} {a b : Expr} {ta tb : M D} {pos p2 : Pos}
/-- list(e), a list of one's own -/
def dLstO (t : M D) : M Sl := bnd t fun d => lft ((fLstT d).map fun d' => Sl.ow none d')
theorem dr_lstO (hm : Z.X.mg "list" = none) (ha : DE Z m1 a ta) (hh : Z.hot = false := by rfl) (hg : Gl Z.X "list" := by rfl) (he : starEach (a :: []) Z.X.env = (false, eval a Z.X.env) :: starEach [] Z.X.env := by rfl) (hpl : (backTo pos (starEach [] Z.X.env)).any (·.1) = false := by rfl) :
    DR Z (.Call (.Name "list" p2) [a] [] pos) (dLstO ta) := by
  obtain ⟨tea, pa, sa⟩ := ha
  refine ⟨_, pe_callTy (CallR.or' call_list_of (call_listS (Z.calm hh))) hg hm (by decide +kernel) (pa_cons pa pa_nil he) (by decide) (by decide) he hpl, fun Ho hw G ρ σ H Q x q => ?_⟩
  refine sa Ho hw G ρ σ H _ x (DE.then (L := fun r => LR Z Ho G σ r Q) (fun _ _ h => h) (fun h => h) q fun d ρ1 v G1 H1 x1 g1 s1 b1 q1 => ?_)
  cases d <;> try (exact q1.elim)
  · rename_i y
    simp only [fLstT] at q1
    by_cases hz : y.length ≤ sizeLine
    · rw [if_pos hz] at q1
      refine .inr ⟨y, by rw [b1.str.1], hz, fun l hl => ?_⟩
      exact q1 (.ref l) G1 _ (x1.pushO (.lst (repL_signs b1.str.2)) hl) g1
    · rw [if_neg hz] at q1; exact q1.elim
  · obtain ⟨l0, vs, rfl, h1, h2⟩ := b1.tup
    exact .inl ⟨l0, vs, rfl, .inr (Same.sqt x1.gh h1), fun l hl => q1 (.ref l) G1 _ (x1.pushO (.lst h2) hl) g1⟩
  · obtain ⟨l0, vs, rfl, h1, h2⟩ := b1.lst x1.gh
    exact .inl ⟨l0, vs, rfl, .inl (SqL.of h1), fun l hl => q1 (.ref l) G1 _ (x1.pushO (.lst h2) hl) g1⟩
end
end DS

set_option Elab.async false
set_option linter.all false
set_option maxRecDepth 100000
set_option maxHeartbeats 2000000
namespace DS
open PySem PySem.Spec PyProof.Rows L2
def pairs2 (xs ys : List D) : List D := (xs.zip ys).map fun p => .tup [p.1, p.2]
theorem pairs2_length (xs ys : List D) : (pairs2 xs ys).length = min xs.length ys.length := by simp [pairs2]
theorem pairs2_get {xs ys : List D} {i : Nat} {d : D} (h : (pairs2 xs ys)[i]? = some d) : ∃ a b, xs[i]? = some a ∧ ys[i]? = some b ∧ d = .tup [a, b] := by
  unfold pairs2 at h
  rw [List.getElem?_map] at h
  cases e : (xs.zip ys)[i]? with
  | none => rw [e] at h; cases h
  | some p =>
    rw [e] at h
    cases h
    rw [List.getElem?_zip_eq_some] at e
    exact ⟨p.1, p.2, e.1, e.2, rfl⟩
theorem some_lt {α : Type} {xs : List α} {i : Nat} (h : i < xs.length) : ∃ x, xs[i]? = some x := ⟨xs[i], by simp [h]⟩
section
variable {Z : DC} {Ho : Hp} {m1 m2 : Md} {e1 e2 : Expr} {t1 t2 : M D} {pos p tpos : Pos} {elts : List Expr} {kk : Nat}
theorem it_zipL {xs ys : List V} {ds es : List D} {G1 : Hp} {a b : Addr} (hx : RepL Z.X.K Z.X.mg G1 ds xs) (hy : RepL Z.X.K Z.X.mg G1 es ys) (ha : ∀ H, Same G1 H → SqL Z.X.K H a xs) (hb : ∀ H, Same G1 H → SqL Z.X.K H b ys) : ItOk Z Ho (Itz Z.X.K a b) (pairs2 ds es) G1 where
  go := fun i H hi s => by
    rw [pairs2_length] at hi
    obtain ⟨x, h1⟩ := some_lt (xs := xs) (i := i) (by rw [hx.length]; omega)
    obtain ⟨y, h2⟩ := some_lt (xs := ys) (i := i) (by rw [hy.length]; omega)
    exact ⟨xs, ys, x, y, ha H s, hb H s, h1, h2⟩
  stop := fun H s => ⟨xs, ys, ha H s, hb H s, by rw [pairs2_length, hx.length, hy.length]; omega⟩
  yld := fun i d G ρ σ H x H' hd R s y => by
    obtain ⟨T, u, w, rfl, hT, rfl, q1, q2⟩ := y
    obtain ⟨d1, d2, h1, h2, rfl⟩ := pairs2_get hd
    obtain ⟨v1, g1, r1⟩ := hx.get h1
    obtain ⟨v2, g2, r2⟩ := hy.get h2
    have sH : Same G1 H := s.trans R.gh
    have z1 := q1 xs (ha H sH)
    have z2 := q2 ys (hb H sH)
    rw [z1] at g1; cases g1
    rw [z2] at g2; cases g2
    obtain ⟨R2, gg⟩ := R.allocF (o := .tup [u, w]) hT
    refine ⟨_, R2, gg, ?_⟩
    unfold DC.rep Rep
    exact ⟨T, _, rfl, SqT.of upd_same, RepL.cons (Rep.mono (s.trans gg.1) _ _ r1) (RepL.one (Rep.mono (s.trans gg.1) _ _ r2))⟩
def zipD : D → D → Option (List D)
  | .lst xs, .lst ys => some (pairs2 xs ys)
  | _, _ => none
def lZip (t1 t2 : M D) : M (List D) := bnd t1 fun d => bnd t2 fun e => lft (zipD d e)
theorem di_zip (hm : Z.X.mg "zip" = none) (h1 : DE Z m1 e1 t1) (h2 : DE Z m2 e2 t2) (hb1 : m1.b = false := by rfl) (hb2 : m2.b = false := by rfl) (hg : Gl Z.X "zip" := by first | rfl | decide) (hs : starEach [e1, e2] Z.X.env = (false, eval e1 Z.X.env) :: starEach [e2] Z.X.env := by rfl) (hs2 : starEach [e2] Z.X.env = (false, eval e2 Z.X.env) :: starEach [] Z.X.env := by rfl) (hpl : (backTo pos (starEach [e2] Z.X.env)).any (·.1) = false := by rfl) :
    DI Z (.Tuple elts kk tpos) (.Call (.Name "zip" p) [e1, e2] [] pos) (lZip t1 t2) := by
  obtain ⟨te1, pa1, sa1⟩ := h1
  obtain ⟨te2, pa2, sa2⟩ := h2
  refine ⟨_, RZ.pi_zipA hg hm (pa_cons pa1 (pa_cons pa2 pa_nil hs2) hs) hs hpl, fun Ho hw G ρ σ H R x q => ?_⟩
  refine sa1 Ho hw G ρ σ H _ x (DE.thenI q fun d ρ1 v G1 H1 x1 g1 b1 q1 => ?_)
  refine sa2 Ho hw G1 ρ1 σ H1 _ x1 (DE.then (L := fun r => LI Z Ho G σ r R) (fun _ _ h => h) (fun h => h) q1 fun e ρ2 w G2 H2 x2 g2 s2 b2 q2 => ?_)
  rw [hb1] at b1
  rw [hb2] at b2
  replace b1 := Rep.mono g2.1 _ _ b1.rep
  replace b2 := b2.rep
  cases d <;> try (exact q2.elim)
  cases e <;> try (exact q2.elim)
  rename_i ds es
  unfold Rep at b1 b2
  obtain ⟨a, xs, rfl, h1, r1⟩ := b1
  obtain ⟨b, ys, rfl, h2, r2⟩ := b2
  refine ⟨a, b, xs, ys, rfl, .inl ⟨SqL.of (x2.gh _ _ h1), SqL.of (x2.gh _ _ h2), ?_⟩⟩
  exact q2 _ G2 H2 x2 (g1.trans g2) (it_zipL r1 r2 (fun H s => SqL.of (s _ _ h1)) fun H s => SqL.of (s _ _ h2))
end
end DS

set_option Elab.async false
set_option linter.all false
set_option maxRecDepth 100000
set_option maxHeartbeats 2000000
namespace DS
open PySem PySem.Spec PyProof.Rows L2
/-- a call's end, all arguments being data -/
def finC (ρ : List Sl) : FR → Res Sl
  | .ok s _ => .ok s ρ
  | .ex x _ => .ex x ρ
  | .no => .no
def dKw (F : FS) (n m : Nat) (arr : List D → List D) (u w : M (List D)) : M Sl := bnd u fun ds => bnd w fun es ρ1 => if ds.length = n ∧ es.length = m then finC ρ1 (F ((arr (ds ++ es)).map Sl.sh)) else .no
section
variable {Z : DC} {Ho : Hp} {e : Expr} {es : List Expr} {kws : List Keyword} {pos p : Pos} {x : Str} {f : Addr} {u w : M (List D)} {k n : Nat} {fd : FuncData} {ps ks : List Str} {F : FS} {arr : List D → List D} {gg : Bool}
theorem pe_callKS {X : Cx} {sp : Sp} {E : L2.St → XK} {ta tk : TA} {g : List Value → List Value → List Value} {gV : List V → List V → List V} (O : FnG gg X.prog X.w X.K X.mg X.base k f fd ps sp) (gd : gg = true → X.A.guards = some []) (hr : Room k X.A) (hg : Gl X x) (hm : X.mg x = some (.ref f)) (hk : PySem.W.keepIn X.K (.ref f) = true) (hb : KBn X.K fd ps n ks g gV)
    (hx : ∀ σ, PassesAt (L2.CX X.prog X.w) X σ (E σ)) (ha : PA X (e :: es) ta) (hkw : PK X kws tk) (hall : (backToKw pos (keywordEach kws X.env)).all (·.1.isSome) = true) (hks : (backToKw pos (keywordEach kws X.env)).filterMap (·.1) = ks)
    (hdb : (x == ("__debug__" : Str)) = false) (he : starEach (e :: es) X.env = (false, eval e X.env) :: starEach es X.env) (hpl : ((backTo pos (starEach (e :: es) X.env)).any (·.1) || (backToKw pos (keywordEach kws X.env)).any (·.1.isNone)) = false) :
    PE X (.Call (.Name x p) (e :: es) kws pos) (fun σ H Q => ta σ H fun vs H1 => tk σ H1 fun zs H2 => vs.length = n ∧ zs.length = ks.length ∧ sp (gV vs zs) H2 Q (E σ)) := by
  refine ⟨fun pins s σ H Q I h => wpAny_Call_Name_kw (ld_glob I hg hm ?_ hdb)⟩
  refine PySem.W.callWith_KW (h₀ := X.base) I.ok.mod.kin hk hall (thn (ha.run pos pins s σ H _ I h) fun us s1 ⟨vs, H1, I1, ra, qa⟩ => ?_) hpl he
  refine thn (hkw.run pos pins s1 σ H1 _ I1 qa) fun ws s2 ⟨zs, H2, I2, rz, lv, lz, qz⟩ => ⟨I2.kIn, ?_⟩
  rw [hks]
  have run := O.run X.A gd X.stack s2 H2 ⟨us, ks.zip ws⟩ (g us ws) (gV vs zs) Q (E σ) hr I2.env0 (hb.to s2 us ws I2.kIn (ra.length.symm.trans lv) (rz.length.symm.trans lz)) (hb.rel ra rz) qz
  refine wpAny_call (codeAny_mono run fun r s' z => ?_)
  cases r with
  | error er => exact hx σ pins H2 s2 er s' I2 z
  | ok fl =>
    cases fl with
    | ret y => exact I2.after z
    | next => exact z.elim
    | brk => exact z.elim
    | cont => exact z.elim
theorem pe_callKS0 {X : Cx} {sp : Sp} {E : L2.St → XK} {tk : TA} {g : List Value → List Value → List Value} {gV : List V → List V → List V} (O : FnG gg X.prog X.w X.K X.mg X.base k f fd ps sp) (gd : gg = true → X.A.guards = some []) (hr : Room k X.A) (hg : Gl X x) (hm : X.mg x = some (.ref f)) (hk : PySem.W.keepIn X.K (.ref f) = true) (hb : KBn X.K fd ps 0 ks g gV)
    (hx : ∀ σ, PassesAt (L2.CX X.prog X.w) X σ (E σ)) (hkw : PK X kws tk) (hall : (backToKw pos (keywordEach kws X.env)).all (·.1.isSome) = true) (hks : (backToKw pos (keywordEach kws X.env)).filterMap (·.1) = ks)
    (hdb : (x == ("__debug__" : Str)) = false) (hpl : ((backTo pos (starEach [] X.env)).any (·.1) || (backToKw pos (keywordEach kws X.env)).any (·.1.isNone)) = false) :
    PE X (.Call (.Name x p) [] kws pos) (fun σ H Q => tk σ H fun zs H2 => zs.length = ks.length ∧ sp (gV [] zs) H2 Q (E σ)) := by
  refine ⟨fun pins s σ H Q I h => wpAny_Call_Name_kw (ld_glob I hg hm ?_ hdb)⟩
  refine PySem.W.callWith_KW0 (h₀ := X.base) I.ok.mod.kin hk hall ?_ hpl
  refine thn (hkw.run pos pins s σ H _ I h) fun ws s2 ⟨zs, H2, I2, rz, lz, qz⟩ => ⟨I2.kIn, ?_⟩
  rw [hks]
  have run := O.run X.A gd X.stack s2 H2 ⟨[] ++ [], ks.zip ws⟩ (g [] ws) (gV [] zs) Q (E σ) hr I2.env0 (hb.to s2 [] ws I2.kIn rfl (rz.length.symm.trans lz)) (hb.rel .nil rz) qz
  refine wpAny_call (codeAny_mono run fun r s' z => ?_)
  cases r with
  | error er => exact hx σ pins H2 s2 er s' I2 z
  | ok fl =>
    cases fl with
    | ret y => exact I2.after z
    | next => exact z.elim
    | brk => exact z.elim
    | cont => exact z.elim
/-- what the callee's promise asks -/
theorem kw_sp {G : Hp} {σ : L2.St} {ds' : List D} {rest : List V} {ρ2 : List Sl} {G2 H2 : Hp} {Q : VK} (hw : Same Z.Ho Ho) (x2 : Z.R Ho G2 ρ2 σ H2) (g2 : Gr Ho G G2) (r1 : RepL Z.X.K Z.X.mg G2 ds' rest) (l1 : rest.length = ps.length) (q : LR Z Ho G σ (finC ρ2 (F (ds'.map Sl.sh))) Q) :
    liftSp Z.X.K Z.X.mg ps.length F rest H2 Q (WE Z.W σ) := by
  have rl : ds'.length = rest.length := r1.length.symm
  obtain ⟨Ho', h1, z, bk⟩ := RS.split (ss := ds'.map Sl.sh) (us := rest.map some) (ρ := ρ2) (σ := σ) (x2.rs.pushes r1) (by simp [rl])
  refine ⟨l1, Z.τ, Ho', G2, _, z, ?_⟩
  unfold finC at q
  cases ef : F (ds'.map Sl.sh) with
  | no => rw [ef] at q; exact q.elim
  | ex y' ss' =>
    rw [ef] at q
    intro cls d G' H' r gr rx
    have t := bk G' ss' _ H' gr r
    have g' : Gr Ho G2 G' := gr.anti h1
    have lt := t.len
    simp only [List.length_append, List.length_map] at lt
    have l2 := x2.rs.len
    have t2 := RS.dropFront t (by simp only [List.length_map]; omega)
    exact ⟨G', _, y', t2.anti hw, x2.g0.trans (g'.anti hw), rx, q⟩
  | ok s ss' =>
    rw [ef] at q
    intro v G' H' r gr
    have t := bk G' (s :: ss') (some v :: rest.map some) H' gr r
    have g' : Gr Ho G2 G' := gr.anti h1
    have lt := t.len
    simp only [List.cons_append, List.length_cons, List.length_append, List.length_map] at lt
    have l2 := x2.rs.len
    have t2 := RS.dropMid (mid := ss') (mv := rest.map some) (by simpa using t) (by simp only [List.length_map]; omega)
    exact q v G' H' (x2.to t2 g') (g2.trans g')
/-- f(e, .., k = v, ..), data alone -/
theorem dr_kw (O : FnG gg Z.X.prog Z.X.w Z.X.K Z.X.mg Z.X.base k f fd ps (liftSp Z.X.K Z.X.mg ps.length F)) (hgg : gg = true → Z.g = true) (hk : k ≤ Z.k) (hm : Z.X.mg x = some (.ref f)) (kp : PySem.W.keepIn Z.X.K (.ref f) = true) (B : KwF Z.X.K Z.X.mg fd ps n ks arr) (ha : DA Z (e :: es) u) (hw' : DK Z kws w)
    (hg : Gl Z.X x := by first | rfl | decide) (hall : (backToKw pos (keywordEach kws Z.X.env)).all (·.1.isSome) = true := by rfl) (hks : (backToKw pos (keywordEach kws Z.X.env)).filterMap (·.1) = ks := by rfl)
    (hdb : (x == ("__debug__" : Str)) = false := by decide) (he : starEach (e :: es) Z.X.env = (false, eval e Z.X.env) :: starEach es Z.X.env := by rfl) (hpl : ((backTo pos (starEach (e :: es) Z.X.env)).any (·.1) || (backToKw pos (keywordEach kws Z.X.env)).any (·.1.isNone)) = false := by rfl) (hh : Z.hot = false := by rfl) :
    DR Z (.Call (.Name x p) (e :: es) kws pos) (dKw F n ks.length arr u w) := by
  obtain ⟨ta, pa, sa⟩ := ha
  obtain ⟨tk, pk, sk⟩ := hw'
  obtain ⟨g, gV, hb, hr⟩ := B.ex
  refine ⟨_, pe_callKS (E := WE Z.W) O (fun h => Z.gd (hgg h)) ((Z.room hh).mono hk) hg hm kp hb (passAt Z.tk) pa pk hall hks hdb he hpl, fun Ho hw G ρ σ H Q x q => ?_⟩
  refine sa Ho hw G ρ σ H _ x (DA.then (L := fun r => LR Z Ho G σ r Q) (fun _ _ h => h) (fun h => h) q fun ds ρ1 vs G1 H1 x1 g1 b1 q1 => ?_)
  refine sk Ho hw G1 ρ1 σ H1 _ x1 (DA.then (L := fun r => LR Z Ho G σ r Q) (fun _ _ h => h) (fun h => h) q1 fun es' ρ2 zs G2 H2 x2 g2 b2 q2 => ?_)
  by_cases hl : ds.length = n ∧ es'.length = ks.length
  · rw [if_pos hl] at q2
    have lv : vs.length = n := b1.length.trans hl.1
    have lz : zs.length = ks.length := b2.length.trans hl.2
    obtain ⟨r1, l1⟩ := hr G2 ds es' vs zs (RepL.mono g2.1 _ _ b1) b2 lv lz
    exact ⟨lv, lz, kw_sp hw x2 (g1.trans g2) r1 l1 q2⟩
  · rw [if_neg hl] at q2; exact q2.elim
theorem dr_kw0 (O : FnG gg Z.X.prog Z.X.w Z.X.K Z.X.mg Z.X.base k f fd ps (liftSp Z.X.K Z.X.mg ps.length F)) (hgg : gg = true → Z.g = true) (hk : k ≤ Z.k) (hm : Z.X.mg x = some (.ref f)) (kp : PySem.W.keepIn Z.X.K (.ref f) = true) (B : KwF Z.X.K Z.X.mg fd ps 0 ks arr) (hw' : DK Z kws w)
    (hg : Gl Z.X x := by first | rfl | decide) (hall : (backToKw pos (keywordEach kws Z.X.env)).all (·.1.isSome) = true := by rfl) (hks : (backToKw pos (keywordEach kws Z.X.env)).filterMap (·.1) = ks := by rfl)
    (hdb : (x == ("__debug__" : Str)) = false := by decide) (hpl : ((backTo pos (starEach [] Z.X.env)).any (·.1) || (backToKw pos (keywordEach kws Z.X.env)).any (·.1.isNone)) = false := by rfl) (hh : Z.hot = false := by rfl) :
    DR Z (.Call (.Name x p) [] kws pos) (dKw F 0 ks.length arr dNil w) := by
  obtain ⟨tk, pk, sk⟩ := hw'
  obtain ⟨g, gV, hb, hr⟩ := B.ex
  refine ⟨_, pe_callKS0 (E := WE Z.W) O (fun h => Z.gd (hgg h)) ((Z.room hh).mono hk) hg hm kp hb (passAt Z.tk) pk hall hks hdb hpl, fun Ho hw G ρ σ H Q x q => ?_⟩
  refine sk Ho hw G ρ σ H _ x (DA.then (L := fun r => LR Z Ho G σ r Q) (fun _ _ h => h) (fun h => h) (show LR Z Ho G σ ((w ρ).bind fun es ρ1 => if ([] : List D).length = 0 ∧ es.length = ks.length then finC ρ1 (F ((arr ([] ++ es)).map Sl.sh)) else .no) Q from q) fun es' ρ2 zs G2 H2 x2 g2 b2 q2 => ?_)
  by_cases hl : ([] : List D).length = 0 ∧ es'.length = ks.length
  · rw [if_pos hl] at q2
    have lz : zs.length = ks.length := b2.length.trans hl.2
    obtain ⟨r1, l1⟩ := hr G2 [] es' [] zs RepL.nil b2 rfl lz
    exact ⟨lz, kw_sp hw x2 g2 r1 l1 q2⟩
  · rw [if_neg hl] at q2; exact q2.elim
end
end DS

set_option Elab.async false
set_option linter.all false
set_option maxRecDepth 100000
set_option maxHeartbeats 2000000
namespace DS
open PySem PySem.Spec PyProof.Rows L2
section
variable {Z : DC} {m1 m2 : Md} {a b : Expr} {ta tb : M D} {pos : Pos}
/-- [..] * n, a list of one's own -/
def dRepO (ta tb : M D) : M Sl := bnd ta fun d => bnd tb fun e => lft ((fRep d e).map (Sl.ow none))
theorem dr_repO (ha : DE Z m1 a ta) (hb : DE Z m2 b tb) (hb1 : m1.b = false := by rfl) : DR Z (.BinOp a .Mult b pos) (dRepO ta tb) := by
  obtain ⟨tea, pa, sa⟩ := ha
  obtain ⟨teb, pb, sb⟩ := hb
  refine ⟨_, pe_op op_rep pa pb, fun Ho hw G ρ σ H Q x q => ?_⟩
  refine sa Ho hw G ρ σ H _ x (DE.then (L := fun r => LR Z Ho G σ r Q) (fun _ _ h => h) (fun h => h) q fun d ρ1 v G1 H1 x1 g1 s1 b1 q1 => ?_)
  refine sb Ho hw G1 ρ1 σ H1 _ x1 (DE.then (L := fun r => LR Z Ho G σ r Q) (fun _ _ h => h) (fun h => h) q1 fun e ρ2 w G2 H2 x2 g2 s2 b2 q2 => ?_)
  rw [hb1] at b1
  have b1' : Z.BR false G2 H2 d v := .inl (Rep.mono g2.1 _ _ b1.rep)
  cases d <;> cases e <;> try (exact q2.elim)
  rename_i xs k
  unfold fRep at q2
  by_cases hz : (small64 (2 * k + 1) && decide (xs.length * k.toNat ≤ sizeLine)) = true
  · simp only [if_pos hz] at q2
    rw [Bool.and_eq_true] at hz
    have z1 := small64_of hz.1
    have z2 := of_decide_eq_true hz.2
    obtain ⟨l, vs, rfl, h1, h2⟩ := b1'.lst x2.gh
    have l1 := h2.length
    refine ⟨l, k, vs, rfl, b2.int, h1, by omega, by omega, by rw [l1]; exact z2, fun p hp => ?_⟩
    exact q2 (.ref p) G2 _ (x2.pushO (.lst (h2.rep _)) hp) (g1.trans g2)
  · simp only [if_neg hz] at q2
    exact q2.elim
end
end DS

set_option Elab.async false
set_option linter.all false
set_option maxRecDepth 100000
set_option maxHeartbeats 2000000
namespace DS
open PySem PySem.Spec PyProof.Rows L2
/-- the items at these places -/
def perm {α : Type} (ix : List Nat) (l : List α) : List α := ix.filterMap fun i => l[i]?
theorem perm_len {α : Type} {l : List α} : ∀ {ix : List Nat}, (∀ i ∈ ix, i < l.length) → (perm ix l).length = ix.length
  | [], _ => rfl
  | i :: ix, h => by
    have hi := h i List.mem_cons_self
    have ih := perm_len (l := l) (ix := ix) fun j hj => h j (List.mem_cons_of_mem _ hj)
    unfold perm at ih ⊢
    rw [List.filterMap_cons, List.getElem?_eq_getElem hi]
    simp [ih]
theorem vals_at : ∀ {vs : List V} {us : List Value} (i : Nat), Vals vs us → (vs[i]? = none ∧ us[i]? = none) ∨ ∃ v u, vs[i]? = some v ∧ us[i]? = some u ∧ RelV v u
  | _, _, i, .nil => .inl ⟨by simp, by simp⟩
  | _, _, 0, .cons r _ => .inr ⟨_, _, rfl, rfl, r⟩
  | _, _, i + 1, .cons _ t => by simpa using vals_at i t
theorem vals_perm {vs : List V} {us : List Value} (h : Vals vs us) : ∀ ix : List Nat, Vals (perm ix vs) (perm ix us)
  | [] => .nil
  | i :: ix => by
    have ih := vals_perm h ix
    unfold perm at ih ⊢
    rcases vals_at i h with ⟨e1, e2⟩ | ⟨v, u, e1, e2, r⟩
    · simp only [List.filterMap_cons, e1, e2]; exact ih
    · simp only [List.filterMap_cons, e1, e2]; exact .cons r ih
theorem repL_perm {K : PySem.W.Frag} {mg : Str → Option Value} {G : Hp} {ds : List D} {vs : List V} (h : RepL K mg G ds vs) : ∀ ix : List Nat, RepL K mg G (perm ix ds) (perm ix vs)
  | [] => RepL.nil
  | i :: ix => by
    have ih := repL_perm h ix
    unfold perm at ih ⊢
    cases e : ds[i]? with
    | none =>
      have hl := h.length
      have : vs[i]? = none := by
        rw [List.getElem?_eq_none_iff] at e ⊢
        omega
      simp only [List.filterMap_cons, e, this]; exact ih
    | some d =>
      obtain ⟨v, e1, r⟩ := h.get e
      simp only [List.filterMap_cons, e, e1]; exact RepL.cons r ih
theorem kwF_of {K : PySem.W.Frag} {mg : Str → Option Value} {x : Str} {st : Stmt} {ps ks : List Str} {f : Addr} {fd : FuncData} {n : Nat} (ix : List Nat) (A : FnAt K mg x st ps f fd) (hi : ix.length = ps.length) (hr : ∀ i ∈ ix, i < n + ks.length)
    (h : ∀ (kV doc pm : Value) (an : Option Addr) (cdv ct : Value) (us ws : List Value), us.length = n → ws.length = ks.length → bindArgs (PySem.W.fnOf x x (defArgs st) (defBody st) (defScope st) .none kV doc pm an cdv ct) ⟨us, ks.zip ws⟩ = pure (ps.zip (perm ix (us ++ ws)))) : KwF K mg fd ps n ks (perm ix) := by
  obtain ⟨oc, od, kV, doc, pm, an, cdv, ct, osl, rfl, lk, hcd⟩ := A.fn.ex
  refine ⟨fun us ws => perm ix (us ++ ws), fun vs zs => perm ix (vs ++ zs), ⟨fun s us ws _ l1 l2 => .of_eq (h kV doc pm an cdv ct us ws l1 l2), fun r1 r2 => vals_perm (r1.append r2) ix⟩, fun G ds es vs zs r1 r2 l1 l2 => ⟨repL_perm (r1.append r2) ix, ?_⟩⟩
  rw [perm_len fun i hm => ?_, hi]
  rw [List.length_append, l1, l2]
  exact hr i hm
/-- a def of the module with its text -/
structure FdA (g : Bool) (P : Program) (w : World) (K : PySem.W.Frag) (mg : Str → Option Value) (base : Heap) (x : Str) (st : Stmt) (ps : List Str) (k : Nat) (F : FS) : Prop where
  ex : ∃ f fd, FnAt K mg x st ps f fd ∧ FnG g P w K mg base k f fd ps (liftSp K mg ps.length F)
theorem fda_of {g : Bool} {P : Program} {w : World} {K : PySem.W.Frag} {mg : Str → Option Value} {base : Heap} {x : Str} {st : Stmt} {f : Addr} {fd : FuncData} {N ps : List Str} {k : Nat} {body : MS} (A : FnAt K mg x st ps f fd) (S : FnScope N ps (defScope st))
    (hb : ∀ cdv A outer s H E τ Ho G0 Ex hg room tk, DSs (mkZ P w K mg base N x (defScope st) f cdv A outer s H E τ Ho G0 Ex k g hg room tk) (defBody st) body) : FdA g P w K mg base x st ps (k + 1) (mkF ps.length N.length body) :=
  ⟨f, fd, A, fn_ds A.fn S hb⟩
theorem FdA.fd {g : Bool} {P : Program} {w : World} {K : PySem.W.Frag} {mg : Str → Option Value} {base : Heap} {x : Str} {st : Stmt} {ps : List Str} {k : Nat} {F : FS} (O : FdA g P w K mg base x st ps k F) : Fd g P w K mg base x k ps.length F := by
  obtain ⟨f, fd, A, G⟩ := O.ex
  exact ⟨f, fd, ps, A.mg, A.fn.kp, A.bi, G⟩
section
variable {Z : DC} {e : Expr} {es : List Expr} {kws : List Keyword} {pos p : Pos} {x : Str} {u w : M (List D)} {k n : Nat} {ps ks : List Str} {F : FS} {gg : Bool} {st : Stmt}
/-- f(k = v, ..) of a def of the module -/
theorem dr_fnK0 (ix : List Nat) (O : FdA gg Z.X.prog Z.X.w Z.X.K Z.X.mg Z.X.base x st ps k F) (hw' : DK Z kws w) (hi : ix.length = ps.length) (hr : ∀ i ∈ ix, i < 0 + ks.length)
    (h : ∀ (kV doc pm : Value) (an : Option Addr) (cdv ct : Value) (us ws : List Value), us.length = 0 → ws.length = ks.length → bindArgs (PySem.W.fnOf x x (defArgs st) (defBody st) (defScope st) .none kV doc pm an cdv ct) ⟨us, ks.zip ws⟩ = pure (ps.zip (perm ix (us ++ ws))))
    (hgg : gg = true → Z.g = true := by first | exact fun h => nomatch h | exact fun h => h | exact fun _ => rfl) (hk : k ≤ Z.k := by exact Nat.le_of_ble_eq_true rfl)
    (hg : Gl Z.X x := by first | rfl | decide) (hall : (backToKw pos (keywordEach kws Z.X.env)).all (·.1.isSome) = true := by rfl) (hks : (backToKw pos (keywordEach kws Z.X.env)).filterMap (·.1) = ks := by rfl)
    (hdb : (x == ("__debug__" : Str)) = false := by decide) (hpl : ((backTo pos (starEach [] Z.X.env)).any (·.1) || (backToKw pos (keywordEach kws Z.X.env)).any (·.1.isNone)) = false := by rfl) (hh : Z.hot = false := by rfl) :
    DR Z (.Call (.Name x p) [] kws pos) (dKw F 0 ks.length (perm ix) dNil w) := by
  obtain ⟨f, fd, A, G⟩ := O.ex
  exact dr_kw0 G hgg hk A.mg A.fn.kp (kwF_of ix A hi hr h) hw' hg hall hks hdb hpl hh
/-- f(e, .., k = v, ..) of a def of the module -/
theorem dr_fnK (n : Nat) (ix : List Nat) (O : FdA gg Z.X.prog Z.X.w Z.X.K Z.X.mg Z.X.base x st ps k F) (ha : DA Z (e :: es) u) (hw' : DK Z kws w) (hi : ix.length = ps.length) (hr : ∀ i ∈ ix, i < n + ks.length)
    (h : ∀ (kV doc pm : Value) (an : Option Addr) (cdv ct : Value) (us ws : List Value), us.length = n → ws.length = ks.length → bindArgs (PySem.W.fnOf x x (defArgs st) (defBody st) (defScope st) .none kV doc pm an cdv ct) ⟨us, ks.zip ws⟩ = pure (ps.zip (perm ix (us ++ ws))))
    (hgg : gg = true → Z.g = true := by first | exact fun h => nomatch h | exact fun h => h | exact fun _ => rfl) (hk : k ≤ Z.k := by exact Nat.le_of_ble_eq_true rfl)
    (hg : Gl Z.X x := by first | rfl | decide) (hall : (backToKw pos (keywordEach kws Z.X.env)).all (·.1.isSome) = true := by rfl) (hks : (backToKw pos (keywordEach kws Z.X.env)).filterMap (·.1) = ks := by rfl)
    (hdb : (x == ("__debug__" : Str)) = false := by decide) (he : starEach (e :: es) Z.X.env = (false, eval e Z.X.env) :: starEach es Z.X.env := by rfl) (hpl : ((backTo pos (starEach (e :: es) Z.X.env)).any (·.1) || (backToKw pos (keywordEach kws Z.X.env)).any (·.1.isNone)) = false := by rfl) (hh : Z.hot = false := by rfl) :
    DR Z (.Call (.Name x p) (e :: es) kws pos) (dKw F n ks.length (perm ix) u w) := by
  obtain ⟨f, fd, A, G⟩ := O.ex
  exact dr_kw G hgg hk A.mg A.fn.kp (kwF_of ix A hi hr h) ha hw' hg hall hks hdb he hpl hh
end
end DS

set_option Elab.async false
set_option linter.all false
set_option maxRecDepth 100000
set_option maxHeartbeats 2000000
namespace DS
open PySem PySem.Spec PyProof.Rows L2
/-! ### classes: constructors with defaults, properties -/
/-- a def with the positional defaults dV -/
structure FunB (K : PySem.W.Frag) (x qual : Str) (st : Stmt) (dV : Value) (f : Addr) (fd : FuncData) : Prop where
  ex : ∃ (oc : Value) (od : Option Addr) (kV doc pm : Value) (an : Option Addr) (cdv ct : Value) (osl : Array (Option Value)),
    fd = PySem.W.fnOf x qual (defArgs st) (defBody st) (defScope st) dV kV doc pm an cdv ct ∧ K.lookup f = some ⟨oc, od, .func fd, osl⟩ ∧ PySem.W.codeIn K cdv qual = true
  kp : PySem.W.keepIn K (.ref f) = true
theorem funB_mk {K : PySem.W.Frag} {x qual : Str} {st : Stmt} {dV : Value} {f : Addr} {oc : Value} {od an : Option Addr} {osl : Array (Option Value)} {kV doc pm cdv ct : Value} (l : K.lookup f = some ⟨oc, od, .func (PySem.W.fnOf x qual (defArgs st) (defBody st) (defScope st) dV kV doc pm an cdv ct), osl⟩)
    (c : PySem.W.codeIn K cdv qual = true) (k : PySem.W.keepIn K (.ref f) = true) : FunB K x qual st dV f (PySem.W.fnOf x qual (defArgs st) (defBody st) (defScope st) dV kV doc pm an cdv ct) := ⟨⟨oc, od, kV, doc, pm, an, cdv, ct, osl, rfl, l, c⟩, k⟩
theorem fnG_ofB {g : Bool} {P : Program} {w : World} {K : PySem.W.Frag} {mg : Str → Option Value} {base : Heap} {k : Nat} {x qual : Str} {st : Stmt} {dV : Value} {f : Addr} {fd : FuncData} {N ps : List Str} {sp : Sp} (F : FunB K x qual st dV f fd) (S : FnScope N ps (defScope st))
    (len : ∀ vs H Q E, sp vs H Q E → vs.length = ps.length)
    (hbody : ∀ (cdv : Value) (A : Around), (g = true → A.guards = some []) → ∀ (outer : List Env) (s : Shared) (H : Hp) (vs : List V) (Q : VK) (E : XK), Room k (A.deeper (envOfC qual (defScope st) s.heap.objs.size f cdv)) → sp vs H Q E →
      ∃ t, PSs (cxOf (L2.CX P w) P w K mg base N qual (defScope st) f cdv A outer s H E) (defBody st) t ∧ t { nx := fun _ H' => Q .non H', rt := Q } (L2.start N vs) H) : FnG g P w K mg base (k + 1) f fd ps sp := by
  obtain ⟨oc, od, kV, doc, pm, an, cdv, ct, osl, rfl, lk, hcd⟩ := F.ex
  refine ⟨len, fun A hg outer s H args us vs Q E hr e0 hb r hsp => ?_⟩
  have kIn : K.In s.heap := e0.mod.kin.keeps fun b o e => (e0.bs b o e).1
  have noL : s.heap.NoLimit := e0.mod.nolimit.keeps fun b o e => (e0.bs b o e).1
  have hkind : ∀ y ∈ ps.zip us, (defScope st).names.lookup y.1 = some .local ∨ ((defScope st).names.lookup y.1 = some .cell ∧ ((cellsFrom (s.heap.objs.size + 1) (defScope st).names []).lookup y.1).isSome = true) := by
    rintro ⟨n, v⟩ hy
    rcases S.par n (List.of_mem_zip hy).1 with q | q
    · exact .inl q
    · exact .inr ⟨q, PySem.W.cellsFrom_some _ _ _ (.inl q)⟩
  refine codeAny_call_function hr.depth (kIn _ _ lk) rfl S.co S.gen rfl (PySem.W.codeRec_of kIn hcd) (hb _ _ _ _ ?_)
  refine wpAny_newFunctionEnv_cells S.kind hkind fun env he s1 x => ?_
  subst he
  refine ⟨noL.keeps x.toInCall.keep, codeAny_func ?_⟩
  obtain ⟨t, ht, hq⟩ := hbody cdv A hg outer s H vs Q E (hr.deeper _) hsp
  have I : Inv (cxOf (L2.CX P w) P w K mg base N qual (defScope st) f cdv A outer s H E) [] (L2.start N vs) H s1 := inv_start S hr.hd e0 (len _ _ _ _ hsp) r x
  refine wpAny_mono (ht.run [] s1 (L2.start N vs) H _ I hq) (fun fl s' hs => ?_) fun e s' hs => hs
  cases fl with
  | ret u =>
    obtain ⟨v, σ', H', J, rv, q⟩ := hs
    exact ⟨v, H', J.os, J.bare, J.base, J.hok, rv, q⟩
  | next =>
    obtain ⟨σ', H', J, q⟩ := hs
    exact ⟨V.non, H', J.os, J.bare, J.base, J.hok, rfl, q⟩
  | brk =>
    obtain ⟨_, _, _, z⟩ := hs
    exact z.elim
  | cont =>
    obtain ⟨_, _, _, z⟩ := hs
    exact z.elim
theorem fn_dsB {g : Bool} {P : Program} {w : World} {K : PySem.W.Frag} {mg : Str → Option Value} {base : Heap} {x qual : Str} {st : Stmt} {dV : Value} {f : Addr} {fd : FuncData} {N ps : List Str} {k : Nat} {body : MS} (F : FunB K x qual st dV f fd) (S : FnScope N ps (defScope st))
    (hb : ∀ cdv A outer s H E τ Ho G0 Ex hg room tk, DSs (mkZ P w K mg base N qual (defScope st) f cdv A outer s H E τ Ho G0 Ex k g hg room tk) (defBody st) body) : FnG g P w K mg base (k + 1) f fd ps (liftSp K mg ps.length (mkF ps.length N.length body)) := by
  refine fnG_ofB F S (fun vs H Q E h => h.1) fun cdv A hg outer s H vs Q E hr h => ?_
  obtain ⟨hl, τ, Ho, G, ss, r, h⟩ := h
  have r0 := r.enter (N := N)
  rw [hl] at r0
  have tk : Takes (cxOf (L2.CX P w) P w K mg base N qual (defScope st) f cdv A outer s H E) (fun cls d σ H => ∃ G1 ρ x, RS K mg (tags vs) Ho G1 ρ σ H ∧ Gr Ho G G1 ∧ RepX K mg G1 x cls d ∧ body (tagFrom 0 ss ++ List.replicate (N.length - ps.length) .no) = .ex x ρ) := by
    refine (takes_of rfl rfl rfl rfl).imp fun cls d σ H' ⟨G1, ρ1, x, h1, h2, h3, h4⟩ => ?_
    unfold mkF at h
    rw [h4] at h
    have y := (h1.push (d := .non) (v := .non) rep_non).exit (τ := τ)
    rw [hl] at y
    exact h cls d G1 H' y.pop h2 h3
  obtain ⟨ts, pt, ht⟩ := hb cdv A outer s H E (tags vs) Ho G (fun x ρ => body (tagFrom 0 ss ++ List.replicate (N.length - ps.length) .no) = .ex x ρ) hg hr tk
  refine ⟨ts, pt, ht Ho (Same.refl _) G _ _ H _ ⟨r0, Same.refl _, Gr.refl⟩ ?_⟩
  unfold mkF at h
  suffices z : ∀ r1, r1 = body (tagFrom 0 ss ++ List.replicate (N.length - ps.length) .no) → LX _ Ho G r1 _ from z _ rfl
  intro r1 e
  cases r1 with
  | nx ρ =>
    rw [← e] at h
    intro σ' G' H' x' g'
    have y := (x'.rs.push (d := .non) (v := .non) rep_non).exit (τ := τ)
    rw [hl] at y
    exact h _ _ _ y g'
  | rt s1 ρ =>
    rw [← e] at h
    intro v σ' G' H' x' g'
    have y := x'.rs.exit (τ := τ)
    rw [hl] at y
    exact h _ _ _ y g'
  | bk ρ => rw [← e] at h; exact h.elim
  | ct ρ => rw [← e] at h; exact h.elim
  | ex y ρ => exact e.symm
  | no => rw [← e] at h; exact h.elim
/-- a property, as its readers have it -/
structure Pr (P : Program) (w : World) (K : PySem.W.Frag) (mg : Str → Option Value) (base : Heap) (c f : Str) (k : Nat) (F : FS) : Prop where
  ex : ∃ C pp g fd ps, KlAt K mg c C ∧ PropOf K C f pp g ∧ Binds K fd ps [] ∧ FnG false P w K mg base k g fd ps (liftSp K mg 1 F)
/-- what the module's top leaves of a property -/
structure PrAt (K : PySem.W.Frag) (mg : Str → Option Value) (c f : Str) (st : Stmt) (ps : List Str) (C pp g : Addr) (fd : FuncData) : Prop where
  kl : KlAt K mg c C
  pr : PropOf K C f pp g
  fn : Fun K f (c ++ "." ++ f) st g fd
  bi : Binds K fd ps []
theorem pr_of {P : Program} {w : World} {K : PySem.W.Frag} {mg : Str → Option Value} {base : Heap} {c f p : Str} {st : Stmt} {C pp g : Addr} {fd : FuncData} {N : List Str} {k : Nat} {body : MS} (A : PrAt K mg c f st [p] C pp g fd) (S : FnScope N [p] (defScope st))
    (hb : ∀ cdv A outer s H E τ Ho G0 Ex hg room tk, DSs (mkZ P w K mg base N (c ++ "." ++ f) (defScope st) g cdv A outer s H E τ Ho G0 Ex k false hg room tk) (defBody st) body) : Pr P w K mg base c f (k + 1) (mkF 1 N.length body) :=
  ⟨C, pp, g, fd, [p], A.kl, A.pr, A.bi, fn_ds A.fn S hb⟩
theorem dr_pr {Z : DC} {m : Md} {e : Expr} {t : M D} {pos : Pos} {c f : Str} {k : Nat} {F : FS} (O : Pr Z.X.prog Z.X.w Z.X.K Z.X.mg Z.X.base c f k F) (h : DE Z m e t) (hk : k + 1 ≤ Z.k := by exact Nat.le_of_ble_eq_true rfl) (hbb : m.b = false := by rfl)
    (hab : attributeBase e f Z.X.env (eval e Z.X.env) = eval e Z.X.env := by rfl) (hh : Z.hot = false := by rfl) : DR Z (.Attribute e f pos) (dProp F c t) := by
  obtain ⟨C, pp, g, fd, ps, kl, hp, hb, G⟩ := O.ex
  exact dr_prop kl hp G hk hb h hbb hab hh
/-- a constructor's positional defaults: none, or so many -/
def DfV (K : PySem.W.Frag) (dV : Value) : Option Nat → Prop
  | none => dV = .none
  | some d => ∃ T o its n, dV = .ref T ∧ K.lookup T = some o ∧ o.data = .seq its n ∧ its.size = d
/-- a constructor by its __init__ -/
structure Ct (P : Program) (w : World) (K : PySem.W.Frag) (mg : Str → Option Value) (base : Heap) (c : Str) (st : Stmt) (ps : List Str) (nd : Option Nat) (k : Nat) (F : FS) : Prop where
  ex : ∃ C g fd dV, KlAt K mg c C ∧ Mk K C g ∧ FunB K "__init__" (c ++ ".__init__") st dV g fd ∧ DfV K dV nd ∧ FnG false P w K mg base k g fd ps (liftSp K mg ps.length F)
structure CtAt (K : PySem.W.Frag) (mg : Str → Option Value) (c : Str) (st : Stmt) (nd : Option Nat) (C g : Addr) (fd : FuncData) (dV : Value) : Prop where
  kl : KlAt K mg c C
  mkr : Mk K C g
  fn : FunB K "__init__" (c ++ ".__init__") st dV g fd
  df : DfV K dV nd
theorem ct_of {P : Program} {w : World} {K : PySem.W.Frag} {mg : Str → Option Value} {base : Heap} {c : Str} {st : Stmt} {nd : Option Nat} {C g : Addr} {fd : FuncData} {dV : Value} {N ps : List Str} {k : Nat} {body : MS} (A : CtAt K mg c st nd C g fd dV) (S : FnScope N ps (defScope st))
    (hb : ∀ cdv A outer s H E τ Ho G0 Ex hg room tk, DSs (mkZ P w K mg base N (c ++ ".__init__") (defScope st) g cdv A outer s H E τ Ho G0 Ex k false hg room tk) (defBody st) body) : Ct P w K mg base c st ps nd (k + 1) (mkF ps.length N.length body) :=
  ⟨C, g, fd, dV, A.kl, A.mkr, A.fn, A.df, fn_dsB A.fn S hb⟩
theorem perm_succ {α : Type} {x : α} {l : List α} : ∀ ix : List Nat, perm (ix.map Nat.succ) (x :: l) = perm ix l
  | [] => rfl
  | i :: ix => by
    have ih := perm_succ (x := x) (l := l) ix
    unfold perm at ih ⊢
    simp only [List.map_cons, List.filterMap_cons, List.getElem?_cons_succ, ih]
theorem perm_zero {α : Type} {x : α} {l : List α} (ix : List Nat) : perm (0 :: ix.map Nat.succ) (x :: l) = x :: perm ix l := by
  have h := perm_succ (x := x) (l := l) ix
  unfold perm at h ⊢
  simp only [List.filterMap_cons, List.getElem?_cons_zero, h]
def BdV (x qual : Str) (st : Stmt) (ps ks : List Str) (n : Nat) (ix : List Nat) : Option Nat → Prop
  | none => ∀ (kV doc pm : Value) (an : Option Addr) (cdv ct : Value) (us ws : List Value), us.length = n + 1 → ws.length = ks.length →
      bindArgs (PySem.W.fnOf x qual (defArgs st) (defBody st) (defScope st) .none kV doc pm an cdv ct) ⟨us, ks.zip ws⟩ = pure (ps.zip (perm (0 :: ix.map Nat.succ) (us ++ ws)))
  | some d => ∀ (T : Addr) (kV doc pm : Value) (an : Option Addr) (cdv ct : Value) (us ws its : List Value), us.length = n + 1 → ws.length = ks.length → its.length = d →
      ∃ k, bindArgs (PySem.W.fnOf x qual (defArgs st) (defBody st) (defScope st) (.ref T) kV doc pm an cdv ct) ⟨us, ks.zip ws⟩ = seqItems? (.ref T) >>= k ∧ k (some its.toArray) = pure (ps.zip (perm (0 :: ix.map Nat.succ) (us ++ ws)))
/-- what a constructor's call binds, every parameter given -/
theorem kwM_of {K : PySem.W.Frag} {mg : Str → Option Value} {x qual : Str} {st : Stmt} {dV : Value} {nd : Option Nat} {f : Addr} {fd : FuncData} {ps ks : List Str} {n : Nat} (ix : List Nat) (A : FunB K x qual st dV f fd) (hD : DfV K dV nd)
    (hi : ix.length + 1 = ps.length) (hr : ∀ i ∈ ix, i < n + ks.length) (h : BdV x qual st ps ks n ix nd) : KwM K mg fd ps n ks (perm ix) := by
  obtain ⟨oc, od, kV, doc, pm, an, cdv, ct, osl, rfl, lk, hcd⟩ := A.ex
  refine ⟨fun us ws => perm (0 :: ix.map Nat.succ) (us ++ ws), fun vs zs => perm (0 :: ix.map Nat.succ) (vs ++ zs), ⟨fun s us ws X l1 l2 => ?_, fun r1 r2 => vals_perm (r1.append r2) _⟩, fun G ds es vs zs y r1 r2 l1 l2 => ⟨perm ix (vs ++ zs), ?_, repL_perm (r1.append r2) ix, ?_⟩⟩
  · cases nd with
    | none =>
      have e : dV = .none := hD
      subst e
      exact .of_eq (h kV doc pm an cdv ct us ws l1 l2)
    | some d =>
      obtain ⟨T, o, its, m, rfl, lT, oT, sz⟩ := hD
      obtain ⟨k, e1, e2⟩ := h T kV doc pm an cdv ct us ws its.toList l1 l2 (by simpa using sz)
      refine BindsTo.of_looks fun M => ?_
      rw [e1]
      exact looks_items X lT oT (.of_pure (by simpa using e2))
  · show perm (0 :: ix.map Nat.succ) (y :: (vs ++ zs)) = _
    rw [perm_zero]
  · rw [perm_len fun i hm => ?_, hi]
    rw [List.length_append, l1, l2]
    exact hr i hm
/-- C(e, .., k = v, ..) -/
theorem dr_ct {Z : DC} {e : Expr} {es : List Expr} {kws : List Keyword} {pos p : Pos} {c : Str} {u w : M (List D)} {nd : Option Nat} {k : Nat} {ps ks : List Str} {st : Stmt} {F : FS} (n : Nat) (ix : List Nat) (O : Ct Z.X.prog Z.X.w Z.X.K Z.X.mg Z.X.base c st ps nd k F) (ha : DA Z (e :: es) u) (hw' : DK Z kws w)
    (hi : ix.length + 1 = ps.length) (hr : ∀ i ∈ ix, i < n + ks.length) (h : BdV "__init__" (c ++ ".__init__") st ps ks n ix nd) (hk : k + 1 ≤ Z.k := by exact Nat.le_of_ble_eq_true rfl)
    (hg : Gl Z.X c := by first | rfl | decide) (hall : (backToKw pos (keywordEach kws Z.X.env)).all (·.1.isSome) = true := by rfl) (hks : (backToKw pos (keywordEach kws Z.X.env)).filterMap (·.1) = ks := by rfl)
    (hdb : (c == ("__debug__" : Str)) = false := by decide) (he : starEach (e :: es) Z.X.env = (false, eval e Z.X.env) :: starEach es Z.X.env := by rfl) (hpl : ((backTo pos (starEach (e :: es) Z.X.env)).any (·.1) || (backToKw pos (keywordEach kws Z.X.env)).any (·.1.isNone)) = false := by rfl) (hh : Z.hot = false := by rfl) :
    DR Z (.Call (.Name c p) (e :: es) kws pos) (dMake F c n ks.length (perm ix) u w) := by
  obtain ⟨C, g, fd, dV, kl, mk, A, hD, G⟩ := O.ex
  exact dr_makeN kl mk G hk (kwM_of ix A hD hi hr h) ha hw' hg hall hks hdb he hpl hh
end DS

set_option Elab.async false
set_option linter.all false
set_option maxRecDepth 100000
set_option maxHeartbeats 2000000
namespace DS
open PySem PySem.Spec PyProof.Rows L2
/-! ### x.extend(e) -/
def extR (ρ : List Sl) (i : Nat) (d : D) : Option Sl → SR
  | some (.ow t (.lst ds)) => match d with
    | .lst es => if ds.length + es.length ≤ sizeLine then .nx (ρ.set i (.ow t (.lst (ds ++ es)))) else .no
    | _ => .no
  | _ => .no
def sExt (i : Nat) (t : M D) : MS := fun ρ => if isL ρ[i]? then (t ρ).andS fun d ρ1 => extR ρ1 i d ρ1[i]? else .no
section
variable {Z : DC} {Ho : Hp} {m m1 m2 : Md} {e a b : Expr} {es : List Expr} {t : M D} {pos pos' p px apos : Pos}
theorem st_ext {x : Str} (i : Nat) (h : DE Z m e t) (hb : m.b = false := by rfl) (hN : Z.X.N[i]? = some x := by rfl) (hv : Vis Z.X.env.scope x := by first | exact Or.inl rfl | exact Or.inr (Or.inl rfl) | exact Or.inr (Or.inr rfl))
    (hd : (x == ("__debug__" : Str)) = false := by decide) (hcd : (x == ("__classdict__" : Str)) = false := by decide)
    (hbase : attributeBase (.Name x px) "extend" Z.X.env (eval (.Name x px) Z.X.env) = eval (.Name x px) Z.X.env := by rfl)
    (hfew : ((backTo pos (starEach (e :: []) Z.X.env)).all (fun x => !x.1) && (backToKw pos (keywordEach [] Z.X.env)).all (fun x => x.1.isSome)
      && decide ((e :: ([] : List Expr)).length + ([] : List Keyword).length + (if ([] : List Keyword).isEmpty then 0 else 1) < 30)) = true := by rfl)
    (hline : (apos.endLine == pos.line) = true := by rfl) (hs : starEach (e :: []) Z.X.env = (false, eval e Z.X.env) :: starEach [] Z.X.env := by rfl) (hplain : (backTo pos (starEach [] Z.X.env)).any (·.1) = false := by rfl)
    (hsw : swapsWith (.Call (.Attribute (.Name x px) "extend" apos) [e] [] pos) none pos'.line Z.X.env = pure false := by rfl) :
    DSt Z (.Expr (.Call (.Attribute (.Name x px) "extend" apos) [e] [] pos) pos') (sExt i t) := by
  obtain ⟨te, pa, sa⟩ := h
  refine ⟨_, ps_expr (pe_bm PySem.F.plainAttrs_list PySem.F.slot_list_extend PySem.F.type_list_extend mt_extend (pe_var hN hv hd hcd) (pa_cons pa pa_nil hs) hbase hfew hline hs hplain) hsw, fun Ho hw G ρ σ H E x q => ?_⟩
  unfold sExt at q
  by_cases hi : isL ρ[i]? = true
  · rw [if_pos hi] at q
    obtain ⟨t0, ds0, e0⟩ := isL_some hi
    obtain ⟨a, vs0, h1, h2, _, _⟩ := x.ownL e0
    refine ⟨.ref a, h1, .inl ⟨rfl, vs0, SqL.of h2⟩, ?_⟩
    refine sa Ho hw G ρ σ H _ x (DE.thenS q fun d ρ1 v G1 H1 x1 g1 s1 b1 q1 => ?_)
    rw [hb] at b1
    unfold extR at q1
    cases e1 : ρ1[i]? with
    | none => simp only [e1] at q1; exact q1.elim
    | some s =>
      cases s <;> try (simp only [e1] at q1; exact q1.elim)
      rename_i t1 dd
      cases dd <;> try (simp only [e1] at q1; exact q1.elim)
      rename_i ds
      cases d <;> try (simp only [e1] at q1; exact q1.elim)
      rename_i es
      simp only [e1] at q1
      by_cases hz : ds.length + es.length ≤ sizeLine
      · rw [if_pos hz] at q1
        obtain ⟨a', vs, h1', h2', h3', h4'⟩ := x1.ownL e1
        rw [h1] at h1'
        cases h1'
        have br := b1.rep
        unfold Rep at br
        obtain ⟨b', zs, rfl, gb, rz⟩ := br
        exact ⟨a, b', vs, zs, rfl, rfl, h2', x1.gh _ _ gb, by rw [h3'.length, rz.length]; exact hz, q1 σ G1 _ (h4' _ _ (h3'.append rz)) g1⟩
      · rw [if_neg hz] at q1; exact q1.elim
  · rw [if_neg hi] at q; exact q.elim
end
/-! ### methods of own classes -/
/-- a method, as its callers have it -/
structure Me (g : Bool) (P : Program) (w : World) (K : PySem.W.Frag) (mg : Str → Option Value) (base : Heap) (c m : Str) (k n : Nat) (F : FS) : Prop where
  ex : ∃ C f fd ps, KlAt K mg c C ∧ Meth K C m f ∧ Binds K fd ps [] ∧ FnG g P w K mg base k f fd ps (liftSp K mg n F)
structure MeAt (K : PySem.W.Frag) (mg : Str → Option Value) (c m : Str) (st : Stmt) (ps : List Str) (C f : Addr) (fd : FuncData) : Prop where
  kl : KlAt K mg c C
  me : Meth K C m f
  fn : Fun K m (c ++ "." ++ m) st f fd
  bi : Binds K fd ps []
theorem me_of {g : Bool} {P : Program} {w : World} {K : PySem.W.Frag} {mg : Str → Option Value} {base : Heap} {c m : Str} {st : Stmt} {C f : Addr} {fd : FuncData} {N ps : List Str} {k : Nat} {body : MS} (A : MeAt K mg c m st ps C f fd) (S : FnScope N ps (defScope st))
    (hb : ∀ cdv A outer s H E τ Ho G0 Ex hg room tk, DSs (mkZ P w K mg base N (c ++ "." ++ m) (defScope st) f cdv A outer s H E τ Ho G0 Ex k g hg room tk) (defBody st) body) : Me g P w K mg base c m (k + 1) ps.length (mkF ps.length N.length body) :=
  ⟨C, f, fd, ps, A.kl, A.me, A.bi, fn_ds A.fn S hb⟩
section
variable {X : Cx} {k n : Nat} {f C : Addr} {fd : FuncData} {ps : List Str} {sp : Sp} {m : Str} {p pos apos : Pos} {o e : Expr} {es : List Expr} {g : Bool}
theorem pe_methG {E : L2.St → XK} {to : TE} {ta : TA} {pl : Sem Bool} (he : PE X o to) (c : Cls X.K C) (hm : Meth X.K C m f) (F : FnG g X.prog X.w X.K X.mg X.base k f fd ps sp) (gd : g = true → X.A.guards = some []) (hr : Room k X.A) (hb : Binds X.K fd ps [])
    (hx : ∀ σ, PassesAt (L2.CX X.prog X.w) X σ (E σ)) (ha : PA X (e :: es) ta) (hst : starEach (e :: es) X.env = (false, eval e X.env) :: starEach es X.env) (hpl : (backTo pos (starEach es X.env)).any (·.1) = false)
    (ht : eval (.Call (.Attribute o m apos) (e :: es) [] pos) X.env = (do
      let ov ← eval o X.env
      standAt apos.atName
      let (f, first) ← holding [ov] (getMethod ov m pl)
      callWith pos f first (backTo pos (starEach (e :: es) X.env)) (backToKw pos (keywordEach [] X.env)))) :
    PE X (.Call (.Attribute o m apos) (e :: es) [] pos) (fun σ H Q => to σ H fun x H1 => ∃ a dx fs, x = .ref a ∧ H1 a = some (.ins C dx fs) ∧ fs.lookup m = none ∧ ta σ H1 fun vs H2 => sp (x :: vs) H2 Q (E σ)) := by
  refine ⟨fun pins s σ H Q I h => ?_⟩
  refine PySem.W.methodCall_KW (pl := pl) (thn (he.run pins s σ H _ I h) fun u s1 ⟨x, H1, I1, rx, a, dx, fs, ex, ea, l, q⟩ => ?_) ht
  subst ex
  obtain rfl : u = Value.ref a := rx
  refine getmeth_ok I1 ea c hm l ?_
  refine PySem.W.callWith_K (first := [.ref a]) (h₀ := X.base) I.ok.mod.kin hm.kp (thn (ha.run pos pins s1 σ H1 _ I1 q) fun us s2 ⟨vs, H2, I2, r, q2⟩ => ⟨I2.kIn, ?_⟩) hst hpl
  have r2 : Vals (V.ref a :: vs) (Value.ref a :: us) := .cons rfl r
  have hl : (Value.ref a :: us).length = ps.length := by rw [← r2.length]; exact F.len _ _ _ _ q2
  have bi := hb s2 (Value.ref a :: us) I2.kIn (by rw [List.append_nil]; exact hl)
  rw [List.append_nil] at bi
  refine wpAny_call (codeAny_mono (F.run X.A gd X.stack s2 H2 ⟨Value.ref a :: us, []⟩ (Value.ref a :: us) (V.ref a :: vs) Q (E σ) hr I2.env0 bi r2 q2) fun r s' hq => ?_)
  cases r with
  | error e => exact hx σ pins H2 s2 e s' I2 hq
  | ok fl =>
    cases fl with
    | ret u => exact I2.after hq
    | next => exact hq.elim
    | brk => exact hq.elim
    | cont => exact hq.elim
theorem pe_methG0 {E : L2.St → XK} {to : TE} {pl : Sem Bool} (he : PE X o to) (c : Cls X.K C) (hm : Meth X.K C m f) (F : FnG g X.prog X.w X.K X.mg X.base k f fd ps sp) (gd : g = true → X.A.guards = some []) (hr : Room k X.A) (hb : Binds X.K fd ps [])
    (hx : ∀ σ, PassesAt (L2.CX X.prog X.w) X σ (E σ))
    (ht : eval (.Call (.Attribute o m apos) [] [] pos) X.env = (do
      let ov ← eval o X.env
      standAt apos.atName
      let (f, first) ← holding [ov] (getMethod ov m pl)
      callWith pos f first (backTo pos (starEach [] X.env)) (backToKw pos (keywordEach [] X.env)))) :
    PE X (.Call (.Attribute o m apos) [] [] pos) (fun σ H Q => to σ H fun x H1 => ∃ a dx fs, x = .ref a ∧ H1 a = some (.ins C dx fs) ∧ fs.lookup m = none ∧ sp [x] H1 Q (E σ)) := by
  refine ⟨fun pins s σ H Q I h => ?_⟩
  refine PySem.W.methodCall_KW (pl := pl) (thn (he.run pins s σ H _ I h) fun u s1 ⟨x, H1, I1, rx, a, dx, fs, ex, ea, l, q⟩ => ?_) ht
  subst ex
  obtain rfl : u = Value.ref a := rx
  refine getmeth_ok I1 ea c hm l ?_
  refine PySem.W.callWith_K0 (first := [.ref a]) I1.kIn hm.kp ?_
  have r2 : Vals [V.ref a] [Value.ref a] := .cons rfl .nil
  have hl : [Value.ref a].length = ps.length := by rw [← r2.length]; exact F.len _ _ _ _ q
  have bi := hb s1 [Value.ref a] I1.kIn (by rw [List.append_nil]; exact hl)
  rw [List.append_nil] at bi
  refine wpAny_call (codeAny_mono (F.run X.A gd X.stack s1 H1 ⟨[Value.ref a] ++ [], []⟩ [Value.ref a] [V.ref a] Q (E σ) hr I1.env0 bi r2 q) fun r s' hq => ?_)
  cases r with
  | error e => exact hx σ pins H1 s1 e s' I1 hq
  | ok fl =>
    cases fl with
    | ret u => exact I1.after hq
    | next => exact hq.elim
    | brk => exact hq.elim
    | cont => exact hq.elim
end
/-- the call, by what is passed -/
def callK (F : FS) (rs : List (Option Nat)) (ds : List D) (ρ1 : List Sl) : Res Sl := match mk rs ds ρ1 with
  | none => .no
  | some (ss, ρ2) => match F ss with
    | .ok s ss' => if ss'.length = ss.length then .ok s (back rs ss' ρ1 ρ2) else .no
    | .ex x ss' => if ss'.length = ss.length then .ex x (back rs ss' ρ1 ρ2) else .no
    | .no => .no
/-- has the slot an object of this class, without an own attribute m -/
def isOM (c m : Str) : Option Sl → Bool
  | some (.ow _ (.obj c' fs)) => decide (c' = c) && (fs.lookup m).isNone
  | _ => false
/-- x.m(e, ..), x an object of one's own -/
def dMethR (F : FS) (c m : Str) (i : Nat) (rs : List (Option Nat)) (u : M (List D)) : M Sl := fun ρ => if isOM c m ρ[i]? then (u ρ).bind fun ds ρ1 => callK F (some i :: rs) ds ρ1 else .no
def isOD (c m : Str) : D → Bool
  | .obj c' fs => decide (c' = c) && (fs.lookup m).isNone
  | _ => false
/-- o.m(e, ..), o data -/
def dMethD (F : FS) (c m : Str) (t : M D) (rs : List (Option Nat)) (u : M (List D)) : M Sl := bnd t fun d ρ1 => if isOD c m d then (u ρ1).bind fun ds ρ2 => callK F (none :: rs) (d :: ds) ρ2 else .no
section
variable {Z : DC} {Ho : Hp} {md : Md} {o e : Expr} {es : List Expr} {t : M D} {pos p px apos : Pos} {rs : List (Option Nat)} {u : M (List D)} {x c m : Str} {k n : Nat} {F : FS} {g : Bool} {pl : Sem Bool}
theorem isOM_some {s : Option Sl} (h : isOM c m s = true) : ∃ t fs, s = some (.ow t (.obj c fs)) ∧ fs.lookup m = none := by
  match s, h with
  | some (.ow t (.obj c' fs)), h =>
    simp only [isOM, Bool.and_eq_true, decide_eq_true_eq, Option.isNone_iff_eq_none] at h
    obtain ⟨rfl, h2⟩ := h
    exact ⟨t, fs, rfl, h2⟩
theorem isOD_some {d : D} (h : isOD c m d = true) : ∃ fs, d = .obj c fs ∧ fs.lookup m = none := by
  match d, h with
  | .obj c' fs, h =>
    simp only [isOD, Bool.and_eq_true, decide_eq_true_eq, Option.isNone_iff_eq_none] at h
    obtain ⟨rfl, h2⟩ := h
    exact ⟨fs, rfl, h2⟩
theorem dr_meR (i : Nat) (O : Me g Z.X.prog Z.X.w Z.X.K Z.X.mg Z.X.base c m k n F) (ha : DAr Z (e :: es) rs u) (hgg : g = true → Z.g = true := by first | exact fun h => nomatch h | exact fun h => h | exact fun _ => rfl) (hk : k ≤ Z.k := by exact Nat.le_of_ble_eq_true rfl) (hn : rs.length + 1 = n := by rfl)
    (hN : Z.X.N[i]? = some x := by rfl) (hv : Vis Z.X.env.scope x := by first | exact Or.inl rfl | exact Or.inr (Or.inl rfl) | exact Or.inr (Or.inr rfl)) (hd : (x == ("__debug__" : Str)) = false := by decide) (hcd : (x == ("__classdict__" : Str)) = false := by decide)
    (he : starEach (e :: es) Z.X.env = (false, eval e Z.X.env) :: starEach es Z.X.env := by rfl) (hpl : (backTo pos (starEach es Z.X.env)).any (·.1) = false := by rfl) (hh : Z.hot = false := by rfl)
    (ht : eval (.Call (.Attribute (.Name x px) m apos) (e :: es) [] pos) Z.X.env = (do
      let ov ← eval (.Name x px) Z.X.env
      standAt apos.atName
      let (f, first) ← holding [ov] (getMethod ov m pl)
      callWith pos f first (backTo pos (starEach (e :: es) Z.X.env)) (backToKw pos (keywordEach [] Z.X.env))) := by rfl) :
    DR Z (.Call (.Attribute (.Name x px) m apos) (e :: es) [] pos) (dMethR F c m i rs u) := by
  obtain ⟨C, f, fd, ps, kl, hm, hb, G0⟩ := O.ex
  obtain ⟨ta, pa, sa⟩ := ha
  refine ⟨_, pe_methG (E := WE Z.W) (pe_var hN hv hd hcd) kl.cl hm G0 (fun h => Z.gd (hgg h)) ((Z.room hh).mono hk) hb (passAt Z.tk) pa he hpl ht, fun Ho hw G ρ σ H Q x q => ?_⟩
  unfold dMethR at q
  by_cases hi : isOM c m ρ[i]? = true
  · rw [if_pos hi] at q
    obtain ⟨t0, fs, e0, hl⟩ := isOM_some hi
    obtain ⟨a, ob, h1, h2, h3, _⟩ := x.rs.mut e0
    cases h3 with
    | obj hc hr =>
      rw [kl.mg] at hc
      cases hc
      refine ⟨.ref a, h1, a, _, _, rfl, h2, hr.none hl, ?_⟩
      refine sa Ho hw G ρ σ H _ x (LAr.then (L := fun r => LR Z Ho G σ r Q) (fun _ _ h => h) (fun h => h) q fun ds ρ1 vs G1 H1 x1 g1 a1 q1 => ?_)
      exact call_sp (rs := some i :: rs) hw (by rw [← hn, List.length_cons, a1.length]) x1 g1 (.rf h1 a1) q1
  · rw [if_neg hi] at q; exact q.elim
theorem dr_meR0 (i : Nat) (O : Me g Z.X.prog Z.X.w Z.X.K Z.X.mg Z.X.base c m k n F) (hgg : g = true → Z.g = true := by first | exact fun h => nomatch h | exact fun h => h | exact fun _ => rfl) (hk : k ≤ Z.k := by exact Nat.le_of_ble_eq_true rfl) (hn : n = 1 := by rfl)
    (hN : Z.X.N[i]? = some x := by rfl) (hv : Vis Z.X.env.scope x := by first | exact Or.inl rfl | exact Or.inr (Or.inl rfl) | exact Or.inr (Or.inr rfl)) (hd : (x == ("__debug__" : Str)) = false := by decide) (hcd : (x == ("__classdict__" : Str)) = false := by decide) (hh : Z.hot = false := by rfl)
    (ht : eval (.Call (.Attribute (.Name x px) m apos) [] [] pos) Z.X.env = (do
      let ov ← eval (.Name x px) Z.X.env
      standAt apos.atName
      let (f, first) ← holding [ov] (getMethod ov m pl)
      callWith pos f first (backTo pos (starEach [] Z.X.env)) (backToKw pos (keywordEach [] Z.X.env))) := by rfl) :
    DR Z (.Call (.Attribute (.Name x px) m apos) [] [] pos) (dMethR F c m i [] dNil) := by
  obtain ⟨C, f, fd, ps, kl, hm, hb, G0⟩ := O.ex
  refine ⟨_, pe_methG0 (E := WE Z.W) (pe_var hN hv hd hcd) kl.cl hm G0 (fun h => Z.gd (hgg h)) ((Z.room hh).mono hk) hb (passAt Z.tk) ht, fun Ho hw G ρ σ H Q x q => ?_⟩
  unfold dMethR at q
  by_cases hi : isOM c m ρ[i]? = true
  · rw [if_pos hi] at q
    obtain ⟨t0, fs, e0, hl⟩ := isOM_some hi
    obtain ⟨a, ob, h1, h2, h3, _⟩ := x.rs.mut e0
    cases h3 with
    | obj hc hr =>
      rw [kl.mg] at hc
      cases hc
      refine ⟨.ref a, h1, a, _, _, rfl, h2, hr.none hl, ?_⟩
      exact call_sp (rs := [some i]) (ds := []) hw (by rw [hn]; rfl) x Gr.refl (.rf h1 .nil) q
  · rw [if_neg hi] at q; exact q.elim
theorem dr_meD (O : Me g Z.X.prog Z.X.w Z.X.K Z.X.mg Z.X.base c m k n F) (h : DE Z md o t) (ha : DAr Z (e :: es) rs u) (hbb : md.b = false := by rfl) (hgg : g = true → Z.g = true := by first | exact fun h => nomatch h | exact fun h => h | exact fun _ => rfl) (hk : k ≤ Z.k := by exact Nat.le_of_ble_eq_true rfl) (hn : rs.length + 1 = n := by rfl)
    (he : starEach (e :: es) Z.X.env = (false, eval e Z.X.env) :: starEach es Z.X.env := by rfl) (hpl : (backTo pos (starEach es Z.X.env)).any (·.1) = false := by rfl) (hh : Z.hot = false := by rfl)
    (ht : eval (.Call (.Attribute o m apos) (e :: es) [] pos) Z.X.env = (do
      let ov ← eval o Z.X.env
      standAt apos.atName
      let (f, first) ← holding [ov] (getMethod ov m pl)
      callWith pos f first (backTo pos (starEach (e :: es) Z.X.env)) (backToKw pos (keywordEach [] Z.X.env))) := by rfl) :
    DR Z (.Call (.Attribute o m apos) (e :: es) [] pos) (dMethD F c m t rs u) := by
  obtain ⟨C, f, fd, ps, kl, hm, hb, G0⟩ := O.ex
  obtain ⟨to, po, so⟩ := h
  obtain ⟨ta, pa, sa⟩ := ha
  refine ⟨_, pe_methG (E := WE Z.W) po kl.cl hm G0 (fun h => Z.gd (hgg h)) ((Z.room hh).mono hk) hb (passAt Z.tk) pa he hpl ht, fun Ho hw G ρ σ H Q x q => ?_⟩
  refine so Ho hw G ρ σ H _ x (DE.then (L := fun r => LR Z Ho G σ r Q) (fun _ _ h => h) (fun h => h) q fun d ρ1 v G1 H1 x1 g1 s1 b1 q1 => ?_)
  rw [hbb] at b1
  replace b1 := b1.rep
  by_cases hi : isOD c m d = true
  · rw [if_pos hi] at q1
    obtain ⟨fs, rfl, hl⟩ := isOD_some hi
    have b2 := b1
    unfold Rep at b2
    obtain ⟨a, C', dx, ws, rfl, h1, h2, h3⟩ := b2
    rw [kl.mg] at h1
    cases h1
    refine ⟨a, dx, ws, rfl, x1.gh _ _ h2, h3.none hl, ?_⟩
    refine sa Ho hw G1 ρ1 σ H1 _ x1 (LAr.then (L := fun r => LR Z Ho G σ r Q) (fun _ _ h => h) (fun h => h) q1 fun ds ρ2 vs G2 H2 x2 g2 a1 q2 => ?_)
    exact call_sp (rs := none :: rs) hw (by rw [← hn, List.length_cons, a1.length]) x2 (g1.trans g2) (.dt (Rep.mono g2.1 _ _ b1) a1) q2
  · rw [if_neg hi] at q1; exact q1.elim
theorem dr_meD0 (O : Me g Z.X.prog Z.X.w Z.X.K Z.X.mg Z.X.base c m k n F) (h : DE Z md o t) (hbb : md.b = false := by rfl) (hgg : g = true → Z.g = true := by first | exact fun h => nomatch h | exact fun h => h | exact fun _ => rfl) (hk : k ≤ Z.k := by exact Nat.le_of_ble_eq_true rfl) (hn : n = 1 := by rfl) (hh : Z.hot = false := by rfl)
    (ht : eval (.Call (.Attribute o m apos) [] [] pos) Z.X.env = (do
      let ov ← eval o Z.X.env
      standAt apos.atName
      let (f, first) ← holding [ov] (getMethod ov m pl)
      callWith pos f first (backTo pos (starEach [] Z.X.env)) (backToKw pos (keywordEach [] Z.X.env))) := by rfl) :
    DR Z (.Call (.Attribute o m apos) [] [] pos) (dMethD F c m t [] dNil) := by
  obtain ⟨C, f, fd, ps, kl, hm, hb, G0⟩ := O.ex
  obtain ⟨to, po, so⟩ := h
  refine ⟨_, pe_methG0 (E := WE Z.W) po kl.cl hm G0 (fun h => Z.gd (hgg h)) ((Z.room hh).mono hk) hb (passAt Z.tk) ht, fun Ho hw G ρ σ H Q x q => ?_⟩
  refine so Ho hw G ρ σ H _ x (DE.then (L := fun r => LR Z Ho G σ r Q) (fun _ _ h => h) (fun h => h) q fun d ρ1 v G1 H1 x1 g1 s1 b1 q1 => ?_)
  rw [hbb] at b1
  replace b1 := b1.rep
  by_cases hi : isOD c m d = true
  · rw [if_pos hi] at q1
    obtain ⟨fs, rfl, hl⟩ := isOD_some hi
    have b2 := b1
    unfold Rep at b2
    obtain ⟨a, C', dx, ws, rfl, h1, h2, h3⟩ := b2
    rw [kl.mg] at h1
    cases h1
    refine ⟨a, dx, ws, rfl, x1.gh _ _ h2, h3.none hl, ?_⟩
    exact call_sp (rs := [none]) (ds := [.obj c fs]) hw (by rw [hn]; rfl) x1 g1 (.dt b1 .nil) q1
  · rw [if_neg hi] at q1; exact q1.elim
end
/-! ### simp -/
section
variable {α : Type} {ρ : List Sl}
@[simp] theorem x_ext (i : Nat) (t : M D) : sExt i t ρ = if isL ρ[i]? then (t ρ).andS fun d ρ1 => extR ρ1 i d ρ1[i]? else .no := rfl
theorem x_extR {i : Nat} {t : Option Nat} {ds es : List D} (h : ds.length + es.length ≤ sizeLine) : extR ρ i (.lst es) (some (.ow t (.lst ds))) = .nx (ρ.set i (.ow t (.lst (ds ++ es)))) := by simp [extR, h]
@[simp] theorem x_callK (F : FS) (rs : List (Option Nat)) (ds : List D) : callK F rs ds ρ = callM F rs ρ (mk rs ds ρ) := by
  unfold callK
  cases h : mk rs ds ρ with
  | none => rfl
  | some p =>
    obtain ⟨ss, ρ2⟩ := p
    cases h2 : F ss <;> simp [callM, callR, h2]
@[simp] theorem x_methR (F : FS) (c m : Str) (i : Nat) (rs : List (Option Nat)) (u : M (List D)) : dMethR F c m i rs u ρ = if isOM c m ρ[i]? then (u ρ).bind fun ds ρ1 => callK F (some i :: rs) ds ρ1 else .no := rfl
@[simp] theorem x_methD (F : FS) (c m : Str) (t : M D) (rs : List (Option Nat)) (u : M (List D)) : dMethD F c m t rs u ρ = (t ρ).bind fun d ρ1 => if isOD c m d then (u ρ1).bind fun ds ρ2 => callK F (none :: rs) (d :: ds) ρ2 else .no := rfl
@[simp] theorem x_isOM {c c' m : Str} {t : Option Nat} {fs : List (Str × D)} : isOM c m (some (.ow t (.obj c' fs))) = (decide (c' = c) && (fs.lookup m).isNone) := rfl
@[simp] theorem x_isOD {c c' m : Str} {fs : List (Str × D)} : isOD c m (.obj c' fs) = (decide (c' = c) && (fs.lookup m).isNone) := rfl
end
end DS

set_option Elab.async false
set_option linter.all false
set_option maxRecDepth 100000
set_option maxHeartbeats 2000000
namespace DS
open PySem PySem.Spec PyProof.Rows L2
/-! ### defs with keyword-only parameters and their defaults -/
def kV : D → V
  | .non => .non
  | .bl b => .bl b
  | .int i => .int i
  | .str x => .str x
  | _ => .non
def kOk : D → Bool
  | .non => true
  | .bl _ => true
  | .int _ => true
  | .str x => PyData.strOk x
  | _ => false
theorem kRep {K : PySem.W.Frag} {mg : Str → Option Value} {G : Hp} : ∀ {d : D}, kOk d = true → Rep K mg G d (kV d)
  | .non, _ => by unfold Rep; rfl
  | .bl b, _ => by unfold Rep; rfl
  | .int i, _ => by unfold Rep; rfl
  | .str x, h => by unfold Rep; exact ⟨rfl, h⟩
theorem kRepL {K : PySem.W.Frag} {mg : Str → Option Value} {G : Hp} : ∀ {ms : List (Str × D)}, (∀ q ∈ ms, kOk q.2 = true) → RepL K mg G (ms.map (·.2)) (ms.map fun q => kV q.2)
  | [], _ => RepL.nil
  | q :: ms, h => RepL.cons (kRep (h q List.mem_cons_self)) (kRepL fun p hp => h p (List.mem_cons_of_mem _ hp))
/-- a def of the module with keyword-only defaults -/
structure FnDf (K : PySem.W.Frag) (mg : Str → Option Value) (x : Str) (st : Stmt) (kws : List (Str × D)) (f : Addr) (fd : FuncData) : Prop where
  mg : mg x = some (.ref f)
  ex : ∃ (oc : Value) (od : Option Addr) (kd doc pm : Value) (an : Option Addr) (cdv ct : Value) (osl : Array (Option Value)),
    fd = PySem.W.fnOf x x (defArgs st) (defBody st) (defScope st) .none kd doc pm an cdv ct ∧ K.lookup f = some ⟨oc, od, .func fd, osl⟩ ∧ PySem.W.codeIn K cdv x = true ∧ ∃ D : Addr, kd = .ref D ∧ ∀ q ∈ kws, ∃ u, PySem.W.nsIn K D q.1 = some (some u) ∧ RelV (kV q.2) u
  kp : PySem.W.keepIn K (.ref f) = true
  ok : ∀ q ∈ kws, kOk q.2 = true
theorem FnDf.funB {K : PySem.W.Frag} {mg : Str → Option Value} {x : Str} {st : Stmt} {kws : List (Str × D)} {f : Addr} {fd : FuncData} (A : FnDf K mg x st kws f fd) : FunB K x x st .none f fd := by
  obtain ⟨oc, od, kd, doc, pm, an, cdv, ct, osl, h1, h2, h3, _⟩ := A.ex
  exact ⟨⟨oc, od, kd, doc, pm, an, cdv, ct, osl, h1, h2, h3⟩, A.kp⟩
theorem FnDf.funD {K : PySem.W.Frag} {mg : Str → Option Value} {x : Str} {st : Stmt} {kws : List (Str × D)} {f : Addr} {fd : FuncData} (A : FnDf K mg x st kws f fd) : FunD K x x (defArgs st) (defBody st) (defScope st) [] (kws.map fun q => (q.1, kV q.2)) f fd := by
  obtain ⟨oc, od, kd, doc, pm, an, cdv, ct, osl, h1, h2, h3, D, h4, h5⟩ := A.ex
  refine ⟨⟨oc, od, .none, kd, doc, pm, an, cdv, ct, osl, h1, h2, h3, .inl ⟨rfl, rfl⟩, .inr ⟨D, h4, fun q hq => ?_⟩⟩, A.kp⟩
  obtain ⟨p, hp, rfl⟩ := List.mem_map.mp hq
  exact h5 p hp
/-- how it is bound: n positional values, keywords ks, the lacking ones ms -/
def BdK (x : Str) (st : Stmt) (ps ks : List Str) (ms : List Str) (n : Nat) (ix : List Nat) : Prop := ∀ (D : Addr) (doc pm : Value) (an : Option Addr) (cdv ct : Value) (us mv ws : List Value), us.length = n → mv.length = ms.length → ws.length = ks.length →
  KwChain D (ms.zip mv) (bindArgs (PySem.W.fnOf x x (defArgs st) (defBody st) (defScope st) .none (.ref D) doc pm an cdv ct) ⟨us, ks.zip ws⟩) (ps.zip (perm ix (us ++ ws ++ mv)))
theorem kwF_df {K : PySem.W.Frag} {mg : Str → Option Value} {x : Str} {st : Stmt} {kws : List (Str × D)} {ps ks : List Str} {f : Addr} {fd : FuncData} {n : Nat} (ms : List (Str × D)) (ix : List Nat) (A : FnDf K mg x st kws f fd) (hk : kws ≠ []) (hms : ∀ q ∈ ms, q ∈ kws) (hi : ix.length = ps.length) (hr : ∀ i ∈ ix, i < n + ks.length + ms.length)
    (h : BdK x st ps ks (ms.map (·.1)) n ix) : KwF K mg fd ps n ks (fun l => perm ix (l ++ ms.map (·.2))) := by
  obtain ⟨mv, B⟩ := A.funD.kbinds0 (ps := ps) n ks (ms.map fun q => (q.1, kV q.2)) (fun us mv ws => perm ix (us ++ ws ++ mv)) (by simpa using hk) (fun q hq => by
    obtain ⟨p, hp, rfl⟩ := List.mem_map.mp hq
    exact List.mem_map.mpr ⟨p, hms p hp, rfl⟩) (fun r1 r2 r3 => vals_perm ((r1.append r3).append r2) ix) (fun D doc pm an cdv ct us mv ws l1 l2 l3 => by
    have := h D doc pm an cdv ct us mv ws l1 (by simpa using l2) l3
    rw [show (ms.map fun q => (q.1, kV q.2)).map (·.1) = ms.map (·.1) from by rw [List.map_map]; rfl]
    exact this)
  refine ⟨_, _, B, fun G ds es vs zs r1 r2 l1 l2 => ⟨?_, ?_⟩⟩
  · have r3 : RepL K mg G (ms.map (·.2)) (ms.map fun q => kV q.2) := kRepL fun q hq => A.ok q (hms q hq)
    have := repL_perm ((r1.append r2).append r3) ix
    rw [show (ms.map fun q => (q.1, kV q.2)).map (·.2) = ms.map fun q => kV q.2 from by rw [List.map_map]; rfl]
    exact this
  · show (perm ix (vs ++ zs ++ (ms.map fun q => (q.1, kV q.2)).map (·.2))).length = ps.length
    rw [perm_len fun i hm => ?_, hi]
    simp only [List.length_append, List.length_map, l1, l2]
    exact hr i hm
/-- such a def, as its callers have it -/
structure FdK (g : Bool) (P : Program) (w : World) (K : PySem.W.Frag) (mg : Str → Option Value) (base : Heap) (x : Str) (st : Stmt) (kws : List (Str × D)) (ps : List Str) (k : Nat) (F : FS) : Prop where
  ex : ∃ f fd, FnDf K mg x st kws f fd ∧ FnG g P w K mg base k f fd ps (liftSp K mg ps.length F)
theorem fdk_of {g : Bool} {P : Program} {w : World} {K : PySem.W.Frag} {mg : Str → Option Value} {base : Heap} {x : Str} {st : Stmt} {kws : List (Str × D)} {f : Addr} {fd : FuncData} {N ps : List Str} {k : Nat} {body : MS} (A : FnDf K mg x st kws f fd) (S : FnScope N ps (defScope st))
    (hb : ∀ cdv A outer s H E τ Ho G0 Ex hg room tk, DSs (mkZ P w K mg base N x (defScope st) f cdv A outer s H E τ Ho G0 Ex k g hg room tk) (defBody st) body) : FdK g P w K mg base x st kws ps (k + 1) (mkF ps.length N.length body) :=
  ⟨f, fd, A, fn_dsB A.funB S hb⟩
section
variable {Z : DC} {e : Expr} {es : List Expr} {kws : List Keyword} {pos p : Pos} {x : Str} {u w : M (List D)} {k n : Nat} {ps ks : List Str} {F : FS} {gg : Bool} {st : Stmt} {kd : List (Str × D)}
/-- f(e, .., k = v, ..) -/
theorem dr_fk (n : Nat) (ix : List Nat) (ms : List (Str × D)) (O : FdK gg Z.X.prog Z.X.w Z.X.K Z.X.mg Z.X.base x st kd ps k F) (ha : DA Z (e :: es) u) (hw' : DK Z kws w) (hk0 : kd ≠ []) (hms : ∀ q ∈ ms, q ∈ kd) (hi : ix.length = ps.length) (hr : ∀ i ∈ ix, i < n + ks.length + ms.length)
    (h : BdK x st ps ks (ms.map (·.1)) n ix) (hgg : gg = true → Z.g = true := by first | exact fun h => nomatch h | exact fun h => h | exact fun _ => rfl) (hk : k ≤ Z.k := by exact Nat.le_of_ble_eq_true rfl)
    (hg : Gl Z.X x := by first | rfl | decide) (hall : (backToKw pos (keywordEach kws Z.X.env)).all (·.1.isSome) = true := by rfl) (hks : (backToKw pos (keywordEach kws Z.X.env)).filterMap (·.1) = ks := by rfl)
    (hdb : (x == ("__debug__" : Str)) = false := by decide) (he : starEach (e :: es) Z.X.env = (false, eval e Z.X.env) :: starEach es Z.X.env := by rfl) (hpl : ((backTo pos (starEach (e :: es) Z.X.env)).any (·.1) || (backToKw pos (keywordEach kws Z.X.env)).any (·.1.isNone)) = false := by rfl) (hh : Z.hot = false := by rfl) :
    DR Z (.Call (.Name x p) (e :: es) kws pos) (dKw F n ks.length (fun l => perm ix (l ++ ms.map (·.2))) u w) := by
  obtain ⟨f, fd, A, G⟩ := O.ex
  exact dr_kw G hgg hk A.mg A.kp (kwF_df ms ix A hk0 hms hi hr h) ha hw' hg hall hks hdb he hpl hh
theorem dr_fk0 (ix : List Nat) (ms : List (Str × D)) (O : FdK gg Z.X.prog Z.X.w Z.X.K Z.X.mg Z.X.base x st kd ps k F) (hw' : DK Z kws w) (hk0 : kd ≠ []) (hms : ∀ q ∈ ms, q ∈ kd) (hi : ix.length = ps.length) (hr : ∀ i ∈ ix, i < 0 + ks.length + ms.length)
    (h : BdK x st ps ks (ms.map (·.1)) 0 ix) (hgg : gg = true → Z.g = true := by first | exact fun h => nomatch h | exact fun h => h | exact fun _ => rfl) (hk : k ≤ Z.k := by exact Nat.le_of_ble_eq_true rfl)
    (hg : Gl Z.X x := by first | rfl | decide) (hall : (backToKw pos (keywordEach kws Z.X.env)).all (·.1.isSome) = true := by rfl) (hks : (backToKw pos (keywordEach kws Z.X.env)).filterMap (·.1) = ks := by rfl)
    (hdb : (x == ("__debug__" : Str)) = false := by decide) (hpl : ((backTo pos (starEach [] Z.X.env)).any (·.1) || (backToKw pos (keywordEach kws Z.X.env)).any (·.1.isNone)) = false := by rfl) (hh : Z.hot = false := by rfl) :
    DR Z (.Call (.Name x p) [] kws pos) (dKw F 0 ks.length (fun l => perm ix (l ++ ms.map (·.2))) dNil w) := by
  obtain ⟨f, fd, A, G⟩ := O.ex
  exact dr_kw0 G hgg hk A.mg A.kp (kwF_df ms ix A hk0 hms hi hr h) hw' hg hall hks hdb hpl hh
end
end DS

set_option Elab.async false
set_option linter.all false
set_option maxRecDepth 100000
set_option maxHeartbeats 1000000
namespace DS
open PySem PySem.Spec PyProof.Rows L2
/-! ### xs.index(y): the first place, the items flat -/
def fIndex (ds : List D) (e : D) : Option D := if e.flat && (D.lst ds).flat then (ds.findIdx? fun z => z.eqv e).map fun j => .int (j : Nat) else none
def dIndex (ta tb : M D) : M D := bnd ta fun d => match d with
  | .lst ds => bnd tb fun e => lft (fIndex ds e)
  | _ => fun _ => .no
theorem pyL_get : ∀ (ds : List D) (j : Nat), (pyL ds)[j]? = (ds[j]?).map D.py
  | [], j => by simp [pyL]
  | d :: ds, 0 => by simp [pyL]
  | d :: ds, j + 1 => by simp only [pyL, List.getElem?_cons_succ]; exact pyL_get ds j
section
variable {Z : DC} {m1 m2 : Md} {a b : Expr} {ta tb : M D} {pos apos : Pos}
theorem de_index (ha : DE Z m1 a ta) (hb : DE Z m2 b tb) (hm : (!m1.b || m2.p) = true := by rfl)
    (hbase : attributeBase a "index" Z.X.env (eval a Z.X.env) = eval a Z.X.env := by rfl)
    (hfew : ((backTo pos (starEach (b :: []) Z.X.env)).all (fun x => !x.1) && (backToKw pos (keywordEach [] Z.X.env)).all (fun x => x.1.isSome)
      && decide ((b :: ([] : List Expr)).length + ([] : List Keyword).length + (if ([] : List Keyword).isEmpty then 0 else 1) < 30)) = true := by rfl)
    (hline : (apos.endLine == pos.line) = true := by rfl) (hs : starEach (b :: []) Z.X.env = (false, eval b Z.X.env) :: starEach [] Z.X.env := by rfl) (hplain : (backTo pos (starEach [] Z.X.env)).any (·.1) = false := by rfl) :
    DE Z ⟨m1.p && m2.p, false⟩ (.Call (.Attribute a "index" apos) [b] [] pos) (dIndex ta tb) := by
  obtain ⟨tea, pa, sa⟩ := ha
  obtain ⟨teb, pb, sb⟩ := hb
  refine ⟨_, pe_bm PySem.F.plainAttrs_list PySem.F.slot_list_index PySem.F.type_list_index (mt_indexD Z.hu65) pa (pa_cons pb pa_nil hs) hbase hfew hline hs hplain, fun Ho hw G ρ σ H Q x q => ?_⟩
  refine sa Ho hw G ρ σ H _ x (DE.then (L := fun r => LJ Z Ho ⟨m1.p && m2.p, false⟩ G H σ r Q) (fun _ _ h => h) (fun h => h) q fun d ρ1 v G1 H1 x1 g1 s1 b1 q1 => ?_)
  cases d <;> try (exact q1.elim)
  rename_i ds
  obtain ⟨p, vs, h0, h1, h2⟩ := b1.up.lst x1.gh
  subst h0
  refine ⟨.inl ⟨rfl, vs, SqL.of h1⟩, ?_⟩
  refine sb Ho hw G1 ρ1 σ H1 _ x1 (DE.then (L := fun r => LJ Z Ho ⟨m1.p && m2.p, false⟩ G H σ r Q) (fun _ _ h => h) (fun h => h) q1 fun e ρ2 w G2 H2 x2 g2 s2 b2 q2 => ?_)
  unfold lft fIndex at q2
  by_cases hf : (e.flat && (D.lst ds).flat) = true
  · rw [if_pos hf] at q2
    rw [Bool.and_eq_true] at hf
    cases ei : ds.findIdx? (fun z => z.eqv e) with
    | none => rw [ei] at q2; exact q2.elim
    | some j =>
      rw [ei] at q2
      have b1' := b1.go g2.1 fun h => s2 (by rw [h] at hm; simpa using hm)
      obtain ⟨k1, k2⟩ := shaped_of (b1'.up.inH x2.gh) hf.2
      obtain ⟨k3, k4⟩ := shaped_of (b2.up.inH x2.gh) hf.1
      obtain ⟨hj, hp, hn⟩ := List.findIdx?_eq_some_iff_getElem.mp ei
      unfold D.py at k1 k2
      refine ⟨p, w, e.py, pyL ds, j, ds[j].py, rfl, rfl, k1, k3, k2, k4, by rw [pyL_get, List.getElem?_eq_getElem hj]; rfl, hp, fun m z hm' hz => ?_, q2 _ _ _ x2 (g1.trans g2) (fun hp => ?_) (.inl rep_int)⟩
      · have hml : m < ds.length := by omega
        rw [pyL_get, List.getElem?_eq_getElem hml] at hz
        cases hz
        have := hn m hm'
        have h2 : ds[m].eqv e = false := by simpa using this
        exact h2
      · rw [Bool.and_eq_true] at hp
        exact (s1 hp.1).trans (s2 hp.2)
  · rw [if_neg hf] at q2; exact q2.elim
end
@[simp] theorem x_index (ta tb : M D) (ρ : List Sl) : dIndex ta tb ρ = (ta ρ).bind fun d => match d with
  | .lst ds => bnd tb fun e => lft (fIndex ds e)
  | _ => fun _ => .no := rfl
/-! ### a comprehension in a comprehension -/
theorem blkZ_N {Z : DC} {s : Shared} {H : Hp} {scope : Scope} {cenv : Env} {fp : List Addr} : (blkZ Z s H scope cenv fp).X.N = Z.X.N := rfl
theorem relabel_id {scope : Scope} {env : Env} (h : scope.names.all (fun p => !(p.2 == NameKind.free)) = true) : relabel scope env = scope := by
  obtain ⟨kd, names, g, c⟩ := scope
  unfold relabel
  simp only at h ⊢
  congr 1
  have : ∀ l : List (Str × NameKind), l.all (fun p => !(p.2 == NameKind.free)) = true → (l.map fun (n, k) => if (k == NameKind.free && env.scope.kind == .function && env.kindOf n == some .cell) then (n, NameKind.cell) else (n, k)) = l := by
    intro l
    induction l with
    | nil => intro _; rfl
    | cons p l ih =>
      intro h
      simp only [List.all_cons, Bool.and_eq_true, Bool.not_eq_true'] at h
      rw [List.map_cons, ih h.2]
      simp [h.1]
  exact this names h
theorem blkZ_sc {Z : DC} {s : Shared} {H : Hp} {scope : Scope} {cl : List (Str × Addr)} {C : Addr} {env : Env} {fp : List Addr} (h : scope.names.all (fun p => !(p.2 == NameKind.free)) = true) : (blkZ Z s H scope (compEnvC scope cl C env) fp).X.env.scope = scope := relabel_id h
end DS

set_option Elab.async false
set_option linter.all false
set_option maxRecDepth 100000
set_option maxHeartbeats 4000000
namespace DS
open PySem PySem.Spec PyProof.Rows L2
/-! ### sets of texts: made of a list, sorted -/
/-- an entry that is a text with its hash -/
def EnS (w : World) (e : Int × Value) : Prop := ∃ x tk, e.2 = Value.str x tk ∧ e.1 = hashStr w x
def enX (e : Int × Value) : Str := match e.2 with
  | .str x _ => x
  | _ => Str.empty
/-- the set of the texts xs stands at a; it can be walked -/
def SetX (w : World) (h : Heap) (a : Addr) (xs : List Str) : Prop :=
  ∃ o es ep t, h.get? a = some o ∧ o.ExactSet ∧ o.data = .set es ep t ∧ (∀ e ∈ es.toList, EnS w e) ∧ (es.toList.map enX).Perm xs ∧ xs.Nodup ∧
    es.size < scanBound ∧ t.fits es.size = true ∧ Ris t.place.toList ∧ (w.params.followText "set-order" = true ∨ t.led = true)
section
variable {P : Program} {w : World} {h h' : Heap} {a : Addr} {xs : List Str}
theorem SetX.go (R : SetX w h a xs) (k : ∀ o, h.get? a = some o → h'.get? a = some o) : SetX w h' a xs := by
  obtain ⟨ob, es, ep, t, h1, rest⟩ := R
  exact ⟨ob, es, ep, t, k ob h1, rest⟩
theorem enS_elems {l : List (Int × Value)} (g : ∀ e ∈ l, EnS w e) : ElemsOf (PySem.strKind P w) l := by
  intro e he
  obtain ⟨x, tk, h1, h2⟩ := g e he
  refine ⟨⟨x, ?_, h2⟩, ?_⟩
  · rw [h1]; exact strKind_is _ _ _ _
  · rw [h1]; rfl
theorem enS_is {e : Int × Value} (g : EnS w e) (x : Str) : (PySem.strKind P w).is x e.2 = true ↔ enX e = x := by
  obtain ⟨y, tk, h1, _⟩ := g
  unfold enX
  rw [h1]
  constructor
  · intro q
    exact (PySem.strKind P w).inj _ _ _ (strKind_is P w y tk) q
  · intro q
    rw [← show y = x from q]
    exact strKind_is _ _ _ _
theorem enS_mem {l : List (Int × Value)} (g : ∀ e ∈ l, EnS w e) (x : Str) : (∃ e ∈ l, (PySem.strKind P w).is x e.2 = true) ↔ x ∈ l.map enX := by
  rw [List.mem_map]
  constructor
  · rintro ⟨e, m, q⟩; exact ⟨e, m, (enS_is (P := P) (g e m) x).mp q⟩
  · rintro ⟨e, m, q⟩; exact ⟨e, m, (enS_is (P := P) (g e m) x).mpr q⟩
end
section
variable {P : Program} {w : World} {A : Around} {E : Value → Shared → Prop} {s : Shared} {a : Addr} {xs : List Str}
/-- the state of a set behind a store -/
theorem set_put {h : Heap} {a : Addr} {ob : Obj} {es es' : Array (Int × Value)} {ep : Nat} {t t' : SetTable} (e1 : h.get? a = some ob) (e2 : ob.data = .set es ep t) :
    ∃ ob', (h.update a (Obj.putSet es' t')).get? a = some ob' ∧ (ob.ExactSet → ob'.ExactSet) ∧ ob'.data = .set es' (ep + 1) t' := by
  refine ⟨_, store_at e1 e2, fun q => ?_, rfl⟩
  obtain ⟨q1, q2, q3⟩ := q
  exact ⟨q1, q2, q3⟩
theorem setX_tail {g : Bool → Sem Unit} (hg : ∀ (b : Bool) (s1 : Shared) (Q1 : Unit → Shared → Prop), Q1 () s1 → wpAny (model P w) A (g b) Q1 E s1)
    {ob : Obj} {es : Array (Int × Value)} {ep : Nat} {t : SetTable} (e1 : s.heap.get? a = some ob) (e2 : ob.ExactSet) (e3 : ob.data = .set es ep t)
    {fs : Array (Int × Value)} {u : SetTable} {ys : List Str} (k1 : ∀ e ∈ fs.toList, EnS w e) (k2 : (fs.toList.map enX).Perm ys) (k3 : ys.Nodup)
    (k4 : fs.size < scanBound) (k5 : u.fits fs.size = true) (k6 : Ris u.place.toList) (k7 : w.params.followText "set-order" = true ∨ u.led = true) {wd : Bool} {R : Option Bool → Shared → Prop}
    (hR : ∀ h1, Heap.SameBut a s.heap h1 → SetX w h1 a ys → R (some true) { s with heap := h1 }) :
    wpAny (model P w) A (do
        storeSet a fs u
        if (!wd && u.tooFull) = true then do
            g (relayAll u fs (SetTable.grown fs.size)).2.2
            storeSet a (relayAll u fs (SetTable.grown fs.size)).1 (relayAll u fs (SetTable.grown fs.size)).2.1
            pure (some true)
          else pure (some true)) R E s := by
  refine wpAny_bind (wpAny_storeSet_of e1 e3 ?_ (fits_of_scanBound k4))
  obtain ⟨ob1, n1, n2, n3⟩ := set_put (es' := fs) (t' := u) e1 e3
  have sb := Heap.SameBut.update s.heap a (Obj.putSet fs u)
  by_cases c : (!wd && u.tooFull) = true
  · rw [if_pos c]
    have r1 := relayAll_perm u fs (SetTable.grown fs.size)
    have r2 := relayAll_fits u fs (SetTable.grown fs.size)
    have r3 := relayAll_ris u fs (SetTable.grown fs.size)
    have r4 := relayAll_led u fs (SetTable.grown fs.size)
    generalize relayAll u fs (SetTable.grown fs.size) = Y at r1 r2 r3 r4 ⊢
    obtain ⟨gs, v, gv⟩ := Y
    dsimp only at r1 r2 r3 r4 ⊢
    have zz : gs.size = fs.size := by
      have := r1.length_eq
      simpa using this
    refine wpAny_bind (hg _ _ _ ?_)
    refine wpAny_bind (wpAny_storeSet_of n1 n3 ?_ (fits_of_scanBound (by rw [zz]; exact k4)))
    obtain ⟨ob2, m1, m2, m3⟩ := set_put (es' := gs) (t' := v) n1 n3
    refine wpAny_pure (hR _ (sb.trans (Heap.SameBut.update _ a _)) ⟨ob2, gs, _, v, m1, m2 (n2 e2), m3, ?_, ?_, k3, ?_, r2, r3, ?_⟩)
    · exact fun e he => k1 e (r1.mem_iff.mp he)
    · exact (r1.map enX).trans k2
    · rw [zz]; exact k4
    · rcases k7 with k7 | k7
      · exact .inl k7
      · exact .inr (r4.trans k7)
  · rw [if_neg c]
    exact wpAny_pure (hR _ sb ⟨ob1, fs, _, u, n1, n2 e2, n3, k1, k2, k3, k4, k5, k6, k7⟩)
/-- one text more -/
theorem setX_add {x : Str} {tk : Tok} {Q : Bool → Shared → Prop} (R : SetX w s.heap a xs) (room : xs.length + 1 < scanBound)
    (hQ : ∀ h1, Heap.SameBut a s.heap h1 → SetX w h1 a (if x ∈ xs then xs else x :: xs) → Q (!decide (x ∈ xs)) { s with heap := h1 }) :
    wpAny (model P w) A (setAddHashed a (.str x tk) (hashStr w x)) Q E s := by
  obtain ⟨ob, es, ep, t, e1, e2, e3, g, pm, nd, z, hf, hr, hl⟩ := R
  have key : (PySem.strKind P w).is x (.str x tk) = true := strKind_is P w x tk
  have els : ElemsOf (PySem.strKind P w) es.toList := enS_elems g
  have mm : (∃ e ∈ es.toList, (PySem.strKind P w).is x e.2 = true) ↔ x ∈ xs := (enS_mem (P := P) g x).trans pm.mem_iff
  have zl : es.size = xs.length := by
    have := pm.length_eq
    simpa using this
  unfold setAddHashed setAddHashedIn
  refine wpAny_holding (wpAny_bind (wpAny_setState_of e1 e3 hf ?_))
  dsimp only
  rw [byScan_of (knd := PySem.strKind P w) rfl z els, if_pos rfl]
  unfold setAddByScan
  refine wpAny_bind (wpAny_bind (wpAny_rule (wpAny_bind (wpAny_setScan_of (knd := PySem.strKind P w) (k := x) key e1 e3 hf els ?_))))
  cases q : List.findIdx? (fun e => (PySem.strKind P w).is x e.2) es.toList with
  | some j =>
    dsimp only
    obtain ⟨hj, pj, _⟩ := List.findIdx?_eq_some_iff_getElem.mp q
    have hx : x ∈ xs := mm.mp ⟨es.toList[j], List.getElem_mem hj, pj⟩
    have fin := hQ s.heap (Heap.SameBut.refl a s.heap)
    rw [if_pos hx, decide_eq_true hx] at fin
    exact wpAny_pure (wpAny_pure (fin ⟨ob, es, ep, t, e1, e2, e3, g, pm, nd, z, hf, hr, hl⟩))
  | none =>
    dsimp only
    have hx : x ∉ xs := fun hx => by
      obtain ⟨e, he, c⟩ := mm.mpr hx
      have := List.findIdx?_eq_none_iff.mp q e he
      rw [c] at this
      cases this
    rw [if_neg hx, decide_eq_false hx] at hQ
    have ruled : ∀ (b : Bool) {s1 : Shared} {Q1 : Unit → Shared → Prop}, Q1 () s1 → wpAny (model P w) A (match b with | true => rule "set.scan.the-table-gave-way" | false => pure ()) Q1 E s1 := by
      intro b s1 Q1 q1
      cases b
      · exact wpAny_pure q1
      · exact wpAny_rule q1
    have r1 := layNew_perm t es (hashStr w x) (.str x tk)
    have r2 := layNew_fits t es (hashStr w x) (.str x tk)
    have r3 := layNew_ris t es (hashStr w x) (.str x tk) hr
    have r4 := layNew_led t es (hashStr w x) (.str x tk)
    show wpAny _ _ (match layNew t es (hashStr w x) (.str x tk) with | (a1, a2, a3, a4) => _) _ _ _
    generalize layNew t es (hashStr w x) (.str x tk) = Y at r1 r2 r3 r4 ⊢
    obtain ⟨fs, u, wd, gv⟩ := Y
    dsimp only at r1 r2 r3 r4 ⊢
    rw [Array.toList_push] at r1
    have r1' : fs.toList.Perm ((hashStr w x, Value.str x tk) :: es.toList) := r1.trans (List.perm_append_singleton _ _)
    have k1 : ∀ e ∈ fs.toList, EnS w e := by
      intro e he
      rcases List.mem_cons.mp (r1'.mem_iff.mp he) with y | y
      · exact ⟨x, tk, by rw [y], by rw [y]⟩
      · exact g e y
    have k2 : (fs.toList.map enX).Perm (x :: xs) := (r1'.map enX).trans (pm.cons x)
    have zf : fs.size = es.size + 1 := by
      have := r1'.length_eq
      simpa using this
    have k4 : fs.size < scanBound := by rw [zf, zl]; exact room
    have k7 : w.params.followText "set-order" = true ∨ u.led = true := by
      rcases hl with y | y
      · exact .inl y
      · exact .inr (r4.trans y)
    refine wpAny_bind (ruled _ ?_)
    by_cases c : u.plain = true
    · rw [if_pos c]
      refine wpAny_bind ?_
      rw [hashByValue_scannable 8 (x := Value.str x tk) rfl]
      refine wpAny_pure ?_
      refine setX_tail (fun b s1 Q1 q1 => ruled b q1) e1 e2 e3 k1 k2 (List.nodup_cons.mpr ⟨hx, nd⟩) k4 ?_ ?_ ?_ ?_
      · first | (split <;> first | exact r2 | exact SetTable.fits_plain_off r2) | exact SetTable.fits_plain_off r2
      · first | (split <;> exact r3) | exact r3
      · first | (split <;> exact k7) | exact k7
      · intro h1 sb r; exact wpAny_pure (hQ h1 sb r)
    · rw [if_neg c]
      refine wpAny_bind (wpAny_pure ?_)
      rw [if_pos rfl]
      refine setX_tail (fun b s1 Q1 q1 => ruled b q1) e1 e2 e3 k1 k2 (List.nodup_cons.mpr ⟨hx, nd⟩) k4 r2 r3 k7 ?_
      intro h1 sb r; exact wpAny_pure (hQ h1 sb r)
end
section
variable {P : Program} {w : World} {A : Around} {E : Value → Shared → Prop} {s : Shared}
/-- the texts of a walk go into the set -/
theorem setX_loop {I : Addr} {fp wr : List Addr} {G : Array GenState → Array GenState → Prop} {n : Nat} {Pv : Nat → Value → Prop} {St : Nat → Shared → Prop} {R : Result → Shared → Prop}
    (W : WalksS P w A.in1 I fp wr G n Pv St) {b : Addr} (hb : b ∉ fp) {zs : List Str} (hn : zs.length = n) (room : zs.length + 1 < scanBound) (hv : ∀ i v, Pv i v → ∃ x tk, zs[i]? = some x ∧ v = .str x tk) :
    ∀ (k i : Nat) (s : Shared), n - i = k → i ≤ n → St i s → (∃ xs, SetX w s.heap b xs ∧ xs.length ≤ i ∧ ∀ x, x ∈ xs ↔ x ∈ zs.take i) →
      (∀ s1, Moved (b :: wr) G s s1 → (∃ xs, SetX w s1.heap b xs ∧ xs.length ≤ n ∧ ∀ x, x ∈ xs ↔ x ∈ zs) → R (.ok (.ret .none)) s1) →
      codeAny (model P w) A (.builtin "set.update.loop" ⟨[.ref b, .ref I], []⟩) R s := by
  have nw : b ∉ wr := fun m => hb (W.sub _ m)
  have up : ∀ c ∈ wr, c ∈ b :: wr := fun c m => List.mem_cons_of_mem _ m
  intro k
  induction k with
  | zero =>
    rintro i s hk hi st ⟨xs, x1, x2, x3⟩ fin
    have ei : i = n := by omega
    subst ei
    refine codeAny_builtin F.entry_set_update_loop ?_
    rw [Around.under_plainId F.plain_set_update_loop _]
    show wpAny _ A.in1 (pyNext (.ref I) >>= _) _ _ s
    refine wpAny_bind (W.done s _ _ st fun s1 mv => wpAny_pure (fin s1 (mv.mono up) ⟨xs, x1.go fun ob e => mv.heap b ob nw e, x2, fun x => ?_⟩))
    rw [x3, List.take_of_length_le (by omega)]
  | succ k ih =>
    rintro i s hk hi st ⟨xs, x1, x2, x3⟩ fin
    have lt : i < n := by omega
    refine codeAny_builtin F.entry_set_update_loop ?_
    rw [Around.under_plainId F.plain_set_update_loop _]
    show wpAny _ A.in1 (pyNext (.ref I) >>= _) _ _ s
    refine wpAny_bind (W.item i s _ _ lt st fun v s1 pv st1 mv => ?_)
    obtain ⟨x, tk, hx, rfl⟩ := hv i v pv
    have y1 : SetX w s1.heap b xs := x1.go fun ob e => mv.heap b ob nw e
    show wpAny _ A.in1 (holding [Value.str x tk] (setAdd b (.str x tk)) >>= _) _ _ s1
    refine wpAny_bind (wpAny_holding ?_)
    unfold setAdd
    refine wpAny_holding (wpAny_bind ((PySem.strKind P w).pyHash (k := x) (strKind_is _ _ _ _) ?_))
    refine setX_add (s := { s1 with toks := s1.toks + 1 }) y1 (by omega) fun h1 sb y2 => ?_
    have y3 : ∃ ys, SetX w h1 b ys ∧ ys.length ≤ i + 1 ∧ ∀ y, y ∈ ys ↔ y ∈ zs.take (i + 1) := by
      refine ⟨_, y2, ?_, fun y => ?_⟩
      · split
        · omega
        · simp only [List.length_cons]; omega
      · rw [List.take_add_one, hx]
        by_cases c : x ∈ xs
        · rw [if_pos c]
          simp only [Option.toList_some, List.mem_append, List.mem_singleton]
          rw [← x3 y]
          exact ⟨.inl, fun z => z.elim id fun e => e ▸ c⟩
        · rw [if_neg c]
          simp only [Option.toList_some, List.mem_append, List.mem_singleton, List.mem_cons, List.not_mem_nil, or_false]
          rw [← x3 y]
          exact Or.comm
    refine wpAny_pure ⟨plainId_quiet F.plain_set_update_loop _, ih (i + 1) _ (by omega) lt (W.frame _ s1 _ _ st1 (Nat.le_succ _) fun c m o e => ?_) y3 fun s2 mv2 y4 => ?_⟩
    · exact (sb.2 c fun q => hb (q ▸ m)).trans e
    · refine fin s2 (Moved.trans W.gtrans ((mv.mono up).then_heap (Nat.le_succ _) fun c o m e => ?_) mv2) y4
      exact (sb.2 c fun q => m (by rw [q]; exact List.mem_cons_self)).trans e
/-- a set just made -/
abbrev nuSet (w : World) : Obj := { cls := .type "set", dict := none, data := .set #[] 0 (.fresh 0 0 (!w.params.followText "set-order")) }
theorem setX_none {h : Heap} {b : Addr} (e : h.get? b = some (nuSet w)) : SetX w h b [] := by
  refine ⟨_, #[], 0, _, e, ⟨rfl, rfl, rfl⟩, rfl, fun z m => by simp at m, by simp, List.nodup_nil, by decide, rfl, List.Pairwise.nil, ?_⟩
  cases q : w.params.followText "set-order"
  · exact .inr rfl
  · exact .inl rfl
theorem setX_of_list {l : Addr} {items : Array Value} {zs : List Str} {Q : Value → Shared → Prop} (hh : A.handled = none) (hl : s.heap.IsList l items) (hi : StrsAre items.toList zs) (room : zs.length + 1 < scanBound)
    (fin : ∀ (h1 : Heap) (tk : Nat) (xs : List Str), SetX w h1 s.heap.objs.size xs → xs.length ≤ zs.length → (∀ x, x ∈ xs ↔ x ∈ zs) → (∀ b o, s.heap.get? b = some o → h1.get? b = some o) → Q (.ref s.heap.objs.size) { s with heap := h1, toks := tk }) :
    wpAny (model P w) A (call (.type "set") [.ref l]) Q E s := by
  have zi : zs.length = items.size := by
    have := StrsAre.length hi
    simpa using this.symm
  obtain ⟨c, tl, f0⟩ := F.called_set.mro
  have f1 := F.called_set.made
  have f2 := F.called_set.sub
  have f3 := F.called_set.notType
  have f4 := F.called_set.canCreate
  have f5 := F.typeCall_set_1 (.ref l)
  refine wpAny_call (codeAny_of_tree ?_)
  show wpAny _ _ (callAny (.type "set") _) _ _ _
  refine wpAny_pure ⟨Code.quiet_builtin _ (by decide +kernel), codeAny_builtin F.entry_type_call ?_⟩
  rw [Around.under_plain (weight_type_call_type "set" [.ref l] []) rfl]
  repeat (any_goals (first | assumption | wp_step))
  refine codeAny_mono (code_set_led1 (.ref l) (E := E) (Q₁ := fun ob s1 => ob = .ref s.heap.objs.size ∧ s1 = { s with heap := s.heap.push (nuSet w) }) ⟨rfl, rfl⟩) fun r s1 hr => ?_
  cases r with
  | error e => exact hr
  | ok fl =>
    cases fl with
    | ret ob =>
      obtain ⟨rfl, rfl⟩ := hr
      have g0 : (s.heap.push (nuSet w)).get? s.heap.objs.size = some (nuSet w) := Heap.get?_push_size _ rfl
      have g1 : Shared.TypeIs { s with heap := s.heap.push (nuSet w) } (.ref s.heap.objs.size) "set" := ⟨_, g0, rfl⟩
      have g2 := F.called_set.init.lookup
      have g3 := F.called_set.init.bind (.ref s.heap.objs.size)
      repeat (any_goals (first | assumption | wp_step))
      refine codeAny_mono (codeAny_call_builtin (R := wants (fun r s2 => r = .none ∧ ∃ h1 tk xs, s2 = { s with heap := h1, toks := tk } ∧ SetX w h1 s.heap.objs.size xs ∧ xs.length ≤ zs.length ∧ (∀ x, x ∈ xs ↔ x ∈ zs) ∧
          ∀ b o, s.heap.get? b = some o → h1.get? b = some o) E) F.called_set.init.plain F.entry_set_init (check_set_init_1 g1 ?_)) fun r2 s2 hr2 => ?_
      · obtain ⟨⟨lc, ld, lx, lsl⟩, l1, l2, ln, l3⟩ := hl
        simp only at l2 l3
        subst l2 l3
        have l4 : (s.heap.push (nuSet w)).get? l = some { cls := .type "list", dict := ld, data := .seq items ln, slots := lsl } := Heap.get?_push_of_some _ l1
        have l5 : (s.heap.push (nuSet w)).IsList l items := ⟨_, l4, rfl, ln, rfl⟩
        have m1 := F.sub_list_set
        have m2 := F.sub_list_frozenset
        have m3 : (Value.type "list" == Value.type "dict") = false := rfl
        unfold Builtin.«set.__init__» noKeywords Builtin.Frozenset.updateFrom
        generalize hPI : pyIter = PI
        wp_walk
        subst hPI
        refine wpAny_pyIter_list l5 (wpAny_bind (wpAny_runValue ?_))
        have ls : l < s.heap.objs.size := Heap.lt_size l1
        have zz : (s.heap.push (nuSet w)).objs.size = s.heap.objs.size + 1 := Heap.size_push ..
        have h3 : A.in1.in1.in1.handled = none := by simp [hh]
        have ne : l ≠ (s.heap.push (nuSet w)).objs.size := by rw [zz]; exact Nat.ne_of_lt (Nat.lt_succ_of_lt ls)
        refine setX_loop ((Walks.list h3 (s.heap.push (nuSet w)).objs.size l ne items).toS) (zs := zs) ?_ zi room ?_ (items.size - 0) 0 _ rfl (Nat.zero_le _) ⟨⟨_, Heap.get?_push_size _ rfl, rfl, rfl⟩, l5.push _⟩ ⟨[], setX_none (Heap.get?_push_of_some _ g0), Nat.le_refl _, fun x => by simp⟩ ?_
        · intro m
          rcases List.mem_cons.mp m with m | m
          · rw [zz] at m; exact absurd m (Nat.ne_of_lt (Nat.lt_succ_self _))
          · exact absurd (List.mem_singleton.mp m) (Nat.ne_of_gt ls)
        · intro i v hv
          have hj : i < zs.length := by rw [zi]; exact (Array.getElem?_eq_some_iff.mp hv).1
          obtain ⟨tk, e⟩ := SS.strs_at hi i v (by rw [Array.getElem?_toList]; exact hv)
          exact ⟨zs[i], tk, List.getElem?_eq_getElem hj, by rw [e, List.getD_eq_getElem?_getD, List.getElem?_eq_getElem hj]; rfl⟩
        · rintro ⟨hp, gn, dr, tk, os⟩ mv ⟨xs, x1, x2, x3⟩
          have q1 : gn = s.gens := mv.gens
          have q2 : dr = s.drawn := mv.drawn
          have q3 : os = s.os := mv.os
          subst q1 q2 q3
          show wpAny _ _ _ _ _ _
          refine wpAny_pure ?_
          show wpAny _ _ (PySem.ret Value.none) _ _ _
          refine wpAny_pure ⟨rfl, hp, tk, xs, rfl, x1, by omega, x3, fun b o e => ?_⟩
          have lb : b < s.heap.objs.size := Heap.lt_size e
          refine mv.heap b o (fun m => ?_) (Heap.get?_push_of_some _ (Heap.get?_push_of_some _ e))
          rcases List.mem_cons.mp m with m | m
          · exact absurd m (Nat.ne_of_lt lb)
          · rw [List.mem_singleton, zz] at m; exact absurd m (Nat.ne_of_lt (Nat.lt_succ_of_lt lb))
      · cases r2 with
        | error e => exact hr2
        | ok fl2 =>
          cases fl2 with
          | ret r =>
            obtain ⟨rfl, h1, tk, xs, rfl, x1, x2, x3, x4⟩ := hr2
            repeat (any_goals (first | assumption | wp_step))
            exact fin _ _ _ x1 x2 x3 x4
          | _ => exact hr2.elim
    | _ => exact hr.elim
/-- sorted(a set of texts) -/
theorem setX_sorted {a : Addr} {xs : List Str} {Q : Value → Shared → Prop} (R : SetX w s.heap a xs) (hh : A.handled = none) (few : xs.length < 64)
    (fin : ∀ s1 p (out : Array Value) (c : Nat) (ys : List Str), (∀ b o, s.heap.get? b = some o → s1.heap.get? b = some o) → s1.gens = s.gens → s1.os = s.os → s.heap.objs.size ≤ p →
      s1.heap.get? p = some (seqObj "list" out c) → StrsAre out.toList ys → ys.Perm xs → sortedS ys = true → Q (.ref p) s1) :
    wpAny (model P w) A (call (.builtin "sorted") [.ref a]) Q E s := by
  obtain ⟨ob, es, ep, t, e1, e2, e3, g, pm, nd, z, hf, hr, hl⟩ := R
  refine Calls.call_function_entry kind_sorted plain_sorted entry_sorted (args_sorted1 _) ?_
  unfold Builtin.«sorted»
  refine wpAny_bind (m := checkCount "sorted" 1 1 _) (wpAny_pure ?_)
  refine wpAny_bind (collect_set (A := A.in1) hh ⟨ob, e1, e2.1, e3⟩ hf z hr hl fun s1 vs k1 k2 k3 k4 pv => ?_)
  have sof : ∀ us : List Value, (∀ v ∈ us, ∃ x tk, v = Value.str x tk) → StrsAre us (us.map fun v => enX (0, v)) := by
    intro us
    induction us with
    | nil => exact fun _ => .nil
    | cons v us ih =>
      intro m
      obtain ⟨x, tk, rfl⟩ := m v List.mem_cons_self
      exact .cons x tk (ih fun u hu => m u (List.mem_cons_of_mem _ hu))
  have vS : StrsAre vs (vs.map fun v => enX (0, v)) := sof vs fun v m => by
    obtain ⟨e, he, q⟩ := List.mem_map.mp (pv.mem_iff.mp m)
    obtain ⟨x, tk, q1, _⟩ := g e he
    exact ⟨x, tk, by rw [← q, q1]⟩
  have vp : (vs.map fun v => enX (0, v)).Perm xs := by
    have q := pv.map fun v => enX (0, v)
    rw [List.map_map] at q
    exact q.trans pm
  have vl : vs.length < 64 := by
    have := vp.length_eq
    rw [List.length_map] at this
    omega
  refine wpAny_bind (wpAny_newList ?_ (by rw [sizeLine_eq]; omega))
  have n1 : (s1.heap.push (seqObj "list" vs.toArray 0)).get? s1.heap.objs.size = some (seqObj "list" vs.toArray 0) := Heap.get?_push_size _ rfl
  refine wpAny_bind (wpAny_holding (wpAny_call_entry slot_list_sort ⟨_, n1, rfl⟩ entry_list_sort (list_sort_treeK PyProof.Rows.strKind_oneLt n1 vS.keysOf (fun v1 v2 rest e => keyKind_strs (by rw [← e]; exact vS)) vl fun st hp hs => ⟨_, rfl, ?_⟩) (args_list_sort _)))
  obtain ⟨ys, o1, o2, o3⟩ := sorted_out_str vS hp hs
  obtain ⟨c, hc⟩ := sortedHeap_at (vs := vs) (out := (arrOf st).map (·.2)) n1
  refine wpAny_pure ⟨_, rfl, fin _ s1.heap.objs.size _ c ys (fun b u e => ?_) k3 k4 k2 hc o1 (o2.trans vp) o3⟩
  have q := k1 b u e
  have lb := Heap.lt_size q
  show (sortedHeap _ s1.heap.objs.size vs _).get? b = some u
  rw [sortedHeap_old (Nat.ne_of_lt lb) (by rw [size_push']; exact Nat.lt_succ_of_lt lb)]
  exact Heap.get?_push_of_some _ q
end
/-! ### over the layer's heaps -/
def SetXO (w : World) (a : Addr) (xs : List Str) : HO := .ext fun h => SetX w h a xs
section
variable {X : Cx}
theorem setXO_ok {w : World} {P : Program} {H : Hp} {h : Heap} {a : Addr} {xs : List Str} (R : SetX w h a xs) : ObjOk P w H h a (SetXO w a xs) := by
  have ⟨o, _, _, _, ho, _⟩ := R
  exact ⟨R, ⟨o, ho⟩, fun h1 h2 p k => SetX.go p k⟩
/-- set(a list of texts) -/
def rSetX (K : PySem.W.Frag) (w : World) : List V → Hp → VK → Prop := fun us H Q => ∃ (l : Addr) (zs : List Str), us = [V.ref l] ∧ SqL K H l (zs.map V.str) ∧ zs.length + 1 < scanBound ∧
  ∀ a xs, H a = none → xs.length ≤ zs.length → (∀ x, x ∈ xs ↔ x ∈ zs) → Q (.ref a) (upd H a (SetXO w a xs))
theorem cr_setX (hc : X.calm = true) : CallR X (.type "set") (rSetX X.K X.w) := by
  intro pins s σ H xs us Q I r h
  obtain ⟨l, zs, rfl, hl, hz, q⟩ := h
  rw [Vals.ref1 r]
  obtain ⟨its, rv, pl, _⟩ := I.list hl
  have fresh : H s.heap.objs.size = none := I.hok.fresh (Nat.le_refl _)
  refine setX_of_list (I.ok.hd hc) pl.isList (by simpa using rv.strs) hz fun h1 tk xs x1 x2 x3 k => ?_
  exact ⟨.ref s.heap.objs.size, upd H s.heap.objs.size (SetXO X.w s.heap.objs.size xs), I.laid (t' := tk) k (Nat.le_refl _) (setXO_ok x1), rfl, q _ xs fresh x2 x3⟩
/-- sorted(such a set) -/
def rSortX (w : World) : List V → Hp → VK → Prop := fun us H Q => ∃ (a : Addr) (xs : List Str), us = [V.ref a] ∧ H a = some (SetXO w a xs) ∧ xs.length < 64 ∧
  ∀ (ys : List Str) (p : Addr), ys.Nodup → ys.Perm xs → sortedS ys = true → H p = none → Q (.ref p) (upd H p (.lst (ys.map V.str)))
theorem cr_sortX (hc : X.calm = true) : CallR X (.builtin "sorted") (rSortX X.w) := by
  intro pins s σ H vs us Q I r h
  obtain ⟨a, xs, rfl, ha, few, q⟩ := h
  have R : SetX X.w s.heap a xs := (I.hok a _ ha).1
  have nd : xs.Nodup := by
    obtain ⟨_, _, _, _, _, _, _, _, _, nd, _⟩ := R
    exact nd
  rw [Vals.ref1 r]
  refine setX_sorted R (I.ok.hd hc) few fun s1 p out c ys k g o hp hg hi pm hs => ?_
  have zl : (ys.map V.str).length ≤ sizeLine := by rw [List.length_map, pm.length_eq, sizeLine_eq]; omega
  have fresh : H p = none := I.hok.fresh hp
  have e : s1 = { s with heap := s1.heap, gens := s1.gens, drawn := s1.drawn, toks := s1.toks } := by
    cases s1; cases s; cases o; rfl
  rw [e]
  have J : Inv X pins σ (upd H p (.lst (ys.map V.str))) { s with heap := s1.heap, gens := s1.gens, drawn := s1.drawn, toks := s1.toks } := I.call (ch := []) (Un.laid k hp fresh) (I.hok.laid k hp ⟨zl, out.toList, c, vals_of_strs hi, hg⟩) (by rw [g]; exact I.bare) (fun _ z => nomatch z)
  exact ⟨.ref p, _, J, rfl, q ys p (pm.nodup_iff.mpr nd) pm hs fresh⟩
end
end DS

set_option Elab.async false
set_option linter.all false
set_option maxRecDepth 100000
set_option maxHeartbeats 1000000
namespace DS
open PySem PySem.Spec PyProof.Rows L2
/-! ### texts in order -/
def leS (a b : Str) : Bool := !ltCps b.cps.toList a.cps.toList
theorem leS_iff {a b : Str} : leS a b = true ↔ a.cps.toList ≤ b.cps.toList := by
  unfold leS
  rw [ltCps_eq]
  simp
theorem leS_total (a b : Str) : leS a b = true ∨ leS b a = true := by
  rw [leS_iff, leS_iff]
  exact List.le_total ..
theorem leS_trans {a b c : Str} (h : leS a b = true) (k : leS b c = true) : leS a c = true := by
  rw [leS_iff] at *
  exact List.le_trans h k
theorem leS_anti {a b : Str} (h : leS a b = true) (k : leS b a = true) : a = b := by
  rw [leS_iff] at *
  have e := List.le_antisymm h k
  have e2 := Array.toList_inj.mp e
  cases a; cases b; simp_all
def insS (x : Str) : List Str → List Str
  | [] => [x]
  | y :: r => if leS x y then x :: y :: r else y :: insS x r
def srtS : List Str → List Str
  | [] => []
  | x :: r => insS x (srtS r)
theorem insS_perm (x : Str) : ∀ l, (insS x l).Perm (x :: l)
  | [] => .refl _
  | y :: r => by
    unfold insS
    split
    · exact .refl _
    · exact ((insS_perm x r).cons y).trans (.swap x y r)
theorem srtS_perm : ∀ l, (srtS l).Perm l
  | [] => .refl _
  | x :: r => (insS_perm x (srtS r)).trans ((srtS_perm r).cons x)
theorem insS_pw (x : Str) : ∀ l, l.Pairwise (fun a b => leS a b = true) → (insS x l).Pairwise (fun a b => leS a b = true)
  | [], _ => by simp [insS]
  | y :: r, h => by
    obtain ⟨h1, h2⟩ := List.pairwise_cons.mp h
    unfold insS
    split
    · rename_i c
      refine List.pairwise_cons.mpr ⟨fun z hz => ?_, h⟩
      rcases List.mem_cons.mp hz with e | e
      · rw [e]; exact c
      · exact leS_trans c (h1 z e)
    · rename_i c
      refine List.pairwise_cons.mpr ⟨fun z hz => ?_, insS_pw x r h2⟩
      rcases List.mem_cons.mp ((insS_perm x r).mem_iff.mp hz) with e | e
      · rw [e]; exact (leS_total x y).resolve_left c
      · exact h1 z e
theorem srtS_pw : ∀ l, (srtS l).Pairwise (fun a b => leS a b = true)
  | [] => .nil
  | x :: r => insS_pw x _ (srtS_pw r)
theorem sorted_pw : ∀ l : List Str, sortedS l = true → l.Pairwise (fun a b => leS a b = true)
  | [], _ => .nil
  | x :: r, h => by
    have main : ∀ (r : List Str) (x : Str), risingS x r = true → (x :: r).Pairwise (fun a b => leS a b = true) := by
      intro r
      induction r with
      | nil => intro x _; simp
      | cons y r ih =>
        intro x h
        unfold risingS at h
        rw [Bool.and_eq_true] at h
        have p := ih y h.2
        refine List.pairwise_cons.mpr ⟨fun z hz => ?_, p⟩
        rcases List.mem_cons.mp hz with e | e
        · rw [e]; exact h.1
        · exact leS_trans (b := y) h.1 ((List.pairwise_cons.mp p).1 z e)
    exact main r x h
theorem pw_unique : ∀ {l m : List Str}, l.Pairwise (fun a b => leS a b = true) → m.Pairwise (fun a b => leS a b = true) → l.Perm m → l = m
  | [], m, _, _, p => by rw [p.nil_eq]
  | x :: l, [], _, _, p => by have := p.length_eq; simp at this
  | x :: l, y :: m, h, k, p => by
    obtain ⟨h1, h2⟩ := List.pairwise_cons.mp h
    obtain ⟨k1, k2⟩ := List.pairwise_cons.mp k
    have e : x = y := by
      rcases List.mem_cons.mp (p.mem_iff.mp List.mem_cons_self) with e | e
      · exact e
      · rcases List.mem_cons.mp (p.mem_iff.mpr List.mem_cons_self) with e' | e'
        · exact e'.symm
        · exact leS_anti (h1 y e') (k1 x e)
    subst e
    rw [pw_unique h2 k2 (List.perm_cons x |>.mp p)]
theorem sorted_eq {ys xs : List Str} (h : sortedS ys = true) (p : ys.Perm xs) : ys = srtS xs := pw_unique (sorted_pw ys h) (srtS_pw xs) (p.trans (srtS_perm xs).symm)
/-- each once -/
def ded : List Str → List Str
  | [] => []
  | x :: r => if x ∈ r then ded r else x :: ded r
theorem mem_ded (y : Str) : ∀ l, y ∈ ded l ↔ y ∈ l
  | [] => Iff.rfl
  | x :: r => by
    unfold ded
    split
    · rename_i c
      rw [mem_ded y r, List.mem_cons]
      exact ⟨.inr, fun h => h.elim (fun e => e ▸ c) id⟩
    · rw [List.mem_cons, List.mem_cons, mem_ded y r]
theorem ded_nodup : ∀ l, (ded l).Nodup
  | [] => .nil
  | x :: r => by
    unfold ded
    split
    · exact ded_nodup r
    · rename_i c
      exact List.nodup_cons.mpr ⟨fun h => c ((mem_ded x r).mp h), ded_nodup r⟩
def strsOf : List D → Option (List Str)
  | [] => some []
  | .str x :: r => (strsOf r).map (x :: ·)
  | _ :: _ => none
theorem strsOf_map : ∀ xs : List Str, strsOf (xs.map D.str) = some xs
  | [] => rfl
  | x :: xs => by simp [strsOf, strsOf_map xs]
theorem strsOf_eq : ∀ {ds : List D} {xs : List Str}, strsOf ds = some xs → ds = xs.map D.str
  | [], xs, h => by simp [strsOf] at h; subst h; rfl
  | .str x :: r, xs, h => by
    simp only [strsOf, Option.map_eq_some_iff] at h
    obtain ⟨ys, h1, rfl⟩ := h
    rw [strsOf_eq h1]; rfl
  | .non :: _, _, h => by simp [strsOf] at h
  | .bl _ :: _, _, h => by simp [strsOf] at h
  | .int _ :: _, _, h => by simp [strsOf] at h
  | .ty _ :: _, _, h => by simp [strsOf] at h
  | .tup _ :: _, _, h => by simp [strsOf] at h
  | .lst _ :: _, _, h => by simp [strsOf] at h
  | .dct _ :: _, _, h => by simp [strsOf] at h
  | .obj _ _ :: _, _, h => by simp [strsOf] at h
  | .exc _ _ :: _, _, h => by simp [strsOf] at h
  | .glo _ :: _, _, h => by simp [strsOf] at h
  | .scr _ :: _, _, h => by simp [strsOf] at h
theorem repL_strs {K : PySem.W.Frag} {mg : Str → Option Value} {G : Hp} : ∀ {xs : List Str} {vs : List V}, RepL K mg G (xs.map D.str) vs → vs = xs.map V.str ∧ ∀ x ∈ xs, PyData.strOk x = true
  | [], vs, h => by simp only [List.map_nil] at h; unfold RepL at h; subst h; simp
  | x :: xs, vs, h => by
    rw [List.map_cons] at h
    unfold RepL at h
    obtain ⟨v, vs', rfl, h1, h2⟩ := h
    unfold Rep at h1
    obtain ⟨rfl, h1⟩ := h1
    obtain ⟨rfl, h3⟩ := repL_strs h2
    refine ⟨rfl, fun y hy => ?_⟩
    rcases List.mem_cons.mp hy with e | e
    · rw [e]; exact h1
    · exact h3 y e
theorem repL_ofStrs {K : PySem.W.Frag} {mg : Str → Option Value} {G : Hp} : ∀ {xs : List Str}, (∀ x ∈ xs, PyData.strOk x = true) → RepL K mg G (xs.map D.str) (xs.map V.str)
  | [], _ => RepL.nil
  | x :: xs, h => RepL.cons (rep_str (h x List.mem_cons_self)) (repL_ofStrs fun y hy => h y (List.mem_cons_of_mem _ hy))
def intsOf : List D → Option (List Int)
  | [] => some []
  | .int x :: r => (intsOf r).map (x :: ·)
  | _ :: _ => none
theorem intsOf_map : ∀ xs : List Int, intsOf (xs.map D.int) = some xs
  | [] => rfl
  | x :: xs => by simp [intsOf, intsOf_map xs]
theorem intsOf_eq : ∀ {ds : List D} {xs : List Int}, intsOf ds = some xs → ds = xs.map D.int
  | [], xs, h => by simp [intsOf] at h; subst h; rfl
  | .int x :: r, xs, h => by
    simp only [intsOf, Option.map_eq_some_iff] at h
    obtain ⟨ys, h1, rfl⟩ := h
    rw [intsOf_eq h1]; rfl
  | .non :: _, _, h => by simp [intsOf] at h
  | .bl _ :: _, _, h => by simp [intsOf] at h
  | .str _ :: _, _, h => by simp [intsOf] at h
  | .ty _ :: _, _, h => by simp [intsOf] at h
  | .tup _ :: _, _, h => by simp [intsOf] at h
  | .lst _ :: _, _, h => by simp [intsOf] at h
  | .dct _ :: _, _, h => by simp [intsOf] at h
  | .obj _ _ :: _, _, h => by simp [intsOf] at h
  | .exc _ _ :: _, _, h => by simp [intsOf] at h
  | .glo _ :: _, _, h => by simp [intsOf] at h
  | .scr _ :: _, _, h => by simp [intsOf] at h
theorem repL_ints {K : PySem.W.Frag} {mg : Str → Option Value} {G : Hp} : ∀ {xs : List Int} {vs : List V}, RepL K mg G (xs.map D.int) vs → vs = xs.map V.int
  | [], vs, h => by simp only [List.map_nil] at h; unfold RepL at h; subst h; rfl
  | x :: xs, vs, h => by
    rw [List.map_cons] at h
    unfold RepL at h
    obtain ⟨v, vs', rfl, h1, h2⟩ := h
    unfold Rep at h1
    rw [h1, repL_ints h2]; rfl
/-! ints in order -/
def insI (x : Int) : List Int → List Int
  | [] => [x]
  | y :: r => if x ≤ y then x :: y :: r else y :: insI x r
def srtI : List Int → List Int
  | [] => []
  | x :: r => insI x (srtI r)
theorem insI_perm (x : Int) : ∀ l, (insI x l).Perm (x :: l)
  | [] => .refl _
  | y :: r => by
    unfold insI
    split
    · exact .refl _
    · exact ((insI_perm x r).cons y).trans (.swap x y r)
theorem srtI_perm : ∀ l, (srtI l).Perm l
  | [] => .refl _
  | x :: r => (insI_perm x (srtI r)).trans ((srtI_perm r).cons x)
theorem insI_pw (x : Int) : ∀ l, l.Pairwise (· ≤ ·) → (insI x l).Pairwise (· ≤ ·)
  | [], _ => by simp [insI]
  | y :: r, h => by
    obtain ⟨h1, h2⟩ := List.pairwise_cons.mp h
    unfold insI
    split
    · refine List.pairwise_cons.mpr ⟨fun z hz => ?_, h⟩
      rcases List.mem_cons.mp hz with e | e
      · omega
      · have := h1 z e; omega
    · refine List.pairwise_cons.mpr ⟨fun z hz => ?_, insI_pw x r h2⟩
      rcases List.mem_cons.mp ((insI_perm x r).mem_iff.mp hz) with e | e
      · omega
      · exact h1 z e
theorem srtI_pw : ∀ l, (srtI l).Pairwise (· ≤ ·)
  | [] => .nil
  | x :: r => insI_pw x _ (srtI_pw r)
theorem pwI_unique : ∀ {l m : List Int}, l.Pairwise (· ≤ ·) → m.Pairwise (· ≤ ·) → l.Perm m → l = m
  | [], m, _, _, p => by rw [p.nil_eq]
  | x :: l, [], _, _, p => by have := p.length_eq; simp at this
  | x :: l, y :: m, h, k, p => by
    obtain ⟨h1, h2⟩ := List.pairwise_cons.mp h
    obtain ⟨k1, k2⟩ := List.pairwise_cons.mp k
    have e : x = y := by
      rcases List.mem_cons.mp (p.mem_iff.mp List.mem_cons_self) with e | e
      · exact e
      · rcases List.mem_cons.mp (p.mem_iff.mpr List.mem_cons_self) with e' | e'
        · exact e'.symm
        · have := h1 y e'; have := k1 x e; omega
    subst e
    rw [pwI_unique h2 k2 (List.perm_cons x |>.mp p)]
/-! ### sorted(e), of a list of texts or ints; sorted(set(e)) of texts -/
def fSorted : D → Option D
  | .lst ds => match strsOf ds with
    | some xs => if xs.length < 64 then some (.lst ((srtS xs).map .str)) else none
    | none => (intsOf ds).map fun ns => .lst ((srtI ns).map .int)
  | _ => none
def dSortO (t : M D) : M Sl := bnd t fun d => lft ((fSorted d).map fun d' => Sl.ow none d')
def fSortSet : D → Option D
  | .lst ds => match strsOf ds with
    | some xs => if xs.length < 64 then some (.lst ((srtS (ded xs)).map .str)) else none
    | none => none
  | _ => none
def dSortSetO (t : M D) : M Sl := bnd t fun d => lft ((fSortSet d).map fun d' => Sl.ow none d')
section
variable {Z : DC} {m1 m2 : Md} {a b : Expr} {ta tb : M D} {pos p2 p3 p4 : Pos}
theorem dr_sorted (hm : Z.X.mg "sorted" = none) (ha : DE Z m1 a ta) (hg : Gl Z.X "sorted" := by rfl) (he : starEach (a :: []) Z.X.env = (false, eval a Z.X.env) :: starEach [] Z.X.env := by rfl) (hpl : (backTo pos (starEach [] Z.X.env)).any (·.1) = false := by rfl) :
    DR Z (.Call (.Name "sorted" p2) [a] [] pos) (dSortO ta) := by
  obtain ⟨tea, pa, sa⟩ := ha
  refine ⟨_, pe_callB (CallR.or' cr_sortedS cr_sortedI) hg hm (by decide +kernel) (pa_cons pa pa_nil he) (by decide) (by decide) he hpl, fun Ho hw G ρ σ H Q x q => ?_⟩
  refine sa Ho hw G ρ σ H _ x (DE.then (L := fun r => LR Z Ho G σ r Q) (fun _ _ h => h) (fun h => h) q fun d ρ1 v G1 H1 x1 g1 s1 b1 q1 => ?_)
  cases d <;> try (exact q1.elim)
  rename_i ds
  obtain ⟨l0, vs, rfl, h1, h2⟩ := b1.lst x1.gh
  simp only [fSorted] at q1
  cases e : strsOf ds with
  | some xs =>
    simp only [e] at q1
    by_cases hz : xs.length < 64
    · rw [if_pos hz] at q1
      have e' := strsOf_eq e
      subst e'
      obtain ⟨rfl, h3⟩ := repL_strs h2
      refine .inl ⟨l0, xs, rfl, SqL.of h1, hz, fun ys p pm so hp => ?_⟩
      rw [sorted_eq so pm]
      exact q1 (.ref p) G1 _ (x1.pushO (.lst (repL_ofStrs fun y hy => h3 y ((srtS_perm xs).mem_iff.mp hy))) hp) g1
    · rw [if_neg hz] at q1; exact q1.elim
  | none =>
    simp only [e] at q1
    cases e2 : intsOf ds with
    | none => rw [e2] at q1; exact q1.elim
    | some ns =>
      rw [e2] at q1
      have e' := intsOf_eq e2
      subst e'
      have := repL_ints h2
      subst this
      refine .inr ⟨l0, ns, rfl, SqL.of h1, fun ys p pm so hp => ?_⟩
      rw [pwI_unique so (srtI_pw ns) (pm.trans (srtI_perm ns).symm)]
      exact q1 (.ref p) G1 _ (x1.pushO (.lst (RepL.ints _)) hp) g1
theorem dr_sortSet (hm : Z.X.mg "sorted" = none) (hm2 : Z.X.mg "set" = none) (ha : DE Z m1 a ta) (hh : Z.hot = false := by rfl) (hg : Gl Z.X "sorted" := by rfl) (hg2 : Gl Z.X "set" := by rfl)
    (he2 : starEach (a :: []) Z.X.env = (false, eval a Z.X.env) :: starEach [] Z.X.env := by rfl) (hpl2 : (backTo p4 (starEach [] Z.X.env)).any (·.1) = false := by rfl)
    (he : starEach (.Call (.Name "set" p3) [a] [] p4 :: []) Z.X.env = (false, eval (.Call (.Name "set" p3) [a] [] p4) Z.X.env) :: starEach [] Z.X.env := by rfl) (hpl : (backTo pos (starEach [] Z.X.env)).any (·.1) = false := by rfl) :
    DR Z (.Call (.Name "sorted" p2) [.Call (.Name "set" p3) [a] [] p4] [] pos) (dSortSetO ta) := by
  obtain ⟨tea, pa, sa⟩ := ha
  have pset := pe_callTy (pos := p4) (p := p3) (cr_setX (Z.calm hh)) hg2 hm2 (by decide +kernel) (pa_cons pa pa_nil he2) (by decide) (by decide) he2 hpl2
  refine ⟨_, pe_callB (cr_sortX (Z.calm hh)) hg hm (by decide +kernel) (pa_cons pset pa_nil he) (by decide) (by decide) he hpl, fun Ho hw G ρ σ H Q x q => ?_⟩
  refine sa Ho hw G ρ σ H _ x (DE.then (L := fun r => LR Z Ho G σ r Q) (fun _ _ h => h) (fun h => h) q fun d ρ1 v G1 H1 x1 g1 s1 b1 q1 => ?_)
  cases d <;> try (exact q1.elim)
  rename_i ds
  obtain ⟨l0, vs, rfl, h1, h2⟩ := b1.lst x1.gh
  simp only [fSortSet] at q1
  cases e : strsOf ds with
  | none => simp only [e] at q1; exact q1.elim
  | some xs =>
    simp only [e] at q1
    by_cases hz : xs.length < 64
    · rw [if_pos hz] at q1
      have e' := strsOf_eq e
      subst e'
      obtain ⟨rfl, h3⟩ := repL_strs h2
      refine ⟨l0, xs, rfl, SqL.of h1, by unfold scanBound; omega, fun p us hp hl hmem => ?_⟩
      refine ⟨p, us, rfl, upd_same, by omega, fun ys p' nd pm so hp' => ?_⟩
      have hne : p' ≠ p := fun z => by rw [z, upd_same] at hp'; cases hp'
      have pm2 : ys.Perm (ded xs) := (List.perm_ext_iff_of_nodup nd (ded_nodup xs)).mpr fun y => by rw [pm.mem_iff, hmem, mem_ded]
      rw [sorted_eq so pm2]
      obtain ⟨x2, g2⟩ := x1.allocF (o := SetXO Z.X.w p us) hp
      exact q1 (.ref p') _ _ (x2.pushO (.lst (repL_ofStrs fun y hy => h3 y ((mem_ded y xs).mp ((srtS_perm _).mem_iff.mp hy)))) hp') (g1.trans g2)
    · rw [if_neg hz] at q1; exact q1.elim
end
@[simp] theorem x_sortO (t : M D) (ρ : List Sl) : dSortO t ρ = (t ρ).bind fun d => lft ((fSorted d).map fun d' => Sl.ow none d') := rfl
@[simp] theorem x_sortSetO (t : M D) (ρ : List Sl) : dSortSetO t ρ = (t ρ).bind fun d => lft ((fSortSet d).map fun d' => Sl.ow none d') := rfl
end DS

set_option Elab.async false
set_option linter.all false
set_option maxRecDepth 100000
set_option maxHeartbeats 1000000
namespace DS
open PySem PySem.Spec PyProof.Rows L2
/-! ### xs.count(y), flat data -/
def rCntD (K : PySem.W.Frag) : V → List V → Hp → VK → Prop := fun x us H Q => ∃ (a : Addr) (y : V) (d : PyData) (ds : List PyData), x = V.ref a ∧ us = [y] ∧ Dp K H (V.ref a) (.list ds) ∧ Dp K H y d ∧
  SeqAt.shaped (.list ds) = true ∧ SeqAt.shaped d = true ∧ Q (.int (ds.countP fun z => PyData.eqv z d : Nat)) H
section
variable {X : Cx}
theorem mt_cntD (hu : X.A.units + 65 < cLine) : MtR X "list.count" (rCntD X.K) := by
  intro pins s σ H x xs v us Q I rx rxs h
  obtain ⟨a, y, d, ds, rfl, rfl, hl, hy, sl, sd, q⟩ := h
  cases rx
  obtain ⟨uy, rfl, ry⟩ := rxs.one
  obtain ⟨bs, r1⟩ := Dp.reads I d y uy hy ry
  have lay : PyData.canLayAll0 ds = true := SeqAt.canLay_of_shaped sl
  have room : X.A.units + 1 + min (PyData.depthAll ds) d.depth < cLine := room_in_shaped sd hu
  cases hl with
  | lst hs ha =>
    obtain ⟨its, rv, ⟨⟨oc, od, ox, osl⟩, n, ho, h1, h2, h3⟩, _⟩ := I.list hs
    simp only at h1 h3
    subst h1 h3
    obtain ⟨as, h4⟩ := Dp.readsAll I ds _ its ha rv
    have mp : its.map (SeqAt.readOf s.heap) = ds := SeqAt.readsAll_map ds its as lay h4
    refine call_meets PySem.F.slot_list_count ⟨_, ho, rfl⟩ PySem.F.entry_list_count (PySem.F.args_list_count_2 _ _)
      (SeqAt.list_countAt a its.toArray n od osl uy fun u => PyData.eqv (SeqAt.readOf s.heap u) d) ⟨ho, SeqAt.items_eqAt (vs := its.toArray) (show ReadsAll s.heap its.toArray.toList ds as from h4) r1 lay (SeqAt.canLay_of_shaped sd) room, ?_⟩
    have e : its.toArray.toList.countP (fun u => PyData.eqv (SeqAt.readOf s.heap u) d) = ds.countP fun z => PyData.eqv z d := by
      rw [← mp, List.countP_map]; rfl
    rw [e]
    exact ⟨.int (ds.countP fun z => PyData.eqv z d : Nat), H, I.tok _, ⟨s.toks, rfl⟩, q⟩
end
theorem pyL_countP (p : PyData → Bool) : ∀ ds : List D, (pyL ds).countP p = ds.countP fun z => p z.py
  | [] => rfl
  | d :: ds => by simp only [pyL, List.countP_cons, pyL_countP p ds]
def fCount (ds : List D) (e : D) : Option D := if e.flat && (D.lst ds).flat then some (.int (ds.countP fun z => z.eqv e : Nat)) else none
def dCount (ta tb : M D) : M D := bnd ta fun d => match d with
  | .lst ds => bnd tb fun e => lft (fCount ds e)
  | _ => fun _ => .no
section
variable {Z : DC} {m1 m2 : Md} {a b : Expr} {ta tb : M D} {pos apos : Pos}
theorem de_count (ha : DE Z m1 a ta) (hb : DE Z m2 b tb) (hm : (!m1.b || m2.p) = true := by rfl)
    (hbase : attributeBase a "count" Z.X.env (eval a Z.X.env) = eval a Z.X.env := by rfl)
    (hfew : ((backTo pos (starEach (b :: []) Z.X.env)).all (fun x => !x.1) && (backToKw pos (keywordEach [] Z.X.env)).all (fun x => x.1.isSome)
      && decide ((b :: ([] : List Expr)).length + ([] : List Keyword).length + (if ([] : List Keyword).isEmpty then 0 else 1) < 30)) = true := by rfl)
    (hline : (apos.endLine == pos.line) = true := by rfl) (hs : starEach (b :: []) Z.X.env = (false, eval b Z.X.env) :: starEach [] Z.X.env := by rfl) (hplain : (backTo pos (starEach [] Z.X.env)).any (·.1) = false := by rfl) :
    DE Z ⟨m1.p && m2.p, false⟩ (.Call (.Attribute a "count" apos) [b] [] pos) (dCount ta tb) := by
  obtain ⟨tea, pa, sa⟩ := ha
  obtain ⟨teb, pb, sb⟩ := hb
  refine ⟨_, pe_bm PySem.F.plainAttrs_list PySem.F.slot_list_count PySem.F.type_list_count (mt_cntD Z.hu65) pa (pa_cons pb pa_nil hs) hbase hfew hline hs hplain, fun Ho hw G ρ σ H Q x q => ?_⟩
  refine sa Ho hw G ρ σ H _ x (DE.then (L := fun r => LJ Z Ho ⟨m1.p && m2.p, false⟩ G H σ r Q) (fun _ _ h => h) (fun h => h) q fun d ρ1 v G1 H1 x1 g1 s1 b1 q1 => ?_)
  cases d <;> try (exact q1.elim)
  rename_i ds
  obtain ⟨p, vs, h0, h1, h2⟩ := b1.up.lst x1.gh
  subst h0
  refine ⟨.inl ⟨rfl, vs, SqL.of h1⟩, ?_⟩
  refine sb Ho hw G1 ρ1 σ H1 _ x1 (DE.then (L := fun r => LJ Z Ho ⟨m1.p && m2.p, false⟩ G H σ r Q) (fun _ _ h => h) (fun h => h) q1 fun e ρ2 w G2 H2 x2 g2 s2 b2 q2 => ?_)
  unfold lft fCount at q2
  by_cases hf : (e.flat && (D.lst ds).flat) = true
  · rw [if_pos hf] at q2
    rw [Bool.and_eq_true] at hf
    have b1' := b1.go g2.1 fun h => s2 (by rw [h] at hm; simpa using hm)
    obtain ⟨k1, k2⟩ := shaped_of (b1'.up.inH x2.gh) hf.2
    obtain ⟨k3, k4⟩ := shaped_of (b2.up.inH x2.gh) hf.1
    unfold D.py at k1 k2
    refine ⟨p, w, e.py, pyL ds, rfl, rfl, k1, k3, k2, k4, ?_⟩
    rw [pyL_countP]
    refine q2 _ _ _ x2 (g1.trans g2) (fun hp => ?_) (.inl rep_int)
    rw [Bool.and_eq_true] at hp
    exact (s1 hp.1).trans (s2 hp.2)
  · rw [if_neg hf] at q2; exact q2.elim
end
@[simp] theorem x_count (ta tb : M D) (ρ : List Sl) : dCount ta tb ρ = (ta ρ).bind fun d => match d with
  | .lst ds => bnd tb fun e => lft (fCount ds e)
  | _ => fun _ => .no := rfl
/-! ### {k: v, ..}.get(x, y), the keys None, ints or texts -/
def nV : Option Key → V
  | none => .non
  | some k => L2.kV k
theorem nV_is {P : Program} {w : World} {k : Option Key} {u : Value} (r : RelV (nV k) u) : (noneKind P w).is k u = true := by
  cases k with
  | none => cases (show u = Value.none from r); rfl
  | some k => exact kV_is (P := P) (w := w) r
/-- a dict with such keys -/
def DNO (P : Program) (w : World) (a : Addr) (kvs : List (Option Key × V)) : HO := .ext fun h => kvs.length ≤ sizeLine ∧ (a == sysModules) = false ∧ ∃ vs, KV kvs vs ∧ h.DictOf (noneKind P w) a vs
theorem dno_ok {P : Program} {w : World} {H : Hp} {h : Heap} {a : Addr} {kvs : List (Option Key × V)} {vs : List (Option Key × Value)} (z : kvs.length ≤ sizeLine) (hd : (a == sysModules) = false) (r : KV kvs vs) (dd : h.DictOf (noneKind P w) a vs) :
    ObjOk P w H h a (DNO P w a kvs) := by
  have ⟨o, _, _, ho, _⟩ := dd
  refine ⟨⟨z, hd, vs, r, dd⟩, ⟨o, ho⟩, fun h1 h2 p k => ?_⟩
  obtain ⟨z1, d1, us, r1, o1, es, ep, e1, rest⟩ := p
  exact ⟨z1, d1, us, r1, o1, es, ep, k _ e1, rest⟩
def mergN (kvs more : List (Option Key × V)) : List (Option Key × V) := more.foldl (fun acc kv => putK acc kv.1 kv.2) kvs
theorem mergN_len : ∀ (more kvs : List (Option Key × V)), (mergN kvs more).length ≤ kvs.length + more.length
  | [], kvs => by show kvs.length ≤ _; simp
  | p :: r, kvs => by
    have h1 := mergN_len r (putK kvs p.1 p.2)
    have h2 := length_putK kvs p.1 p.2
    show (mergN (putK kvs p.1 p.2) r).length ≤ _
    rw [List.length_cons]; omega
theorem KV.mergN : ∀ {more : List (Option Key × V)} {rs : List (Option Key × Value)} {kvs : List (Option Key × V)} {vs : List (Option Key × Value)}, KV more rs → KV kvs vs → KV (DS.mergN kvs more) (merged vs rs) := by
  intro more rs kvs vs r
  unfold KV at r
  induction r generalizing kvs vs with
  | nil => intro q; exact q
  | @cons p q ps qs h t ih =>
    intro r0
    refine ih (kvs := putK kvs p.1 p.2) (vs := stored vs q.1 q.2) ?_
    rw [← h.1]
    exact r0.put p.1 h.2
theorem carriesN {P : Program} {w : World} : ∀ {kvs : List (Option Key × V)} {ws : List (Value × Value)}, VV (kvs.map fun kv => (nV kv.1, kv.2)) ws → ∃ rs, Carries (noneKind P w) ws rs ∧ KV kvs rs
  | [], _, r => by rw [List.map_nil] at r; cases r; exact ⟨[], True.intro, .nil⟩
  | p :: kvs, _, r => by
    rw [List.map_cons] at r
    cases r with
    | @cons a b as bs h t =>
      obtain ⟨rs, c, q⟩ := carriesN (P := P) (w := w) t
      exact ⟨(p.1, b.2) :: rs, ⟨nV_is h.1, rfl, c⟩, .cons ⟨rfl, h.2⟩ q⟩
/-- the display -/
def tDispN (P : Program) (w : World) (trs : List (TE × TE)) : TE := fun σ H Q => ∀ p, H p = none → tPairs trs σ (upd H p (DNO P w p [])) fun ps H2 => H2 p = some (DNO P w p []) ∧
  ∃ kvs : List (Option Key × V), ps = kvs.map (fun kv => (nV kv.1, kv.2)) ∧ kvs.length ≤ 15 ∧ Q (.ref p) (upd H2 p (DNO P w p (mergN [] kvs)))
/-- its get -/
def tGetN (P : Program) (w : World) (td ty tx : TE) : TE := fun σ H Q => td σ H fun v H1 => ∃ p kvs, v = .ref p ∧ H1 p = some (DNO P w p kvs) ∧
  ty σ H1 fun y H3 => tx σ H3 fun z H4 => ∃ k, y = nV k ∧ H4 p = some (DNO P w p kvs) ∧ Q ((valV kvs k).getD z) H4
section
variable {X : Cx} {dp apos cpos : Pos} {keys : List (Option Expr)} {values : List Expr} {trs : List (TE × TE)} {o e f : Expr} {td ty tx : TE}
theorem pe_dispN (h : PPs X dp keys values trs) (hall : keys.all (·.isSome) = true) (hl : keys.length = values.length) (h0 : keys ≠ []) (h15 : keys.length ≤ 15) : PE X (.Dict keys values dp) (tDispN X.prog X.w trs) := by
  refine ⟨fun pins s σ H Q I q => ?_⟩
  have fr := I.hok.fresh (Nat.le_refl s.heap.objs.size)
  have nsm : (s.heap.objs.size == sysModules) = false := beq_eq_false_iff_ne.mpr (Ne.symm (Nat.ne_of_lt I.big))
  have I1 := I.laid (a := s.heap.objs.size) (o := DNO X.prog X.w s.heap.objs.size []) (h' := s.heap.push { cls := .type "dict", data := .dict #[] }) (t' := s.toks) (fun _ _ z => Heap.get?_push_of_some _ z) (Nat.le_refl _)
    (dno_ok (Nat.zero_le _) nsm .nil (Heap.DictOf.new s.heap))
  refine wpAny_Dict_walk (knd := noneKind X.prog X.w) hall hl h0 h15 (thn (h.run pins _ σ _ _ I1 (q _ fr)) fun ws s2 ⟨ps, H2, I2, rel, he, kvs, ep, lk, q2⟩ => ?_)
  subst ep
  obtain ⟨rs, c, rk⟩ := carriesN (P := X.prog) (w := X.w) rel
  have ok2 : ObjOk X.prog X.w H2 s2.heap s.heap.objs.size (DNO X.prog X.w s.heap.objs.size []) := I2.hok _ _ he
  obtain ⟨z, hd, vs0, r0, dd⟩ := ok2.1
  cases r0
  refine ⟨rs, c, dd, fun h1 d1 sb => ⟨.ref s.heap.objs.size, _, ?_, rfl, q2⟩⟩
  have hz : (mergN [] kvs).length ≤ sizeLine := by
    have := mergN_len kvs []
    rw [List.length_nil] at this
    rw [sizeLine_eq]; omega
  have ex : ∃ o, h1.get? s.heap.objs.size = some o := let ⟨o, _, _, ho, _⟩ := d1; ⟨o, ho⟩
  exact d_write I2 (by rw [he]; exact True.intro) sb ex (dno_ok hz hd (KV.mergN rk .nil) d1)
theorem pe_getN (ho : PE X o td) (he : PE X e ty) (hf : PE X f tx) (m : M2 X o "get" apos e f cpos) : PE X (.Call (.Attribute o "get" apos) [e, f] [] cpos) (tGetN X.prog X.w td ty tx) := by
  refine ⟨fun pins s σ H Q I q => ?_⟩
  refine wpAny_Call_method m.base m.few m.line PySem.F.plainAttrs_dict PySem.F.slot_dict_get PySem.F.type_dict_get (thn (ho.run pins s σ H _ I q) fun u s1 ⟨x, H1, I1, rx, p, kvs, ex, hp, q1⟩ => ?_)
  subst ex
  obtain rfl : u = Value.ref p := rx
  have ok1 : ObjOk X.prog X.w H1 s1.heap p (DNO X.prog X.w p kvs) := I1.hok _ _ hp
  obtain ⟨_, hd, vs, _, dd⟩ := ok1.1
  refine ⟨dd.typeIs, fun b q => ?_, ?_⟩
  · cases q
    obtain ⟨o, _, _, h1, h2, _⟩ := dd
    exact ⟨o, h1, h2.2.1⟩
  · rw [m.trees]
    refine Calls.callWith_builtin rfl (Calls.evalArgs_plain (Calls.spliced_cons (thn (he.run pins s1 σ H1 _ I1 q1) fun iv s2 ⟨y, H2, I2, ry, q2⟩ =>
      Calls.spliced_cons (thn (hf.run pins s2 σ H2 _ I2 q2) fun fv s3 ⟨z, H3, I3, rz, k, ey, hp3, q3⟩ => Calls.spliced_nil ?_))))
    subst ey
    have ok3 : ObjOk X.prog X.w H3 s3.heap p (DNO X.prog X.w p kvs) := I3.hok _ _ hp3
    obtain ⟨_, hd3, us, rk, d3⟩ := ok3.1
    refine call_meetsIn PySem.F.slot_dict_get d3.typeIs PySem.F.entry_dict_get (PySem.F.args_dict_get_3 _ _ _) (meets_dict_get_default (noneKind X.prog X.w) p (nV_is ry) hd3 fv) ⟨_, d3.mapOf, ⟨_, H3, I3.tok _, ?_, q3⟩⟩
    exact (rk.val k).getD rz
end
/-! over data -/
def keyN : D → Option (Option Key)
  | .non => some none
  | .int i => some (some (.inl i))
  | .str x => some (some (.inr x))
  | _ => none
theorem keyN_rep {K : PySem.W.Frag} {mg : Str → Option Value} {G : Hp} {d : D} {k : Option Key} {v : V} (h : keyN d = some k) (r : Rep K mg G d v) : v = nV k := by
  cases d <;> try (cases h; done)
  all_goals (cases h; unfold Rep at r)
  · exact r
  · exact r
  · exact r.1
/-- the pairs -/
def dPairs : List (M D × M D) → M (List (D × D))
  | [] => ret []
  | (k, v) :: r => bnd k fun x => bnd v fun y => bnd (dPairs r) fun ps => ret ((x, y) :: ps)
def putN (kvs : List (Option Key × D)) (k : Option Key) (v : D) : List (Option Key × D) :=
  if (kvs.any fun kv => decide (kv.1 = k)) = true then kvs.map (fun kv => if kv.1 = k then (kv.1, v) else kv) else kvs ++ [(k, v)]
def dispN (acc : List (Option Key × D)) : List (D × D) → Option (List (Option Key × D))
  | [] => some acc
  | (x, y) :: r => match keyN x with
    | some k => dispN (putN acc k y) r
    | none => none
def lookN (kvs : List (Option Key × D)) (k : Option Key) : Option D := (kvs.find? fun kv => decide (kv.1 = k)).map (·.2)
def dGetN (trs : List (M D × M D)) (ty tx : M D) : M D := bnd (dPairs trs) fun ps => match dispN [] ps with
  | some kvs => if ps.length ≤ 15 then bnd ty fun y => bnd tx fun z => lft ((keyN y).map fun k => (lookN kvs k).getD z) else fun _ => .no
  | none => fun _ => .no
def LPs (Z : DC) (Ho : Hp) (G : Hp) (σ : L2.St) (r : Res (List (D × D))) (Q : List (V × V) → Hp → Prop) : Prop := match r with
  | .ok ps ρ => ∀ vs G' H', Z.R Ho G' ρ σ H' → Gr Ho G G' → vs.length = ps.length → (∀ (i : Nat) (p : D × D) (v : V × V), ps[i]? = some p → vs[i]? = some v → Z.rep G' p.1 v.1 ∧ Z.rep G' p.2 v.2) → Q vs H'
  | .ex x ρ => Z.Ex x ρ
  | .no => False
def DPs (Z : DC) (pos : Pos) (keys : List (Option Expr)) (values : List Expr) (t : M (List (D × D))) : Prop :=
  ∃ trs, PPs Z.X pos keys values trs ∧ ∀ Ho, Same Z.Ho Ho → ∀ G ρ σ H Q, Z.R Ho G ρ σ H → LPs Z Ho G σ (t ρ) Q → tPairs trs σ H Q
section
variable {Z : DC} {m1 m2 m3 : Md} {k v e f : Expr} {ks : List (Option Expr)} {vs : List Expr} {tk tv ty tx : M D} {dp apos pos : Pos}
theorem dps_nil : DPs Z dp [] [] (dPairs []) := ⟨[], pps_nil, fun Ho hw G ρ σ H Q x q => q [] G H x Gr.refl rfl (fun i p v h => by simp at h)⟩
theorem dps_cons {r : List (M D × M D)} (hk : DE Z m1 k tk) (hv : DE Z m2 v tv) (hr : DPs Z dp ks vs (dPairs r)) (hb : m1.b = false := by rfl) (hb2 : m2.b = false := by rfl) : DPs Z dp (some k :: ks) (v :: vs) (dPairs ((tk, tv) :: r)) := by
  obtain ⟨tek, pk, sk⟩ := hk
  obtain ⟨tev, pv, sv⟩ := hv
  obtain ⟨trs, pr, sr⟩ := hr
  refine ⟨(tek, tev) :: trs, pps_cons pk pv pr, fun Ho hw G ρ σ H Q x q => ?_⟩
  refine sk Ho hw G ρ σ H _ x (DE.then (L := fun r => LPs Z Ho G σ r Q) (fun _ _ h => h) (fun h => h) q fun d ρ1 u1 G1 H1 x1 g1 s1 b1 q1 => ?_)
  refine sv Ho hw G1 ρ1 σ H1 _ x1 (DE.then (L := fun r => LPs Z Ho G σ r Q) (fun _ _ h => h) (fun h => h) q1 fun d2 ρ2 u2 G2 H2 x2 g2 s2 b2 q2 => ?_)
  refine sr Ho hw G2 ρ2 σ H2 _ x2 ?_
  rw [hb] at b1
  rw [hb2] at b2
  unfold bnd at q2
  cases er : dPairs r ρ2 with
  | no => rw [er] at q2; exact q2
  | ex x ρ => rw [er] at q2; exact q2
  | ok ps ρ3 =>
    rw [er] at q2
    refine fun us G3 H3 x3 g3 hl hu => q2 ((u1, u2) :: us) G3 H3 x3 ((g1.trans g2).trans g3) (by simp [hl]) fun i p w hp hw' => ?_
    cases i with
    | zero =>
      simp at hp hw'
      subst hp hw'
      exact ⟨Rep.mono (g2.1.trans g3.1) _ _ b1.rep, Rep.mono g3.1 _ _ b2.rep⟩
    | succ i => exact hu i p w (by simpa using hp) (by simpa using hw')
end
/-- the raw and the told table run alike -/
theorem dispN_kv {K : PySem.W.Frag} {mg : Str → Option Value} {G : Hp} : ∀ (ps : List (D × D)) (vs : List (V × V)) (acc : List (Option Key × D)) (bcc : List (Option Key × V)) (kvs : List (Option Key × D)),
    vs.length = ps.length → (∀ (i : Nat) (p : D × D) (v : V × V), ps[i]? = some p → vs[i]? = some v → Rep K mg G p.1 v.1 ∧ Rep K mg G p.2 v.2) → Paired (fun (p : Option Key × D) (q : Option Key × V) => p.1 = q.1 ∧ Rep K mg G p.2 q.2) acc bcc → dispN acc ps = some kvs →
    ∃ rs : List (Option Key × V), vs = rs.map (fun kv => (nV kv.1, kv.2)) ∧ Paired (fun (p : Option Key × D) (q : Option Key × V) => p.1 = q.1 ∧ Rep K mg G p.2 q.2) kvs (mergN bcc rs)
  | [], vs, acc, bcc, kvs, hl, hr, hp, h => by
    have : vs = [] := List.length_eq_zero_iff.mp hl
    subst this
    simp only [dispN, Option.some.injEq] at h
    subst h
    exact ⟨[], rfl, hp⟩
  | (x, y) :: ps, [], acc, bcc, kvs, hl, hr, hp, h => by simp at hl
  | (x, y) :: ps, (u, v) :: vs, acc, bcc, kvs, hl, hr, hp, h => by
    unfold dispN at h
    cases ek : keyN x with
    | none => rw [ek] at h; cases h
    | some k =>
      rw [ek] at h
      obtain ⟨r1, r2⟩ := hr 0 (x, y) (u, v) rfl rfl
      have eu : u = nV k := keyN_rep ek r1
      have put : Paired (fun (p : Option Key × D) (q : Option Key × V) => p.1 = q.1 ∧ Rep K mg G p.2 q.2) (putN acc k y) (putK bcc k v) := by
        have an : (acc.any fun kv => decide (kv.1 = k)) = bcc.any fun kv => decide (kv.1 = k) := by
          clear h
          induction hp with
          | nil => rfl
          | cons a b ih => rw [List.any_cons, List.any_cons, ih, a.1]
        unfold putN putK
        rw [an]
        split
        · rename_i yes
          clear h an yes
          induction hp with
          | nil => exact .nil
          | @cons p q l m a b ih =>
            rw [List.map_cons, List.map_cons]
            refine .cons ?_ ih
            by_cases c : q.1 = k
            · rw [if_pos c, if_pos (a.1.trans c)]; exact ⟨a.1, r2⟩
            · rw [if_neg c, if_neg fun z => c (a.1 ▸ z)]; exact a
        · exact Paired.snoc hp ⟨rfl, r2⟩
      obtain ⟨rs, e1, e2⟩ := dispN_kv ps vs _ _ kvs (by simpa using hl) (fun i p w hp hw => hr (i + 1) p w (by simpa using hp) (by simpa using hw)) put h
      exact ⟨(k, v) :: rs, by rw [List.map_cons, ← e1, eu], e2⟩
theorem lookN_rep {K : PySem.W.Frag} {mg : Str → Option Value} {G : Hp} {kvs : List (Option Key × D)} {rs : List (Option Key × V)} (h : Paired (fun (p : Option Key × D) (q : Option Key × V) => p.1 = q.1 ∧ Rep K mg G p.2 q.2) kvs rs) (k : Option Key) {z : D} {w : V} (r : Rep K mg G z w) :
    Rep K mg G ((lookN kvs k).getD z) ((valV rs k).getD w) := by
  induction h with
  | nil => exact r
  | @cons p q l m a b ih =>
    by_cases e : p.1 = k
    · have e2 : q.1 = k := a.1 ▸ e
      rw [valV_pos e2]
      have : lookN (p :: l) k = some p.2 := by simp [lookN, List.find?_cons, e]
      rw [this]
      exact a.2
    · have e2 : ¬ q.1 = k := fun z => e (a.1.trans z)
      rw [valV_neg e2]
      have : lookN (p :: l) k = lookN l k := by simp [lookN, List.find?_cons, e]
      rw [this]
      exact ih
section
variable {Z : DC} {m1 m2 m3 : Md} {k v e f : Expr} {ks : List (Option Expr)} {vs : List Expr} {tk tv ty tx : M D} {dp apos pos : Pos}
theorem LPs.then {α : Type} {r : Res (List (D × D))} {u : List (D × D) → M α} {L : Res α → Prop} {Ho G : Hp} {σ : L2.St} {Q : List (V × V) → Hp → Prop} (hex : ∀ x ρ, L (.ex x ρ) → Z.Ex x ρ) (hno : L .no → False)
    (h : L (r.bind u)) (hq : ∀ ps ρ vs G' H', Z.R Ho G' ρ σ H' → Gr Ho G G' → vs.length = ps.length → (∀ (i : Nat) (p : D × D) (v : V × V), ps[i]? = some p → vs[i]? = some v → Z.rep G' p.1 v.1 ∧ Z.rep G' p.2 v.2) → L (u ps ρ) → Q vs H') : LPs Z Ho G σ r Q := by
  cases r with
  | ok d ρ => exact fun v G' H' x g b c => hq d ρ v G' H' x g b c h
  | ex x ρ => exact hex x ρ h
  | no => exact hno h
end
section
variable {K : PySem.W.Frag} {mg : Str → Option Value} {τ : Tau} {Ho G : Hp} {ρ : List Sl} {σ : L2.St} {H : Hp} {p : Addr} {o o' : HO}
theorem own_off {O : Addr → Option Nat} {i : Nat} (h : O p = none) : own O i (upd H p o) = own O i H := by
  funext a
  unfold own
  by_cases q : O a = some i
  · rw [if_pos q, if_pos q, upd_ne]
    rintro rfl; rw [h] at q; cases q
  · rw [if_neg q, if_neg q]
/-- a new thing of the outer heap -/
theorem RS.outer (x : RS K mg τ Ho G ρ σ H) (h : H p = none) : RS K mg τ (upd Ho p o) G ρ σ (upd H p o) := by
  obtain ⟨O, x⟩ := x
  have op : O p = none := by
    cases e : O p with
    | none => rfl
    | some i => exact absurd h (x.oh p i e).2.2
  have ne : ∀ a i, O a = some i → a ≠ p := fun a i e z => by rw [z, op] at e; cases e
  refine ⟨O, x.gh.trans (same_upd h), fun a i e => ?_, fun a u e => ?_, x.len, fun i s e => ?_⟩
  · rw [upd_ne (ne a i e), upd_ne (ne a i e)]; exact x.oh a i e
  · by_cases q : a = p
    · subst q; rw [upd_same] at e ⊢; exact e
    · rw [upd_ne q] at e ⊢; exact x.out a u e
  · rw [own_off op]; exact x.sl i s e
/-- .. written -/
theorem RS.outerW (x : RS K mg τ (upd Ho p o) G ρ σ H) (g : G p = none) : RS K mg τ (upd Ho p o') G ρ σ (upd H p o') := by
  obtain ⟨O, x⟩ := x
  have op : O p = none := by
    cases e : O p with
    | none => rfl
    | some i => have := (x.oh p i e).2.1; rw [upd_same] at this; cases this
  have ne : ∀ a i, O a = some i → a ≠ p := fun a i e z => by rw [z, op] at e; cases e
  refine ⟨O, fun a u e => ?_, fun a i e => ?_, fun a u e => ?_, x.len, fun i s e => ?_⟩
  · rw [upd_ne (ne_of_none e g)]; exact x.gh a u e
  · have := x.oh a i e
    rw [upd_ne (ne a i e)] at this
    rw [upd_ne (ne a i e), upd_ne (ne a i e)]; exact this
  · by_cases q : a = p
    · subst q; rw [upd_same] at e ⊢; exact e
    · rw [upd_ne q] at e ⊢; exact x.out a u (by rw [upd_ne q]; exact e)
  · rw [own_off op]; exact x.sl i s e
end
section
variable {Z : DC} {m1 m2 m3 : Md} {k v e f : Expr} {ks : List (Option Expr)} {vs : List Expr} {tk tv ty tx : M D} {dp apos pos : Pos}
theorem DC.R.outer {Ho G : Hp} {ρ : List Sl} {σ : L2.St} {H : Hp} {p : Addr} {o : HO} (x : Z.R Ho G ρ σ H) (h : H p = none) : Z.R (upd Ho p o) G ρ σ (upd H p o) :=
  ⟨x.rs.outer h, x.ho.trans (same_upd (x.freeHo h)), x.g0⟩
theorem DC.R.outerW {Ho G : Hp} {ρ : List Sl} {σ : L2.St} {H : Hp} {p : Addr} {o o' : HO} (x : Z.R (upd Ho p o) G ρ σ H) (g : G p = none) (h : Z.Ho p = none) : Z.R (upd Ho p o') G ρ σ (upd H p o') :=
  ⟨x.rs.outerW g, fun a u e => by
    have q : a ≠ p := fun z => by rw [z, h] at e; cases e
    have := x.ho a u e
    rw [upd_ne q] at this ⊢
    exact this, x.g0⟩
theorem DC.R.inner {Ho Ho' G : Hp} {ρ : List Sl} {σ : L2.St} {H : Hp} (x : Z.R Ho' G ρ σ H) (e : Same Ho Ho') (h : Same Z.Ho Ho) : Z.R Ho G ρ σ H := ⟨RS.anti e x.rs, h, x.g0⟩
theorem de_getN {r : List (M D × M D)} (h : DPs Z dp ks vs (dPairs r)) (he : DE Z m1 e ty) (hf : DE Z m2 f tx) (hb : m1.b = false := by rfl) (hb2 : m2.b = false := by rfl) (hall : ks.all (·.isSome) = true := by rfl) (hl : ks.length = vs.length := by rfl) (h0 : ks ≠ [] := by exact fun h => nomatch h) (h15 : ks.length ≤ 15 := by exact Nat.le_of_ble_eq_true rfl)
    (m : M2 Z.X (.Dict ks vs dp) "get" apos e f pos := by exact ⟨rfl, rfl, rfl, rfl⟩) : DE Z ⟨false, false⟩ (.Call (.Attribute (.Dict ks vs dp) "get" apos) [e, f] [] pos) (dGetN r ty tx) := by
  obtain ⟨trs, pp, sp⟩ := h
  obtain ⟨tee, pe, se⟩ := he
  obtain ⟨tef, pf, sf⟩ := hf
  refine ⟨_, pe_getN (pe_dispN pp hall hl h0 h15) pe pf m, fun Ho hw G ρ σ H Q x q => ?_⟩
  intro p hp
  have ho := x.freeHo hp
  have zo : Z.Ho p = none := by
    cases e : Z.Ho p with
    | none => rfl
    | some u => rw [x.ho p u e] at ho; cases ho
  have gp := x.freeG hp
  have x0 := x.outer (o := DNO Z.X.prog Z.X.w p []) hp
  have sm : ∀ o, Same Ho (upd Ho p o) := fun o => same_upd ho
  refine sp _ (hw.trans (sm _)) G ρ σ _ _ x0 (LPs.then (L := fun r => LJ Z Ho ⟨false, false⟩ G H σ r Q) (fun _ _ h => h) (fun h => h) q fun ps ρ1 ws G1 H1 x1 g1 hlen hrep q1 => ?_)
  have g1p : G1 p = none := by rw [g1.2 p _ upd_same]; exact gp
  cases ed : dispN [] ps with
  | none => rw [ed] at q1; exact q1.elim
  | some kvs =>
    simp only [ed] at q1
    by_cases h15' : ps.length ≤ 15
    · rw [if_pos h15'] at q1
      refine ⟨x1.out p _ upd_same, ?_⟩
      have gr1 : Gr Ho G G1 := g1.anti (sm _)
      obtain ⟨rs, e1, e2⟩ := dispN_kv (K := Z.X.K) (mg := Z.X.mg) (G := G1) ps ws [] [] kvs hlen hrep .nil ed
      refine ⟨rs, e1, by rw [show rs.length = ps.length from by rw [← hlen, e1, List.length_map]]; exact h15', p, _, rfl, upd_same, ?_⟩
      have x2 := x1.outerW (o' := DNO Z.X.prog Z.X.w p (mergN [] rs)) g1p zo
      refine se _ (hw.trans (sm _)) G1 ρ1 σ _ _ x2 (DE.then (L := fun r => LJ Z Ho ⟨false, false⟩ G H σ r Q) (fun _ _ h => h) (fun h => h) q1 fun d ρ2 u2 G2 H2 x3 g2 s2 b2 q2 => ?_)
      refine sf _ (hw.trans (sm _)) G2 ρ2 σ _ _ x3 (DE.then (L := fun r => LJ Z Ho ⟨false, false⟩ G H σ r Q) (fun _ _ h => h) (fun h => h) q2 fun d2 ρ3 u3 G3 H3 x4 g3 s3 b3 q3 => ?_)
      rw [hb] at b2
      rw [hb2] at b3
      unfold lft at q3
      cases ek : keyN d with
      | none => rw [ek] at q3; exact q3.elim
      | some k =>
        rw [ek] at q3
        refine ⟨k, keyN_rep ek b2.rep, x4.out p _ upd_same, ?_⟩
        have gg : Gr Ho G G3 := (gr1.trans (g2.anti (sm _))).trans (g3.anti (sm _))
        refine q3 _ G3 H3 (x4.inner (sm _) hw) gg (fun z => nomatch z) (.inl ?_)
        refine lookN_rep ?_ k b3.rep
        exact L2.Paired.mapP e2 fun a b h => ⟨h.1, Rep.mono (g2.1.trans g3.1) _ _ h.2⟩
    · rw [if_neg h15'] at q1; exact q1.elim
end
@[simp] theorem x_getN (trs : List (M D × M D)) (ty tx : M D) (ρ : List Sl) : dGetN trs ty tx ρ = (dPairs trs ρ).bind fun ps => match dispN [] ps with
  | some kvs => if ps.length ≤ 15 then bnd ty fun y => bnd tx fun z => lft ((keyN y).map fun k => (lookN kvs k).getD z) else fun _ => .no
  | none => fun _ => .no := rfl
@[simp] theorem x_pairs0 (ρ : List Sl) : dPairs [] ρ = .ok [] ρ := rfl
@[simp] theorem x_pairs1 (k v : M D) (r : List (M D × M D)) (ρ : List Sl) : dPairs ((k, v) :: r) ρ = (k ρ).bind fun x => bnd v fun y => bnd (dPairs r) fun ps => ret ((x, y) :: ps) := rfl
end DS

set_option Elab.async false
set_option linter.all false
set_option maxRecDepth 100000
set_option maxHeartbeats 1000000
namespace DS
open PySem PySem.Spec PyProof.Rows L2
/-! ### a + b of two lists, a list of one's own -/
def addO : D → D → Option Sl
  | .lst x, .lst y => if x.length + y.length ≤ sizeLine then some (.ow none (.lst (x ++ y))) else none
  | _, _ => none
def dAddO (ta tb : M D) : M Sl := bnd ta fun d => bnd tb fun e => lft (addO d e)
section
variable {Z : DC} {m1 m2 : Md} {a b : Expr} {ta tb : M D} {pos : Pos}
theorem dr_addO (ha : DE Z m1 a ta) (hb : DE Z m2 b tb) (hm : (!m1.b || m2.p) = true := by rfl) : DR Z (.BinOp a .Add b pos) (dAddO ta tb) := by
  obtain ⟨tea, pa, sa⟩ := ha
  obtain ⟨teb, pb, sb⟩ := hb
  refine ⟨_, pe_op op_cat pa pb, fun Ho hw G ρ σ H Q x q => ?_⟩
  refine sa Ho hw G ρ σ H _ x (DE.then (L := fun r => LR Z Ho G σ r Q) (fun _ _ h => h) (fun h => h) q fun d ρ1 v G1 H1 x1 g1 s1 b1 q1 => ?_)
  refine sb Ho hw G1 ρ1 σ H1 _ x1 (DE.then (L := fun r => LR Z Ho G σ r Q) (fun _ _ h => h) (fun h => h) q1 fun e ρ2 w G2 H2 x2 g2 s2 b2 q2 => ?_)
  have b1' : Z.BR m1.b G2 H2 d v := b1.go g2.1 fun hb => s2 (by rw [hb] at hm; simpa using hm)
  cases d <;> try (exact q2.elim)
  cases e <;> try (exact q2.elim)
  rename_i xs ys
  simp only [lft, addO] at q2
  by_cases hz : xs.length + ys.length ≤ sizeLine
  · rw [if_pos hz] at q2
    obtain ⟨p1, vs, rfl, h1, h2⟩ := b1'.up.lst x2.gh
    obtain ⟨p2, ws, rfl, h3, h4⟩ := b2.up.lst x2.gh
    have l1 := h2.length
    have l2 := h4.length
    refine ⟨p1, p2, vs, ws, rfl, rfl, h1, h3, by omega, fun p hp => ?_⟩
    exact q2 (.ref p) G2 _ (x2.pushO (.lst (h2.append h4)) hp) (g1.trans g2)
  · rw [if_neg hz] at q2; exact q2.elim
end
@[simp] theorem x_addO (ta tb : M D) (ρ : List Sl) : dAddO ta tb ρ = (ta ρ).bind fun d => bnd tb fun e => lft (addO d e) := rfl
@[simp] theorem x_addO1 {x y : List D} : addO (.lst x) (.lst y) = if x.length + y.length ≤ sizeLine then some (.ow none (.lst (x ++ y))) else none := rfl
end DS

set_option Elab.async false
set_option linter.all false
set_option maxRecDepth 100000
set_option maxHeartbeats 2000000
/-! zip of a text and a list -/
namespace DS
open PySem PySem.Spec PyProof.Rows L2
/-- a text's signs beside the items of the list at b (n of them) -/
def Itx (K : PySem.W.Frag) (x : Str) (b : Addr) (n : Nat) : It where
  go i H := i < x.cps.size ∧ i < n ∧ ∃ ys : List V, SqL K H b ys ∧ ys.length = n
  yld i H v H' := ∃ T c y, v = .ref T ∧ H T = none ∧ H' = upd H T (.tup [.str ⟨#[c]⟩, y]) ∧ x.cps[i]? = some c ∧ ∀ ys : List V, SqL K H b ys → ys[i]? = some y
  stop i H := (x.cps.size ≤ i ∨ n ≤ i) ∧ ∃ ys : List V, SqL K H b ys ∧ ys.length = n
/-- where the iterators stand -/
structure ZxAt (z U O k j b : Addr) (x : Str) (t : Tok) (n i : Nat) (h : Heap) : Prop where
  le : i ≤ x.cps.size ∧ i ≤ n
  zip : IsZip h z U O .none
  two : IsTupOf2 h U (.ref k) (.ref j)
  out : ∃ p q, IsTupOf2 h O p q
  str : h.IsStrIter k (strIterType x) x t i
  lst : h.IsListIter j b i
theorem five {z U O k j d : Addr} (m : d ∈ [z, O, k, j]) : d ∈ [z, U, O, k, j] := by
  simp only [List.mem_cons, List.not_mem_nil, or_false] at m ⊢
  exact m.imp_right Or.inr
theorem sep_zx {N b : Nat} (h : b < N) : ZipSep2 (N + 4) (N + 2) (N + 3) N (N + 1) [N] [N + 1, b] where
  TIz := by show ¬ (N + 2 : Nat) = N + 4; omega
  TOz := by show ¬ (N + 3 : Nat) = N + 4; omega
  TITO := by show ¬ (N + 2 : Nat) = N + 3; omega
  TIi1 := by show ¬ (N + 2 : Nat) = N; omega
  mem1 := List.mem_cons_self
  zf1 := fun m => by have : (N + 4 : Nat) = N := by simpa using m
                     omega
  Tf1 := fun m => by have : (N + 3 : Nat) = N := by simpa using m
                     omega
  TIi2 := by show ¬ (N + 2 : Nat) = N + 1; omega
  mem2 := List.mem_cons_self
  zf2 := fun m => by
    have : (N + 4 : Nat) = N + 1 ∨ (N + 4 : Nat) = b := by simpa using m
    omega
  Tf2 := fun m => by
    have : (N + 3 : Nat) = N + 1 ∨ (N + 3 : Nat) = b := by simpa using m
    omega
  sep1_2 := fun m => by
    have : (N : Nat) = N + 1 ∨ (N : Nat) = b := by simpa using m
    omega
  sep2_1 := fun m => by have : (N + 1 : Nat) = N := by simpa using m
                        omega
theorem turn_zx {P : Program} {w : World} {K : PySem.W.Frag} {elts : List Expr} {kk : Nat} {tpos : Pos} {x : Str} {t : Tok} {n : Nat} {z U O k j b : Addr} (S : ZipSep2 z U O k j [k] [j, b]) (hb : b ≠ j) (hbU : b ≠ U) :
    Turn P w K (.Tuple elts kk tpos) (Itx K x b n) [z, U, O, k, j] z (ZxAt z U O k j b x t n) where
  mem := List.mem_cons_self
  obj := fun i h st c hc => by
    obtain ⟨_, hz, hU, ⟨p, q, hO⟩, ⟨ok, e1, _, d1⟩, ⟨oj, e2, _, d2⟩⟩ := st
    simp only [List.mem_cons, List.not_mem_nil, or_false] at hc
    rcases hc with r | r | r | r | r <;> subst r
    · exact ⟨_, hz, fun _ q => nomatch q⟩
    · exact ⟨_, hU, fun _ q => nomatch q⟩
    · exact ⟨_, hO, fun _ q => nomatch q⟩
    · exact ⟨ok, e1, fun _ q => by rw [d1] at q; cases q⟩
    · exact ⟨oj, e2, fun _ q => by rw [d2] at q; cases q⟩
  keep := fun i h h' st g => by
    obtain ⟨l, hz, hU, ⟨p, q, hO⟩, ⟨ok, e1, r1⟩, ⟨oj, e2, r2⟩⟩ := st
    exact ⟨l, g z (by simp) _ hz, g U (by simp) _ hU, ⟨p, q, g O (by simp) _ hO⟩, ⟨ok, g k (by simp) ok e1, r1⟩, ⟨oj, g j (by simp) oj e2, r2⟩⟩
  item := by
    intro X hP hw hK hc i pins s σ H E I hf st hg
    subst hP hw hK
    obtain ⟨g1, g2, ys, hq, hn⟩ := hg
    obtain ⟨its, rv, pl, _⟩ := I.list hq
    have hh : X.A.in1.handled = none := I.ok.hd hc
    have hl := rv.length
    have W := WalksT.zipD2 (A := X.A) S (Draws.text (prog := X.prog) (w := X.w) hh k x t) (Draws.list (prog := X.prog) (w := X.w) hh j b hb its.toArray)
    have lt : ∀ c ∈ [z, U, O, k, j], c < s.heap.objs.size := fun c hm => by
      obtain ⟨l, hz, hU, ⟨p, q, hO⟩, ⟨ok, e1, _⟩, ⟨oj, e2, _⟩⟩ := st
      simp only [List.mem_cons, List.not_mem_nil, or_false] at hm
      rcases hm with r | r | r | r | r <;> subst r <;> first | exact Heap.lt_size hz | exact Heap.lt_size hU | exact Heap.lt_size hO | exact Heap.lt_size e1 | exact Heap.lt_size e2
    refine W.item i s _ _ (by simp; omega) ⟨st.zip, st.two, st.out, st.str, st.lst, pl.isList⟩ fun T vals h1 tk hv hT hT1 hm hk => ?_
    obtain ⟨v1, v2, ⟨c, u, hc1, rfl⟩, hv2, rfl⟩ := hv
    obtain ⟨y, hy⟩ := some_lt (xs := ys) (i := i) (by omega)
    obtain ⟨u2, hu2, ru2⟩ := rv.get hy
    have e2 : v2 = u2 := by
      have : its.toArray[i]? = some u2 := by simpa using hu2
      exact Option.some.inj (hv2.symm.trans this)
    subst e2
    have nT : T ∉ [z, O, k, j] := W.apart _ _ _ hm
    refine ⟨_, rfl, W.go _ _ _ i T { s with heap := h1, toks := tk } _ _ hm fun h2 st2 hk2 => ?_⟩
    have new : ObjOk X.prog X.w (upd H T (.tup [.str ⟨#[c]⟩, y])) h2 T (.tup [.str ⟨#[c]⟩, y]) := by
      refine ⟨by show 2 ≤ sizeLine; decide, [.str ⟨#[c]⟩ u, v2], .cons ⟨u, rfl⟩ (.cons ru2 .nil), ?_⟩
      obtain ⟨o, ho, r⟩ := hT1
      exact ⟨o, hk2 T o nT ho, r⟩
    have I1 : Inv X pins σ (upd H T (.tup [.str ⟨#[c]⟩, y])) { s with heap := h2, toks := tk } :=
      I.turnedNew (ch := [z, U, O, k, j]) (fun d o hd q => by
        have a : d ∉ [z, O, k, j] := fun m => hd (five m)
        exact hk2 d o a (hk d o a q)) hf hT new
    obtain ⟨a1, a2, a3, a4, a5, _⟩ := st2
    refine ⟨.ref T, _, I1, rfl, ⟨T, c, y, rfl, I.hok.fresh hT, rfl, hc1, fun l hl' => by rw [I.list_inj hl' hq]; exact hy⟩, ⟨⟨g1, g2⟩, a1, a2, a3, a4, a5⟩, fun d hd => ?_⟩
    rw [upd_ne (Nat.ne_of_lt (Nat.lt_of_lt_of_le (lt d hd) hT))]
    exact (hf d hd).1
  done := by
    intro X hP hw hK hc i pins s σ H E I hf st hg
    subst hP hw hK
    obtain ⟨he, ys, hq, hn⟩ := hg
    obtain ⟨its, rv, pl, _⟩ := I.list hq
    have hh : X.A.in1.handled = none := I.ok.hd hc
    have hl := rv.length
    have W := WalksT.zipD2 (A := X.A) S (Draws.text (prog := X.prog) (w := X.w) hh k x t) (Draws.list (prog := X.prog) (w := X.w) hh j b hb its.toArray)
    have ei : i = min x.cps.size its.toArray.size := by
      have := st.le
      simp only [List.size_toArray]
      omega
    have st' := st
    rw [ei] at st'
    refine W.done s _ _ ⟨st'.zip, st'.two, st'.out, st'.str, st'.lst, pl.isList⟩ fun h1 tk hk => ⟨rfl, ?_⟩
    exact I.turnedL (ch := [z, U, O, k, j]) (fun d o hd q => hk d o (fun m => hd (five m)) q) hf
  self := fun A i s Q E st h => wpAny_pyIter_zip st.zip h
def iZx (K : PySem.W.Frag) (ta : TA) : TI := fun σ H R => ta σ H fun vs H1 => ∃ (x : Str) (b : Addr) (ys : List V), vs = [.str x, .ref b] ∧ SqL K H1 b ys ∧ R (Itx K x b ys.length) H1
theorem pi_zx {X : Cx} {e e2 : Expr} {ta : TA} {p pos tpos : Pos} {elts : List Expr} {kk : Nat} (hg : Gl X "zip") (hm : X.mg "zip" = none) (ha : PA X [e, e2] ta)
    (hs : starEach [e, e2] X.env = (false, eval e X.env) :: starEach [e2] X.env := by rfl) (hpl : (backTo pos (starEach [e2] X.env)).any (·.1) = false := by rfl) :
    PI X (.Tuple elts kk tpos) (.Call (.Name "zip" p) [e, e2] [] pos) (iZx X.K ta) := by
  refine ⟨fun pins s σ H R I h => Call_ (ld_blt I hg hm boot_zip (callWith_type1 (thn (ha.run pos pins s σ H _ I h) fun us s1 ⟨vs, H1, I1, r1, x, b, ys, ex, hq, q⟩ => ?_) hs hpl))⟩
  subst ex
  cases r1 with
  | cons r rr =>
    cases rr with
    | cons r2 rr =>
      cases rr
      obtain ⟨t, rfl⟩ := r
      cases r2
      obtain ⟨its, rv, pl, _⟩ := I1.list hq
      have lb : b < s1.heap.objs.size := pl.lt
      have hl := rv.length
      refine zip_begins2 (begins_text x t) (begins_list b its.toArray) trivial pl.isList fun h1 hz hU hO g1 g2 hsz hk => wpAny_pyIter_zip hz ?_
      refine ⟨s1.heap.objs.size + 4, [s1.heap.objs.size + 4, s1.heap.objs.size + 2, s1.heap.objs.size + 3, s1.heap.objs.size, s1.heap.objs.size + 1], _, _, H1, rfl, I1.kept (t' := s1.toks) hk, turn_zx (x := x) (t := t) (n := ys.length) (sep_zx lb) (Nat.ne_of_lt (Nat.lt_succ_of_lt lb)) (Nat.ne_of_lt (Nat.lt_succ_of_lt (Nat.lt_succ_of_lt lb))), ⟨⟨Nat.zero_le _, Nat.zero_le _⟩, hz, hU, ⟨_, _, hO⟩, ⟨_, g1, rfl, rfl⟩, ⟨_, g2, rfl, rfl⟩⟩, fun c hc => ?_, q⟩
      have le : s1.heap.objs.size ≤ c := by
        simp only [List.mem_cons, List.not_mem_nil, or_false] at hc
        rcases hc with r | r | r | r | r <;> rw [r] <;> first | exact Nat.le_refl _ | exact Nat.le_add_right _ _
      exact I1.fpOk le (I1.hok.fresh le)
section
variable {Z : DC} {Ho : Hp} {m1 m2 : Md} {e1 e2 : Expr} {t1 t2 : M D} {pos p tpos : Pos} {elts : List Expr} {kk : Nat}
theorem it_zx {x : Str} {ys : List V} {es : List D} {G1 : Hp} {b : Addr} (hx : PyData.strOk x = true) (hy : RepL Z.X.K Z.X.mg G1 es ys) (hb : ∀ H, Same G1 H → SqL Z.X.K H b ys) : ItOk Z Ho (Itx Z.X.K x b ys.length) (pairs2 ((signs x).map D.str) es) G1 where
  go := fun i H hi s => by
    rw [pairs2_length, List.length_map, signs_length] at hi
    have := hy.length
    exact ⟨by omega, by omega, ys, hb H s, rfl⟩
  stop := fun H s => ⟨by rw [pairs2_length, List.length_map, signs_length]; have := hy.length; omega, ys, hb H s, rfl⟩
  yld := fun i d G ρ σ H v H' hd R s y => by
    obtain ⟨T, c, w, rfl, hT, rfl, hc, q⟩ := y
    obtain ⟨d1, d2, h1, h2, rfl⟩ := pairs2_get hd
    rw [List.getElem?_map, signs_get, hc] at h1
    cases h1
    obtain ⟨v2, g2, r2⟩ := hy.get h2
    have z2 := q ys (hb H (s.trans R.gh))
    rw [z2] at g2; cases g2
    obtain ⟨R2, gg⟩ := R.allocF (o := .tup [.str ⟨#[c]⟩, w]) hT
    refine ⟨_, R2, gg, ?_⟩
    unfold DC.rep Rep
    exact ⟨T, _, rfl, SqT.of upd_same, RepL.cons (rep_str (strOk_sign hx hc)) (RepL.one (Rep.mono (s.trans gg.1) _ _ r2))⟩
def zipX : D → D → Option (List D)
  | .str x, .lst ys => some (pairs2 ((signs x).map D.str) ys)
  | _, _ => none
def lZipX (t1 t2 : M D) : M (List D) := bnd t1 fun d => bnd t2 fun e => lft (zipX d e)
theorem di_zipX (hm : Z.X.mg "zip" = none) (h1 : DE Z m1 e1 t1) (h2 : DE Z m2 e2 t2) (hb1 : m1.b = false := by rfl) (hb2 : m2.b = false := by rfl) (hg : Gl Z.X "zip" := by first | rfl | decide) (hs : starEach [e1, e2] Z.X.env = (false, eval e1 Z.X.env) :: starEach [e2] Z.X.env := by rfl) (hs2 : starEach [e2] Z.X.env = (false, eval e2 Z.X.env) :: starEach [] Z.X.env := by rfl) (hpl : (backTo pos (starEach [e2] Z.X.env)).any (·.1) = false := by rfl) :
    DI Z (.Tuple elts kk tpos) (.Call (.Name "zip" p) [e1, e2] [] pos) (lZipX t1 t2) := by
  obtain ⟨w1, pa1, sa1⟩ := h1
  obtain ⟨w2, pa2, sa2⟩ := h2
  refine ⟨_, pi_zx hg hm (pa_cons pa1 (pa_cons pa2 pa_nil hs2) hs) hs hpl, fun Ho hw G ρ σ H R x q => ?_⟩
  refine sa1 Ho hw G ρ σ H _ x (DE.thenI q fun d ρ1 v G1 H1 x1 g1 b1 q1 => ?_)
  refine sa2 Ho hw G1 ρ1 σ H1 _ x1 (DE.then (L := fun r => LI Z Ho G σ r R) (fun _ _ h => h) (fun h => h) q1 fun e ρ2 w G2 H2 x2 g2 s2 b2 q2 => ?_)
  rw [hb1] at b1
  rw [hb2] at b2
  replace b1 := Rep.mono g2.1 _ _ b1.rep
  replace b2 := b2.rep
  cases d <;> try (exact q2.elim)
  cases e <;> try (exact q2.elim)
  rename_i z es
  unfold Rep at b1 b2
  obtain ⟨rfl, ok⟩ := b1
  obtain ⟨b, ys, rfl, h2, r2⟩ := b2
  exact ⟨z, b, ys, rfl, SqL.of (x2.gh _ _ h2), q2 _ G2 H2 x2 (g1.trans g2) (it_zx ok r2 fun H s => SqL.of (s _ _ h2))⟩
end
section
open DS.Drw
variable {c : M Bool} {u w : MS} {ρ ρ' : List Sl} {r : SR}
/-! a statement's step, told by what stands behind it -/
theorem sSeq_to (h : u ρ = .nx ρ') (h2 : w ρ' = r) : sSeq u w ρ = r := by
  unfold sSeq
  rw [h]
  exact h2
theorem sIf_no (h : c ρ = .ok false ρ') (h2 : w ρ' = r) : sIf c u w ρ = r := by
  unfold sIf Res.andS
  rw [h]
  exact h2
theorem sIf_yes (h : c ρ = .ok true ρ') (h2 : u ρ' = r) : sIf c u w ρ = r := by
  unfold sIf Res.andS
  rw [h]
  exact h2
theorem sFor_to {t : M (List D)} {g : D → List Sl → Option (List Sl)} {b : MS} {kl : List Nat} {ds : List D} {ρ1 : List Sl} (h : t ρ = .ok ds ρ1) (h2 : sEach g b kl ds ρ1 = r) : sFor t g b kl ρ = r := by
  unfold sFor Res.andS
  rw [h]
  exact h2
end
end DS

set_option Elab.async false
set_option linter.all false
set_option maxRecDepth 100000
set_option maxHeartbeats 2000000
/-! a kept exception asked for two classes of the module -/
namespace DS
open PySem PySem.Spec PyProof.Rows L2
theorem call_isKT {X : Cx} : CallR X (.builtin "isinstance")
    (fun xs H Q => ∃ (a p : Addr) (cs : List V) (ws : List Value) (b : Bool), xs = [.ref a, .ref p] ∧ H p = some (.tup cs) ∧ Paired ClsV cs ws ∧ (∃ D d, H a = some (.ext (XcP a (.ref D) d)) ∧ (d = none ∨ ∃ dd vs, d = some dd ∧ H dd = some (.xd vs)) ∧ KxC X.K D ∧ PySem.W.kitAny X.K (.ref D) ws = some b) ∧ Q (.bl b) H) := by
  intro pins s σ H xs us Q I r h
  obtain ⟨a, p, cs, ws, b, rfl, hT, pc, ⟨D, d, hH, hd, C, e⟩, q⟩ := h
  cases r with
  | cons rx rr =>
    cases rr with
    | cons rt rr =>
      cases rr
      cases rx
      cases rt
      obtain ⟨oe, odx, J, _⟩ := xc_inst I hH hd
      obtain ⟨_, its, rv, o, g1, g2, n, g3⟩ := (show ObjOk X.prog X.w H s.heap p (.tup cs) from I.hok p _ hT)
      have ew := ClsV.all pc rv
      subst ew
      obtain ⟨oc, od, dt, sl⟩ := o
      simp only at g2 g3
      subst g2 g3
      exact PySem.W.kia_tup (PySem.W.kitx_exc C.cl C.ga C.gg C.exC C.ha C.hn C.ht C.hm) I.kIn J g1 e (fun z => nomatch z) fun tk => ⟨.bl b, H, I.tok tk, rfl, q⟩
def fIsK2 (ta tb : Str → Option Bool) : D → Option D
  | .exc c _ => (ta c).bind fun x => (tb c).map fun y => .bl (x || y)
  | _ => none
section
variable {Z : DC} {m : Md} {e : Expr} {t : M D} {pos p p2 p3 p4 : Pos}
theorem de_isK2 {c1 c2 : Addr} {n1 n2 : Str} {kk : Nat} {ta tb : Str → Option Bool} (T1 : IsK Z.X.K Z.X.mg ta (.ref c1)) (T2 : IsK Z.X.K Z.X.mg tb (.ref c2)) (hm : Z.X.mg "isinstance" = none) (h : DE Z m e t) (hc1 : Z.X.mg n1 = some (.ref c1)) (hc2 : Z.X.mg n2 = some (.ref c2))
    (hg : Gl Z.X "isinstance" := by rfl) (hg1 : Gl Z.X n1 := by rfl) (hg2 : Gl Z.X n2 := by rfl) (hd1 : (n1 == ("__debug__" : Str)) = false := by decide) (hd2 : (n2 == ("__debug__" : Str)) = false := by decide)
    (ht : starEach [(.Name n1 p3 : Expr), .Name n2 p4] Z.X.env = (false, eval (.Name n1 p3) Z.X.env) :: starEach [.Name n2 p4] Z.X.env := by rfl) (ht2 : starEach [(.Name n2 p4 : Expr)] Z.X.env = (false, eval (.Name n2 p4) Z.X.env) :: starEach [] Z.X.env := by rfl)
    (he : starEach (e :: [(.Tuple [.Name n1 p3, .Name n2 p4] kk p2 : Expr)]) Z.X.env = (false, eval e Z.X.env) :: starEach [.Tuple [.Name n1 p3, .Name n2 p4] kk p2] Z.X.env := by rfl) (he2 : starEach [(.Tuple [.Name n1 p3, .Name n2 p4] kk p2 : Expr)] Z.X.env = (false, eval (.Tuple [.Name n1 p3, .Name n2 p4] kk p2) Z.X.env) :: starEach [] Z.X.env := by rfl)
    (hpl : (backTo pos (starEach [(.Tuple [.Name n1 p3, .Name n2 p4] kk p2 : Expr)] Z.X.env)).any (·.1) = false := by rfl) :
    DE Z ⟨m.p, false⟩ (.Call (.Name "isinstance" p) [e, .Tuple [.Name n1 p3, .Name n2 p4] kk p2] [] pos) (d1 (fIsK2 ta tb) t) := by
  obtain ⟨te, pa, sa⟩ := h
  have P1 := pe_glob (X := Z.X) (v := .ref c1) (pos := p3) hg1 hc1 rfl hd1
  have P2 := pe_glob (X := Z.X) (v := .ref c2) (pos := p4) hg2 hc2 rfl hd2
  refine ⟨_, pe_callB call_isKT hg hm (by decide +kernel) (pa_cons pa (pa_cons (pe_tup (pa_cons P1 (pa_cons P2 pa_nil ht2) ht)) pa_nil he2) he) (by decide) (by decide) he hpl, fun Ho hw G ρ σ H Q x q => ?_⟩
  refine sa Ho hw G ρ σ H _ x (DE.then (L := fun r => LJ Z Ho ⟨m.p, false⟩ G H σ r Q) (fun _ _ h => h) (fun h => h) q fun d ρ1 v G1 H1 x1 g1 s1 b1 q1 => ?_)
  unfold lft at q1
  refine ⟨by show 2 ≤ sizeLine; decide, fun tp htp => ?_⟩
  have b2 : Rep Z.X.K Z.X.mg (upd H1 tp (.tup [.ref c1, .ref c2])) d v := Rep.mono (same_upd htp) _ _ (b1.inH x1.gh)
  cases d with
  | exc c fs =>
    cases e1 : ta c with
    | none => simp only [fIsK2, e1, Option.bind_none] at q1; exact q1.elim
    | some u1 =>
      cases e2 : tb c with
      | none => simp only [fIsK2, e1, e2, Option.bind_some, Option.map_none] at q1; exact q1.elim
      | some u2 =>
        simp only [fIsK2, e1, e2, Option.bind_some, Option.map_some] at q1
        obtain ⟨a, C, dd, rfl, h2, h3, h4⟩ := exc_rep b2
        obtain ⟨k1, k2⟩ := T1.get _ _ _ h2 e1
        obtain ⟨_, k4⟩ := T2.get _ _ _ h2 e2
        refine ⟨a, tp, [.ref c1, .ref c2], [.ref c1, .ref c2], u1 || u2, rfl, upd_same, .cons (.own c1) (.cons (.own c2) .nil), ⟨C, dd, h3, h4, k1, kitAny_cons k2 (fun z => ?_) fun z => by rw [z]; rfl⟩, ?_⟩
        · exact kitAny_cons k4 (fun y => by rw [z, y]; exact kitAny_nil) fun y => by rw [z, y]; rfl
        · exact q1 _ G1 _ (x1.to (x1.rs.garb htp) Gr.refl) g1 (fun hp => (s1 hp).trans (same_upd htp)) (.inl rep_bl)
  | _ => exact q1.elim
end
end DS

set_option Elab.async false
set_option linter.all false
set_option maxRecDepth 100000
set_option maxHeartbeats 2000000
/-! defs with one star parameter and no other: def f(*xs) -/
namespace DS
open PySem PySem.Spec PyProof.Rows L2
/-- what the body of a def must keep, from its derivation -/
theorem body_ds {P : Program} {w : World} {K : PySem.W.Frag} {mg : Str → Option Value} {base : Heap} {qual : Str} {st : Stmt} {f : Addr} {N ps : List Str} {k : Nat} {body : MS} {cdv : Value}
    (hb : ∀ cdv A outer s H E τ Ho G0 Ex hg room tk, DSs (mkZ P w K mg base N qual (defScope st) f cdv A outer s H E τ Ho G0 Ex k false hg room tk) (defBody st) body)
    (A : Around) (outer : List Env) (s : Shared) (H : Hp) (vs : List V) (Q : VK) (E : XK) (hr : Room k (A.deeper (envOfC qual (defScope st) s.heap.objs.size f cdv))) (h : liftSp K mg ps.length (mkF ps.length N.length body) vs H Q E) :
    ∃ t, PSs (cxOf (L2.CX P w) P w K mg base N qual (defScope st) f cdv A outer s H E) (defBody st) t ∧ t { nx := fun _ H' => Q .non H', rt := Q } (L2.start N vs) H := by
  obtain ⟨hl, τ, Ho, G, ss, r, h⟩ := h
  have r0 := r.enter (N := N)
  rw [hl] at r0
  have tk : Takes (cxOf (L2.CX P w) P w K mg base N qual (defScope st) f cdv A outer s H E) (fun cls d σ H => ∃ G1 ρ x, RS K mg (tags vs) Ho G1 ρ σ H ∧ Gr Ho G G1 ∧ RepX K mg G1 x cls d ∧ body (tagFrom 0 ss ++ List.replicate (N.length - ps.length) .no) = .ex x ρ) := by
    refine (takes_of rfl rfl rfl rfl).imp fun cls d σ H' ⟨G1, ρ1, x, h1, h2, h3, h4⟩ => ?_
    unfold mkF at h
    rw [h4] at h
    have y := (h1.push (d := .non) (v := .non) rep_non).exit (τ := τ)
    rw [hl] at y
    exact h cls d G1 H' y.pop h2 h3
  obtain ⟨ts, pt, ht⟩ := hb cdv A outer s H E (tags vs) Ho G (fun x ρ => body (tagFrom 0 ss ++ List.replicate (N.length - ps.length) .no) = .ex x ρ) (fun z => nomatch z) hr tk
  refine ⟨ts, pt, ht Ho (Same.refl _) G _ _ H _ ⟨r0, Same.refl _, Gr.refl⟩ ?_⟩
  unfold mkF at h
  suffices z : ∀ r1, r1 = body (tagFrom 0 ss ++ List.replicate (N.length - ps.length) .no) → LX _ Ho G r1 _ from z _ rfl
  intro r1 e
  cases r1 with
  | nx ρ =>
    rw [← e] at h
    intro σ' G' H' x' g'
    have y := (x'.rs.push (d := .non) (v := .non) rep_non).exit (τ := τ)
    rw [hl] at y
    exact h _ _ _ y g'
  | rt s1 ρ =>
    rw [← e] at h
    intro v σ' G' H' x' g'
    have y := x'.rs.exit (τ := τ)
    rw [hl] at y
    exact h _ _ _ y g'
  | bk ρ => rw [← e] at h; exact h.elim
  | ct ρ => rw [← e] at h; exact h.elim
  | ex y ρ => exact e.symm
  | no => rw [← e] at h; exact h.elim
/-- where a def with a star parameter stands -/
structure StAt (K : PySem.W.Frag) (mg : Str → Option Value) (x : Str) (st : Stmt) (pv : Str) (f : Addr) (fd : FuncData) : Prop where
  mg : mg x = some (.ref f)
  fn : Fun K x x st f fd
  bi : ∀ us : List Value, bindArgs fd ⟨us, []⟩ = (newTuple us >>= fun t => pure [(pv, t)])
/-- .. and the function that it computes of the tuple -/
structure FdV (P : Program) (w : World) (K : PySem.W.Frag) (mg : Str → Option Value) (base : Heap) (x : Str) (k : Nat) (F : FS) : Prop where
  ex : ∃ f, mg x = some (.ref f) ∧ PySem.W.keepIn K (.ref f) = true ∧ FnR P w K mg base (L2.CX P w) k f fun vs H Q E => vs.length ≤ sizeLine ∧ ∀ p, H p = none → liftSp K mg 1 F [.ref p] (upd H p (.tup vs)) Q E
theorem fdv_of {P : Program} {w : World} {K : PySem.W.Frag} {mg : Str → Option Value} {base : Heap} {x pv : Str} {st : Stmt} {f : Addr} {fd : FuncData} {N : List Str} {k : Nat} {body : MS} (A : StAt K mg x st pv f fd) (S : FnScope N [pv] (defScope st))
    (hb : ∀ cdv A outer s H E τ Ho G0 Ex hg room tk, DSs (mkZ P w K mg base N x (defScope st) f cdv A outer s H E τ Ho G0 Ex k false hg room tk) (defBody st) body) : FdV P w K mg base x (k + 1) (mkF 1 N.length body) := by
  obtain ⟨oc, od, kV, doc, pm, an, cdv, ct, osl, e, lk, hcd⟩ := A.fn.ex
  have m0 := A.mg
  have k0 := A.fn.kp
  have bi := A.bi
  clear A
  subst e
  refine ⟨f, m0, k0, ?_⟩
  refine (StX.fn_star (ps := []) (pv := pv) (sp := liftSp K mg 1 (mkF 1 N.length body)) lk hcd S StX.cxUp (fun us rest hl => ?_) fun A outer s H vs Q E hr h => body_ds (ps := [pv]) hb A outer s H vs Q E hr h).imp fun vs H Q E h => ⟨[], vs, rfl, rfl, h.1, fun p hp => h.2 p hp⟩
  have : us = [] := List.length_eq_zero_iff.mp hl
  subst this
  exact bi rest
section
variable {Z : DC} {e : Expr} {es : List Expr} {pos p : Pos} {x : Str} {f : Addr} {k : Nat} {F : FS} {u : M (List D)}
theorem pe_callR1 {X : Cx} {sp : Sp} {E : L2.St → XK} {ta : TA} (O : FnR X.prog X.w X.K X.mg X.base (L2.CX X.prog X.w) k f sp) (hr : Room k X.A) (hg : Gl X x) (hm : X.mg x = some (.ref f)) (hk : PySem.W.keepIn X.K (.ref f) = true)
    (hx : ∀ σ, PassesAt (L2.CX X.prog X.w) X σ (E σ)) (ha : PA X (e :: es) ta) (hdb : (x == ("__debug__" : Str)) = false) (he : starEach (e :: es) X.env = (false, eval e X.env) :: starEach es X.env) (hpl : (backTo pos (starEach es X.env)).any (·.1) = false) :
    PE X (.Call (.Name x p) (e :: es) [] pos) (fun σ H Q => ta σ H fun vs H1 => sp vs H1 Q (E σ)) := by
  refine ⟨fun pins s σ H Q I h => wpAny_Call_Name_kw (ld_glob I hg hm ?_ hdb)⟩
  refine PySem.W.callWith_K (h₀ := X.base) I.ok.mod.kin hk (thn (ha.run pos pins s σ H _ I h) fun us s1 ⟨vs, H1, I1, r, q⟩ => ⟨I1.kIn, ?_⟩) he hpl
  refine wpAny_call (codeAny_mono (O X.A X.stack s1 H1 us vs Q (E σ) hr I1.env0 r q) fun r s' hq => ?_)
  cases r with
  | error e => exact hx σ pins H1 s1 e s' I1 hq
  | ok fl =>
    cases fl with
    | ret u => exact I1.after hq
    | next => exact hq.elim
    | brk => exact hq.elim
    | cont => exact hq.elim
/-- f(e, ..): the arguments as one tuple -/
def dCallV (F : FS) (u : M (List D)) : M Sl := bnd u fun ds ρ1 => if ds.length < 64 then finC ρ1 (F [.sh (.tup ds)]) else .no
theorem dr_fnV (O : FdV Z.X.prog Z.X.w Z.X.K Z.X.mg Z.X.base x k F) (ha : DA Z (e :: es) u) (hk : k ≤ Z.k := by exact Nat.le_of_ble_eq_true rfl) (hg : Gl Z.X x := by first | rfl | decide) (hdb : (x == ("__debug__" : Str)) = false := by decide)
    (he : starEach (e :: es) Z.X.env = (false, eval e Z.X.env) :: starEach es Z.X.env := by rfl) (hpl : (backTo pos (starEach es Z.X.env)).any (·.1) = false := by rfl) (hh : Z.hot = false := by rfl) :
    DR Z (.Call (.Name x p) (e :: es) [] pos) (dCallV F u) := by
  obtain ⟨f, hm, kp, O⟩ := O.ex
  obtain ⟨ta, pa, sa⟩ := ha
  refine ⟨_, pe_callR1 (E := WE Z.W) O ((Z.room hh).mono hk) hg hm kp (passAt Z.tk) pa hdb he hpl, fun Ho hw G ρ σ H Q x q => ?_⟩
  refine sa Ho hw G ρ σ H _ x (DA.then (L := fun r => LR Z Ho G σ r Q) (fun _ _ h => h) (fun h => h) q fun ds ρ1 vs G1 H1 x1 g1 b1 q1 => ?_)
  by_cases hl : ds.length < 64
  · rw [if_pos hl] at q1
    have lv : vs.length = ds.length := b1.length
    refine ⟨by rw [lv]; exact Nat.le_of_lt (Nat.lt_trans hl (by decide)), fun p hp => ?_⟩
    obtain ⟨x2, g2⟩ := x1.allocF (o := .tup vs) hp
    have r : Rep Z.X.K Z.X.mg (upd G1 p (.tup vs)) (.tup ds) (.ref p) := by
      unfold Rep
      exact ⟨p, vs, rfl, SqT.of upd_same, RepL.mono g2.1 _ _ b1⟩
    exact kw_sp (ps := [("" : Str)]) (ds' := [.tup ds]) hw x2 (g1.trans g2) (RepL.one r) rfl q1
  · rw [if_neg hl] at q1; exact q1.elim
theorem pe_callR0 {X : Cx} {sp : Sp} {E : L2.St → XK} (O : FnR X.prog X.w X.K X.mg X.base (L2.CX X.prog X.w) k f sp) (hr : Room k X.A) (hg : Gl X x) (hm : X.mg x = some (.ref f)) (hk : PySem.W.keepIn X.K (.ref f) = true)
    (hx : ∀ σ, PassesAt (L2.CX X.prog X.w) X σ (E σ)) (hdb : (x == ("__debug__" : Str)) = false) : PE X (.Call (.Name x p) [] [] pos) (fun σ H Q => sp [] H Q (E σ)) := by
  refine ⟨fun pins s σ H Q I h => wpAny_Call_Name_kw (ld_glob I hg hm ?_ hdb)⟩
  refine PySem.W.callWith_K0 I.kIn hk (wpAny_call (codeAny_mono (O X.A X.stack s H [] [] Q (E σ) hr I.env0 .nil h) fun r s' hq => ?_))
  cases r with
  | error e => exact hx σ pins H s e s' I hq
  | ok fl =>
    cases fl with
    | ret u => exact I.after hq
    | next => exact hq.elim
    | brk => exact hq.elim
    | cont => exact hq.elim
/-- f() -/
def dCallV0 (F : FS) : M Sl := fun ρ => finC ρ (F [.sh (.tup [])])
theorem dr_fnV0 (O : FdV Z.X.prog Z.X.w Z.X.K Z.X.mg Z.X.base x k F) (hk : k ≤ Z.k := by exact Nat.le_of_ble_eq_true rfl) (hg : Gl Z.X x := by first | rfl | decide) (hdb : (x == ("__debug__" : Str)) = false := by decide) (hh : Z.hot = false := by rfl) :
    DR Z (.Call (.Name x p) [] [] pos) (dCallV0 F) := by
  obtain ⟨f, hm, kp, O⟩ := O.ex
  refine ⟨_, pe_callR0 (E := WE Z.W) O ((Z.room hh).mono hk) hg hm kp (passAt Z.tk) hdb, fun Ho hw G ρ σ H Q x q => ?_⟩
  refine ⟨Nat.zero_le _, fun p hp => ?_⟩
  obtain ⟨x2, g2⟩ := x.allocF (o := .tup []) hp
  have r : Rep Z.X.K Z.X.mg (upd G p (.tup [])) (.tup []) (.ref p) := by
    unfold Rep
    exact ⟨p, [], rfl, SqT.of upd_same, RepL.nil⟩
  exact kw_sp (ps := [("" : Str)]) (ds' := [.tup []]) hw x2 g2 (RepL.one r) rfl q
@[simp] theorem x_callV0 (F : FS) (ρ : List Sl) : dCallV0 F ρ = finC ρ (F [.sh (.tup [])]) := rfl
@[simp] theorem x_callV (F : FS) (u : M (List D)) (ρ : List Sl) : dCallV F u ρ = (u ρ).bind fun ds ρ1 => if ds.length < 64 then finC ρ1 (F [.sh (.tup ds)]) else .no := rfl
end
end DS

set_option Elab.async false
set_option linter.all false
set_option maxRecDepth 100000
set_option maxHeartbeats 2000000
/-! [e for x in a for y in b] -/
namespace DS
open PySem PySem.Spec PyProof.Rows L2
theorem wipe_in {i : Nat} : ∀ (vs : List Nat) (σ : L2.St), i ∈ vs → (wipe σ vs)[i]? = σ[i]?.map fun _ => none
  | v :: vs, σ, h => by
    unfold wipe
    by_cases e : v = i
    · subst e
      rw [List.getElem?_set]
      by_cases hm : v ∈ vs
      · have ih := wipe_in vs σ hm
        by_cases hl : v < (wipe σ vs).length
        · rw [if_pos rfl, if_pos hl]
          rw [wipe_length] at hl
          rw [List.getElem?_eq_getElem hl]
          rfl
        · rw [if_pos rfl, if_neg hl]
          rw [wipe_length] at hl
          rw [List.getElem?_eq_none (by omega)]
          rfl
      · by_cases hl : v < (wipe σ vs).length
        · rw [if_pos rfl, if_pos hl]
          rw [wipe_length] at hl
          rw [List.getElem?_eq_getElem hl]
          rfl
        · rw [if_pos rfl, if_neg hl]
          rw [wipe_length] at hl
          rw [List.getElem?_eq_none (by omega)]
          rfl
    · have hm : i ∈ vs := (List.mem_cons.mp h).resolve_left fun z => e z.symm
      rw [List.getElem?_set_ne e]
      exact wipe_in vs σ hm
theorem wipe_sub {σ : L2.St} {vs vs1 : List Nat} (h : ∀ i ∈ vs1, i ∈ vs) : wipe (wipe σ vs1) vs = wipe σ vs := by
  apply List.ext_getElem?
  intro i
  by_cases hi : i ∈ vs
  · rw [wipe_in vs _ hi, wipe_in vs _ hi]
    by_cases h1 : i ∈ vs1
    · rw [wipe_in vs1 _ h1, Option.map_map]
      rfl
    · rw [wipe_out h1]
  · rw [wipe_out hi, wipe_out hi, wipe_out fun z => hi (h i z)]
/-- the two loops -/
def lcRun2 (g : D → List Sl → Option (List Sl)) (tt : M Bool) (t1 : M (List D)) (g1 : D → List Sl → Option (List Sl)) (tt1 : M Bool) (te : M D) (own own1 : List Nat) : List D → List D → List Sl → Option (List D × List Sl)
  | [], acc, ρ => some (acc, ρ)
  | d :: ds, acc, ρ => match g d ρ with
    | none => none
    | some ρ1 => match tt ρ1 with
      | .ok true ρ2 => match t1 ρ2 with
        | .ok ds1 ρ3 => match lcRun g1 tt1 te own1 ds1 acc (drops own1 ρ3) with
          | some (acc', ρ4) => lcRun2 g tt t1 g1 tt1 te own own1 ds acc' (drops own ρ4)
          | none => none
        | _ => none
      | .ok false ρ2 => lcRun2 g tt t1 g1 tt1 te own own1 ds acc (drops own ρ2)
      | _ => none
def dLc2 (t : M (List D)) (g : D → List Sl → Option (List Sl)) (tt : M Bool) (t1 : M (List D)) (g1 : D → List Sl → Option (List Sl)) (tt1 : M Bool) (te : M D) (own own1 : List Nat) : M Sl := bnd t fun ds ρ1 => match lcRun2 g tt t1 g1 tt1 te own own1 ds [] (drops own ρ1) with
  | some (acc, ρe) => .ok (.ow none (.lst acc)) (mend own ρ1 ρe)
  | none => .no
section
variable {Z : DC} {Ho : Hp} {pos : Pos}
theorem blk_pi {scope : Scope} {tg iter : Expr} {t : M (List D)} (h : ∀ (s : Shared) (H : Hp) (C : Addr) (cl : List (Str × Addr)) (fp : List Addr), DI (blkZ Z s H scope (compEnvC scope cl C Z.X.env) fp) tg iter t) :
    ∃ wi : TI, (∀ (s : Shared) (H : Hp) (C : Addr) (cl : List (Str × Addr)) (fp : List Addr), PI (Z.X.blk s H scope (compEnvC scope cl C Z.X.env) fp) tg iter wi) ∧
      ∀ Ho, Same Z.Ho Ho → ∀ G ρ σ H Q, Z.R Ho G ρ σ H → (∃ ds ρ', t ρ = .ok ds ρ' ∧ ∀ J G' H', Z.R Ho G' ρ' σ H' → Gr Ho G G' → ItOk Z Ho J ds G' → Q J H') → wi σ H Q := by
  refine ⟨fun σ H Q => ∀ s H0 C cl fp, (h s H0 C cl fp).choose σ H Q, fun s H0 C cl fp => ?_, fun Ho hw G ρ σ H Q x hq s H0 C cl fp => ?_⟩
  · have p := (h s H0 C cl fp).choose_spec.1
    exact ⟨fun pins s1 σ H Q I hh => p.run pins s1 σ H Q I (hh s H0 C cl fp)⟩
  · have p := (h s H0 C cl fp).choose_spec.2
    obtain ⟨ds, ρ', e, q⟩ := hq
    refine p Ho hw G ρ σ H Q ⟨x.rs, x.ho, x.g0⟩ ?_
    rw [e]
    refine fun J G' H' x' g' it => q J G' H' ⟨x'.rs, x'.ho, x'.g0⟩ g' ⟨it.go, it.stop, fun i d G ρ σ H v H' hd R s y => ?_⟩
    obtain ⟨G2, R2, g2, r2⟩ := it.yld i d G ρ σ H v H' hd ⟨R.rs, R.ho, R.g0⟩ s y
    exact ⟨G2, ⟨R2.rs, R2.ho, R2.g0⟩, g2, r2⟩
theorem lc2_sem {vs vs1 : List Nat} {t t1 : M (List D)} {g g1 : D → List Sl → Option (List Sl)} {tt tt1 : M Bool} {te : M D} {wi wi1 : TI} {tgt tgt1 : TG} {ttt ttt1 : TT} {tee : TE} (hv : ∀ i ∈ vs1, i ∈ vs)
    (si : ∀ Ho, Same Z.Ho Ho → ∀ G ρ σ H Q, Z.R Ho G ρ σ H → LI Z Ho G σ (t ρ) Q → wi σ H Q)
    (sg : ∀ Ho G ρ σ H v d Q, Z.R Ho G ρ σ H → Z.rep G d v → (∃ ρ', g d ρ = some ρ' ∧ ∀ σ', Z.R Ho G ρ' σ' H → wipe σ' vs = wipe σ vs → Q σ' H) → tgt v σ H Q)
    (st : ∀ Ho, Same Z.Ho Ho → ∀ G ρ σ H Q, Z.R Ho G ρ σ H → (∃ c ρ', tt ρ = .ok c ρ' ∧ ∀ G' H', Z.R Ho G' ρ' σ H' → Gr Ho G G' → Q c H') → ttt σ H Q)
    (si1 : ∀ Ho, Same Z.Ho Ho → ∀ G ρ σ H Q, Z.R Ho G ρ σ H → (∃ ds ρ', t1 ρ = .ok ds ρ' ∧ ∀ J G' H', Z.R Ho G' ρ' σ H' → Gr Ho G G' → ItOk Z Ho J ds G' → Q J H') → wi1 σ H Q)
    (sg1 : ∀ Ho G ρ σ H v d Q, Z.R Ho G ρ σ H → Z.rep G d v → (∃ ρ', g1 d ρ = some ρ' ∧ ∀ σ', Z.R Ho G ρ' σ' H → wipe σ' vs1 = wipe σ vs1 → Q σ' H) → tgt1 v σ H Q)
    (st1 : ∀ Ho, Same Z.Ho Ho → ∀ G ρ σ H Q, Z.R Ho G ρ σ H → (∃ c ρ', tt1 ρ = .ok c ρ' ∧ ∀ G' H', Z.R Ho G' ρ' σ H' → Gr Ho G G' → Q c H') → ttt1 σ H Q)
    (se : ∀ Ho, Same Z.Ho Ho → ∀ G ρ σ H Q, Z.R Ho G ρ σ H → (∃ d ρ', te ρ = .ok d ρ' ∧ ∀ v G' H', Z.R Ho G' ρ' σ H' → Gr Ho G G' → Z.rep G' d v → Q v H') → tee σ H Q)
    (hw : Same Z.Ho Ho) {G : Hp} {ρ : List Sl} {σ : L2.St} {H : Hp} {Q : VK} (x : Z.R Ho G ρ σ H) (q : LR Z Ho G σ (dLc2 t g tt t1 g1 tt1 te vs vs1 ρ) Q) : tLc2 wi tgt ttt wi1 tgt1 ttt1 tee vs vs1 σ H Q := by
  refine si Ho hw G ρ σ H _ x (LI.then (L := fun r => LR Z Ho G σ r Q) (fun _ _ h => h) (fun h => h) q fun ds ρ1 J G1 H1 x1 g1' it q1 => ?_)
  intro Da hD
  have x2 : Z.R Ho G1 (.ow none (.lst []) :: drops vs ρ1) (some (.ref Da) :: wipe σ vs) (upd H1 Da (.lst [])) := x1.to ((x1.pushO (.lst RepL.nil) hD).rs.wiped vs) Gr.refl
  cases er : lcRun2 g tt t1 g1 tt1 te vs vs1 ds [] (drops vs ρ1) with
  | none => rw [er] at q1; exact q1.elim
  | some ae =>
    obtain ⟨accE, ρE⟩ := ae
    rw [er] at q1
    refine ⟨fun i m H => m = ds.length - i ∧ i ≤ ds.length ∧ ∃ G' ρ' acc, Z.R Ho G' (.ow none (.lst acc) :: ρ') (some (.ref Da) :: wipe σ vs) H ∧ Gr Ho G1 G' ∧ lcRun2 g tt t1 g1 tt1 te vs vs1 (ds.drop i) acc ρ' = some (accE, ρE), ⟨ds.length, by simp, Nat.zero_le _, G1, _, [], x2, Gr.refl, er⟩, ?_⟩
    rintro i m H2 ⟨rfl, hi, G2, ρ2, acc, x3, g2, e2⟩
    by_cases hlt : i < ds.length
    · refine .inr ⟨it.go i H2 hlt (g2.1.trans x3.gh), fun H' => ∃ G' ρ' acc, Z.R Ho G' (.ow none (.lst acc) :: ρ') (some (.ref Da) :: wipe σ vs) H' ∧ Gr Ho G1 G' ∧ lcRun2 g tt t1 g1 tt1 te vs vs1 (ds.drop (i + 1)) acc ρ' = some (accE, ρE), fun H' h => ⟨ds.length - (i + 1), by omega, rfl, hlt, h⟩, fun v H' y => ?_⟩
      have hd : ds[i]? = some ds[i] := by simp [hlt]
      rw [List.drop_eq_getElem_cons hlt] at e2
      obtain ⟨G3, x4, g3, r3⟩ := it.yld i _ G2 _ _ H2 v H' hd x3 g2.1 y
      unfold lcRun2 at e2
      cases eg : g ds[i] ρ2 with
      | none => rw [eg] at e2; cases e2
      | some ρ3 =>
        rw [eg] at e2
        obtain ⟨Ho', hh, x5, bk⟩ := x4.lend
        refine sg Ho' G3 ρ2 _ H' v _ _ x5 r3 ⟨ρ3, eg, fun σ3 x6 w6 => ⟨by rw [w6, wipe_wipe], ?_⟩⟩
        rw [wipe_wipe] at w6
        simp only at e2
        cases et : tt ρ3 with
        | ex y ρ4 => rw [et] at e2; cases e2
        | no => rw [et] at e2; cases e2
        | ok c ρ4 =>
          rw [et] at e2
          refine st Ho' (hw.trans hh) G3 ρ3 σ3 H' _ x6 ⟨c, ρ4, et, fun G4 H4 x7 g4 => ?_⟩
          cases c with
          | false =>
            rw [if_neg Bool.false_ne_true]
            have x8 := bk G4 ρ4 σ3 H4 g4 x7
            have x9 := x8.rs.wiped vs
            rw [w6] at x9
            exact ⟨G4, drops vs ρ4, acc, x8.to x9 Gr.refl, (g2.trans g3).trans (g4.anti hh), e2⟩
          | true =>
            rw [if_pos rfl]
            simp only at e2
            cases e1 : t1 ρ4 with
            | ex y ρ5 => rw [e1] at e2; cases e2
            | no => rw [e1] at e2; cases e2
            | ok ds1 ρ5 =>
              rw [e1] at e2
              simp only at e2
              cases el : lcRun g1 tt1 te vs1 ds1 acc (drops vs1 ρ5) with
              | none => rw [el] at e2; cases e2
              | some ai =>
                obtain ⟨accI, ρI⟩ := ai
                rw [el] at e2
                simp only at e2
                refine si1 Ho' (hw.trans hh) G4 ρ4 σ3 H4 _ x7 ⟨ds1, ρ5, e1, fun J1 G5 H5 y7 g5 it1 => ?_⟩
                have y8 := bk G5 ρ5 σ3 H5 (g4.trans g5) y7
                have y9 : Z.R Ho G5 (.ow none (.lst acc) :: drops vs1 ρ5) (some (.ref Da) :: wipe σ3 vs1) H5 := y8.to (y8.rs.wiped vs1) Gr.refl
                have gg : Gr Ho G1 G5 := (g2.trans g3).trans ((g4.trans g5).anti hh)
                refine ⟨fun j k H => k = ds1.length - j ∧ j ≤ ds1.length ∧ ∃ G' ρ' acc', Z.R Ho G' (.ow none (.lst acc') :: ρ') (some (.ref Da) :: wipe σ3 vs1) H ∧ Gr Ho G5 G' ∧ lcRun g1 tt1 te vs1 (ds1.drop j) acc' ρ' = some (accI, ρI), ⟨ds1.length, by simp, Nat.zero_le _, G5, _, acc, y9, Gr.refl, el⟩, ?_⟩
                rintro j k H6 ⟨rfl, hj, G6, ρ6, acc6, z3, z2, f2⟩
                by_cases hjt : j < ds1.length
                · refine .inr ⟨it1.go j H6 hjt (z2.1.trans z3.gh), fun H' => ∃ G' ρ' acc', Z.R Ho G' (.ow none (.lst acc') :: ρ') (some (.ref Da) :: wipe σ3 vs1) H' ∧ Gr Ho G5 G' ∧ lcRun g1 tt1 te vs1 (ds1.drop (j + 1)) acc' ρ' = some (accI, ρI), fun H' h => ⟨ds1.length - (j + 1), by omega, rfl, hjt, h⟩, fun v1 H7 yy => ?_⟩
                  have hd1 : ds1[j]? = some ds1[j] := by simp [hjt]
                  rw [List.drop_eq_getElem_cons hjt] at f2
                  obtain ⟨G7, z4, g7, r7⟩ := it1.yld j _ G6 _ _ H6 v1 H7 hd1 z3 z2.1 yy
                  obtain ⟨Hb, hb, z5, bk1⟩ := z4.lend
                  unfold lcRun at f2
                  cases eh : g1 ds1[j] ρ6 with
                  | none => rw [eh] at f2; cases f2
                  | some ρ7 =>
                    rw [eh] at f2
                    refine sg1 Hb G7 ρ6 _ H7 v1 _ _ z5 r7 ⟨ρ7, eh, fun σ5 k6 w5 => ⟨by rw [w5, wipe_wipe], ?_⟩⟩
                    rw [wipe_wipe] at w5
                    simp only at f2
                    cases ek : tt1 ρ7 with
                    | ex y ρ8 => rw [ek] at f2; cases f2
                    | no => rw [ek] at f2; cases f2
                    | ok c ρ8 =>
                      rw [ek] at f2
                      refine st1 Hb (hw.trans hb) G7 ρ7 σ5 H7 _ k6 ⟨c, ρ8, ek, fun G8 H8 k7 g8 => ?_⟩
                      cases c with
                      | false =>
                        rw [if_neg Bool.false_ne_true]
                        have k8 := bk1 G8 ρ8 σ5 H8 g8 k7
                        have k9 := k8.rs.wiped vs1
                        rw [w5] at k9
                        exact ⟨G8, drops vs1 ρ8, acc6, k8.to k9 Gr.refl, (z2.trans g7).trans (g8.anti hb), f2⟩
                      | true =>
                        rw [if_pos rfl]
                        simp only at f2
                        cases ee : te ρ8 with
                        | ex y ρ9 => rw [ee] at f2; cases f2
                        | no => rw [ee] at f2; cases f2
                        | ok dd ρ9 =>
                          rw [ee] at f2
                          simp only at f2
                          refine se Hb (hw.trans hb) G8 ρ8 σ5 H8 _ k7 ⟨dd, ρ9, ee, fun v5 G9 H9 k8 g9 r9 => ?_⟩
                          by_cases hz : acc6.length < sizeLine
                          · rw [if_pos hz] at f2
                            have k9 := bk1 G9 ρ9 σ5 H9 (g8.trans g9) k8
                            obtain ⟨a, vv, h1, h2, h3, h4⟩ := k9.ownL (i := 0) rfl
                            simp only [List.getElem?_cons_zero, Option.some.injEq, V.ref.injEq] at h1
                            subst h1
                            refine ⟨vv, h2, by rw [h3.length]; exact hz, ?_⟩
                            have k10 := h4 _ _ (h3.append (RepL.one r9))
                            simp only [List.set_cons_zero] at k10
                            have k11 := k10.rs.wiped vs1
                            rw [w5] at k11
                            exact ⟨G9, drops vs1 ρ9, _, k10.to k11 Gr.refl, (z2.trans g7).trans ((g8.trans g9).anti hb), f2⟩
                          · rw [if_neg hz] at f2; cases f2
                · have e : j = ds1.length := by omega
                  subst e
                  refine .inl ⟨it1.stop H6 (z2.1.trans z3.gh), ?_⟩
                  rw [List.drop_length] at f2
                  cases f2
                  have z9 := z3.rs.wiped vs
                  rw [wipe_sub hv, w6] at z9
                  exact ⟨G6, drops vs ρI, accI, z3.to z9 Gr.refl, gg.trans z2, e2⟩
    · have e : i = ds.length := by omega
      subst e
      refine .inl ⟨it.stop H2 (g2.1.trans x3.gh), ?_⟩
      rw [List.drop_length] at e2
      cases e2
      exact q1 _ G2 H2 (x3.to (x1.rs.mended g2.1 x3.rs) Gr.refl) (g1'.trans g2)
theorem dr_lc2 {tg tg1 : Expr} {iter iter1 elt : Expr} {ifs ifs1 : List Expr} {scope : Scope} {m : Md} {t t1 : M (List D)} {g g1 : D → List Sl → Option (List Sl)} {tt tt1 : M Bool} {te : M D} (own : List (Str × Nat)) (vs1 : List Nat) (hN : Z.X.N.Nodup) (hi : DI Z tg iter t)
    (hg : ∀ (s : Shared) (H : Hp) (C : Addr) (cl : List (Str × Addr)) (fp : List Addr), DGo (blkZ Z s H scope (compEnvC scope cl C Z.X.env) fp) (own.map (·.2)) tg g)
    (ht : ∀ (s : Shared) (H : Hp) (C : Addr) (cl : List (Str × Addr)) (fp : List Addr), DTs (blkZ Z s H scope (compEnvC scope cl C Z.X.env) fp) ifs tt)
    (hi1 : ∀ (s : Shared) (H : Hp) (C : Addr) (cl : List (Str × Addr)) (fp : List Addr), DI (blkZ Z s H scope (compEnvC scope cl C Z.X.env) fp) tg1 iter1 t1)
    (hg1 : ∀ (s : Shared) (H : Hp) (C : Addr) (cl : List (Str × Addr)) (fp : List Addr), DGo (blkZ Z s H scope (compEnvC scope cl C Z.X.env) fp) vs1 tg1 g1)
    (ht1 : ∀ (s : Shared) (H : Hp) (C : Addr) (cl : List (Str × Addr)) (fp : List Addr), DTs (blkZ Z s H scope (compEnvC scope cl C Z.X.env) fp) ifs1 tt1)
    (he : ∀ (s : Shared) (H : Hp) (C : Addr) (cl : List (Str × Addr)) (fp : List Addr), DE (blkZ Z s H scope (compEnvC scope cl C Z.X.env) fp) m elt te) (hb : m.b = false := by rfl)
    (hv : ∀ i ∈ vs1, i ∈ own.map (·.2) := by decide)
    (ok : blkC Z.X.N Z.X.env.scope scope own = true := by first | (simp only [mkZ_N, mkZ_sc]; decide +kernel) | decide +kernel) (hs : ∀ x, foldedSetIterable iter Z.X.env x = pure x := by intro _; rfl) (hs1 : ∀ env x, foldedSetIterable iter1 env x = pure x := by intro _ _; rfl) (hh : Z.hot = false := by rfl) :
    DR Z (.ListComp elt [⟨tg, iter, ifs, 0⟩, ⟨tg1, iter1, ifs1, 0⟩] scope pos) (dLc2 t g tt t1 g1 tt1 te (own.map (·.2)) vs1) := by
  obtain ⟨wi, pi, si⟩ := hi
  obtain ⟨tgt, pg, sg⟩ := blk_pg hg
  obtain ⟨ttt, pt, st⟩ := blk_pt ht
  obtain ⟨wi1, pi1, si1⟩ := blk_pi hi1
  obtain ⟨tgt1, pg1, sg1⟩ := blk_pg hg1
  obtain ⟨ttt1, pt1, st1⟩ := blk_pt ht1
  obtain ⟨tee, pe, se⟩ := blk_pe hb he
  exact ⟨_, pe_lc2 (Z.calm hh) hN pi (blkOk_by ok) hv pg pt pi1 pg1 pt1 pe hs hs1, fun Ho hw G ρ σ H Q x q => lc2_sem hv si sg st si1 sg1 st1 se hw x q⟩
/-- name = [.. for .. for ..] on one line -/
theorem st_setLc2 {tg tg1 : Expr} {iter iter1 elt : Expr} {ifs ifs1 : List Expr} {scope : Scope} {m : Md} {t t1 : M (List D)} {g g1 : D → List Sl → Option (List Sl)} {tt tt1 : M Bool} {te : M D} {y : Str} {py spos : Pos} (i : Nat) (own : List (Str × Nat)) (vs1 : List Nat) (hN : Z.X.N.Nodup) (hi : DI Z tg iter t)
    (hg : ∀ (s : Shared) (H : Hp) (C : Addr) (cl : List (Str × Addr)) (fp : List Addr), DGo (blkZ Z s H scope (compEnvC scope cl C Z.X.env) fp) (own.map (·.2)) tg g)
    (ht : ∀ (s : Shared) (H : Hp) (C : Addr) (cl : List (Str × Addr)) (fp : List Addr), DTs (blkZ Z s H scope (compEnvC scope cl C Z.X.env) fp) ifs tt)
    (hi1 : ∀ (s : Shared) (H : Hp) (C : Addr) (cl : List (Str × Addr)) (fp : List Addr), DI (blkZ Z s H scope (compEnvC scope cl C Z.X.env) fp) tg1 iter1 t1)
    (hg1 : ∀ (s : Shared) (H : Hp) (C : Addr) (cl : List (Str × Addr)) (fp : List Addr), DGo (blkZ Z s H scope (compEnvC scope cl C Z.X.env) fp) vs1 tg1 g1)
    (ht1 : ∀ (s : Shared) (H : Hp) (C : Addr) (cl : List (Str × Addr)) (fp : List Addr), DTs (blkZ Z s H scope (compEnvC scope cl C Z.X.env) fp) ifs1 tt1)
    (he : ∀ (s : Shared) (H : Hp) (C : Addr) (cl : List (Str × Addr)) (fp : List Addr), DE (blkZ Z s H scope (compEnvC scope cl C Z.X.env) fp) m elt te) (hb : m.b = false := by rfl)
    (hv : ∀ i ∈ vs1, i ∈ own.map (·.2) := by decide)
    (hy : Z.X.N[i]? = some y := by rfl) (hyl : Z.X.env.scope.names.lookup y = some .local := by rfl)
    (hsw : swapsWith (.ListComp elt [⟨tg, iter, ifs, 0⟩, ⟨tg1, iter1, ifs1, 0⟩] scope pos) (some (.Name y py)) spos.line Z.X.env = pure true := by rfl)
    (ok : blkC Z.X.N Z.X.env.scope scope own = true := by first | (simp only [mkZ_N, mkZ_sc]; decide +kernel) | decide +kernel) (hs : ∀ x, foldedSetIterable iter Z.X.env x = pure x := by intro _; rfl) (hs1 : ∀ env x, foldedSetIterable iter1 env x = pure x := by intro _ _; rfl) (hh : Z.hot = false := by rfl) :
    DSt Z (.Assign [.Name y py] (.ListComp elt [⟨tg, iter, ifs, 0⟩, ⟨tg1, iter1, ifs1, 0⟩] scope pos) spos) (sSet i (dLc2 t g tt t1 g1 tt1 te (own.map (·.2)) vs1)) := by
  obtain ⟨wi, pi, si⟩ := hi
  obtain ⟨tgt, pg, sg⟩ := blk_pg hg
  obtain ⟨ttt, pt, st⟩ := blk_pt ht
  obtain ⟨wi1, pi1, si1⟩ := blk_pi hi1
  obtain ⟨tgt1, pg1, sg1⟩ := blk_pg hg1
  obtain ⟨ttt1, pt1, st1⟩ := blk_pt ht1
  obtain ⟨tee, pe, se⟩ := blk_pe hb he
  refine ⟨_, ps_setLc2 (Z.calm hh) hN hy hyl hsw pi (blkOk_by ok) hv pg pt pi1 pg1 pt1 pe hs hs1, fun Ho hw G ρ σ H E x q => ?_⟩
  exact lc2_sem hv si sg st si1 sg1 st1 se hw x (DR.thenS q fun s ρ1 v G1 H1 x1 g1 q1 => q1 _ G1 H1 (x1.assign i) g1)
end
/-! ### a name that is read ahead of a call -/
def isB : Option Sl → Bool
  | some (.sh _) => true
  | some (.ow _ _) => true
  | _ => false
def sdB : Option Sl → Option D
  | some (.sh d) => some d
  | some (.ow _ d) => some d
  | _ => none
/-- name op b: the name's own container is not b's to change -/
def d2V (f : D → D → Option D) (i : Nat) (tb : M D) : M D := fun ρ => if isB ρ[i]? then (tb ρ).bind fun e ρ1 => lft ((sdB ρ1[i]?).bind fun d => f d e) ρ1 else .no
section
variable {Z : DC} {m2 : Md} {b : Expr} {tb : M D} {pos p : Pos} {x : Str}
theorem R_sdB {Ho G : Hp} {ρ : List Sl} {σ : L2.St} {H : Hp} (x : Z.R Ho G ρ σ H) {i : Nat} {d : D} (e : sdB ρ[i]? = some d) : ∃ v, σ[i]? = some (some v) ∧ Z.BR true G H d v := by
  cases es : ρ[i]? with
  | none => rw [es] at e; cases e
  | some s =>
    rw [es] at e
    cases s with
    | sh d' =>
      cases e
      obtain ⟨v, h1, h2⟩ := x.sh es
      exact ⟨v, h1, .inl h2⟩
    | ow t d' =>
      cases e
      obtain ⟨a, o, h1, h2, h3, _⟩ := x.mut es
      exact ⟨_, h1, .inr ⟨rfl, a, o, rfl, h2, h3⟩⟩
    | _ => cases e
theorem op2V {r : R2} {f : D → D → Option D} {i : Nat} (hd : OpD Z r f) {teb : TE} (hb : ∀ Ho, Same Z.Ho Ho → ∀ G ρ σ H Q, Z.R Ho G ρ σ H → LJ Z Ho m2 G H σ (tb ρ) Q → teb σ H Q)
    {Ho : Hp} (hw : Same Z.Ho Ho) {G : Hp} {ρ : List Sl} {σ : L2.St} {H : Hp} {Q : VK} (x : Z.R Ho G ρ σ H) (q : LJ Z Ho ⟨false, false⟩ G H σ (d2V f i tb ρ) Q) : tOp r (tVar i) teb σ H Q := by
  unfold d2V at q
  by_cases h0 : isB ρ[i]? = true
  · rw [if_pos h0] at q
    obtain ⟨d0, e0⟩ : ∃ d, sdB ρ[i]? = some d := by
      cases es : ρ[i]? with
      | none => rw [es] at h0; cases h0
      | some s => rw [es] at h0; cases s <;> first | exact ⟨_, rfl⟩ | cases h0
    obtain ⟨v, hv, _⟩ := R_sdB x e0
    refine ⟨v, hv, ?_⟩
    refine hb Ho hw G ρ σ H _ x (DE.then (L := fun r => LJ Z Ho ⟨false, false⟩ G H σ r Q) (fun _ _ h => h) (fun h => h) q fun e ρ2 w G2 H2 x2 g2 s2 b2 q2 => ?_)
    unfold lft at q2
    cases ed : sdB ρ2[i]? with
    | none => rw [ed] at q2; exact q2.elim
    | some d =>
      rw [ed] at q2
      simp only [Option.bind_some] at q2
      obtain ⟨v', hv', bv⟩ := R_sdB x2 ed
      rw [hv] at hv'
      cases hv'
      cases ef : f d e with
      | none => rw [ef] at q2; exact q2.elim
      | some z =>
        rw [ef] at q2
        exact hd.ok x2 bv b2.up ef fun u G' H' x' g' s' r' => q2 u G' H' x' (g2.trans g') (fun hp => nomatch hp) (.inl r')
  · rw [if_neg h0] at q; exact q.elim
theorem dt_cmpV {op : CmpOp} {f : D → D → Option D} (i : Nat) (h : Cm Z op f) (hb : DE Z m2 b tb) (hN : Z.X.N[i]? = some x := by rfl) (hv : Vis Z.X.env.scope x := by first | exact Or.inl rfl | exact Or.inr (Or.inl rfl) | exact Or.inr (Or.inr rfl)) (hdb : (x == ("__debug__" : Str)) = false := by decide)
    (hcd : (x == ("__classdict__" : Str)) = false := by decide) (hx : behindInMarks op b = false := by first | rfl | exact nomark _) :
    DT Z false (.Compare (.Name x p) [op] [b] pos) (dB (d2V f i tb)) := by
  obtain ⟨r, h1, h2⟩ := h.ok
  obtain ⟨teb, pb, sb⟩ := hb
  refine ⟨_, pt_cmpR h1 (pe_var hN hv hdb hcd) pb hx, fun Ho hw G ρ σ H Q x q => ?_⟩
  exact tstB (m1 := ⟨false, false⟩) (fun Ho hw G ρ σ H Q x q => op2V h2 sb hw x q) hw x q
@[simp] theorem x_d2V (f : D → D → Option D) (i : Nat) (tb : M D) (ρ : List Sl) : d2V f i tb ρ = if isB ρ[i]? then (tb ρ).bind fun e ρ1 => lft ((sdB ρ1[i]?).bind fun d => f d e) ρ1 else .no := rfl
@[simp] theorem x_isB1 {d : D} : isB (some (.sh d)) = true := rfl
@[simp] theorem x_isB2 {t : Option Nat} {d : D} : isB (some (.ow t d)) = true := rfl
@[simp] theorem x_sdB1 {d : D} : sdB (some (.sh d)) = some d := rfl
@[simp] theorem x_sdB2 {t : Option Nat} {d : D} : sdB (some (.ow t d)) = some d := rfl
end
/-! ### f() of a def without parameters -/
section
variable {Z : DC} {pos p : Pos} {x : Str} {k n : Nat} {F : FS} {f : Addr} {fd : FuncData} {ps : List Str}
theorem pe_call0G {g : Bool} {X : Cx} {sp : Sp} {E : L2.St → XK} (F : FnG g X.prog X.w X.K X.mg X.base k f fd ps sp) (gd : g = true → X.A.guards = some []) (hr : Room k X.A) (hg : Gl X x) (hm : X.mg x = some (.ref f)) (hk : PySem.W.keepIn X.K (.ref f) = true) (hb : Binds X.K fd ps [])
    (hx : ∀ σ, PassesAt (L2.CX X.prog X.w) X σ (E σ)) (hdb : (x == ("__debug__" : Str)) = false) : PE X (.Call (.Name x p) [] [] pos) (fun σ H Q => sp [] H Q (E σ)) := by
  refine ⟨fun pins s σ H Q I h => wpAny_Call_Name_kw (ld_glob I hg hm ?_ hdb)⟩
  have hl : ([] : List Value).length = ps.length := F.len _ _ _ _ h
  have bi := hb s [] I.kIn hl
  rw [List.append_nil] at bi
  refine PySem.W.callWith_K0 I.kIn hk (wpAny_call (codeAny_mono (F.run X.A gd X.stack s H ⟨[], []⟩ [] [] Q (E σ) hr I.env0 bi .nil h) fun r s' hq => ?_))
  cases r with
  | error e => exact hx σ pins H s e s' I hq
  | ok fl =>
    cases fl with
    | ret u => exact I.after hq
    | next => exact hq.elim
    | brk => exact hq.elim
    | cont => exact hq.elim
theorem dr_fn0 {g : Bool} (O : Fd g Z.X.prog Z.X.w Z.X.K Z.X.mg Z.X.base x k 0 F) (hgg : g = true → Z.g = true := by first | exact fun h => nomatch h | exact fun h => h | exact fun _ => rfl) (hk : k ≤ Z.k := by exact Nat.le_of_ble_eq_true rfl)
    (hg : Gl Z.X x := by first | rfl | decide) (hdb : (x == ("__debug__" : Str)) = false := by decide) (hh : Z.hot = false := by rfl) : DR Z (.Call (.Name x p) [] [] pos) (dCall F [] dNil) := by
  obtain ⟨f, fd, ps, hm, kp, hb, G⟩ := O.ex
  refine ⟨_, pe_call0G (E := WE Z.W) G (fun h => Z.gd (hgg h)) ((Z.room hh).mono hk) hg hm kp hb (passAt Z.tk) hdb, fun Ho hw G ρ σ H Q x q => ?_⟩
  exact call_sp (rs := []) hw rfl x Gr.refl .nil q
end
end DS

set_option Elab.async false
set_option linter.all false
set_option maxRecDepth 100000
set_option maxHeartbeats 4000000
namespace CMA
open PySem PySem.Spec PyProof.Rows L2 DS DS.Drw
def g_ALPHABET : D := (.str ("\t\n !\"#$&'()*+,-./0123456789:;<=>?@ABCDEFGHIJKLMNOPQRSTUVWXYZ[\\]^_`abcdefghijklmnopqrstuvwxyz{|}~" : Str))
def g_BLANK : D := (.str (" " : Str))
def g_FIELD : D := (.tup [(.str ("field" : Str))])
def g_MOST_SIGNS : D := (.int 4000)
def g_NAMES : D := (.tup [(.str ("separator" : Str)), (.str ("terminator" : Str)), (.str ("quote" : Str)), (.str ("escape" : Str)), (.str ("doubled" : Str)), (.str ("padded" : Str)), (.str ("strict" : Str))])
def g_ROW : D := (.tup [(.str ("row" : Str))])
noncomputable def b_is_sign : MS := (sRet (dSh (dAndV (d1 (fIsi ["str"]) (dVarB 0)) (dAndV (d2 fEq (d1 fLen (dVarB 0)) (ret (.int 1))) (d2 fIn1 (dVarB 0) (ret g_ALPHABET))))))
noncomputable def F_is_sign : FS := mkF 1 1 b_is_sign
noncomputable def e1_is_text : M D := (d2 fIn1 (dVarB 1) (ret g_ALPHABET))
noncomputable def b_is_text : MS := (sRet (dSh (dAndV (d1 (fIsi ["str"]) (dVarB 0)) (dAndV (d2 fLe (d1 fLen (dVarB 0)) (ret g_MOST_SIGNS)) (d1 fAll (dFz (dLc (lItems (dVar 0)) (gN 1) (ret true) e1_is_text [1])))))))
noncomputable def F_is_text : FS := mkF 1 2 b_is_text
noncomputable def b_need_text : MS := (sIf (dNotT (dB (dFz (dCall F_is_text [none] (dCons (dVar 0) dNil))))) (fun ρ => .ex ⟨("BadText" : Str), []⟩ ρ) sNil)
noncomputable def F_need_text : FS := mkF 1 1 b_need_text
noncomputable def l1_need_settings : MS := (sSeq (sIf (dNotT (dB (d1 (fIsi ["bool"]) (dVarB 5)))) (sRaise ("BadDialect" : Str) [("field" : Str)] (dCons (d2 fIx (ret g_NAMES) (d2 fAdd (ret (.int 4)) (dVarB 3))) dNil)) sNil)
    (sIf (dOrT (dAndT (dB (d2 fEq (dVarB 3) (ret (.int 0)))) (dAndT (dB (dVar 5)) (dB (d2 fIsN (d2 fIx (dVarB 0) (ret (.int 2))) (ret .non))))) (dAndT (dB (d2 fEq (dVarB 3) (ret (.int 1)))) (dAndT (dB (dVar 5)) (dB (d2 fIn1 (ret g_BLANK) (dVarB 1)))))) (sRaise ("BadDialect" : Str) [("field" : Str)] (dCons (d2 fIx (ret g_NAMES) (d2 fAdd (ret (.int 4)) (dVarB 3))) dNil)) sNil))
noncomputable def g1_need_settings : D → List Sl → Option (List Sl) := (gTp 2 (gsCons (gN 3) (gsCons (gN 5) gsNil)))
noncomputable def l2_need_settings : MS := (sSeq (sIf (dAndT (dB (d2 fGt (dVarB 3) (ret (.int 1)))) (dB (d2 fIsN (dVarB 4) (ret .non)))) .ct sNil)
    (sIf (dOrT (dNotT (dB (dFz (dCall F_is_sign [none] (dCons (dVar 4) dNil))))) (dB (d2 fIn1 (dVarB 4) (dSl (dVarB 1) (ret none) (dPart (dVarB 3)))))) (sRaise ("BadDialect" : Str) [("field" : Str)] (dCons (d2 fIx (ret g_NAMES) (dVarB 3)) dNil)) sNil))
noncomputable def g2_need_settings : D → List Sl → Option (List Sl) := (gTp 2 (gsCons (gN 3) (gsCons (gN 4) gsNil)))
noncomputable def b_need_settings : MS := (sSeq (sPar2 1 2 (sCons (dSh (dSl (dVarB 0) (ret none) (dPart (ret (.int 4))))) (sCons (dSh (dSl (dVarB 0) (dPart (ret (.int 4))) (ret none))) (ret []))))
    (sSeq (sFor (lEnum (dVar 1)) g2_need_settings l2_need_settings [4])
    (sFor (lEnum (dVar 2)) g1_need_settings l1_need_settings [5])))
noncomputable def F_need_settings : FS := mkF 1 6 b_need_settings
noncomputable def b_Dialect_escape : MS := (sRet (dSh (d2 fIx (d1 (fFld ("Dialect" : Str) ("settings" : Str)) (dVarB 0)) (ret (.int 3)))))
noncomputable def F_Dialect_escape : FS := mkF 1 1 b_Dialect_escape
noncomputable def b_Dialect_padded : MS := (sRet (dSh (d2 fIx (d1 (fFld ("Dialect" : Str) ("settings" : Str)) (dVarB 0)) (ret (.int 5)))))
noncomputable def F_Dialect_padded : FS := mkF 1 1 b_Dialect_padded
noncomputable def b_Dialect_quote : MS := (sRet (dSh (d2 fIx (d1 (fFld ("Dialect" : Str) ("settings" : Str)) (dVarB 0)) (ret (.int 2)))))
noncomputable def F_Dialect_quote : FS := mkF 1 1 b_Dialect_quote
noncomputable def b_Dialect_separator : MS := (sRet (dSh (d2 fIx (d1 (fFld ("Dialect" : Str) ("settings" : Str)) (dVarB 0)) (ret (.int 0)))))
noncomputable def F_Dialect_separator : FS := mkF 1 1 b_Dialect_separator
noncomputable def b_Dialect_strict : MS := (sRet (dSh (d2 fIx (d1 (fFld ("Dialect" : Str) ("settings" : Str)) (dVarB 0)) (ret (.int 6)))))
noncomputable def F_Dialect_strict : FS := mkF 1 1 b_Dialect_strict
noncomputable def b_Dialect_terminator : MS := (sRet (dSh (d2 fIx (d1 (fFld ("Dialect" : Str) ("settings" : Str)) (dVarB 0)) (ret (.int 1)))))
noncomputable def F_Dialect_terminator : FS := mkF 1 1 b_Dialect_terminator
noncomputable def b_Dialect_doubled : MS := (sRet (dSh (d2 fIx (d1 (fFld ("Dialect" : Str) ("settings" : Str)) (dVarB 0)) (ret (.int 4)))))
noncomputable def F_Dialect_doubled : FS := mkF 1 1 b_Dialect_doubled
noncomputable def b_behind_quotes : MS := (sSeq (sIf (dAndT (dB (d2 fEq (dVar 1) (dFz (dProp F_Dialect_quote ("Dialect" : Str) (dVar 0))))) (dB (dFz (dProp F_Dialect_doubled ("Dialect" : Str) (dVar 0))))) (sRet (dSh (dTup (dCons (ret (.str ("quoted" : Str))) (dCons (dTup (dCons (dTup (dCons (ret (.str ("add" : Str))) (dCons (dVar 1) dNil))) dNil)) dNil))))) sNil)
    (sSeq (sIf (dB (dFz (dProp F_Dialect_strict ("Dialect" : Str) (dVar 0)))) (sRet (dSh (ret (.str ("after" : Str))))) sNil)
    (sRet (dSh (dIf (dB (d2 fEq (dVar 1) (dFz (dProp F_Dialect_escape ("Dialect" : Str) (dVar 0))))) (dTup (dCons (ret (.str ("plain_escaped" : Str))) (dCons (dTup dNil) dNil))) (dTup (dCons (ret (.str ("plain" : Str))) (dCons (dTup (dCons (dTup (dCons (ret (.str ("add" : Str))) (dCons (dVar 1) dNil))) dNil)) dNil))))))))
noncomputable def F_behind_quotes : FS := mkF 2 2 b_behind_quotes
noncomputable def b_in_quotes : MS := (sSeq (sIf (dB (d2 fEq (dVar 1) (dFz (dProp F_Dialect_quote ("Dialect" : Str) (dVar 0))))) (sRet (dSh (dTup (dCons (ret (.str ("closed" : Str))) (dCons (dTup dNil) dNil))))) sNil)
    (sSeq (sIf (dB (d2 fEq (dVar 1) (dFz (dProp F_Dialect_escape ("Dialect" : Str) (dVar 0))))) (sRet (dSh (dTup (dCons (ret (.str ("quoted_escaped" : Str))) (dCons (dTup dNil) dNil))))) sNil)
    (sRet (dSh (dTup (dCons (ret (.str ("quoted" : Str))) (dCons (dTup (dCons (dTup (dCons (ret (.str ("add" : Str))) (dCons (dVar 1) dNil))) dNil)) dNil)))))))
noncomputable def F_in_quotes : FS := mkF 2 2 b_in_quotes
noncomputable def b_moved : MS := (sSeq (sIf (dB (d2 fEq (dVarB 1) (ret (.str ("plain_escaped" : Str))))) (sRet (dSh (dTup (dCons (ret (.str ("plain" : Str))) (dCons (dTup (dCons (dTup (dCons (ret (.str ("add" : Str))) (dCons (dVar 2) dNil))) dNil)) dNil))))) sNil)
    (sSeq (sIf (dB (d2 fEq (dVarB 1) (ret (.str ("quoted_escaped" : Str))))) (sRet (dSh (dTup (dCons (ret (.str ("quoted" : Str))) (dCons (dTup (dCons (dTup (dCons (ret (.str ("add" : Str))) (dCons (dVar 2) dNil))) dNil)) dNil))))) sNil)
    (sSeq (sIf (dB (d2 fEq (dVarB 1) (ret (.str ("quoted" : Str))))) (sRet (dCall F_in_quotes [none, none] (dCons (dVar 0) (dCons (dVar 2) dNil)))) sNil)
    (sSeq (sIf (dB (d2 fEq (dVar 2) (dFz (dProp F_Dialect_separator ("Dialect" : Str) (dVar 0))))) (sRet (dSh (dTup (dCons (ret (.str ("field" : Str))) (dCons (dTup (dCons (ret g_FIELD) dNil)) dNil))))) sNil)
    (sSeq (sIf (dB (d2 fEq (dVar 2) (dFz (dProp F_Dialect_terminator ("Dialect" : Str) (dVar 0))))) (sRet (dSh (dTup (dCons (ret (.str ("fresh" : Str))) (dCons (dIf (dB (d2 fEq (dVarB 1) (ret (.str ("fresh" : Str))))) (dTup (dCons (ret g_ROW) dNil)) (dTup (dCons (ret g_FIELD) (dCons (ret g_ROW) dNil)))) dNil))))) sNil)
    (sSeq (sIf (dB (d2 fEq (dVarB 1) (ret (.str ("closed" : Str))))) (sRet (dCall F_behind_quotes [none, none] (dCons (dVar 0) (dCons (dVar 2) dNil)))) sNil)
    (sSeq (sIf (dB (d2 fEq (dVar 2) (dFz (dProp F_Dialect_escape ("Dialect" : Str) (dVar 0))))) (sRet (dSh (dTup (dCons (ret (.str ("plain_escaped" : Str))) (dCons (dTup dNil) dNil))))) sNil)
    (sSeq (sIf (dB (d2 fEq (dVarB 1) (ret (.str ("plain" : Str))))) (sRet (dSh (dIf (dAndT (dB (d2 fEq (dVar 2) (dFz (dProp F_Dialect_quote ("Dialect" : Str) (dVar 0))))) (dB (dFz (dProp F_Dialect_strict ("Dialect" : Str) (dVar 0))))) (ret (.str ("quote" : Str))) (dTup (dCons (ret (.str ("plain" : Str))) (dCons (dTup (dCons (dTup (dCons (ret (.str ("add" : Str))) (dCons (dVar 2) dNil))) dNil)) dNil)))))) sNil)
    (sSeq (sIf (dB (d2 fEq (dVar 2) (dFz (dProp F_Dialect_quote ("Dialect" : Str) (dVar 0))))) (sRet (dSh (dTup (dCons (ret (.str ("quoted" : Str))) (dCons (dTup dNil) dNil))))) sNil)
    (sSeq (sIf (dAndT (dB (d2 fEq (dVarB 2) (ret g_BLANK))) (dB (dFz (dProp F_Dialect_padded ("Dialect" : Str) (dVar 0))))) (sRet (dSh (dTup (dCons (ret (.str ("field" : Str))) (dCons (dTup dNil) dNil))))) sNil)
    (sRet (dSh (dTup (dCons (ret (.str ("plain" : Str))) (dCons (dTup (dCons (dTup (dCons (ret (.str ("add" : Str))) (dCons (dVar 2) dNil))) dNil)) dNil)))))))))))))))
noncomputable def F_moved : FS := mkF 3 3 b_moved
noncomputable def l1_state_after : MS := (sSeq (sSet 4 (dCall F_moved [none, none, none] (dCons (dVar 0) (dCons (dVar 2) (dCons (dVar 3) dNil)))))
    (sSeq (sIf (dB (d1 (fIsi ["str"]) (dVarB 4))) (sRet (dSh (ret .non))) sNil)
    (sSet 2 (dSh (d2 fIx (dVarB 4) (ret (.int 0)))))))
noncomputable def b_state_after : MS := (sSeq (sSet 2 (dSh (ret (.str ("fresh" : Str)))))
    (sSeq (sFor (lItems (dVar 1)) (gN 3) l1_state_after [3, 4])
    (sRet (dMove 2))))
noncomputable def F_state_after : FS := mkF 2 5 b_state_after
noncomputable def t1__law_signs_of : M Bool := (dB (d2 fNotIn1 (dVarB 6) (dVarB 3)))
noncomputable def l1__law_signs_of : MS := (sSeq (sSet 5 (dLc (lItems (dVar 2)) (gN 6) t1__law_signs_of (dVar 6) [6]))
    (sAppG 3 (dIf (dB (d2 fEq (dFz (dCall F__law_take [some 0, none] (dRef 0 (dCons (ret (.int 2)) dNil)))) (ret (.int 0)))) (d2 fIx (dVarB 5) (ret (.int 0))) (dFz (dCall F__law_pick [some 0, none] (dRef 0 (dCons (dVar 5) dNil)))))))
noncomputable def b__law_signs_of : MS := (sSeq (sSet 2 (dLst (dCons (ret (.str ("," : Str))) (dCons (ret (.str ("\n" : Str))) (dCons (ret (.str ("\"" : Str))) (dCons (ret (.str ("\\" : Str))) (dCons (ret (.str ("\t" : Str))) (dCons (ret (.str (";" : Str))) (dCons (ret (.str ("'" : Str))) (dCons (ret (.str (" " : Str))) (dCons (ret (.str ("|" : Str))) (dCons (ret (.str ("a" : Str))) (dCons (ret (.str ("7" : Str))) (dCons (ret (.str ("!" : Str))) (dCons (ret (.str ("~" : Str))) dNil)))))))))))))))
    (sSeq (sSet 3 (dLst dNil))
    (sSeq (sFor (lRange fRange1 (dCons (dVar 1) dNil)) (gN 4) l1__law_signs_of [4, 5])
    (sRet (dMove 3)))))
noncomputable def F__law_signs_of : FS := mkF 2 7 b__law_signs_of
noncomputable def b__law_dialect : MS := (sSeq (sSet 1 (dCall F__law_signs_of [some 0, none] (dRef 0 (dCons (ret (.int 4)) dNil))))
    (sSeq (sSet 2 (dSh (dIf (dB (d2 fGt (dFz (dCall F__law_take [some 0, none] (dRef 0 (dCons (ret (.int 4)) dNil)))) (ret (.int 0)))) (d2 fIx (dVarB 1) (ret (.int 2))) (ret .non))))
    (sSeq (sSet 3 (dSh (dIf (dB (d2 fEq (dFz (dCall F__law_take [some 0, none] (dRef 0 (dCons (ret (.int 2)) dNil)))) (ret (.int 0)))) (d2 fIx (dVarB 1) (ret (.int 3))) (ret .non))))
    (sSeq (sSet 4 (dSh (dAndV (d2 fNotIn1 (ret (.str (" " : Str))) (dFz (dLst (dCons (d2 fIx (dVarB 1) (ret (.int 0))) (dCons (d2 fIx (dVarB 1) (ret (.int 1))) (dCons (dVar 2) (dCons (dVar 3) dNil))))))) (d2 fEq (dFz (dCall F__law_take [some 0, none] (dRef 0 (dCons (ret (.int 3)) dNil)))) (ret (.int 0))))))
    (sSeq (sSet 5 (dSh (dAndV (d2 fNotN (dVarB 2) (ret .non)) (d2 fGt (dFz (dCall F__law_take [some 0, none] (dRef 0 (dCons (ret (.int 3)) dNil)))) (ret (.int 0))))))
    (sRet (dSh (dTup (dCons (d2 fIx (dVarB 1) (ret (.int 0))) (dCons (d2 fIx (dVarB 1) (ret (.int 1))) (dCons (dVar 2) (dCons (dVar 3) (dCons (dVar 5) (dCons (dVar 4) (dCons (d2 fEq (dFz (dCall F__law_take [some 0, none] (dRef 0 (dCons (ret (.int 3)) dNil)))) (ret (.int 0))) dNil)))))))))))))))
noncomputable def F__law_dialect : FS := mkF 1 6 b__law_dialect
noncomputable def t1__law_menu : M Bool := (dB (d2 fNotIn1 (dVarB 2) (dSl (dVarB 1) (ret none) (dPart (dVarB 3)))))
noncomputable def g1__law_menu : D → List Sl → Option (List Sl) := (gTp 2 (gsCons (gN 3) (gsCons (gN 2) gsNil)))
noncomputable def t2__law_menu : M Bool := (dB (d2 fNotN (dVarB 2) (ret .non)))
noncomputable def b__law_menu : MS := (sSeq (sSet 1 (dSh (d2 fAdd (dFz (dLc (lItems (dSl (dVarB 0) (ret none) (dPart (ret (.int 4))))) (gN 2) t2__law_menu (dVar 2) [2])) (dFz (dLst (dCons (ret (.str (" " : Str))) (dCons (ret (.str ("x" : Str))) (dCons (ret (.str ("b" : Str))) dNil))))))))
    (sRet (dLc (lEnum (dVar 1)) g1__law_menu t1__law_menu (dVar 2) [3, 2])))
noncomputable def F__law_menu : FS := mkF 1 4 b__law_menu
noncomputable def e1__law_page : M D := (dFz (dCall F__law_pick [some 0, none] (dRef 0 (dCons (dVar 3) dNil))))
noncomputable def b__law_page : MS := (sSeq (sSet 3 (dCall F__law_menu [none] (dCons (dVar 1) dNil)))
    (sSeq (sSet 3 (dSh (d2 fAdd (d2 fAdd (dVarB 3) (dSl (dVarB 3) (ret none) (dPart (ret (.int 4))))) (d2 fMul (dFz (dLst (dCons (dFz (dCall F__law_pick [some 0, none] (dRef 0 (dCons (dVar 3) dNil)))) dNil))) (dFz (dCall F__law_take [some 0, none] (dRef 0 (dCons (ret (.int 6)) dNil))))))))
    (sRet (dSh (dJoin (ret (.str ("" : Str))) (dFz (dLc (lRange fRange1 (dCons (dFz (dCall F__law_take [some 0, none] (dRef 0 (dCons (d2 fAdd (dVarB 2) (ret (.int 1))) dNil)))) dNil)) (gN 4) (ret true) e1__law_page [4])))))))
noncomputable def F__law_page : FS := mkF 3 5 b__law_page
noncomputable def b_Dialect_init : MS := (sSeq (sDrop (dFz (dCall F_need_settings [none] (dCons (dTup (dCons (dVar 1) (dCons (dVar 2) (dCons (dVar 3) (dCons (dVar 4) (dCons (dVar 5) (dCons (dVar 6) (dCons (dVar 7) dNil)))))))) dNil))))
    (sFldP ("Dialect" : Str) ("settings" : Str) 0 (dTup (dCons (dVar 1) (dCons (dVar 2) (dCons (dVar 3) (dCons (dVar 4) (dCons (dVar 5) (dCons (dVar 6) (dCons (dVar 7) dNil))))))))))
noncomputable def F_Dialect_init : FS := mkF 8 8 b_Dialect_init
noncomputable def b__law_made : MS := (sSeq (sAsg (dVar 0) (gTp 7 (gsCons (gN 1) (gsCons (gN 2) (gsCons (gN 3) (gsCons (gN 4) (gsCons (gN 5) (gsCons (gN 6) (gsCons (gN 7) gsNil)))))))))
    (sRet (dMake F_Dialect_init ("Dialect" : Str) 2 5 (perm [0, 1, 2, 3, 4, 5, 6]) (dCons (dVar 1) (dCons (dVar 2) dNil)) (dCons (dVar 3) (dCons (dVar 4) (dCons (dVar 5) (dCons (dVar 6) (dCons (dVar 7) dNil))))))))
noncomputable def F__law_made : FS := mkF 1 8 b__law_made
noncomputable def b__law_moved : MS := (sSeq (sAsg (dVar 0) (gTp 7 (gsCons (gN 3) (gsCons (gN 4) (gsCons (gN 5) (gsCons (gN 6) (gsCons (gN 7) (gsCons (gN 8) (gsCons (gN 9) gsNil)))))))))
    (sSeq (sIf (dB (d2 fIn1 (dVar 1) (dTup (dCons (ret (.str ("plain_escaped" : Str))) (dCons (ret (.str ("quoted_escaped" : Str))) dNil))))) (sRet (dSh (dTup (dCons (dSl (dVarB 1) (ret none) (dPart (d1 fNeg (ret (.int 8))))) (dCons (dFz (dLst (dCons (dTup (dCons (ret (.str ("add" : Str))) (dCons (dVar 2) dNil))) dNil))) dNil))))) sNil)
    (sSeq (sIf (dAndT (dB (d2 fEq (dVarB 1) (ret (.str ("quoted" : Str))))) (dB (d2 fEq (dVarB 2) (dVarB 5)))) (sRet (dSh (dTup (dCons (ret (.str ("closed" : Str))) (dCons (ret (.lst [])) dNil))))) sNil)
    (sSeq (sIf (dB (d2 fEq (dVarB 1) (ret (.str ("quoted" : Str))))) (sRet (dSh (dIf (dB (d2 fEq (dVarB 2) (dVarB 6))) (dTup (dCons (ret (.str ("quoted_escaped" : Str))) (dCons (ret (.lst [])) dNil))) (dTup (dCons (ret (.str ("quoted" : Str))) (dCons (dFz (dLst (dCons (dTup (dCons (ret (.str ("add" : Str))) (dCons (dVar 2) dNil))) dNil))) dNil)))))) sNil)
    (sSeq (sIf (dB (d2 fEq (dVarB 2) (dVarB 3))) (sRet (dSh (dTup (dCons (ret (.str ("field" : Str))) (dCons (dFz (dLst (dCons (dTup (dCons (ret (.str ("field" : Str))) dNil)) dNil))) dNil))))) sNil)
    (sSeq (sIf (dB (d2 fEq (dVarB 2) (dVarB 4))) (sRet (dSh (dTup (dCons (ret (.str ("fresh" : Str))) (dCons (dIf (dB (d2 fEq (dVarB 1) (ret (.str ("fresh" : Str))))) (dFz (dLst (dCons (dTup (dCons (ret (.str ("row" : Str))) dNil)) dNil))) (dFz (dLst (dCons (dTup (dCons (ret (.str ("field" : Str))) dNil)) (dCons (dTup (dCons (ret (.str ("row" : Str))) dNil)) dNil))))) dNil))))) sNil)
    (sSeq (sIf (dAndT (dB (d2 fEq (dVarB 1) (ret (.str ("closed" : Str))))) (dAndT (dB (d2 fEq (dVarB 2) (dVarB 5))) (dB (dVar 7)))) (sRet (dSh (dTup (dCons (ret (.str ("quoted" : Str))) (dCons (dFz (dLst (dCons (dTup (dCons (ret (.str ("add" : Str))) (dCons (dVar 2) dNil))) dNil))) dNil))))) sNil)
    (sSeq (sIf (dAndT (dB (d2 fEq (dVarB 1) (ret (.str ("closed" : Str))))) (dB (dVar 9))) (sRet (dSh (dTup (dCons (ret (.str ("after" : Str))) (dCons (ret .non) dNil))))) sNil)
    (sSeq (sIf (dB (d2 fEq (dVarB 2) (dVarB 6))) (sRet (dSh (dTup (dCons (ret (.str ("plain_escaped" : Str))) (dCons (ret (.lst [])) dNil))))) sNil)
    (sSeq (sIf (dAndT (dB (d2 fIn1 (dVar 1) (dTup (dCons (ret (.str ("fresh" : Str))) (dCons (ret (.str ("field" : Str))) dNil))))) (dB (d2 fEq (dVarB 2) (dVarB 5)))) (sRet (dSh (dTup (dCons (ret (.str ("quoted" : Str))) (dCons (ret (.lst [])) dNil))))) sNil)
    (sSeq (sIf (dAndT (dB (d2 fIn1 (dVar 1) (dTup (dCons (ret (.str ("fresh" : Str))) (dCons (ret (.str ("field" : Str))) dNil))))) (dAndT (dB (d2 fEq (dVarB 2) (ret (.str (" " : Str))))) (dB (dVar 8)))) (sRet (dSh (dTup (dCons (ret (.str ("field" : Str))) (dCons (ret (.lst [])) dNil))))) sNil)
    (sSeq (sIf (dAndT (dB (d2 fEq (dVarB 1) (ret (.str ("plain" : Str))))) (dAndT (dB (d2 fEq (dVarB 2) (dVarB 5))) (dB (dVar 9)))) (sRet (dSh (dTup (dCons (ret (.str ("quote" : Str))) (dCons (ret .non) dNil))))) sNil)
    (sRet (dSh (dTup (dCons (ret (.str ("plain" : Str))) (dCons (dFz (dLst (dCons (dTup (dCons (ret (.str ("add" : Str))) (dCons (dVar 2) dNil))) dNil))) dNil)))))))))))))))))
noncomputable def F__law_moved : FS := mkF 3 10 b__law_moved
noncomputable def l1__law_walk : MS := (sIf (dB (d2 fEq (d2 fIx (dVarB 9) (ret (.int 0))) (ret (.str ("add" : Str))))) (sSet 5 (dSh (d2 fAdd (dVarB 5) (d2 fIx (dVarB 9) (ret (.int 1)))))) (sIf (dB (d2 fEq (d2 fIx (dVarB 9) (ret (.int 0))) (ret (.str ("field" : Str))))) (sPar2 4 5 (sCons (dSh (d2 fAdd (dVar 4) (dTup (dCons (dVar 5) dNil)))) (sCons (dSh (ret (.str ("" : Str)))) (ret [])))) (sPar2 3 4 (sCons (dSh (d2 fAdd (dVar 3) (dFz (dLst (dCons (dVar 4) dNil))))) (sCons (dSh (dTup dNil)) (ret []))))))
noncomputable def l2__law_walk : MS := (sSeq (sAsg (dFz (dCall F__law_moved [none, none, none] (dCons (dVar 0) (dCons (dVar 2) (dCons (dVar 7) dNil))))) (gTp 2 (gsCons (gN 2) (gsCons (gN 8) gsNil))))
    (sSeq (sIf (dB (d2 fIsN (dVarB 8) (ret .non))) (sRet (dSh (dTup (dCons (ret .non) (dCons (dVar 6) (dCons (dVar 2) (dCons (ret (.str ("" : Str))) dNil))))))) sNil)
    (sFor (lItems (dVar 8)) (gN 9) l1__law_walk [9])))
noncomputable def g1__law_walk : D → List Sl → Option (List Sl) := (gTp 2 (gsCons (gN 6) (gsCons (gN 7) gsNil)))
noncomputable def b__law_walk : MS := (sSeq (sParN [2, 3, 4, 5] (sCons (dSh (ret (.str ("fresh" : Str)))) (sCons (dLst dNil) (sCons (dSh (dTup dNil)) (sCons (dSh (ret (.str ("" : Str)))) (ret []))))))
    (sSeq (sFor (lEnum (dVar 1)) g1__law_walk l2__law_walk [6, 7, 8, 9])
    (sRet (dSh (dTup (dCons (dVar 2) (dCons (dVar 3) (dCons (dVar 4) (dCons (dVar 5) dNil)))))))))
noncomputable def F__law_walk : FS := mkF 2 10 b__law_walk
end CMA

set_option Elab.async false
set_option linter.all false
set_option maxRecDepth 100000
set_option maxHeartbeats 4000000
namespace K02
open PySem PySem.Spec PyProof.Rows L2 DS DS.Drw CMA
noncomputable def b__wall : MS := (sWhile (dB (ret (.bl true))) sNil [])
noncomputable def F__wall : FS := mkF 1 1 b__wall
noncomputable def t1_special : M Bool := (dB (d2 fNotN (dVarB 2) (ret .non)))
noncomputable def b_special : MS := (sSeq (sSet 1 (dLc (lItems (dSl (d1 (fFld ("Dialect" : Str) ("settings" : Str)) (dVarB 0)) (ret none) (dPart (ret (.int 4))))) (gN 2) t1_special (dVar 2) [2]))
    (sRet (dSortO (d2 fAdd (dVar 1) (d2 fMul (dFz (dLst (dCons (ret g_BLANK) dNil))) (d1 fIntT (dFz (dProp F_Dialect_padded ("Dialect" : Str) (dVar 0)))))))))
noncomputable def F_special : FS := mkF 1 3 b_special
noncomputable def t1_ordinary : M Bool := (dB (d2 fNotIn1 (dVarB 3) (dVarB 1)))
noncomputable def s1_ordinary : M (List D) := (lItems (dFz (dCall F_special [none] (dCons (dVar 2) dNil))))
noncomputable def b_ordinary : MS := (sSeq (sSet 1 (dLc2 (lItems (dVar 0)) (gN 2) (ret true) s1_ordinary (gN 3) (ret true) (dVar 3) [2, 3] [3]))
    (sRet (dSh (d2 fIx (dFz (dLc (lItems (ret g_ALPHABET)) (gN 3) t1_ordinary (dVar 3) [3])) (ret (.int 0))))))
noncomputable def F_ordinary : FS := mkF 1 4 b_ordinary
noncomputable def b__law_signs : MS := (sSeq (sSet 0 (dSh (d2 fAdd (d2 fAdd (d2 fAdd (d2 fAdd (ret (.str ("\t\n !" : Str))) (ret (.str ("\"" : Str)))) (ret (.str ("#$&'()*+,-./0123456789:;<=>?@ABCDEFGHIJKLMNOPQRSTUVWXYZ[" : Str)))) (ret (.str ("\\" : Str)))) (ret (.str ("]^_" : Str))))))
    (sRet (dSh (d2 fAdd (dVarB 0) (ret (.str ("`abcdefghijklmnopqrstuvwxyz{|}~" : Str)))))))
noncomputable def F__law_signs : FS := mkF 0 1 b__law_signs
noncomputable def t1__law_special : M Bool := (dB (d2 fNotN (dVarB 2) (ret .non)))
noncomputable def b__law_special : MS := (sSeq (sSet 1 (dLc (lItems (dSl (dVarB 0) (ret none) (dPart (ret (.int 4))))) (gN 2) t1__law_special (dVar 2) [2]))
    (sRet (dSortO (d2 fAdd (dVar 1) (d2 fMul (dFz (dLst (dCons (ret (.str (" " : Str))) dNil))) (d1 fIntT (d2 fIx (dVarB 0) (ret (.int 5)))))))))
noncomputable def F__law_special : FS := mkF 1 3 b__law_special
noncomputable def b__law_ordinary : MS := (sSeq (sIf (dB (d2 fEq (d1 fLen (dVarB 0)) (ret (.int 1)))) (sRet (dCallV F_ordinary (dCons (d2 fIx (dVarB 0) (ret (.int 0))) dNil))) sNil)
    (sSeq (sIf (dB (d2 fEq (d1 fLen (dVarB 0)) (ret (.int 2)))) (sRet (dCallV F_ordinary (dCons (d2 fIx (dVarB 0) (ret (.int 0))) (dCons (d2 fIx (dVarB 0) (ret (.int 1))) dNil)))) sNil)
    (sSeq (sIf (dB (d2 fEq (d1 fLen (dVarB 0)) (ret (.int 3)))) (sRet (dCallV F_ordinary (dCons (d2 fIx (dVarB 0) (ret (.int 0))) (dCons (d2 fIx (dVarB 0) (ret (.int 1))) (dCons (d2 fIx (dVarB 0) (ret (.int 2))) dNil))))) sNil)
    (sRet (dCallV F_ordinary (dCons (d2 fIx (dVarB 0) (ret (.int 0))) (dCons (d2 fIx (dVarB 0) (ret (.int 1))) (dCons (d2 fIx (dVarB 0) (ret (.int 2))) (dCons (d2 fIx (dVarB 0) (ret (.int 3))) dNil)))))))))
noncomputable def F__law_ordinary : FS := mkF 1 1 b__law_ordinary
noncomputable def t1_law : M Bool := (dB (d2 fNotIn1 (dVarB 12) (dVarB 5)))
noncomputable def l1_law : MS := (sSeq (sSet 5 (dSh (d2 fAdd (dVar 5) (dFz (dCall F__law_special [none] (dCons (dVar 6) dNil))))))
    (sSeq (sSet 8 (dCall F_special [none] (dCons (dVar 7) dNil)))
    (sSeq (sIf (dOrT (dB (d2V fNe 8 (dFz (dCall F__law_special [none] (dCons (dVar 6) dNil))))) (dNotT (dB (d1 (fIsi ["list"]) (dVarB 8))))) (sRet (dSh (ret (.bl false)))) sNil)
    (sSeq (sAppG 8 (ret (.str ("z" : Str))))
    (sIf (dB (d2 fNe (dFz (dKw F_special 0 1 (perm [0]) dNil (dCons (dVar 7) dNil))) (dFz (dCall F__law_special [none] (dCons (dVar 6) dNil))))) (sRet (dSh (ret (.bl false)))) sNil)))))
noncomputable def g1_law : D → List Sl → Option (List Sl) := (gTp 2 (gsCons (gN 6) (gsCons (gN 7) gsNil)))
noncomputable def e1_law : M D := (dFz (dCall F__law_made [none] (dCons (dVar 6) dNil)))
noncomputable def e2_law : M D := (dFz (dCall F__law_dialect [some 1] (dRef 1 dNil)))
noncomputable def l2_law : MS := (sSeq (sSet 3 (dLc (lRange fRange1 (dCons (d2 fAdd (ret (.int 1)) (dFz (dCall F__law_take [some 1, none] (dRef 1 (dCons (ret (.int 4)) dNil))))) dNil)) (gN 11) (ret true) e2_law [11]))
    (sSeq (sParN [4, 5] (sCons (dLc (lItems (dVar 3)) (gN 6) (ret true) e1_law [6]) (sCons (dLst dNil) (ret []))))
    (sSeq (sFor (lZip (dVar 3) (dVar 4)) g1_law l1_law [7, 8])
    (sSeq (sSet 9 (dSh (d2 fIx (dFz (dLc (lItems (dFz (dCall F__law_signs [] dNil))) (gN 12) t1_law (dVar 12) [12])) (ret (.int 0)))))
    (sSeq (sIf (dB (d2 fNe (dFz (dCall F__law_ordinary [none] (dCons (dVar 4) dNil))) (dVarB 9))) (sRet (dSh (ret (.bl false)))) sNil)
    (sSeq (sSet 10 (dCall F__law_pick [some 1, none] (dRef 1 (dCons (dFz (dLst (dCons (ret (.str ("" : Str))) (dCons (ret (.str ("ab" : Str))) (dCons (ret .non) (dCons (ret (.int 5)) (dCons (ret (.bl true)) (dCons (dFz (dLst (dCons (ret (.str ("," : Str))) dNil))) (dCons (dTup (dCons (ret (.str ("," : Str))) dNil)) (dCons (dFz (ret (.ow none (.dct [])))) (dCons (dFz (dLst (dCons (ret (.str ("a" : Str))) (dCons (ret (.str ("b" : Str))) dNil)))) (dCons (ret (.str ("\n\n" : Str))) dNil)))))))))))) dNil))))
    (sIf (dOrT (dB (d2 (fIsB true) (dFz (dCall F_is_sign [none] (dCons (dVar 10) dNil))) (ret (.bl false)))) (dB (d2 (fIsB true) (dFz (dKw F_is_sign 0 1 (perm [0]) dNil (dCons (dFz (dCall F__law_pick [some 1, none] (dRef 1 (dCons (d1 fLstT (dFz (dCall F__law_signs [] dNil))) dNil)))) dNil))) (ret (.bl true))))) (sRet (dSh (ret (.bl false)))) sNil)))))))
noncomputable def b_law : MS := (sSeq (sSet 1 (dCall F__law_begun [none] (dCons (dVar 0) dNil)))
    (sSeq (sFor (lRange fRange1 (dCons (d2 fAdd (ret (.int 5)) (d2 fMin (d1 fLen (dVarB 0)) (ret (.int 12)))) dNil)) (gN 2) l2_law [2, 3, 4, 5, 7, 8, 9, 10, 11])
    (sRet (dSh (dAndV (d2 fEq (d1 fLen (dFz (dCall F__law_signs [] dNil))) (ret (.int 96))) (d2 fEq (dFz (dCallV0 F_ordinary)) (ret (.str ("\t" : Str)))))))))
noncomputable def F_law : FS := mkF 1 13 b_law
end K02

set_option Elab.async false
set_option linter.all false
set_option maxRecDepth 100000
set_option maxHeartbeats 4000000
namespace K02
open PySem PySem.Spec PyProof.Rows L2 DS DS.Drw CMA
def top (i : Nat) : Stmt := PySem.Challenge.pw_fieldfence_k02_signs_of_dialects.main.body.getD i (.Pass ⟨0, 0, 0, 0⟩)
abbrev s__wall : Stmt := top 0
abbrev s_is_sign : Stmt := top 9
abbrev s_need_settings : Stmt := top 11
abbrev s_special : Stmt := top 12
abbrev s_ordinary : Stmt := top 13
abbrev s__law_begun : Stmt := top 15
abbrev s__law_mixed : Stmt := top 16
abbrev s__law_take : Stmt := top 17
abbrev s__law_pick : Stmt := top 18
abbrev s__law_signs_of : Stmt := top 19
abbrev s__law_dialect : Stmt := top 20
abbrev s__law_made : Stmt := top 21
abbrev s__law_signs : Stmt := top 22
abbrev s__law_special : Stmt := top 23
abbrev s__law_ordinary : Stmt := top 24
abbrev s_law : Stmt := top 25
abbrev s_BadDialect_init : Stmt := inClass (top 3) 0
abbrev s_Dialect_padded : Stmt := inClass (top 10) 7
abbrev s_Dialect_init : Stmt := inClass (top 10) 0
structure Txt (P : Program) (w : World) (K : PySem.W.Frag) (mg : Str → Option Value) (c_BadDialect k_Dialect : Addr) : Prop where
  n_abs : mg "abs" = none
  n_bool : mg "bool" = none
  n_enumerate : mg "enumerate" = none
  n_int : mg "int" = none
  n_isinstance : mg "isinstance" = none
  n_len : mg "len" = none
  n_list : mg "list" = none
  n_min : mg "min" = none
  n_range : mg "range" = none
  n_sorted : mg "sorted" = none
  n_str : mg "str" = none
  n_zip : mg "zip" = none
  g_ALPHABET : RepG K mg "ALPHABET" g_ALPHABET
  g_BLANK : RepG K mg "BLANK" g_BLANK
  g_NAMES : RepG K mg "NAMES" g_NAMES
  f__wall : ∃ f fd, FnAt K mg "_wall" s__wall ["k"] f fd
  f_is_sign : ∃ f fd, FnAt K mg "is_sign" s_is_sign ["value"] f fd
  f_need_settings : ∃ f fd, FnAt K mg "need_settings" s_need_settings ["settings"] f fd
  f_special : ∃ f fd, FnAt K mg "special" s_special ["dialect"] f fd
  f_ordinary : ∃ f fd, StAt K mg "ordinary" s_ordinary "dialects" f fd
  f__law_begun : ∃ f fd, FnAt K mg "_law_begun" s__law_begun ["_law_script"] f fd
  f__law_mixed : ∃ f fd, FnAt K mg "_law_mixed" s__law_mixed ["_law_draw"] f fd
  f__law_take : ∃ f fd, FnAt K mg "_law_take" s__law_take ["_law_draw", "_law_size"] f fd
  f__law_pick : ∃ f fd, FnAt K mg "_law_pick" s__law_pick ["_law_draw", "_law_items"] f fd
  f__law_signs_of : ∃ f fd, FnAt K mg "_law_signs_of" s__law_signs_of ["_law_draw", "_law_many"] f fd
  f__law_dialect : ∃ f fd, FnAt K mg "_law_dialect" s__law_dialect ["_law_draw"] f fd
  f__law_made : ∃ f fd, FnAt K mg "_law_made" s__law_made ["_law_settings"] f fd
  f__law_signs : ∃ f fd, FnAt K mg "_law_signs" s__law_signs [] f fd
  f__law_special : ∃ f fd, FnAt K mg "_law_special" s__law_special ["_law_settings"] f fd
  f__law_ordinary : ∃ f fd, FnAt K mg "_law_ordinary" s__law_ordinary ["_law_kinds"] f fd
  f_law : ∃ f fd, FnAt K mg "law" s_law ["_law_script"] f fd
  kl_Dialect : KlAt K mg "Dialect" k_Dialect
  na_Dialect_settings : NoAttr K k_Dialect "settings"
  ct_Dialect : ∃ g fd dV, CtAt K mg "Dialect" s_Dialect_init (some 2) k_Dialect g fd dV
  p_Dialect_padded : ∃ pp g fd, PrAt K mg "Dialect" "padded" s_Dialect_padded ["self"] k_Dialect pp g fd
  m_BadDialect : mg "BadDialect" = some (.ref c_BadDialect)
  k_BadDialect : PySem.W.keepIn K (.ref c_BadDialect) = true
  b_BadDialect : PySem.W.subIn K (.ref c_BadDialect) (.type "BaseException") = some true
  t_BadDialect : PySem.W.typeIn K (.ref c_BadDialect) = some (.type "type")
  e_BadDialect : DSX.MadeBy P w K mg c_BadDialect ["field"]
section
variable {P : Program} {w : World} {K : PySem.W.Frag} {mg : Str → Option Value} {base : Heap} {c_BadDialect k_Dialect : Addr}
theorem fd__wall (T : Txt P w K mg c_BadDialect k_Dialect) : Fd false P w K mg base "_wall" 2 1 F__wall := by
  obtain ⟨f, fd, A⟩ := T.f__wall
  have nd : (["k"] : List Str).Nodup := by decide +kernel
  exact fd_of (N := ["k"]) A ⟨rfl, rfl, rfl, nd, rfl, by decide +kernel, by decide +kernel⟩ (fun cdv A outer s H E τ Ho G0 Ex hg room tk =>
    (dss_one (st_while [] (passes_of rfl) (dt_val de_bl) (dss_one st_pass))))
theorem fa_is_sign (T : Txt P w K mg c_BadDialect k_Dialect) : FdA false P w K mg base "is_sign" s_is_sign [("value" : Str)] 2 F_is_sign := by
  obtain ⟨f, fd, A⟩ := T.f_is_sign
  have nd : (["value"] : List Str).Nodup := by decide +kernel
  exact fda_of (N := ["value"]) A ⟨rfl, rfl, rfl, nd, rfl, by decide +kernel, by decide +kernel⟩ (fun cdv A outer s H E τ Ho G0 Ex hg room tk =>
    (dss_one (st_ret (DE.dr (de_andV (de_isi T.n_isinstance (de_varB 0) (by decide +kernel) T.n_str) (de_andV (de_c1 cEq (de_len T.n_len (de_varB 0)) de_int) (de_one (de_c1 cIn (de_varB 0) (de_glob T.g_ALPHABET)))))))))
theorem fd_is_sign (T : Txt P w K mg c_BadDialect k_Dialect) : Fd false P w K mg base "is_sign" 2 1 F_is_sign := (fa_is_sign T).fd
theorem fd_need_settings (T : Txt P w K mg c_BadDialect k_Dialect) : Fd false P w K mg base "need_settings" 4 1 F_need_settings := by
  obtain ⟨f, fd, A⟩ := T.f_need_settings
  have nd : (["settings", "signs", "flags", "at", "sign", "flag"] : List Str).Nodup := by decide +kernel
  exact fd_of (N := ["settings", "signs", "flags", "at", "sign", "flag"]) A ⟨rfl, rfl, rfl, nd, rfl, by decide +kernel, by decide +kernel⟩ (fun cdv A outer s H E τ Ho G0 Ex hg room tk =>
    (dss_cons (st_par2 1 2 (drs_cons (DE.dr (de_sl (de_varB 0) do_none (do_some de_int))) (drs_cons (DE.dr (de_sl (de_varB 0) (do_some de_int) do_none)) drs_nil)) nd) (dss_cons (st_for [4] (passes_of rfl) (di_enum T.n_enumerate (de_var 1)) (dg_tup 2 (dgs_cons (dg_name 3 nd) (dgs_cons (dg_name 4 nd) dgs_nil))) (dss_cons (st_if (DW.dt (dw_and (dt_c1 cGt (de_varB 3) de_int) (dw_and1 (dt_c1 cIsN (de_varB 4) de_non)))) (dss_one st_cont) dss_nil) (dss_one (st_if (DW.dt (dw_or (dt_not (dt_val (DR.de (dr_fn (fd_is_sign T) (dar_cons (de_var 4) dar_nil))))) (dw_or1 (dt_c1 cIn (de_varB 4) (de_sl (de_varB 1) do_none (do_some (de_varB 3))))))) (dss_one (st_raise T.e_BadDialect T.m_BadDialect T.k_BadDialect T.b_BadDialect T.t_BadDialect (da_cons (de_ix (de_glob T.g_NAMES) (de_varB 3)) da_nil))) dss_nil)))) (dss_one (st_for [5] (passes_of rfl) (di_enum T.n_enumerate (de_var 2)) (dg_tup 2 (dgs_cons (dg_name 3 nd) (dgs_cons (dg_name 5 nd) dgs_nil))) (dss_cons (st_if (dt_not (dt_val (de_isi T.n_isinstance (de_varB 5) (by decide +kernel) T.n_bool))) (dss_one (st_raise T.e_BadDialect T.m_BadDialect T.k_BadDialect T.b_BadDialect T.t_BadDialect (da_cons (de_ix (de_glob T.g_NAMES) (de_add de_int (de_varB 3))) da_nil))) dss_nil) (dss_one (st_if (DW.dt (dw_or (DW.dt (dw_and (dt_c1 cEq (de_varB 3) de_int) (dw_and (dt_val (de_var 5)) (dw_and1 (dt_c1 cIsN (de_ix (de_varB 0) de_int) de_non))))) (dw_or1 (DW.dt (dw_and (dt_c1 cEq (de_varB 3) de_int) (dw_and (dt_val (de_var 5)) (dw_and1 (dt_c1 cIn (de_glob T.g_BLANK) (de_varB 1))))))))) (dss_one (st_raise T.e_BadDialect T.m_BadDialect T.k_BadDialect T.b_BadDialect T.t_BadDialect (da_cons (de_ix (de_glob T.g_NAMES) (de_add de_int (de_varB 3))) da_nil))) dss_nil))))))))
theorem pr_Dialect_padded (T : Txt P w K mg c_BadDialect k_Dialect) : Pr P w K mg base "Dialect" "padded" 2 F_Dialect_padded := by
  obtain ⟨pp, g, fd, A⟩ := T.p_Dialect_padded
  have nd : (["self"] : List Str).Nodup := by decide +kernel
  exact pr_of (N := ["self"]) A ⟨rfl, rfl, rfl, nd, rfl, by decide +kernel, by decide +kernel⟩ (fun cdv A outer s H E τ Ho G0 Ex hg room tk =>
    (dss_one (st_ret (DE.dr (de_ix (de_fld T.kl_Dialect T.na_Dialect_settings (de_varB 0)) de_int)))))
theorem fa_special (T : Txt P w K mg c_BadDialect k_Dialect) : FdA false P w K mg base "special" s_special [("dialect" : Str)] 4 F_special := by
  obtain ⟨f, fd, A⟩ := T.f_special
  have nd : (["dialect", "signs", "sign"] : List Str).Nodup := by decide +kernel
  exact fda_of (N := ["dialect", "signs", "sign"]) A ⟨rfl, rfl, rfl, nd, rfl, by decide +kernel, by decide +kernel⟩ (fun cdv A outer s H E τ Ho G0 Ex hg room tk =>
    (dss_cons (st_setLc 1 [("sign", 2)] nd (di_any (de_sl (de_fld T.kl_Dialect T.na_Dialect_settings (de_varB 0)) do_none (do_some de_int))) (fun _ _ _ _ _ => (dgo_name 2 nd)) (fun _ _ _ _ _ => (dts_one (dt_c1 cNotN (de_varB 2) de_non))) (fun _ _ _ _ _ => (de_var 2))) (dss_one (st_ret (dr_sorted T.n_sorted (de_add (de_var 1) (de_mul (DR.de (dr_lst (da_cons (de_glob T.g_BLANK) da_nil))) (de_intT T.n_int (DR.de (dr_pr (pr_Dialect_padded T) (de_var 0)))))))))))
theorem fd_special (T : Txt P w K mg c_BadDialect k_Dialect) : Fd false P w K mg base "special" 4 1 F_special := (fa_special T).fd
theorem fv_ordinary (T : Txt P w K mg c_BadDialect k_Dialect) : FdV P w K mg base "ordinary" 6 F_ordinary := by
  obtain ⟨f, fd, A⟩ := T.f_ordinary
  have nd : (["dialects", "used", "dialect", "sign"] : List Str).Nodup := by decide +kernel
  exact fdv_of (N := ["dialects", "used", "dialect", "sign"]) A ⟨rfl, rfl, rfl, nd, rfl, by decide +kernel, by decide +kernel⟩ (fun cdv A outer s H E τ Ho G0 Ex hg room tk =>
    (dss_cons (st_set 1 (dr_lc2 [("dialect", 2), ("sign", 3)] [3] nd (di_any (de_var 0)) (fun _ _ _ _ _ => (dgo_name 2 nd)) (fun _ _ _ _ _ => dts_nil) (fun _ _ _ _ _ => (di_any (DR.de (dr_fn (fd_special T) (dar_cons (de_var 2) dar_nil))))) (fun _ _ _ _ _ => (dgo_name 3 nd)) (fun _ _ _ _ _ => dts_nil) (fun _ _ _ _ _ => (de_var 3))) nd) (dss_one (st_ret (DE.dr (de_ix (DR.de (dr_lc [("sign", 3)] nd (di_any (de_glob T.g_ALPHABET)) (fun _ _ _ _ _ => (dgo_name 3 nd)) (fun _ _ _ _ _ => (dts_one (dt_c1 cNotIn (de_varB 3) (de_varB 1)))) (fun _ _ _ _ _ => (de_var 3)))) de_int))))))
theorem fd__law_begun (T : Txt P w K mg c_BadDialect k_Dialect) : Fd false P w K mg base "_law_begun" 2 1 F__law_begun := by
  obtain ⟨f, fd, A⟩ := T.f__law_begun
  have nd : (["_law_script", "_law_large", "_law_cell"] : List Str).Nodup := by decide +kernel
  exact fd_of (N := ["_law_script", "_law_large", "_law_cell"]) A ⟨rfl, rfl, rfl, nd, rfl, by decide +kernel, by decide +kernel⟩ (fun cdv A outer s H E τ Ho G0 Ex hg room tk =>
    (dss_cons (st_setLc 1 [("_law_cell", 2)] nd (di_any (de_var 0)) (fun _ _ _ _ _ => (dgo_name 2 nd)) (fun _ _ _ _ _ => (dts_one (dt_c1 cGe (de_abs T.n_abs (de_varB 2)) (de_pow de_int de_int)))) (fun _ _ _ _ _ => (de_sub (de_abs T.n_abs (de_varB 2)) (de_pow de_int de_int)))) (dss_one (st_ret (dr_draw (dr_move 1) (DR.de (dr_lc [("_law_cell", 2)] nd (di_any (de_var 0)) (fun _ _ _ _ _ => (dgo_name 2 nd)) (fun _ _ _ _ _ => dts_nil) (fun _ _ _ _ _ => (de_mod (de_abs T.n_abs (de_varB 2)) de_int)))))))))
theorem fd__law_mixed (T : Txt P w K mg c_BadDialect k_Dialect) : Fd false P w K mg base "_law_mixed" 2 1 F__law_mixed := by
  obtain ⟨f, fd, A⟩ := T.f__law_mixed
  have nd : (["_law_draw", "_law_turn", "_law_found", "_law_prime", "_law_blend", "_law_cell"] : List Str).Nodup := by decide +kernel
  exact fd_of (N := ["_law_draw", "_law_turn", "_law_found", "_law_prime", "_law_blend", "_law_cell"]) A ⟨rfl, rfl, rfl, nd, rfl, by decide +kernel, by decide +kernel⟩ (fun cdv A outer s H E τ Ho G0 Ex hg room tk =>
    (dss_cons (st_set 1 (DE.dr (de_add (de_drawT 0) de_int)) nd) (dss_cons (st_drawT 0 (de_var 1)) (dss_cons (st_set 2 (DE.dr de_int) nd) (dss_cons (st_for [3, 4, 5] (passes_of rfl) (di_any (DR.de (dr_lst (da_cons de_int (da_cons de_int (da_cons de_int (da_cons de_int da_nil))))))) (dg_name 3 nd) (dss_cons (st_set 4 (DE.dr (de_add (de_mul de_int (de_varB 1)) (de_fdiv (de_varB 3) de_int))) nd) (dss_cons (st_for [5] (passes_of rfl) (di_drawC 0) (dg_name 5 nd) (dss_one (st_set 4 (DE.dr (de_mod (de_add (de_add (de_mul (de_varB 4) de_int) (de_varB 5)) (de_varB 1)) (de_varB 3))) nd))) (dss_one (st_set 2 (DE.dr (de_add (de_mul (de_varB 2) de_int) (de_mod (de_pow (de_varB 4) de_int) (de_varB 3)))) nd))))) (dss_one (st_ret (dr_move 2))))))))
theorem fd__law_take (T : Txt P w K mg c_BadDialect k_Dialect) : Fd false P w K mg base "_law_take" 4 2 F__law_take := by
  obtain ⟨f, fd, A⟩ := T.f__law_take
  have nd : (["_law_draw", "_law_size", "_law_found"] : List Str).Nodup := by decide +kernel
  exact fd_of (N := ["_law_draw", "_law_size", "_law_found"]) A ⟨rfl, rfl, rfl, nd, rfl, by decide +kernel, by decide +kernel⟩ (fun cdv A outer s H E τ Ho G0 Ex hg room tk =>
    (dss_cons (st_if (DW.dt (dw_and (dt_c1 cEq (de_drawR 0) de_int) (dw_and1 (dt_c1 cNe (de_drawL 0) de_nilL)))) (dss_one (st_drawR 0 (de_drawP 0))) (dss_one (st_if (dt_c1 cEq (de_drawR 0) de_int) (dss_one (st_drawR 0 (DR.de (dr_fn (fd__law_mixed T) (dar_ref 0 dar_nil))))) dss_nil))) (dss_cons (st_set 2 (DE.dr (de_mod (de_drawR 0) (de_varB 1))) nd) (dss_cons (st_drawR 0 (de_fdiv (de_drawR 0) (de_varB 1))) (dss_one (st_ret (dr_move 2)))))))
theorem fd__law_pick (T : Txt P w K mg c_BadDialect k_Dialect) : Fd false P w K mg base "_law_pick" 6 2 F__law_pick := by
  obtain ⟨f, fd, A⟩ := T.f__law_pick
  have nd : (["_law_draw", "_law_items"] : List Str).Nodup := by decide +kernel
  exact fd_of (N := ["_law_draw", "_law_items"]) A ⟨rfl, rfl, rfl, nd, rfl, by decide +kernel, by decide +kernel⟩ (fun cdv A outer s H E τ Ho G0 Ex hg room tk =>
    (dss_one (st_ret (DE.dr (de_ix (de_var 1) (DR.de (dr_fn (fd__law_take T) (dar_ref 0 (dar_cons (de_len T.n_len (de_varB 1)) dar_nil)))))))))
theorem fd__law_signs_of (T : Txt P w K mg c_BadDialect k_Dialect) : Fd false P w K mg base "_law_signs_of" 8 2 F__law_signs_of := by
  obtain ⟨f, fd, A⟩ := T.f__law_signs_of
  have nd : (["_law_draw", "_law_many", "_law_menu", "_law_found", "_law_turn", "_law_left", "_law_sign"] : List Str).Nodup := by decide +kernel
  exact fd_of (N := ["_law_draw", "_law_many", "_law_menu", "_law_found", "_law_turn", "_law_left", "_law_sign"]) A ⟨rfl, rfl, rfl, nd, rfl, by decide +kernel, by decide +kernel⟩ (fun cdv A outer s H E τ Ho G0 Ex hg room tk =>
    (dss_cons (st_set 2 (dr_lst (da_cons de_str (da_cons de_str (da_cons de_str (da_cons de_str (da_cons de_str (da_cons de_str (da_cons de_str (da_cons de_str (da_cons de_str (da_cons de_str (da_cons de_str (da_cons de_str (da_cons de_str da_nil)))))))))))))) nd) (dss_cons (st_set 3 (dr_lst da_nil) nd) (dss_cons (st_for [4, 5] (passes_of rfl) (di_range1 T.n_range (da_cons (de_var 1) da_nil)) (dg_name 4 nd) (dss_cons (st_setLc 5 [("_law_sign", 6)] nd (di_any (de_var 2)) (fun _ _ _ _ _ => (dgo_name 6 nd)) (fun _ _ _ _ _ => (dts_one (dt_c1 cNotIn (de_varB 6) (de_varB 3)))) (fun _ _ _ _ _ => (de_var 6))) (dss_one (st_app 3 (de_if (dt_c1 cEq (DR.de (dr_fn (fd__law_take T) (dar_ref 0 (dar_cons de_int dar_nil)))) de_int) (de_ix (de_varB 5) de_int) (DR.de (dr_fn (fd__law_pick T) (dar_ref 0 (dar_cons (de_var 5) dar_nil))))))))) (dss_one (st_ret (dr_move 3)))))))
theorem fd__law_dialect (T : Txt P w K mg c_BadDialect k_Dialect) : Fd false P w K mg base "_law_dialect" 10 1 F__law_dialect := by
  obtain ⟨f, fd, A⟩ := T.f__law_dialect
  have nd : (["_law_draw", "_law_signs_here", "_law_mark", "_law_guard", "_law_soft", "_law_twice"] : List Str).Nodup := by decide +kernel
  exact fd_of (N := ["_law_draw", "_law_signs_here", "_law_mark", "_law_guard", "_law_soft", "_law_twice"]) A ⟨rfl, rfl, rfl, nd, rfl, by decide +kernel, by decide +kernel⟩ (fun cdv A outer s H E τ Ho G0 Ex hg room tk =>
    (dss_cons (st_set 1 (dr_fn (fd__law_signs_of T) (dar_ref 0 (dar_cons de_int dar_nil))) nd) (dss_cons (st_set 2 (DE.dr (de_if (dt_c1 cGt (DR.de (dr_fn (fd__law_take T) (dar_ref 0 (dar_cons de_int dar_nil)))) de_int) (de_ix (de_varB 1) de_int) de_non)) nd) (dss_cons (st_set 3 (DE.dr (de_if (dt_c1 cEq (DR.de (dr_fn (fd__law_take T) (dar_ref 0 (dar_cons de_int dar_nil)))) de_int) (de_ix (de_varB 1) de_int) de_non)) nd) (dss_cons (st_set 4 (DE.dr (de_andV (de_c1 cNotIn de_str (DR.de (dr_lst (da_cons (de_ix (de_varB 1) de_int) (da_cons (de_ix (de_varB 1) de_int) (da_cons (de_var 2) (da_cons (de_var 3) da_nil))))))) (de_one (de_c1 cEq (DR.de (dr_fn (fd__law_take T) (dar_ref 0 (dar_cons de_int dar_nil)))) de_int)))) nd) (dss_cons (st_set 5 (DE.dr (de_andV (de_c1 cNotN (de_varB 2) de_non) (de_one (de_c1 cGt (DR.de (dr_fn (fd__law_take T) (dar_ref 0 (dar_cons de_int dar_nil)))) de_int)))) nd) (dss_one (st_ret (DE.dr (de_tup (da_cons (de_ix (de_varB 1) de_int) (da_cons (de_ix (de_varB 1) de_int) (da_cons (de_var 2) (da_cons (de_var 3) (da_cons (de_var 5) (da_cons (de_var 4) (da_cons (de_c1 cEq (DR.de (dr_fn (fd__law_take T) (dar_ref 0 (dar_cons de_int dar_nil)))) de_int) da_nil)))))))))))))))))
theorem ct_Dialect (T : Txt P w K mg c_BadDialect k_Dialect) : Ct P w K mg base "Dialect" s_Dialect_init [("self" : Str), ("separator" : Str), ("terminator" : Str), ("quote" : Str), ("escape" : Str), ("doubled" : Str), ("padded" : Str), ("strict" : Str)] (some 2) 6 F_Dialect_init := by
  obtain ⟨g, fd, dV, A⟩ := T.ct_Dialect
  have nd : (["self", "separator", "terminator", "quote", "escape", "doubled", "padded", "strict"] : List Str).Nodup := by decide +kernel
  exact ct_of (N := ["self", "separator", "terminator", "quote", "escape", "doubled", "padded", "strict"]) A ⟨rfl, rfl, rfl, nd, rfl, by decide +kernel, by decide +kernel⟩ (fun cdv A outer s H E τ Ho G0 Ex hg room tk =>
    (dss_cons (st_expr (DR.de (dr_fn (fd_need_settings T) (dar_cons (de_tup (da_cons (de_var 1) (da_cons (de_var 2) (da_cons (de_var 3) (da_cons (de_var 4) (da_cons (de_var 5) (da_cons (de_var 6) (da_cons (de_var 7) da_nil)))))))) dar_nil)))) (dss_one (st_fld 0 T.kl_Dialect T.na_Dialect_settings (de_tup (da_cons (de_var 1) (da_cons (de_var 2) (da_cons (de_var 3) (da_cons (de_var 4) (da_cons (de_var 5) (da_cons (de_var 6) (da_cons (de_var 7) da_nil))))))))))))
theorem fd__law_made (T : Txt P w K mg c_BadDialect k_Dialect) : Fd false P w K mg base "_law_made" 8 1 F__law_made := by
  obtain ⟨f, fd, A⟩ := T.f__law_made
  have nd : (["_law_settings", "_law_one", "_law_two", "_law_three", "_law_four", "_law_five", "_law_six", "_law_seven"] : List Str).Nodup := by decide +kernel
  exact fd_of (N := ["_law_settings", "_law_one", "_law_two", "_law_three", "_law_four", "_law_five", "_law_six", "_law_seven"]) A ⟨rfl, rfl, rfl, nd, rfl, by decide +kernel, by decide +kernel⟩ (fun cdv A outer s H E τ Ho G0 Ex hg room tk =>
    (dss_cons (st_asg (de_var 0) (dg_tup 7 (dgs_cons (dg_name 1 nd) (dgs_cons (dg_name 2 nd) (dgs_cons (dg_name 3 nd) (dgs_cons (dg_name 4 nd) (dgs_cons (dg_name 5 nd) (dgs_cons (dg_name 6 nd) (dgs_cons (dg_name 7 nd) dgs_nil))))))))) (dss_one (st_ret (dr_ct (ks := [("quote" : Str), ("escape" : Str), ("doubled" : Str), ("padded" : Str), ("strict" : Str)]) 2 [0, 1, 2, 3, 4, 5, 6] (ct_Dialect T) (da_cons (de_var 1) (da_cons (de_var 2) da_nil)) (dk_cons (de_var 3) (dk_cons (de_var 4) (dk_cons (de_var 5) (dk_cons (de_var 6) (dk_cons (de_var 7) dk_nil))))) rfl (by decide) (fun _ _ _ _ _ _ _ us ws its h1 h2 h3 => match us, ws, its, h1, h2, h3 with | [_, _, _], [_, _, _, _, _], [_, _], _, _, _ => ⟨_, rfl, rfl⟩))))))
theorem fd__law_signs (T : Txt P w K mg c_BadDialect k_Dialect) : Fd false P w K mg base "_law_signs" 2 0 F__law_signs := by
  obtain ⟨f, fd, A⟩ := T.f__law_signs
  have nd : (["_law_found"] : List Str).Nodup := by decide +kernel
  exact fd_of (N := ["_law_found"]) A ⟨rfl, rfl, rfl, nd, rfl, by decide +kernel, by decide +kernel⟩ (fun cdv A outer s H E τ Ho G0 Ex hg room tk =>
    (dss_cons (st_set 0 (DE.dr (de_add (de_add (de_add (de_add de_str de_str) de_str) de_str) de_str)) nd) (dss_one (st_ret (DE.dr (de_add (de_varB 0) de_str))))))
theorem fd__law_special (T : Txt P w K mg c_BadDialect k_Dialect) : Fd false P w K mg base "_law_special" 2 1 F__law_special := by
  obtain ⟨f, fd, A⟩ := T.f__law_special
  have nd : (["_law_settings", "_law_found", "_law_sign"] : List Str).Nodup := by decide +kernel
  exact fd_of (N := ["_law_settings", "_law_found", "_law_sign"]) A ⟨rfl, rfl, rfl, nd, rfl, by decide +kernel, by decide +kernel⟩ (fun cdv A outer s H E τ Ho G0 Ex hg room tk =>
    (dss_cons (st_setLc 1 [("_law_sign", 2)] nd (di_any (de_sl (de_varB 0) do_none (do_some de_int))) (fun _ _ _ _ _ => (dgo_name 2 nd)) (fun _ _ _ _ _ => (dts_one (dt_c1 cNotN (de_varB 2) de_non))) (fun _ _ _ _ _ => (de_var 2))) (dss_one (st_ret (dr_sorted T.n_sorted (de_add (de_var 1) (de_mul (DR.de (dr_lst (da_cons de_str da_nil))) (de_intT T.n_int (de_ix (de_varB 0) de_int)))))))))
theorem fd__law_ordinary (T : Txt P w K mg c_BadDialect k_Dialect) : Fd false P w K mg base "_law_ordinary" 8 1 F__law_ordinary := by
  obtain ⟨f, fd, A⟩ := T.f__law_ordinary
  have nd : (["_law_kinds"] : List Str).Nodup := by decide +kernel
  exact fd_of (N := ["_law_kinds"]) A ⟨rfl, rfl, rfl, nd, rfl, by decide +kernel, by decide +kernel⟩ (fun cdv A outer s H E τ Ho G0 Ex hg room tk =>
    (dss_cons (st_if (dt_c1 cEq (de_len T.n_len (de_varB 0)) de_int) (dss_one (st_ret (dr_fnV (fv_ordinary T) (da_cons (de_ix (de_varB 0) de_int) da_nil)))) dss_nil) (dss_cons (st_if (dt_c1 cEq (de_len T.n_len (de_varB 0)) de_int) (dss_one (st_ret (dr_fnV (fv_ordinary T) (da_cons (de_ix (de_varB 0) de_int) (da_cons (de_ix (de_varB 0) de_int) da_nil))))) dss_nil) (dss_cons (st_if (dt_c1 cEq (de_len T.n_len (de_varB 0)) de_int) (dss_one (st_ret (dr_fnV (fv_ordinary T) (da_cons (de_ix (de_varB 0) de_int) (da_cons (de_ix (de_varB 0) de_int) (da_cons (de_ix (de_varB 0) de_int) da_nil)))))) dss_nil) (dss_one (st_ret (dr_fnV (fv_ordinary T) (da_cons (de_ix (de_varB 0) de_int) (da_cons (de_ix (de_varB 0) de_int) (da_cons (de_ix (de_varB 0) de_int) (da_cons (de_ix (de_varB 0) de_int) da_nil)))))))))))
end
end K02

set_option Elab.async false
set_option linter.all false
set_option maxRecDepth 100000
set_option maxHeartbeats 4000000
namespace K02
open PySem PySem.Spec PyProof.Rows L2 DS DS.Drw CMA
section
variable {P : Program} {w : World} {K : PySem.W.Frag} {mg : Str → Option Value} {base : Heap} {c_BadDialect k_Dialect : Addr}
theorem fn_law {f : Addr} {fd : FuncData} (T : Txt P w K mg c_BadDialect k_Dialect) (A : FnAt K mg "law" s_law ["_law_script"] f fd) : FnG true P w K mg base 12 f fd ["_law_script"] (liftSp K mg 1 F_law) := by
  have nd : (["_law_script", "_law_draw", "_law_turn", "_law_some", "_law_kinds", "_law_used", "_law_settings", "_law_kind", "_law_told", "_law_due", "_law_odd", "_law_k", "_law_sign"] : List Str).Nodup := by decide +kernel
  exact fn_ds (N := ["_law_script", "_law_draw", "_law_turn", "_law_some", "_law_kinds", "_law_used", "_law_settings", "_law_kind", "_law_told", "_law_due", "_law_odd", "_law_k", "_law_sign"]) A.fn ⟨rfl, rfl, rfl, nd, rfl, by decide +kernel, by decide +kernel⟩ (fun cdv A outer s H E τ Ho G0 Ex hg room tk =>
    (dss_cons (st_set 1 (dr_fn (fd__law_begun T) (dar_cons (de_var 0) dar_nil)) nd) (dss_cons (st_for [2, 3, 4, 5, 7, 8, 9, 10, 11] (passes_of rfl) (di_range1 T.n_range (da_cons (de_add de_int (de_min T.n_min (de_len T.n_len (de_varB 0)) de_int)) da_nil)) (dg_name 2 nd) (dss_cons (st_setLc 3 [("_law_k", 11)] nd (di_range1 T.n_range (da_cons (de_add de_int (DR.de (dr_fn (fd__law_take T) (dar_ref 1 (dar_cons de_int dar_nil))))) da_nil)) (fun _ _ _ _ _ => (dgo_name 11 nd)) (fun _ _ _ _ _ => dts_nil) (fun _ _ _ _ _ => (DR.de (dr_fn (fd__law_dialect T) (dar_ref 1 dar_nil))))) (dss_cons (st_parN [4, 5] (drs_cons (dr_lc [("_law_settings", 6)] nd (di_any (de_var 3)) (fun _ _ _ _ _ => (dgo_name 6 nd)) (fun _ _ _ _ _ => dts_nil) (fun _ _ _ _ _ => (DR.de (dr_fn (fd__law_made T) (dar_cons (de_var 6) dar_nil))))) (drs_cons (dr_lst da_nil) drs_nil)) (dgn_cons 4 (dgn_cons 5 dgn_nil nd) nd)) (dss_cons (st_for [7, 8] (passes_of rfl) (di_zip T.n_zip (de_var 3) (de_var 4)) (dg_tup 2 (dgs_cons (dg_name 6 nd) (dgs_cons (dg_name 7 nd) dgs_nil))) (dss_cons (st_set 5 (DE.dr (de_add (de_var 5) (DR.de (dr_fn (fd__law_special T) (dar_cons (de_var 6) dar_nil))))) nd) (dss_cons (st_set 8 (dr_fn (fd_special T) (dar_cons (de_var 7) dar_nil)) nd) (dss_cons (st_if (DW.dt (dw_or (dt_cmpV 8 cNe (DR.de (dr_fn (fd__law_special T) (dar_cons (de_var 6) dar_nil)))) (dw_or1 (dt_not (dt_val (de_isi T.n_isinstance (de_varB 8) (by decide +kernel) T.n_list)))))) (dss_one (st_ret (DE.dr de_bl))) dss_nil) (dss_cons (st_app 8 de_str) (dss_one (st_if (dt_c1 cNe (DR.de (dr_fnK0 (ks := [("dialect" : Str)]) [0] (fa_special T) (dk_cons (de_var 7) dk_nil) rfl (by decide) (fun _ _ _ _ _ _ us ws h1 h2 => match us, ws, h1, h2 with | [], [_], _, _ => rfl))) (DR.de (dr_fn (fd__law_special T) (dar_cons (de_var 6) dar_nil)))) (dss_one (st_ret (DE.dr de_bl))) dss_nil))))))) (dss_cons (st_set 9 (DE.dr (de_ix (DR.de (dr_lc [("_law_sign", 12)] nd (di_any (DR.de (dr_fn0 (fd__law_signs T)))) (fun _ _ _ _ _ => (dgo_name 12 nd)) (fun _ _ _ _ _ => (dts_one (dt_c1 cNotIn (de_varB 12) (de_varB 5)))) (fun _ _ _ _ _ => (de_var 12)))) de_int)) nd) (dss_cons (st_if (dt_c1 cNe (DR.de (dr_fn (fd__law_ordinary T) (dar_cons (de_var 4) dar_nil))) (de_varB 9)) (dss_one (st_ret (DE.dr de_bl))) dss_nil) (dss_cons (st_set 10 (dr_fn (fd__law_pick T) (dar_ref 1 (dar_cons (DR.de (dr_lst (da_cons de_str (da_cons de_str (da_cons de_non (da_cons de_int (da_cons de_bl (da_cons (DR.de (dr_lst (da_cons de_str da_nil))) (da_cons (de_tup (da_cons de_str da_nil)) (da_cons (DR.de dr_dict0) (da_cons (DR.de (dr_lst (da_cons de_str (da_cons de_str da_nil)))) (da_cons de_str da_nil)))))))))))) dar_nil))) nd) (dss_one (st_if (DW.dt (dw_or (dt_c1 cNotB (DR.de (dr_fn (fd_is_sign T) (dar_cons (de_var 10) dar_nil))) de_bl) (dw_or1 (dt_c1 cNotB (DR.de (dr_fnK0 (ks := [("value" : Str)]) [0] (fa_is_sign T) (dk_cons (DR.de (dr_fn (fd__law_pick T) (dar_ref 1 (dar_cons (de_lstT T.n_list (DR.de (dr_fn0 (fd__law_signs T)))) dar_nil)))) dk_nil) rfl (by decide) (fun _ _ _ _ _ _ us ws h1 h2 => match us, ws, h1, h2 with | [], [_], _, _ => rfl))) de_bl)))) (dss_one (st_ret (DE.dr de_bl))) dss_nil))))))))) (dss_one (st_ret (DE.dr (de_andV (de_c1 cEq (de_len T.n_len (DR.de (dr_fn0 (fd__law_signs T)))) de_int) (de_one (de_c1 cEq (DR.de (dr_fnV0 (fv_ordinary T))) de_str)))))))))
end
theorem head {P : Program} {w : World} {K : PySem.W.Frag} {h : Heap} {mg : Str → Option Value} {fa : Addr} (X : K.In h) (G : h.Ns mainGlobals mg) (hfa : mg "law" = some (.ref fa))
    {vt1 : Tok}
    {vt2 : Tok}
    {vt4 : Tok}
    {vt5 : Tok}
    {vt6 : Tok}
    {vt7 : Tok}
    {vt8 : Tok}
    {vt9 : Tok}
    {vt10 : Tok}
    {va3 : Addr} {vo3 : Option Addr} {vn3 : Nat} {vs3 : Array (Option Value)}
    {c_BadDialect : Addr}
    {nm_BadDialect q_BadDialect : Str} {N_BadDialect : Addr} {bs_BadDialect : List Value} {sn_BadDialect : List Str} {sub_BadDialect : List Value} {ab_BadDialect : Bool} {col_BadDialect : Option Bool} {dd_BadDialect : Option Addr} {m0_BadDialect m1_BadDialect m2_BadDialect m3_BadDialect m5_BadDialect : Option Value}
    {fi_BadDialect cc_BadDialect cda_BadDialect : Addr} {oc_BadDialect kV_BadDialect doc_BadDialect pm_BadDialect ct_BadDialect cl_BadDialect ccl_BadDialect : Value} {od_BadDialect an_BadDialect cld_BadDialect cdd_BadDialect : Option Addr} {osl_BadDialect csl_BadDialect ccs_BadDialect : Array (Option Value)} {vs_BadDialect : Array Value} {file_BadDialect : Str} {tf_BadDialect : Tok}
    {k_Dialect : Addr}
    {dt_Dialect : Addr} {dc_Dialect : Value} {dd_Dialect : Option Addr} {di_Dialect : Array Value} {dn_Dialect : Nat} {dl_Dialect : Array (Option Value)}
    {ff_Dialect_init : Addr} {foc_Dialect_init fkV_Dialect_init fdoc_Dialect_init fpm_Dialect_init fcd_Dialect_init fct_Dialect_init : Value} {fod_Dialect_init fan_Dialect_init : Option Addr} {fsl_Dialect_init : Array (Option Value)}
    {pp_Dialect_padded : Addr} {pr_Dialect_padded : List Value}
    {ff_Dialect_padded : Addr} {foc_Dialect_padded fkV_Dialect_padded fdoc_Dialect_padded fpm_Dialect_padded fcd_Dialect_padded fct_Dialect_padded : Value} {fod_Dialect_padded fan_Dialect_padded : Option Addr} {fsl_Dialect_padded : Array (Option Value)}
    {ff__wall : Addr} {foc__wall fkV__wall fdoc__wall fpm__wall fcd__wall fct__wall : Value} {fod__wall fan__wall : Option Addr} {fsl__wall : Array (Option Value)}
    {ff_is_sign : Addr} {foc_is_sign fkV_is_sign fdoc_is_sign fpm_is_sign fcd_is_sign fct_is_sign : Value} {fod_is_sign fan_is_sign : Option Addr} {fsl_is_sign : Array (Option Value)}
    {ff_need_settings : Addr} {foc_need_settings fkV_need_settings fdoc_need_settings fpm_need_settings fcd_need_settings fct_need_settings : Value} {fod_need_settings fan_need_settings : Option Addr} {fsl_need_settings : Array (Option Value)}
    {ff_special : Addr} {foc_special fkV_special fdoc_special fpm_special fcd_special fct_special : Value} {fod_special fan_special : Option Addr} {fsl_special : Array (Option Value)}
    {ff_ordinary : Addr} {foc_ordinary fkV_ordinary fdoc_ordinary fpm_ordinary fcd_ordinary fct_ordinary : Value} {fod_ordinary fan_ordinary : Option Addr} {fsl_ordinary : Array (Option Value)}
    {ff__law_begun : Addr} {foc__law_begun fkV__law_begun fdoc__law_begun fpm__law_begun fcd__law_begun fct__law_begun : Value} {fod__law_begun fan__law_begun : Option Addr} {fsl__law_begun : Array (Option Value)}
    {ff__law_mixed : Addr} {foc__law_mixed fkV__law_mixed fdoc__law_mixed fpm__law_mixed fcd__law_mixed fct__law_mixed : Value} {fod__law_mixed fan__law_mixed : Option Addr} {fsl__law_mixed : Array (Option Value)}
    {ff__law_take : Addr} {foc__law_take fkV__law_take fdoc__law_take fpm__law_take fcd__law_take fct__law_take : Value} {fod__law_take fan__law_take : Option Addr} {fsl__law_take : Array (Option Value)}
    {ff__law_pick : Addr} {foc__law_pick fkV__law_pick fdoc__law_pick fpm__law_pick fcd__law_pick fct__law_pick : Value} {fod__law_pick fan__law_pick : Option Addr} {fsl__law_pick : Array (Option Value)}
    {ff__law_signs_of : Addr} {foc__law_signs_of fkV__law_signs_of fdoc__law_signs_of fpm__law_signs_of fcd__law_signs_of fct__law_signs_of : Value} {fod__law_signs_of fan__law_signs_of : Option Addr} {fsl__law_signs_of : Array (Option Value)}
    {ff__law_dialect : Addr} {foc__law_dialect fkV__law_dialect fdoc__law_dialect fpm__law_dialect fcd__law_dialect fct__law_dialect : Value} {fod__law_dialect fan__law_dialect : Option Addr} {fsl__law_dialect : Array (Option Value)}
    {ff__law_made : Addr} {foc__law_made fkV__law_made fdoc__law_made fpm__law_made fcd__law_made fct__law_made : Value} {fod__law_made fan__law_made : Option Addr} {fsl__law_made : Array (Option Value)}
    {ff__law_signs : Addr} {foc__law_signs fkV__law_signs fdoc__law_signs fpm__law_signs fcd__law_signs fct__law_signs : Value} {fod__law_signs fan__law_signs : Option Addr} {fsl__law_signs : Array (Option Value)}
    {ff__law_special : Addr} {foc__law_special fkV__law_special fdoc__law_special fpm__law_special fcd__law_special fct__law_special : Value} {fod__law_special fan__law_special : Option Addr} {fsl__law_special : Array (Option Value)}
    {ff__law_ordinary : Addr} {foc__law_ordinary fkV__law_ordinary fdoc__law_ordinary fpm__law_ordinary fcd__law_ordinary fct__law_ordinary : Value} {fod__law_ordinary fan__law_ordinary : Option Addr} {fsl__law_ordinary : Array (Option Value)}
    {ff_law : Addr} {foc_law fkV_law fdoc_law fpm_law fcd_law fct_law : Value} {fod_law fan_law : Option Addr} {fsl_law : Array (Option Value)}
    (zb_abs : PySem.W.nsIn K mainGlobals "abs" = some none)
    (zb_bool : PySem.W.nsIn K mainGlobals "bool" = some none)
    (zb_enumerate : PySem.W.nsIn K mainGlobals "enumerate" = some none)
    (zb_int : PySem.W.nsIn K mainGlobals "int" = some none)
    (zb_isinstance : PySem.W.nsIn K mainGlobals "isinstance" = some none)
    (zb_len : PySem.W.nsIn K mainGlobals "len" = some none)
    (zb_list : PySem.W.nsIn K mainGlobals "list" = some none)
    (zb_min : PySem.W.nsIn K mainGlobals "min" = some none)
    (zb_range : PySem.W.nsIn K mainGlobals "range" = some none)
    (zb_sorted : PySem.W.nsIn K mainGlobals "sorted" = some none)
    (zb_str : PySem.W.nsIn K mainGlobals "str" = some none)
    (zb_zip : PySem.W.nsIn K mainGlobals "zip" = some none)
    (zg_ALPHABET : PySem.W.nsIn K mainGlobals "ALPHABET" = some (some (.str ("\t\n !\"#$&'()*+,-./0123456789:;<=>?@ABCDEFGHIJKLMNOPQRSTUVWXYZ[\\]^_`abcdefghijklmnopqrstuvwxyz{|}~" : Str) vt1)))
    (zg_BLANK : PySem.W.nsIn K mainGlobals "BLANK" = some (some (.str (" " : Str) vt2)))
    (zg_NAMES : PySem.W.nsIn K mainGlobals "NAMES" = some (some (.ref va3)))
    (zv_3 : K.lookup va3 = some ⟨.type "tuple", vo3, .seq ([(.str ("separator" : Str) vt4), (.str ("terminator" : Str) vt5), (.str ("quote" : Str) vt6), (.str ("escape" : Str) vt7), (.str ("doubled" : Str) vt8), (.str ("padded" : Str) vt9), (.str ("strict" : Str) vt10)] : List Value).toArray vn3, vs3⟩)
    (z_super : PySem.W.nsIn K mainGlobals "super" = some none)
    (z_third : PySem.W.nsIn K cStatics "thirdparty.any" = some none)
    (a_BadDialect : PySem.W.nsIn K mainGlobals "BadDialect" = some (some (.ref c_BadDialect)))
    (eb_BadDialect : PySem.W.subIn K (.ref c_BadDialect) (.type "BaseException") = some true)
    (ic_BadDialect : PySem.W.isClsIn K c_BadDialect = true)
    (ty_BadDialect : PySem.W.typeIn K (.ref c_BadDialect) = some (.type "type"))
    (kp_BadDialect : PySem.W.keepIn K (.ref c_BadDialect) = true)
    (ga_BadDialect : PySem.W.findIn K (.ref c_BadDialect) "__getattribute__" = some (some (.builtin "BaseException.__getattribute__")))
    (gg_BadDialect : PySem.W.findIn K (.ref c_BadDialect) "__getattr__" = some none)
    (hd_BadDialect : PySem.W.hasDictIn K c_BadDialect = true)
    (no_BadDialect_field : PySem.W.findIn K (.ref c_BadDialect) "field" = some none)
    (x_BadDialect : K.lookup c_BadDialect = some (excClassObj nm_BadDialect q_BadDialect c_BadDialect N_BadDialect bs_BadDialect [.ref c_FieldError, .type "ValueError", .type "Exception", .type "BaseException", .type "object"] true sn_BadDialect sub_BadDialect ab_BadDialect col_BadDialect dd_BadDialect m0_BadDialect m1_BadDialect m2_BadDialect m3_BadDialect m5_BadDialect "ValueError.__new__"))
    (sa_BadDialect : PySem.W.findIn K (.ref c_BadDialect) "__setattr__" = some (some (.builtin "object.__setattr__")))
    (ii_BadDialect : PySem.W.findIn K (.ref c_BadDialect) "__init__" = some (some (.ref fi_BadDialect)))
    (ti_BadDialect : PySem.W.typeIn K (.ref fi_BadDialect) = some (.type "function"))
    (ve_BadDialect : PySem.W.subIn K (.ref c_BadDialect) (.type "ValueError") = some true)
    (li_BadDialect : K.lookup fi_BadDialect = some ⟨oc_BadDialect, od_BadDialect, .func (PySem.W.ksFn "__init__" "BadDialect.__init__" (defArgs s_BadDialect_init) (defBody s_BadDialect_init) (defScope s_BadDialect_init) .none kV_BadDialect doc_BadDialect pm_BadDialect an_BadDialect (.ref cda_BadDialect) ct_BadDialect cc_BadDialect), osl_BadDialect⟩)
    (ci_BadDialect : PySem.W.codeIn K (.ref cda_BadDialect) "BadDialect.__init__" = true)
    (up_BadDialect : PySem.W.ks_superIn K c_BadDialect c_BadDialect "__init__" = some (some (.builtin "ValueError.__init__")))
    (ow_BadDialect : PySem.W.mroIn K c_BadDialect (.ref c_BadDialect) = some true)
    (ce_BadDialect : K.lookup cc_BadDialect = some ⟨cl_BadDialect, cld_BadDialect, .cell (some (.ref c_BadDialect)), csl_BadDialect⟩)
    (cd_BadDialect : K.lookup cda_BadDialect = some ⟨ccl_BadDialect, cdd_BadDialect, .fields vs_BadDialect, ccs_BadDialect⟩)
    (cv_BadDialect : vs_BadDialect[2]? = some (.str file_BadDialect tf_BadDialect))
    (cf_BadDialect : ((P.main.file : Str) == file_BadDialect) = true)
    (tp_BadDialect : (P.main.scope.names.lookup ("super" : Str)).isSome = false)
    (a_Dialect : PySem.W.nsIn K mainGlobals "Dialect" = some (some (.ref k_Dialect)))
    (pg_Dialect : PySem.W.plainGet K k_Dialect Str.empty = true)
    (hd_Dialect : PySem.W.hasDictIn K k_Dialect = true)
    (po_Dialect : PySem.W.plainOver K k_Dialect = true)
    (sa_Dialect : PySem.W.findIn K (.ref k_Dialect) "__setattr__" = some (some (.builtin "object.__setattr__")))
    (no_Dialect_settings : PySem.W.findIn K (.ref k_Dialect) "settings" = some none)
    (mk_Dialect : PySem.W.makesIn K k_Dialect = true)
    (in_Dialect : PySem.W.findIn K (.ref k_Dialect) "__init__" = some (some (.ref ff_Dialect_init)))
    (if_Dialect : PySem.W.isFn K (.ref ff_Dialect_init) = true)
    (kc_Dialect : PySem.W.keepIn K (.ref k_Dialect) = true)
    (fl_Dialect_init : K.lookup ff_Dialect_init = some ⟨foc_Dialect_init, fod_Dialect_init, .func (PySem.W.fnOf "__init__" "Dialect.__init__" (defArgs s_Dialect_init) (defBody s_Dialect_init) (defScope s_Dialect_init) (.ref dt_Dialect) fkV_Dialect_init fdoc_Dialect_init fpm_Dialect_init fan_Dialect_init fcd_Dialect_init fct_Dialect_init), fsl_Dialect_init⟩)
    (fc_Dialect_init : PySem.W.codeIn K fcd_Dialect_init "Dialect.__init__" = true)
    (fk_Dialect_init : PySem.W.keepIn K (.ref ff_Dialect_init) = true)
    (dk_Dialect : K.lookup dt_Dialect = some ⟨dc_Dialect, dd_Dialect, .seq di_Dialect dn_Dialect, dl_Dialect⟩)
    (cf_dz_Dialect : di_Dialect.size = 2)
    (pa_Dialect_padded : PySem.W.findIn K (.ref k_Dialect) "padded" = some (some (.ref pp_Dialect_padded)))
    (pb_Dialect_padded : PySem.W.specialIn K (.ref pp_Dialect_padded) "__get__" = some (some (.builtin "property.__get__")))
    (pc_Dialect_padded : PySem.W.takesIn K (.ref pp_Dialect_padded) = some true)
    (pd_Dialect_padded : PySem.W.recIn K pp_Dialect_padded "property" = some (.ref ff_Dialect_padded :: pr_Dialect_padded))
    (fl_Dialect_padded : K.lookup ff_Dialect_padded = some ⟨foc_Dialect_padded, fod_Dialect_padded, .func (PySem.W.fnOf "padded" "Dialect.padded" (defArgs s_Dialect_padded) (defBody s_Dialect_padded) (defScope s_Dialect_padded) .none fkV_Dialect_padded fdoc_Dialect_padded fpm_Dialect_padded fan_Dialect_padded fcd_Dialect_padded fct_Dialect_padded), fsl_Dialect_padded⟩)
    (fc_Dialect_padded : PySem.W.codeIn K fcd_Dialect_padded "Dialect.padded" = true)
    (fk_Dialect_padded : PySem.W.keepIn K (.ref ff_Dialect_padded) = true)
    (fa__wall : PySem.W.nsIn K mainGlobals "_wall" = some (some (.ref ff__wall)))
    (fl__wall : K.lookup ff__wall = some ⟨foc__wall, fod__wall, .func (PySem.W.fnOf "_wall" "_wall" (defArgs s__wall) (defBody s__wall) (defScope s__wall) .none fkV__wall fdoc__wall fpm__wall fan__wall fcd__wall fct__wall), fsl__wall⟩)
    (fc__wall : PySem.W.codeIn K fcd__wall "_wall" = true)
    (fk__wall : PySem.W.keepIn K (.ref ff__wall) = true)
    (fa_is_sign : PySem.W.nsIn K mainGlobals "is_sign" = some (some (.ref ff_is_sign)))
    (fl_is_sign : K.lookup ff_is_sign = some ⟨foc_is_sign, fod_is_sign, .func (PySem.W.fnOf "is_sign" "is_sign" (defArgs s_is_sign) (defBody s_is_sign) (defScope s_is_sign) .none fkV_is_sign fdoc_is_sign fpm_is_sign fan_is_sign fcd_is_sign fct_is_sign), fsl_is_sign⟩)
    (fc_is_sign : PySem.W.codeIn K fcd_is_sign "is_sign" = true)
    (fk_is_sign : PySem.W.keepIn K (.ref ff_is_sign) = true)
    (fa_need_settings : PySem.W.nsIn K mainGlobals "need_settings" = some (some (.ref ff_need_settings)))
    (fl_need_settings : K.lookup ff_need_settings = some ⟨foc_need_settings, fod_need_settings, .func (PySem.W.fnOf "need_settings" "need_settings" (defArgs s_need_settings) (defBody s_need_settings) (defScope s_need_settings) .none fkV_need_settings fdoc_need_settings fpm_need_settings fan_need_settings fcd_need_settings fct_need_settings), fsl_need_settings⟩)
    (fc_need_settings : PySem.W.codeIn K fcd_need_settings "need_settings" = true)
    (fk_need_settings : PySem.W.keepIn K (.ref ff_need_settings) = true)
    (fa_special : PySem.W.nsIn K mainGlobals "special" = some (some (.ref ff_special)))
    (fl_special : K.lookup ff_special = some ⟨foc_special, fod_special, .func (PySem.W.fnOf "special" "special" (defArgs s_special) (defBody s_special) (defScope s_special) .none fkV_special fdoc_special fpm_special fan_special fcd_special fct_special), fsl_special⟩)
    (fc_special : PySem.W.codeIn K fcd_special "special" = true)
    (fk_special : PySem.W.keepIn K (.ref ff_special) = true)
    (fa_ordinary : PySem.W.nsIn K mainGlobals "ordinary" = some (some (.ref ff_ordinary)))
    (fl_ordinary : K.lookup ff_ordinary = some ⟨foc_ordinary, fod_ordinary, .func (PySem.W.fnOf "ordinary" "ordinary" (defArgs s_ordinary) (defBody s_ordinary) (defScope s_ordinary) .none fkV_ordinary fdoc_ordinary fpm_ordinary fan_ordinary fcd_ordinary fct_ordinary), fsl_ordinary⟩)
    (fc_ordinary : PySem.W.codeIn K fcd_ordinary "ordinary" = true)
    (fk_ordinary : PySem.W.keepIn K (.ref ff_ordinary) = true)
    (fa__law_begun : PySem.W.nsIn K mainGlobals "_law_begun" = some (some (.ref ff__law_begun)))
    (fl__law_begun : K.lookup ff__law_begun = some ⟨foc__law_begun, fod__law_begun, .func (PySem.W.fnOf "_law_begun" "_law_begun" (defArgs s__law_begun) (defBody s__law_begun) (defScope s__law_begun) .none fkV__law_begun fdoc__law_begun fpm__law_begun fan__law_begun fcd__law_begun fct__law_begun), fsl__law_begun⟩)
    (fc__law_begun : PySem.W.codeIn K fcd__law_begun "_law_begun" = true)
    (fk__law_begun : PySem.W.keepIn K (.ref ff__law_begun) = true)
    (fa__law_mixed : PySem.W.nsIn K mainGlobals "_law_mixed" = some (some (.ref ff__law_mixed)))
    (fl__law_mixed : K.lookup ff__law_mixed = some ⟨foc__law_mixed, fod__law_mixed, .func (PySem.W.fnOf "_law_mixed" "_law_mixed" (defArgs s__law_mixed) (defBody s__law_mixed) (defScope s__law_mixed) .none fkV__law_mixed fdoc__law_mixed fpm__law_mixed fan__law_mixed fcd__law_mixed fct__law_mixed), fsl__law_mixed⟩)
    (fc__law_mixed : PySem.W.codeIn K fcd__law_mixed "_law_mixed" = true)
    (fk__law_mixed : PySem.W.keepIn K (.ref ff__law_mixed) = true)
    (fa__law_take : PySem.W.nsIn K mainGlobals "_law_take" = some (some (.ref ff__law_take)))
    (fl__law_take : K.lookup ff__law_take = some ⟨foc__law_take, fod__law_take, .func (PySem.W.fnOf "_law_take" "_law_take" (defArgs s__law_take) (defBody s__law_take) (defScope s__law_take) .none fkV__law_take fdoc__law_take fpm__law_take fan__law_take fcd__law_take fct__law_take), fsl__law_take⟩)
    (fc__law_take : PySem.W.codeIn K fcd__law_take "_law_take" = true)
    (fk__law_take : PySem.W.keepIn K (.ref ff__law_take) = true)
    (fa__law_pick : PySem.W.nsIn K mainGlobals "_law_pick" = some (some (.ref ff__law_pick)))
    (fl__law_pick : K.lookup ff__law_pick = some ⟨foc__law_pick, fod__law_pick, .func (PySem.W.fnOf "_law_pick" "_law_pick" (defArgs s__law_pick) (defBody s__law_pick) (defScope s__law_pick) .none fkV__law_pick fdoc__law_pick fpm__law_pick fan__law_pick fcd__law_pick fct__law_pick), fsl__law_pick⟩)
    (fc__law_pick : PySem.W.codeIn K fcd__law_pick "_law_pick" = true)
    (fk__law_pick : PySem.W.keepIn K (.ref ff__law_pick) = true)
    (fa__law_signs_of : PySem.W.nsIn K mainGlobals "_law_signs_of" = some (some (.ref ff__law_signs_of)))
    (fl__law_signs_of : K.lookup ff__law_signs_of = some ⟨foc__law_signs_of, fod__law_signs_of, .func (PySem.W.fnOf "_law_signs_of" "_law_signs_of" (defArgs s__law_signs_of) (defBody s__law_signs_of) (defScope s__law_signs_of) .none fkV__law_signs_of fdoc__law_signs_of fpm__law_signs_of fan__law_signs_of fcd__law_signs_of fct__law_signs_of), fsl__law_signs_of⟩)
    (fc__law_signs_of : PySem.W.codeIn K fcd__law_signs_of "_law_signs_of" = true)
    (fk__law_signs_of : PySem.W.keepIn K (.ref ff__law_signs_of) = true)
    (fa__law_dialect : PySem.W.nsIn K mainGlobals "_law_dialect" = some (some (.ref ff__law_dialect)))
    (fl__law_dialect : K.lookup ff__law_dialect = some ⟨foc__law_dialect, fod__law_dialect, .func (PySem.W.fnOf "_law_dialect" "_law_dialect" (defArgs s__law_dialect) (defBody s__law_dialect) (defScope s__law_dialect) .none fkV__law_dialect fdoc__law_dialect fpm__law_dialect fan__law_dialect fcd__law_dialect fct__law_dialect), fsl__law_dialect⟩)
    (fc__law_dialect : PySem.W.codeIn K fcd__law_dialect "_law_dialect" = true)
    (fk__law_dialect : PySem.W.keepIn K (.ref ff__law_dialect) = true)
    (fa__law_made : PySem.W.nsIn K mainGlobals "_law_made" = some (some (.ref ff__law_made)))
    (fl__law_made : K.lookup ff__law_made = some ⟨foc__law_made, fod__law_made, .func (PySem.W.fnOf "_law_made" "_law_made" (defArgs s__law_made) (defBody s__law_made) (defScope s__law_made) .none fkV__law_made fdoc__law_made fpm__law_made fan__law_made fcd__law_made fct__law_made), fsl__law_made⟩)
    (fc__law_made : PySem.W.codeIn K fcd__law_made "_law_made" = true)
    (fk__law_made : PySem.W.keepIn K (.ref ff__law_made) = true)
    (fa__law_signs : PySem.W.nsIn K mainGlobals "_law_signs" = some (some (.ref ff__law_signs)))
    (fl__law_signs : K.lookup ff__law_signs = some ⟨foc__law_signs, fod__law_signs, .func (PySem.W.fnOf "_law_signs" "_law_signs" (defArgs s__law_signs) (defBody s__law_signs) (defScope s__law_signs) .none fkV__law_signs fdoc__law_signs fpm__law_signs fan__law_signs fcd__law_signs fct__law_signs), fsl__law_signs⟩)
    (fc__law_signs : PySem.W.codeIn K fcd__law_signs "_law_signs" = true)
    (fk__law_signs : PySem.W.keepIn K (.ref ff__law_signs) = true)
    (fa__law_special : PySem.W.nsIn K mainGlobals "_law_special" = some (some (.ref ff__law_special)))
    (fl__law_special : K.lookup ff__law_special = some ⟨foc__law_special, fod__law_special, .func (PySem.W.fnOf "_law_special" "_law_special" (defArgs s__law_special) (defBody s__law_special) (defScope s__law_special) .none fkV__law_special fdoc__law_special fpm__law_special fan__law_special fcd__law_special fct__law_special), fsl__law_special⟩)
    (fc__law_special : PySem.W.codeIn K fcd__law_special "_law_special" = true)
    (fk__law_special : PySem.W.keepIn K (.ref ff__law_special) = true)
    (fa__law_ordinary : PySem.W.nsIn K mainGlobals "_law_ordinary" = some (some (.ref ff__law_ordinary)))
    (fl__law_ordinary : K.lookup ff__law_ordinary = some ⟨foc__law_ordinary, fod__law_ordinary, .func (PySem.W.fnOf "_law_ordinary" "_law_ordinary" (defArgs s__law_ordinary) (defBody s__law_ordinary) (defScope s__law_ordinary) .none fkV__law_ordinary fdoc__law_ordinary fpm__law_ordinary fan__law_ordinary fcd__law_ordinary fct__law_ordinary), fsl__law_ordinary⟩)
    (fc__law_ordinary : PySem.W.codeIn K fcd__law_ordinary "_law_ordinary" = true)
    (fk__law_ordinary : PySem.W.keepIn K (.ref ff__law_ordinary) = true)
    (fa_law : PySem.W.nsIn K mainGlobals "law" = some (some (.ref ff_law)))
    (fl_law : K.lookup ff_law = some ⟨foc_law, fod_law, .func (PySem.W.fnOf "law" "law" (defArgs s_law) (defBody s_law) (defScope s_law) .none fkV_law fdoc_law fpm_law fan_law fcd_law fct_law), fsl_law⟩)
    (fc_law : PySem.W.codeIn K fcd_law "law" = true)
    (fk_law : PySem.W.keepIn K (.ref ff_law) = true)
    : ∃ fd : FuncData, (∀ (s : Shared) (u : Value), BindsTo s fd ⟨[u], []⟩ [("_law_script", u)]) ∧ ∀ base : Heap, K.In base → base.Ns mainGlobals mg → FnG true P w K mg base 12 fa fd ["_law_script"] (liftSp K mg 1 F_law) := by
  have e : fa = ff_law := by
    have z := hfa.symm.trans (PySem.W.mg_of X G fa_law)
    cases z
    rfl
  rw [e]
  have E_BadDialect : DSX.Err P K mg "BadDialect" "BadDialect.__init__" s_BadDialect_init c_BadDialect fi_BadDialect cc_BadDialect cda_BadDialect [("field" : Str)] := { gC := PySem.W.mg_of X G a_BadDialect, cls := ⟨_, _, _, _, _, _, _, _, _, _, _, _, _, _, _, x_BadDialect, by rfl⟩, sa := sa_BadDialect, ga := ga_BadDialect, gg := gg_BadDialect, no := (fun f hf => by have this : f = ("field" : Str) := (by simpa using hf); rcases this with rfl <;> assumption), iC := ii_BadDialect, tC := ti_BadDialect, kC := kp_BadDialect, exC := eb_BadDialect, veC := ve_BadDialect, tyC := ty_BadDialect, hdC := hd_BadDialect, fn := ⟨_, _, _, _, _, _, _, _, li_BadDialect, ci_BadDialect⟩, sup := z_super, up := up_BadDialect, op := z_third, own := ow_BadDialect, cell := ⟨_, _, _, ce_BadDialect⟩, code := ⟨_, _, _, _, _, _, cd_BadDialect, cv_BadDialect, cf_BadDialect⟩, top := tp_BadDialect }
  have D_BadDialect : DSX.Txt "BadDialect.__init__" s_BadDialect_init fi_BadDialect cc_BadDialect cda_BadDialect [("field" : Str)] _ _ _ := { body := rfl, first := rfl, self := rfl, kind := rfl, co := rfl, gen := rfl, nocell := by decide +kernel, sup := by decide +kernel, cls := by decide +kernel, slf := by decide +kernel, loc := by decide +kernel, nself := by decide +kernel, dbg := by decide +kernel, inter := fun _ => rfl, binds := fun _ _ _ _ _ _ us hl => match us, hl with | [_], _ => rfl }
  have A__wall : FnAt K mg "_wall" s__wall ["k"] ff__wall _ := ⟨PySem.W.mg_of X G fa__wall, fun_mk (st := s__wall) fl__wall fc__wall fk__wall, (fun_mk (st := s__wall) fl__wall fc__wall fk__wall).binds (ps := ["k"]) fun _ _ _ _ _ _ us hl => match us, hl with | [_], _ => rfl⟩
  have A_is_sign : FnAt K mg "is_sign" s_is_sign ["value"] ff_is_sign _ := ⟨PySem.W.mg_of X G fa_is_sign, fun_mk (st := s_is_sign) fl_is_sign fc_is_sign fk_is_sign, (fun_mk (st := s_is_sign) fl_is_sign fc_is_sign fk_is_sign).binds (ps := ["value"]) fun _ _ _ _ _ _ us hl => match us, hl with | [_], _ => rfl⟩
  have A_need_settings : FnAt K mg "need_settings" s_need_settings ["settings"] ff_need_settings _ := ⟨PySem.W.mg_of X G fa_need_settings, fun_mk (st := s_need_settings) fl_need_settings fc_need_settings fk_need_settings, (fun_mk (st := s_need_settings) fl_need_settings fc_need_settings fk_need_settings).binds (ps := ["settings"]) fun _ _ _ _ _ _ us hl => match us, hl with | [_], _ => rfl⟩
  have A_special : FnAt K mg "special" s_special ["dialect"] ff_special _ := ⟨PySem.W.mg_of X G fa_special, fun_mk (st := s_special) fl_special fc_special fk_special, (fun_mk (st := s_special) fl_special fc_special fk_special).binds (ps := ["dialect"]) fun _ _ _ _ _ _ us hl => match us, hl with | [_], _ => rfl⟩
  have A_ordinary : StAt K mg "ordinary" s_ordinary "dialects" ff_ordinary _ := ⟨PySem.W.mg_of X G fa_ordinary, fun_mk (st := s_ordinary) fl_ordinary fc_ordinary fk_ordinary, fun us => match us with | [] => rfl | _ :: _ => rfl⟩
  have A__law_begun : FnAt K mg "_law_begun" s__law_begun ["_law_script"] ff__law_begun _ := ⟨PySem.W.mg_of X G fa__law_begun, fun_mk (st := s__law_begun) fl__law_begun fc__law_begun fk__law_begun, (fun_mk (st := s__law_begun) fl__law_begun fc__law_begun fk__law_begun).binds (ps := ["_law_script"]) fun _ _ _ _ _ _ us hl => match us, hl with | [_], _ => rfl⟩
  have A__law_mixed : FnAt K mg "_law_mixed" s__law_mixed ["_law_draw"] ff__law_mixed _ := ⟨PySem.W.mg_of X G fa__law_mixed, fun_mk (st := s__law_mixed) fl__law_mixed fc__law_mixed fk__law_mixed, (fun_mk (st := s__law_mixed) fl__law_mixed fc__law_mixed fk__law_mixed).binds (ps := ["_law_draw"]) fun _ _ _ _ _ _ us hl => match us, hl with | [_], _ => rfl⟩
  have A__law_take : FnAt K mg "_law_take" s__law_take ["_law_draw", "_law_size"] ff__law_take _ := ⟨PySem.W.mg_of X G fa__law_take, fun_mk (st := s__law_take) fl__law_take fc__law_take fk__law_take, (fun_mk (st := s__law_take) fl__law_take fc__law_take fk__law_take).binds (ps := ["_law_draw", "_law_size"]) fun _ _ _ _ _ _ us hl => match us, hl with | [_, _], _ => rfl⟩
  have A__law_pick : FnAt K mg "_law_pick" s__law_pick ["_law_draw", "_law_items"] ff__law_pick _ := ⟨PySem.W.mg_of X G fa__law_pick, fun_mk (st := s__law_pick) fl__law_pick fc__law_pick fk__law_pick, (fun_mk (st := s__law_pick) fl__law_pick fc__law_pick fk__law_pick).binds (ps := ["_law_draw", "_law_items"]) fun _ _ _ _ _ _ us hl => match us, hl with | [_, _], _ => rfl⟩
  have A__law_signs_of : FnAt K mg "_law_signs_of" s__law_signs_of ["_law_draw", "_law_many"] ff__law_signs_of _ := ⟨PySem.W.mg_of X G fa__law_signs_of, fun_mk (st := s__law_signs_of) fl__law_signs_of fc__law_signs_of fk__law_signs_of, (fun_mk (st := s__law_signs_of) fl__law_signs_of fc__law_signs_of fk__law_signs_of).binds (ps := ["_law_draw", "_law_many"]) fun _ _ _ _ _ _ us hl => match us, hl with | [_, _], _ => rfl⟩
  have A__law_dialect : FnAt K mg "_law_dialect" s__law_dialect ["_law_draw"] ff__law_dialect _ := ⟨PySem.W.mg_of X G fa__law_dialect, fun_mk (st := s__law_dialect) fl__law_dialect fc__law_dialect fk__law_dialect, (fun_mk (st := s__law_dialect) fl__law_dialect fc__law_dialect fk__law_dialect).binds (ps := ["_law_draw"]) fun _ _ _ _ _ _ us hl => match us, hl with | [_], _ => rfl⟩
  have A__law_made : FnAt K mg "_law_made" s__law_made ["_law_settings"] ff__law_made _ := ⟨PySem.W.mg_of X G fa__law_made, fun_mk (st := s__law_made) fl__law_made fc__law_made fk__law_made, (fun_mk (st := s__law_made) fl__law_made fc__law_made fk__law_made).binds (ps := ["_law_settings"]) fun _ _ _ _ _ _ us hl => match us, hl with | [_], _ => rfl⟩
  have A__law_signs : FnAt K mg "_law_signs" s__law_signs [] ff__law_signs _ := ⟨PySem.W.mg_of X G fa__law_signs, fun_mk (st := s__law_signs) fl__law_signs fc__law_signs fk__law_signs, (fun_mk (st := s__law_signs) fl__law_signs fc__law_signs fk__law_signs).binds (ps := []) fun _ _ _ _ _ _ us hl => match us, hl with | [], _ => rfl⟩
  have A__law_special : FnAt K mg "_law_special" s__law_special ["_law_settings"] ff__law_special _ := ⟨PySem.W.mg_of X G fa__law_special, fun_mk (st := s__law_special) fl__law_special fc__law_special fk__law_special, (fun_mk (st := s__law_special) fl__law_special fc__law_special fk__law_special).binds (ps := ["_law_settings"]) fun _ _ _ _ _ _ us hl => match us, hl with | [_], _ => rfl⟩
  have A__law_ordinary : FnAt K mg "_law_ordinary" s__law_ordinary ["_law_kinds"] ff__law_ordinary _ := ⟨PySem.W.mg_of X G fa__law_ordinary, fun_mk (st := s__law_ordinary) fl__law_ordinary fc__law_ordinary fk__law_ordinary, (fun_mk (st := s__law_ordinary) fl__law_ordinary fc__law_ordinary fk__law_ordinary).binds (ps := ["_law_kinds"]) fun _ _ _ _ _ _ us hl => match us, hl with | [_], _ => rfl⟩
  have A_law : FnAt K mg "law" s_law ["_law_script"] ff_law _ := ⟨PySem.W.mg_of X G fa_law, fun_mk (st := s_law) fl_law fc_law fk_law, (fun_mk (st := s_law) fl_law fc_law fk_law).binds (ps := ["_law_script"]) fun _ _ _ _ _ _ us hl => match us, hl with | [_], _ => rfl⟩
  have T : Txt P w K mg c_BadDialect k_Dialect := {
    n_abs := PySem.W.mg_none_of X G zb_abs,
    n_bool := PySem.W.mg_none_of X G zb_bool,
    n_enumerate := PySem.W.mg_none_of X G zb_enumerate,
    n_int := PySem.W.mg_none_of X G zb_int,
    n_isinstance := PySem.W.mg_none_of X G zb_isinstance,
    n_len := PySem.W.mg_none_of X G zb_len,
    n_list := PySem.W.mg_none_of X G zb_list,
    n_min := PySem.W.mg_none_of X G zb_min,
    n_range := PySem.W.mg_none_of X G zb_range,
    n_sorted := PySem.W.mg_none_of X G zb_sorted,
    n_str := PySem.W.mg_none_of X G zb_str,
    n_zip := PySem.W.mg_none_of X G zb_zip,
    g_ALPHABET := repG_k (PySem.W.mg_of X G zg_ALPHABET) (.str _ _ (by decide +kernel)),
    g_BLANK := repG_k (PySem.W.mg_of X G zg_BLANK) (.str _ _ (by decide +kernel)),
    g_NAMES := repG_k (PySem.W.mg_of X G zg_NAMES) (kd_tup zv_3 (by show (7 : Nat) ≤ 1000; decide) (.cons (.str _ _ (by decide +kernel)) (.cons (.str _ _ (by decide +kernel)) (.cons (.str _ _ (by decide +kernel)) (.cons (.str _ _ (by decide +kernel)) (.cons (.str _ _ (by decide +kernel)) (.cons (.str _ _ (by decide +kernel)) (.cons (.str _ _ (by decide +kernel)) .nil)))))))),
    m_BadDialect := PySem.W.mg_of X G a_BadDialect,
    k_BadDialect := kp_BadDialect,
    b_BadDialect := eb_BadDialect,
    t_BadDialect := ty_BadDialect,
    e_BadDialect := DSX.made1 E_BadDialect D_BadDialect (fun _ => rfl) (fun _ => rfl),
    kl_Dialect := ⟨PySem.W.mg_of X G a_Dialect, ⟨pg_Dialect, hd_Dialect, po_Dialect, sa_Dialect⟩⟩,
    na_Dialect_settings := no_Dialect_settings,
    ct_Dialect := ⟨_, _, _, ⟨PySem.W.mg_of X G a_Dialect, ⟨pg_Dialect, hd_Dialect, po_Dialect, sa_Dialect⟩⟩, ⟨mk_Dialect, in_Dialect, if_Dialect, kc_Dialect⟩, funB_mk (st := s_Dialect_init) fl_Dialect_init fc_Dialect_init fk_Dialect_init, ⟨_, _, _, _, rfl, dk_Dialect, rfl, cf_dz_Dialect⟩⟩,
    p_Dialect_padded := ⟨_, _, _, ⟨PySem.W.mg_of X G a_Dialect, ⟨pg_Dialect, hd_Dialect, po_Dialect, sa_Dialect⟩⟩, ⟨pa_Dialect_padded, pb_Dialect_padded, pc_Dialect_padded, ⟨_, pd_Dialect_padded⟩⟩, fun_mk (st := s_Dialect_padded) fl_Dialect_padded fc_Dialect_padded fk_Dialect_padded, (fun_mk (st := s_Dialect_padded) fl_Dialect_padded fc_Dialect_padded fk_Dialect_padded).binds (ps := ["self"]) fun _ _ _ _ _ _ us hl => match us, hl with | [_], _ => rfl⟩,
    f__wall := ⟨_, _, A__wall⟩,
    f_is_sign := ⟨_, _, A_is_sign⟩,
    f_need_settings := ⟨_, _, A_need_settings⟩,
    f_special := ⟨_, _, A_special⟩,
    f_ordinary := ⟨_, _, A_ordinary⟩,
    f__law_begun := ⟨_, _, A__law_begun⟩,
    f__law_mixed := ⟨_, _, A__law_mixed⟩,
    f__law_take := ⟨_, _, A__law_take⟩,
    f__law_pick := ⟨_, _, A__law_pick⟩,
    f__law_signs_of := ⟨_, _, A__law_signs_of⟩,
    f__law_dialect := ⟨_, _, A__law_dialect⟩,
    f__law_made := ⟨_, _, A__law_made⟩,
    f__law_signs := ⟨_, _, A__law_signs⟩,
    f__law_special := ⟨_, _, A__law_special⟩,
    f__law_ordinary := ⟨_, _, A__law_ordinary⟩,
    f_law := ⟨_, _, A_law⟩ }
  exact ⟨_, fun s u => .of_eq rfl, fun base _ _ => fn_law T A_law⟩
end K02

set_option Elab.async false
set_option linter.all false
set_option maxRecDepth 100000
set_option maxHeartbeats 1000000
/-! dialects, states and actions as plain data -/
namespace RD
open DS
open PySem (Str)
inductive Pl where
  | fresh | field | plain | plainE | quoted | quotedE | closed
  deriving DecidableEq
def Pl.s : Pl → Str
  | .fresh => "fresh"
  | .field => "field"
  | .plain => "plain"
  | .plainE => "plain_escaped"
  | .quoted => "quoted"
  | .quotedE => "quoted_escaped"
  | .closed => "closed"
structure Dia where
  sep : Nat
  ter : Nat
  quo : Option Nat
  esc : Option Nat
  dbl : Bool
  pad : Bool
  str : Bool
def oD : Option Nat → D
  | none => .non
  | some c => .str (chS c)
def Dia.l (d : Dia) : List D := [.str (chS d.sep), .str (chS d.ter), oD d.quo, oD d.esc, .bl d.dbl, .bl d.pad, .bl d.str]
def Dia.t (d : Dia) : D := .tup d.l
def Dia.o (d : Dia) : D := .obj "Dialect" [("settings", d.t)]
inductive Act where
  | add (c : Nat) | field | row
def Act.t : Act → D
  | .add c => .tup [.str "add", .str (chS c)]
  | .field => .tup [.str "field"]
  | .row => .tup [.str "row"]
/-- what a sign does: a state and actions, or a fault -/
inductive Mv where
  | go (p : Pl) (as : List Act) | quote | after
def mv (d : Dia) (p : Pl) (c : Nat) : Mv := match p with
  | .plainE => .go .plain [.add c]
  | .quotedE => .go .quoted [.add c]
  | .quoted => if some c = d.quo then .go .closed [] else if some c = d.esc then .go .quotedE [] else .go .quoted [.add c]
  | p => if c = d.sep then .go .field [.field] else if c = d.ter then .go .fresh (if p = .fresh then [.row] else [.field, .row])
    else if p = .closed then (if some c = d.quo ∧ d.dbl = true then .go .quoted [.add c] else if d.str = true then .after else if some c = d.esc then .go .plainE [] else .go .plain [.add c])
    else if some c = d.esc then .go .plainE []
    else if p = .plain then (if some c = d.quo ∧ d.str = true then .quote else .go .plain [.add c])
    else if some c = d.quo then .go .quoted []
    else if c = 32 ∧ d.pad = true then .go .field []
    else .go .plain [.add c]
def Mv.d : Mv → D
  | .go p as => .tup [.str p.s, .tup (as.map Act.t)]
  | .quote => .str "quote"
  | .after => .str "after"
/-- as the laws' own readers give it -/
def Mv.l : Mv → D
  | .go p as => .tup [.str p.s, .lst (as.map Act.t)]
  | .quote => .tup [.str "quote", .non]
  | .after => .tup [.str "after", .non]
/-! ### comparisons -/
theorem eq_str (x y : Str) : fEq (.str x) (.str y) = some (.bl (x == y)) := by simp [fEq, flat_str, eqv_str]
theorem ne_str (x y : Str) : fNe (.str x) (.str y) = some (.bl (!(x == y))) := by simp [fNe, flat_str, eqv_str]
theorem eq_ch (c d : Nat) : fEq (.str (chS c)) (.str (chS d)) = some (.bl (decide (c = d))) := by
  rw [eq_str, chS_eq]; rfl
theorem eqv_sn (x : Str) : (D.str x).eqv .non = false := by simp [D.eqv, D.py, PySem.PyData.eqv]
theorem eq_o (c : Nat) (o : Option Nat) : fEq (.str (chS c)) (oD o) = some (.bl (decide (some c = o))) := by
  cases o with
  | none => simp [oD, fEq, flat_str, flat_non, eqv_sn]
  | some e => simp [oD, eq_ch]
theorem eq_p (p q : Pl) : fEq (.str p.s) (.str q.s) = some (.bl (decide (p = q))) := by
  rw [eq_str]
  congr 2
  cases p <;> cases q <;> decide +kernel
theorem eq_p1 (p : Pl) : fEq (.str p.s) (.str "fresh") = some (.bl (decide (p = .fresh))) := eq_p p .fresh
theorem eq_p2 (p : Pl) : fEq (.str p.s) (.str "field") = some (.bl (decide (p = .field))) := eq_p p .field
theorem eq_p3 (p : Pl) : fEq (.str p.s) (.str "plain") = some (.bl (decide (p = .plain))) := eq_p p .plain
theorem eq_p4 (p : Pl) : fEq (.str p.s) (.str "plain_escaped") = some (.bl (decide (p = .plainE))) := eq_p p .plainE
theorem eq_p5 (p : Pl) : fEq (.str p.s) (.str "quoted") = some (.bl (decide (p = .quoted))) := eq_p p .quoted
theorem eq_p6 (p : Pl) : fEq (.str p.s) (.str "quoted_escaped") = some (.bl (decide (p = .quotedE))) := eq_p p .quotedE
theorem eq_p7 (p : Pl) : fEq (.str p.s) (.str "closed") = some (.bl (decide (p = .closed))) := eq_p p .closed
theorem ch_blank : chS 32 = (" " : Str) := by decide +kernel
theorem eq_blank (c : Nat) : fEq (.str (chS c)) (.str " ") = some (.bl (decide (c = 32))) := by
  rw [← ch_blank, eq_ch]
/-! ### decisions pushed out -/
section
variable {α β : Type} {c : Prop} [Decidable c]
theorem i_thn {a b : SR} {w : MS} : (if c then a else b).thn w = if c then a.thn w else b.thn w := by split <;> rfl
theorem i_bind {a b : Res α} {w : α → M β} : (if c then a else b).bind w = if c then a.bind w else b.bind w := by split <;> rfl
theorem i_andS {a b : Res α} {w : α → MS} : (if c then a else b).andS w = if c then a.andS w else b.andS w := by split <;> rfl
theorem i_fin {n : Nat} {a b : SR} : finF n (if c then a else b) = if c then finF n a else finF n b := by split <;> rfl
theorem i_app {γ δ : Type} {a b : γ → δ} {x : γ} : (if c then a else b) x = if c then a x else b x := by split <;> rfl
theorem i_bl {a b : Bool} : (D.bl (if c then a else b)) = if c then .bl a else .bl b := by split <;> rfl
end
/-! ### items -/
theorem at_nat {α : Type} (xs : List α) (n : Nat) : L2.atI xs (n : Int) = xs[n]? := by
  unfold L2.atI L2.ixN
  rw [if_pos (by omega)]
  by_cases h : (n : Int) < (xs.length : Int)
  · rw [if_pos h]; simp
  · rw [if_neg h, List.getElem?_eq_none (by omega)]; rfl
@[simp] theorem x_ixT (ds : List D) (i : Int) : fIx (.tup ds) (.int i) = L2.atI ds i := rfl
@[simp] theorem x_ixL (ds : List D) (i : Int) : fIx (.lst ds) (.int i) = L2.atI ds i := rfl
@[simp] theorem x_at0 {α : Type} (xs : List α) : L2.atI xs 0 = xs[0]? := at_nat xs 0
@[simp] theorem x_at1 {α : Type} (xs : List α) : L2.atI xs 1 = xs[1]? := at_nat xs 1
@[simp] theorem x_at2 {α : Type} (xs : List α) : L2.atI xs 2 = xs[2]? := at_nat xs 2
@[simp] theorem x_at3 {α : Type} (xs : List α) : L2.atI xs 3 = xs[3]? := at_nat xs 3
@[simp] theorem x_at4 {α : Type} (xs : List α) : L2.atI xs 4 = xs[4]? := at_nat xs 4
@[simp] theorem x_at5 {α : Type} (xs : List α) : L2.atI xs 5 = xs[5]? := at_nat xs 5
@[simp] theorem x_at6 {α : Type} (xs : List α) : L2.atI xs 6 = xs[6]? := at_nat xs 6
@[simp] theorem x_at7 {α : Type} (xs : List α) : L2.atI xs 7 = xs[7]? := at_nat xs 7
@[simp] theorem x_at8 {α : Type} (xs : List α) : L2.atI xs 8 = xs[8]? := at_nat xs 8
@[simp] theorem x_at9 {α : Type} (xs : List α) : L2.atI xs 9 = xs[9]? := at_nat xs 9
@[simp] theorem x_at10 {α : Type} (xs : List α) : L2.atI xs 10 = xs[10]? := at_nat xs 10
@[simp] theorem x_at11 {α : Type} (xs : List α) : L2.atI xs 11 = xs[11]? := at_nat xs 11
@[simp] theorem x_at12 {α : Type} (xs : List α) : L2.atI xs 12 = xs[12]? := at_nat xs 12
@[simp] theorem x_at13 {α : Type} (xs : List α) : L2.atI xs 13 = xs[13]? := at_nat xs 13
/-! ### texts by their codes -/
theorem mk_len (w : List Nat) : (mkS' w).length = w.length := by simp [len_list, mkS']
theorem mk_app (a b : List Nat) : mkS' a ++ mkS' b = mkS' (a ++ b) := str_ext (by
  show ((mkS' a).cps ++ (mkS' b).cps).toList = _
  simp [mkS'])
theorem mk_ch (c : Nat) : mkS' [c] = chS c := rfl
theorem mk_nil : mkS' [] = ("" : Str) := by decide +kernel
theorem mk_list (w : List Nat) : (mkS' w).cps.toList = w := by simp [mkS']
theorem mk_of (x : Str) : mkS' x.cps.toList = x := str_ext (by simp [mkS'])
theorem mk_signs (w : List Nat) : signs (mkS' w) = w.map chS := by
  simp only [signs, mk_list]; rfl
theorem mk_inj {a b : List Nat} (h : mkS' a = mkS' b) : a = b := by rw [← mk_list a, ← mk_list b, h]
theorem mk_beq (a b : List Nat) : (mkS' a == mkS' b) = decide (a = b) := by
  by_cases h : a = b
  · subst h; simp
  · rw [decide_eq_false h]; exact beq_eq_false_iff_ne.mpr fun e => h (mk_inj e)
def wD (w : List Nat) : D := .str (mkS' w)
def chD (c : Nat) : D := .str (chS c)
theorem x_itw (w : List Nat) : (wD w).items = some (w.map chD) := by
  show some ((signs (mkS' w)).map D.str) = _
  rw [mk_signs, List.map_map]; rfl
theorem add_w {a b : List Nat} (h : a.length + b.length ≤ 1000000) : fAdd (wD a) (wD b) = some (wD (a ++ b)) := by
  unfold wD
  simp only [fAdd, mk_len]
  rw [if_pos (by rw [big1]; omega), mk_app]
theorem add_wc {a : List Nat} {c : Nat} (h : a.length ≤ 1000000) : fAdd (wD a) (.str (chS c)) = some (wD (a ++ [c])) := by
  unfold wD
  rw [← mk_ch]
  simp only [fAdd, mk_len]
  rw [if_pos (by rw [big1]; simp; omega), mk_app]
/-! ### what is read -/
structure Wk where
  rows : List (List (List Nat))
  row : List (List Nat)
  word : List Nat
def rowD (r : List (List Nat)) : D := .tup (r.map wD)
def Wk.act (w : Wk) : Act → Wk
  | .add c => { w with word := w.word ++ [c] }
  | .field => { w with row := w.row ++ [w.word], word := [] }
  | .row => { w with rows := w.rows ++ [w.row], row := [] }
def Wk.acts (w : Wk) (as : List Act) : Wk := as.foldl Wk.act w
structure Wk.Sz (w : Wk) (n : Nat) : Prop where
  rows : w.rows.length ≤ n
  row : w.row.length ≤ n
  word : w.word.length ≤ n
theorem Wk.Sz.act {w : Wk} {n : Nat} (h : w.Sz n) (a : Act) : (w.act a).Sz (n + 1) := by
  obtain ⟨h1, h2, h3⟩ := h
  cases a <;> refine ⟨?_, ?_, ?_⟩ <;> simp only [Wk.act, List.length_append, List.length_cons, List.length_nil] <;> omega
theorem Wk.Sz.le {w : Wk} {n m : Nat} (h : w.Sz n) (l : n ≤ m) : w.Sz m := ⟨Nat.le_trans h.1 l, Nat.le_trans h.2 l, Nat.le_trans h.3 l⟩
theorem Wk.Sz.acts : ∀ {as : List Act} {w : Wk} {n : Nat}, w.Sz n → (w.acts as).Sz (n + as.length)
  | [], w, n, h => h
  | a :: as, w, n, h => by
    have := Wk.Sz.acts (as := as) (h.act a)
    rw [show n + (a :: as).length = n + 1 + as.length by simp; omega]
    exact this
theorem mv_few (d : Dia) (p : Pl) (c : Nat) {q : Pl} {as : List Act} (h : mv d p c = .go q as) : as.length ≤ 2 := by
  unfold mv at h
  split at h <;> (repeat' split at h) <;> cases h <;> simp
inductive WR where
  | fin (p : Pl) (w : Wk)
  | bad (i : Nat) (k : Str)
def walk (d : Dia) : List Nat → Nat → Pl → Wk → WR
  | [], _, p, w => .fin p w
  | c :: cs, i, p, w => match mv d p c with
    | .go q as => walk d cs (i + 1) q (w.acts as)
    | .quote => .bad i "quote"
    | .after => .bad i "after"
theorem wD_nil : wD [] = .str "" := by unfold wD; rw [mk_nil]
theorem rowD_nil : rowD [] = .tup [] := rfl
def WR.d : WR → D
  | .fin p w => .tup [.str p.s, .lst (w.rows.map rowD), rowD w.row, wD w.word]
  | .bad i k => .tup [.non, .int (i : Nat), .str k, .str ""]
/-- the state alone -/
def stA (d : Dia) : List Nat → Pl → Option Pl
  | [], p => some p
  | c :: cs, p => match mv d p c with
    | .go q _ => stA d cs q
    | _ => none
theorem walk_st (d : Dia) : ∀ (cs : List Nat) (i : Nat) (p : Pl) (w : Wk), (∃ q w', walk d cs i p w = .fin q w' ∧ stA d cs p = some q) ∨ (∃ j k, walk d cs i p w = .bad j k ∧ stA d cs p = none)
  | [], i, p, w => .inl ⟨p, w, rfl, rfl⟩
  | c :: cs, i, p, w => by
    unfold walk stA
    cases e : mv d p c with
    | go q as => exact walk_st d cs (i + 1) q (w.acts as)
    | quote => exact .inr ⟨i, _, rfl, rfl⟩
    | after => exact .inr ⟨i, _, rfl, rfl⟩
def oP : Option Pl → D
  | none => .non
  | some p => .str p.s
def wk0 : Wk := ⟨[], [], []⟩
end RD

set_option Elab.async false
set_option linter.all false
set_option maxRecDepth 100000
set_option maxHeartbeats 1000000
namespace CMA
open DS DS.Drw RD
open PySem (Str)
/-! ### a dialect's properties -/
theorem lk_set (x : D) : List.lookup ("settings" : Str) [(("settings" : Str), x)] = some x := by simp [List.lookup]
theorem pr_sep (d : Dia) : F_Dialect_separator [.sh d.o] = .ok (.sh (.str (chS d.sep))) [.no] := by
  simp [F_Dialect_separator, mkF_eq, b_Dialect_separator, Dia.o, Dia.t, Dia.l, lk_set]
theorem pr_ter (d : Dia) : F_Dialect_terminator [.sh d.o] = .ok (.sh (.str (chS d.ter))) [.no] := by
  simp [F_Dialect_terminator, mkF_eq, b_Dialect_terminator, Dia.o, Dia.t, Dia.l, lk_set]
theorem pr_quo (d : Dia) : F_Dialect_quote [.sh d.o] = .ok (.sh (oD d.quo)) [.no] := by
  simp [F_Dialect_quote, mkF_eq, b_Dialect_quote, Dia.o, Dia.t, Dia.l, lk_set]
theorem pr_esc (d : Dia) : F_Dialect_escape [.sh d.o] = .ok (.sh (oD d.esc)) [.no] := by
  simp [F_Dialect_escape, mkF_eq, b_Dialect_escape, Dia.o, Dia.t, Dia.l, lk_set]
theorem pr_dbl (d : Dia) : F_Dialect_doubled [.sh d.o] = .ok (.sh (.bl d.dbl)) [.no] := by
  simp [F_Dialect_doubled, mkF_eq, b_Dialect_doubled, Dia.o, Dia.t, Dia.l, lk_set]
theorem pr_pad (d : Dia) : F_Dialect_padded [.sh d.o] = .ok (.sh (.bl d.pad)) [.no] := by
  simp [F_Dialect_padded, mkF_eq, b_Dialect_padded, Dia.o, Dia.t, Dia.l, lk_set]
theorem pr_str (d : Dia) : F_Dialect_strict [.sh d.o] = .ok (.sh (.bl d.str)) [.no] := by
  simp [F_Dialect_strict, mkF_eq, b_Dialect_strict, Dia.o, Dia.t, Dia.l, lk_set]
/-- a property read -/
theorem prop_o {F : FS} {ρ : List Sl} {d : Dia} {z : D} (h : F [.sh d.o] = .ok (.sh z) [.no]) : propR F "Dialect" ρ d.o = .ok (.sh z) ρ := by
  unfold Dia.o at *
  simp [h]
theorem p_sep (d : Dia) (ρ : List Sl) : propR F_Dialect_separator "Dialect" ρ d.o = .ok (.sh (.str (chS d.sep))) ρ := prop_o (pr_sep d)
theorem p_ter (d : Dia) (ρ : List Sl) : propR F_Dialect_terminator "Dialect" ρ d.o = .ok (.sh (.str (chS d.ter))) ρ := prop_o (pr_ter d)
theorem p_quo (d : Dia) (ρ : List Sl) : propR F_Dialect_quote "Dialect" ρ d.o = .ok (.sh (oD d.quo)) ρ := prop_o (pr_quo d)
theorem p_esc (d : Dia) (ρ : List Sl) : propR F_Dialect_escape "Dialect" ρ d.o = .ok (.sh (oD d.esc)) ρ := prop_o (pr_esc d)
theorem p_dbl (d : Dia) (ρ : List Sl) : propR F_Dialect_doubled "Dialect" ρ d.o = .ok (.sh (.bl d.dbl)) ρ := prop_o (pr_dbl d)
theorem p_pad (d : Dia) (ρ : List Sl) : propR F_Dialect_padded "Dialect" ρ d.o = .ok (.sh (.bl d.pad)) ρ := prop_o (pr_pad d)
theorem p_str (d : Dia) (ρ : List Sl) : propR F_Dialect_strict "Dialect" ρ d.o = .ok (.sh (.bl d.str)) ρ := prop_o (pr_str d)
/-! ### a sign -/
theorem inq_run (d : Dia) (c : Nat) : F_in_quotes [.sh d.o, .sh (.str (chS c))] = .ok (.sh (mv d .quoted c).d) [.no, .no] := by
  have e := eq_o c d.quo
  have e2 := eq_o c d.esc
  by_cases h1 : some c = d.quo
  · rw [decide_eq_true h1] at e
    simp [F_in_quotes, mkF_eq, b_in_quotes, p_quo, p_esc, e, mv, if_pos h1, Mv.d, Pl.s]
  · rw [decide_eq_false h1] at e
    by_cases h2 : some c = d.esc
    · rw [decide_eq_true h2] at e2
      simp [F_in_quotes, mkF_eq, b_in_quotes, p_quo, p_esc, e, e2, mv, if_neg h1, if_pos h2, Mv.d, Pl.s]
    · rw [decide_eq_false h2] at e2
      simp [F_in_quotes, mkF_eq, b_in_quotes, p_quo, p_esc, e, e2, mv, if_neg h1, if_neg h2, Mv.d, Pl.s, Act.t]
theorem bhq_run (d : Dia) (c : Nat) (h1 : c ≠ d.sep) (h2 : c ≠ d.ter) : F_behind_quotes [.sh d.o, .sh (.str (chS c))] = .ok (.sh (mv d .closed c).d) [.no, .no] := by
  have e := eq_o c d.quo
  have e2 := eq_o c d.esc
  have m : mv d .closed c = (if some c = d.quo ∧ d.dbl = true then .go .quoted [.add c] else if d.str = true then .after else if some c = d.esc then .go .plainE [] else .go .plain [.add c]) := by
    simp [mv, h1, h2]
  rw [m]
  by_cases a1 : some c = d.quo
  · rw [decide_eq_true a1] at e
    cases hd : d.dbl with
    | true => rw [if_pos ⟨a1, rfl⟩]; simp [F_behind_quotes, mkF_eq, b_behind_quotes, p_quo, p_dbl, e, hd, Mv.d, Pl.s, Act.t]
    | false =>
      rw [if_neg (fun z => by cases z.2)]
      cases hs : d.str with
      | true => simp [F_behind_quotes, mkF_eq, b_behind_quotes, p_quo, p_dbl, p_str, e, hd, hs, Mv.d]
      | false =>
        by_cases a2 : some c = d.esc
        · rw [decide_eq_true a2] at e2
          simp [F_behind_quotes, mkF_eq, b_behind_quotes, p_quo, p_dbl, p_str, p_esc, e, e2, hd, hs, if_pos a2, Mv.d, Pl.s]
        · rw [decide_eq_false a2] at e2
          simp [F_behind_quotes, mkF_eq, b_behind_quotes, p_quo, p_dbl, p_str, p_esc, e, e2, hd, hs, if_neg a2, Mv.d, Pl.s, Act.t]
  · rw [decide_eq_false a1] at e
    rw [if_neg (fun z => a1 z.1)]
    cases hs : d.str with
    | true => simp [F_behind_quotes, mkF_eq, b_behind_quotes, p_quo, p_dbl, p_str, e, hs, Mv.d]
    | false =>
      by_cases a2 : some c = d.esc
      · rw [decide_eq_true a2] at e2
        simp [F_behind_quotes, mkF_eq, b_behind_quotes, p_quo, p_dbl, p_str, p_esc, e, e2, hs, if_pos a2, Mv.d, Pl.s]
      · rw [decide_eq_false a2] at e2
        simp [F_behind_quotes, mkF_eq, b_behind_quotes, p_quo, p_dbl, p_str, p_esc, e, e2, hs, if_neg a2, Mv.d, Pl.s, Act.t]
theorem moved_run (d : Dia) (p : Pl) (c : Nat) : F_moved [.sh d.o, .sh (.str p.s), .sh (.str (chS c))] = .ok (.sh (mv d p c).d) [.no, .no, .no] := by
  have q1 := eq_p1 p
  have q3 := eq_p3 p
  have q4 := eq_p4 p
  have q5 := eq_p5 p
  have q6 := eq_p6 p
  have q7 := eq_p7 p
  have e0 := eq_ch c d.sep
  have e1 := eq_ch c d.ter
  have e := eq_o c d.quo
  have e2 := eq_o c d.esc
  have e3 := eq_blank c
  cases p <;> simp only [decide_false, decide_true, reduceCtorEq] at q1 q3 q4 q5 q6 q7
  case plainE => simp [F_moved, mkF_eq, b_moved, q4, mv]; rfl
  case quotedE => simp [F_moved, mkF_eq, b_moved, q4, q6, mv]; rfl
  case quoted => simp [F_moved, mkF_eq, b_moved, q4, q6, q5, inq_run]
  all_goals
    by_cases h1 : c = d.sep
    · rw [decide_eq_true h1] at e0
      simp [F_moved, mkF_eq, b_moved, q4, q6, q5, p_sep, e0, mv, if_pos h1, g_FIELD]; rfl
    · rw [decide_eq_false h1] at e0
      by_cases h2 : c = d.ter
      · rw [decide_eq_true h2] at e1
        simp [F_moved, mkF_eq, b_moved, q1, q4, q6, q5, p_sep, p_ter, e0, e1, mv, if_neg h1, if_pos h2, g_FIELD, g_ROW]; rfl
      · rw [decide_eq_false h2] at e1
        first
        | simp [F_moved, mkF_eq, b_moved, q7, q4, q6, q5, p_sep, p_ter, e0, e1, bhq_run d c h1 h2]; done
        | by_cases a1 : some c = d.esc
          · rw [decide_eq_true a1] at e2
            simp [F_moved, mkF_eq, b_moved, q7, q4, q6, q5, p_sep, p_ter, p_esc, e0, e1, e2, mv, if_neg h1, if_neg h2, if_pos a1]; rfl
          · rw [decide_eq_false a1] at e2
            by_cases a2 : some c = d.quo
            · rw [decide_eq_true a2] at e
              cases hs : d.str <;> simp [F_moved, mkF_eq, b_moved, q7, q3, q4, q6, q5, p_sep, p_ter, p_esc, p_quo, p_str, e, e0, e1, e2, hs, mv, if_neg h1, if_neg h2, if_neg a1, if_pos a2] <;> rfl
            · rw [decide_eq_false a2] at e
              by_cases a3 : c = 32
              · rw [decide_eq_true a3] at e3
                cases hs : d.pad <;> simp [F_moved, mkF_eq, b_moved, q7, q3, q4, q6, q5, p_sep, p_ter, p_esc, p_quo, p_str, p_pad, e, e0, e1, e2, e3, hs, mv, if_neg h1, if_neg h2, if_neg a1, if_neg a2, if_pos a3, a2, g_BLANK] <;> rfl
              · rw [decide_eq_false a3] at e3
                simp [F_moved, mkF_eq, b_moved, q7, q3, q4, q6, q5, p_sep, p_ter, p_esc, p_quo, p_str, p_pad, e, e0, e1, e2, e3, mv, if_neg h1, if_neg h2, if_neg a1, if_neg a2, a3, a2, g_BLANK] <;> rfl
/-! ### the same by the laws' own reader -/
theorem in_esc (p : Pl) : fIn1 (.str p.s) (.tup [.str "plain_escaped", .str "quoted_escaped"]) = some (.bl (decide (p = .plainE ∨ p = .quotedE))) := by
  have f1 : (D.str p.s).flat = true := flat_str _
  have f2 : (D.tup [.str "plain_escaped", .str "quoted_escaped"]).flat = true := by decide
  simp only [fIn1, f1, f2, Bool.and_self, if_true, List.any_cons, List.any_nil, eqv_str, Bool.or_false]
  congr 2
  cases p <;> decide +kernel
theorem in_ff (p : Pl) : fIn1 (.str p.s) (.tup [.str "fresh", .str "field"]) = some (.bl (decide (p = .fresh ∨ p = .field))) := by
  have f1 : (D.str p.s).flat = true := flat_str _
  have f2 : (D.tup [.str "fresh", .str "field"]).flat = true := by decide
  simp only [fIn1, f1, f2, Bool.and_self, if_true, List.any_cons, List.any_nil, eqv_str, Bool.or_false]
  congr 2
  cases p <;> decide +kernel
theorem cut8 {p q : Pl} (h : L2.cutS p.s none (some (-8)) = q.s) : fSl (.str p.s) none (some (-8)) = some (.str q.s) := by
  have : p.s.length ≤ PySem.sizeLine := by cases p <;> decide +kernel
  simp only [fSl, if_pos this, h]
theorem cut8a : fSl (.str Pl.plainE.s) none (some (-8)) = some (.str Pl.plain.s) := cut8 (by decide +kernel)
theorem cut8b : fSl (.str Pl.quotedE.s) none (some (-8)) = some (.str Pl.quoted.s) := cut8 (by decide +kernel)
theorem lmoved_run (d : Dia) (p : Pl) (c : Nat) : F__law_moved [.sh d.t, .sh (.str p.s), .sh (.str (chS c))] = .ok (.sh (mv d p c).l) [.no, .no, .no] := by
  have q1 := eq_p1 p
  have q3 := eq_p3 p
  have q5 := eq_p5 p
  have q7 := eq_p7 p
  have q8 := in_esc p
  have q9 := in_ff p
  have e0 := eq_ch c d.sep
  have e1 := eq_ch c d.ter
  have e := eq_o c d.quo
  have e2 := eq_o c d.esc
  have e3 := eq_blank c
  have ng : fNeg (.int 8) = some (.int (-8)) := rfl
  cases p <;> simp only [decide_false, decide_true, reduceCtorEq, or_self, or_true, true_or] at q1 q3 q5 q7 q8 q9
  case plainE => simp [F__law_moved, mkF_eq, b__law_moved, Dia.t, Dia.l, q8, ng, cut8a, mv]; rfl
  case quotedE => simp [F__law_moved, mkF_eq, b__law_moved, Dia.t, Dia.l, q8, ng, cut8b, mv]; rfl
  case quoted =>
    by_cases a1 : some c = d.quo
    · rw [decide_eq_true a1] at e
      simp [F__law_moved, mkF_eq, b__law_moved, Dia.t, Dia.l, q8, q5, e, mv, if_pos a1]; rfl
    · rw [decide_eq_false a1] at e
      by_cases a2 : some c = d.esc
      · rw [decide_eq_true a2] at e2
        simp [F__law_moved, mkF_eq, b__law_moved, Dia.t, Dia.l, q8, q5, e, e2, mv, if_neg a1, if_pos a2]; rfl
      · rw [decide_eq_false a2] at e2
        simp [F__law_moved, mkF_eq, b__law_moved, Dia.t, Dia.l, q8, q5, e, e2, mv, if_neg a1, if_neg a2]; rfl
  all_goals
    by_cases h1 : c = d.sep
    · rw [decide_eq_true h1] at e0
      simp [F__law_moved, mkF_eq, b__law_moved, Dia.t, Dia.l, q8, q5, e0, mv, if_pos h1]; rfl
    · rw [decide_eq_false h1] at e0
      by_cases h2 : c = d.ter
      · rw [decide_eq_true h2] at e1
        simp [F__law_moved, mkF_eq, b__law_moved, Dia.t, Dia.l, q1, q8, q5, e0, e1, mv, if_neg h1, if_pos h2]; rfl
      · rw [decide_eq_false h2] at e1
        by_cases a1 : some c = d.esc
        · rw [decide_eq_true a1] at e2
          by_cases a2 : some c = d.quo
          · rw [decide_eq_true a2] at e
            cases hs : d.str <;> cases hd : d.dbl <;> simp [F__law_moved, mkF_eq, b__law_moved, Dia.t, Dia.l, q1, q3, q7, q8, q9, q5, e0, e1, e, e2, mv, if_neg h1, if_neg h2, if_pos a1, if_pos a2, hs, hd] <;> rfl
          · rw [decide_eq_false a2] at e
            cases hs : d.str <;> simp [F__law_moved, mkF_eq, b__law_moved, Dia.t, Dia.l, q1, q3, q7, q8, q9, q5, e0, e1, e, e2, mv, if_neg h1, if_neg h2, if_pos a1, if_neg a2, a2, hs] <;> rfl
        · rw [decide_eq_false a1] at e2
          by_cases a2 : some c = d.quo
          · rw [decide_eq_true a2] at e
            cases hs : d.str <;> cases hd : d.dbl <;> simp [F__law_moved, mkF_eq, b__law_moved, Dia.t, Dia.l, q1, q3, q7, q8, q9, q5, e0, e1, e, e2, mv, if_neg h1, if_neg h2, if_neg a1, if_pos a2, hs, hd] <;> rfl
          · rw [decide_eq_false a2] at e
            by_cases a3 : c = 32
            · rw [decide_eq_true a3] at e3
              cases hp : d.pad <;> cases hs : d.str <;> simp [F__law_moved, mkF_eq, b__law_moved, Dia.t, Dia.l, q1, q3, q7, q8, q9, q5, e0, e1, e, e2, e3, mv, if_neg h1, if_neg h2, if_neg a1, if_neg a2, if_pos a3, a2, hs, hp] <;> rfl
            · rw [decide_eq_false a3] at e3
              cases hs : d.str <;> simp [F__law_moved, mkF_eq, b__law_moved, Dia.t, Dia.l, q1, q3, q7, q8, q9, q5, e0, e1, e, e2, e3, mv, if_neg h1, if_neg h2, if_neg a1, if_neg a2, a2, a3, hs] <;> rfl
end CMA

set_option Elab.async false
set_option linter.all false
set_option maxRecDepth 100000
set_option maxHeartbeats 1000000
namespace CMA
open DS DS.Drw RD
open PySem (Str)
/-- a slot that holds a list, one's own or not -/
def HL (s : Sl) (ds : List D) : Prop := s = .sh (.lst ds) ∨ ∃ t, s = .ow t (.lst ds)
theorem eq_add : fEq (.str "add") (.str "add") = some (.bl true) := by rw [eq_str]; simp
theorem eq_fa : fEq (.str "field") (.str "add") = some (.bl false) := by rw [eq_str, show (("field" : Str) == "add") = false by decide +kernel]
theorem eq_ra : fEq (.str "row") (.str "add") = some (.bl false) := by rw [eq_str, show (("row" : Str) == "add") = false by decide +kernel]
theorem eq_ff : fEq (.str "field") (.str "field") = some (.bl true) := by rw [eq_str]; simp
theorem eq_rf : fEq (.str "row") (.str "field") = some (.bl false) := by rw [eq_str, show (("row" : Str) == "field") = false by decide +kernel]
theorem rows_add {rs : List (List (List Nat))} {r : List (List Nat)} (h : rs.length ≤ 1000000) : fAdd (.lst (rs.map rowD)) (.lst [rowD r]) = some (.lst ((rs ++ [r]).map rowD)) := by
  simp only [fAdd]
  rw [if_pos (by rw [big1]; simp; omega)]
  simp
theorem row_add {r : List (List Nat)} {w : List Nat} (h : r.length ≤ 1000000) : fAdd (rowD r) (.tup [wD w]) = some (rowD (r ++ [w])) := by
  unfold rowD
  simp only [fAdd]
  rw [if_pos (by rw [big1]; simp; omega)]
  simp
theorem lact_run {t x pl r i c ds : Sl} {w : Wk} {n : Nat} (a : Act) (h : w.Sz n) (hn : n ≤ 1000000) (hr : HL r (w.rows.map rowD)) : ∃ r', l1__law_walk [t, x, pl, r, .sh (rowD w.row), .sh (wD w.word), i, c, ds, .sh a.t] = .nx [t, x, pl, r', .sh (rowD (w.act a).row), .sh (wD (w.act a).word), i, c, ds, .sh a.t] ∧ HL r' ((w.act a).rows.map rowD) := by
  obtain ⟨h1, h2, h3⟩ := h
  cases a with
  | add c' =>
    have e := add_wc (a := w.word) (c := c') (by omega)
    refine ⟨r, ?_, hr⟩
    simp [l1__law_walk, Act.t, eq_add, e, Wk.act]
  | field =>
    have e := row_add (r := w.row) (w := w.word) (by omega)
    refine ⟨r, ?_, hr⟩
    simp [l1__law_walk, Act.t, eq_fa, eq_ff, e, Wk.act, wD_nil]
  | row =>
    have e := rows_add (rs := w.rows) (r := w.row) (by omega)
    rcases hr with rfl | ⟨tt, rfl⟩
    · exact ⟨.sh (.lst ((w.rows ++ [w.row]).map rowD)), by simp [l1__law_walk, Act.t, eq_ra, eq_rf, e, Wk.act, rowD_nil], .inl rfl⟩
    · exact ⟨.sh (.lst ((w.rows ++ [w.row]).map rowD)), by simp [l1__law_walk, Act.t, eq_ra, eq_rf, e, Wk.act, rowD_nil], .inl rfl⟩
theorem lacts_run {t x pl i c ds : Sl} : ∀ (as : List Act) {r : Sl} {w : Wk} {n : Nat}, w.Sz n → n + as.length ≤ 1000000 → HL r (w.rows.map rowD) → ∃ r', sEach (gN 9) l1__law_walk [9] (as.map Act.t) [t, x, pl, r, .sh (rowD w.row), .sh (wD w.word), i, c, ds, .no] = .nx [t, x, pl, r', .sh (rowD (w.acts as).row), .sh (wD (w.acts as).word), i, c, ds, .no] ∧ HL r' ((w.acts as).rows.map rowD)
  | [], r, w, n, _, _, hr => ⟨r, by rw [List.map_nil, sEach_nil]; rfl, hr⟩
  | a :: as, r, w, n, h, hn, hr => by
    simp only [List.length_cons] at hn
    obtain ⟨r1, e1, hr1⟩ := lact_run (t := t) (x := x) (pl := pl) (i := i) (c := c) (ds := ds) a h (by omega) hr
    obtain ⟨r2, e2, hr2⟩ := lacts_run (t := t) (x := x) (pl := pl) (i := i) (c := c) (ds := ds) as (h.act a) (by omega) hr1
    refine ⟨r2, ?_, hr2⟩
    rw [List.map_cons, sEach_nx (ρ1 := [t, x, pl, r, .sh (rowD w.row), .sh (wD w.word), i, c, ds, .sh a.t]) rfl e1]
    exact e2
/-- one sign -/
theorem lwalk_step {x dd : Sl} {r : Sl} {w : Wk} {n i : Nat} (d : Dia) (p : Pl) (c : Nat) (h : w.Sz n) (hn : n + 2 ≤ 1000000) (hr : HL r (w.rows.map rowD)) :
    match mv d p c with
    | .go q as => ∃ r' dd', l2__law_walk [.sh d.t, x, .sh (.str p.s), r, .sh (rowD w.row), .sh (wD w.word), .sh (.int i), .sh (chD c), dd, .no] = .nx [.sh d.t, x, .sh (.str q.s), r', .sh (rowD (w.acts as).row), .sh (wD (w.acts as).word), .sh (.int i), .sh (chD c), dd', .no] ∧ HL r' ((w.acts as).rows.map rowD)
    | .quote => ∃ ρ, l2__law_walk [.sh d.t, x, .sh (.str p.s), r, .sh (rowD w.row), .sh (wD w.word), .sh (.int i), .sh (chD c), dd, .no] = .rt (.sh (.tup [.non, .int i, .str "quote", .str ""])) (.sh d.t :: x :: ρ)
    | .after => ∃ ρ, l2__law_walk [.sh d.t, x, .sh (.str p.s), r, .sh (rowD w.row), .sh (wD w.word), .sh (.int i), .sh (chD c), dd, .no] = .rt (.sh (.tup [.non, .int i, .str "after", .str ""])) (.sh d.t :: x :: ρ) := by
  have m := lmoved_run d p c
  have nn : fIsN .non .non = some (.bl true) := rfl
  have nl : ∀ l, fIsN (.lst l) .non = some (.bl false) := fun _ => rfl
  cases e : mv d p c with
  | go q as =>
    rw [e] at m
    have l2 := mv_few d p c e
    obtain ⟨r', e1, hr'⟩ := lacts_run (t := .sh d.t) (x := x) (pl := .sh (.str q.s)) (i := .sh (.int i)) (c := .sh (chD c)) (ds := .sh (.lst (as.map Act.t))) as (r := r) h (by omega) hr
    refine ⟨r', .sh (.lst (as.map Act.t)), ?_, hr'⟩
    unfold chD at *
    simp [l2__law_walk, m, Mv.l, nl]
    exact e1
  | quote =>
    rw [e] at m
    refine ⟨?_, ?_⟩
    rotate_left
    · unfold chD at *
      simp [l2__law_walk, m, Mv.l, nn]
      rfl
  | after =>
    rw [e] at m
    refine ⟨?_, ?_⟩
    rotate_left
    · unfold chD at *
      simp [l2__law_walk, m, Mv.l, nn]
      rfl
theorem lwalk_loop {x : Sl} (d : Dia) : ∀ (cs : List Nat) (i n : Nat) (p : Pl) (w : Wk) (r dd : Sl), w.Sz n → n + 2 * cs.length ≤ 100000 → HL r (w.rows.map rowD) →
    match walk d cs i p w with
    | .fin q w' => ∃ r', sEach g1__law_walk l2__law_walk [6, 7, 8, 9] (pairs0 i (cs.map chD)) [.sh d.t, x, .sh (.str p.s), r, .sh (rowD w.row), .sh (wD w.word), .no, .no, .no, .no] = .nx [.sh d.t, x, .sh (.str q.s), r', .sh (rowD w'.row), .sh (wD w'.word), .no, .no, .no, .no] ∧ HL r' (w'.rows.map rowD)
    | .bad j k => ∃ ρ, sEach g1__law_walk l2__law_walk [6, 7, 8, 9] (pairs0 i (cs.map chD)) [.sh d.t, x, .sh (.str p.s), r, .sh (rowD w.row), .sh (wD w.word), .no, .no, .no, .no] = .rt (.sh (WR.bad j k).d) (.sh d.t :: x :: ρ)
  | [], i, n, p, w, r, dd, _, _, hr => by
    simp only [walk]
    exact ⟨r, by rw [List.map_nil, pairs0, sEach_nil]; rfl, hr⟩
  | c :: cs, i, n, p, w, r, dd, h, hn, hr => by
    simp only [List.length_cons] at hn
    have s := lwalk_step (x := x) (dd := .no) (i := i) d p c h (by omega) hr
    have g : g1__law_walk (.tup [.int (i : Nat), chD c]) [.sh d.t, x, .sh (.str p.s), r, .sh (rowD w.row), .sh (wD w.word), .no, .no, .no, .no] = some [.sh d.t, x, .sh (.str p.s), r, .sh (rowD w.row), .sh (wD w.word), .sh (.int i), .sh (chD c), .no, .no] := by simp [g1__law_walk]
    cases e : mv d p c with
    | go q as =>
      rw [e] at s
      obtain ⟨r1, dd1, e1, hr1⟩ := s
      have l2 := mv_few d p c e
      have ih := lwalk_loop (x := x) d cs (i + 1) (n + as.length) q (w.acts as) r1 .no h.acts (by omega) hr1
      simp only [walk, e]
      rw [List.map_cons, pairs0, sEach_nx g e1]
      exact ih
    | quote =>
      rw [e] at s
      obtain ⟨ρ, e1⟩ := s
      simp only [walk, e]
      rw [List.map_cons, pairs0, sEach_rt g e1]
      exact ⟨_, rfl⟩
    | after =>
      rw [e] at s
      obtain ⟨ρ, e1⟩ := s
      simp only [walk, e]
      rw [List.map_cons, pairs0, sEach_rt g e1]
      exact ⟨_, rfl⟩
theorem lwalk_run (d : Dia) (cs : List Nat) (h : cs.length ≤ 40000) : F__law_walk [.sh d.t, .sh (wD cs)] = .ok (.sh (walk d cs 0 .fresh wk0).d) [.no, .no] := by
  have L := lwalk_loop (x := .sh (wD cs)) d cs 0 0 .fresh wk0 (.ow none (.lst [])) .no ⟨Nat.le_refl _, Nat.le_refl _, Nat.le_refl _⟩ (by omega) (.inr ⟨none, rfl⟩)
  have q0 : wk0.row = [] := rfl
  have q1 : wk0.word = [] := rfl
  have pf : Pl.fresh.s = ("fresh" : Str) := rfl
  rw [q0, q1, rowD_nil, wD_nil, pf] at L
  cases e : walk d cs 0 .fresh wk0 with
  | fin q w' =>
    rw [e] at L
    obtain ⟨r', e1, hr⟩ := L
    rcases hr with rfl | ⟨t, rfl⟩ <;> (simp [F__law_walk, mkF_eq, b__law_walk, x_itw, e1]; rfl)
  | bad j k =>
    rw [e] at L
    obtain ⟨ρ, e1⟩ := L
    simp [F__law_walk, mkF_eq, b__law_walk, x_itw, e1]
end CMA

set_option Elab.async false
set_option linter.all false
set_option maxRecDepth 100000
set_option maxHeartbeats 1000000
namespace RD
open DS DS.Drw
open PySem (Str)
/-! ### lists of signs -/
theorem purL_ch : ∀ cs : List Nat, purL (cs.map chD) = true
  | [] => rfl
  | c :: cs => by simp only [List.map_cons, purL, purL_ch cs]; rfl
theorem depL_ch : ∀ cs : List Nat, depL (cs.map chD) = 0
  | [] => rfl
  | c :: cs => by simp only [List.map_cons, depL, depL_ch cs]; rfl
theorem flat_chs (cs : List Nat) : (D.lst (cs.map chD)).flat = true := by simp [D.flat, D.pur, D.dep, purL_ch, depL_ch]
theorem flat_cht (cs : List Nat) : (D.tup (cs.map chD)).flat = true := by simp [D.flat, D.pur, D.dep, purL_ch, depL_ch]
theorem eqv_ch (a b : Nat) : (chD a).eqv (chD b) = decide (a = b) := by
  unfold chD
  rw [eqv_str, chS_eq]; rfl
theorem any_ch (c : Nat) : ∀ cs : List Nat, ((cs.map chD).any fun z => z.eqv (chD c)) = cs.contains c
  | [] => rfl
  | e :: cs => by
    simp only [List.map_cons, List.any_cons, any_ch c cs, eqv_ch, List.contains_cons]
    congr 1
    by_cases h : e = c
    · subst h; simp
    · rw [decide_eq_false h]; exact (beq_eq_false_iff_ne.mpr fun z => h z.symm).symm
theorem flat_ch (c : Nat) : (chD c).flat = true := flat_str _
theorem in_chs (c : Nat) (cs : List Nat) : fIn1 (chD c) (.lst (cs.map chD)) = some (.bl (cs.contains c)) := by
  simp only [fIn1, flat_ch, flat_chs, Bool.and_self, if_true, any_ch]
theorem notin_chs (c : Nat) (cs : List Nat) : fNotIn1 (chD c) (.lst (cs.map chD)) = some (.bl (!cs.contains c)) := by
  simp only [fNotIn1, flat_ch, flat_chs, Bool.and_self, if_true, any_ch]
/-! ### draws by numbers -/
theorem takeN {n : Nat} {s : Dw} {t : Option Nat} (k : Int) (h : DwOk (n + 1) s) (hk : 0 < k) (hk2 : k < 1073741824) :
    ∃ (r : Nat) (s' : Dw), (r : Int) < k ∧ DwOk n s' ∧ F__law_take [.rs t s, .sh (.int k)] = .ok (.sh (.int r)) [.rs none s', .no] := by
  obtain ⟨r, s', a, b, c, e⟩ := take_run (t := t) (k := k) h (by omega) (by omega)
  obtain ⟨m, rfl⟩ : ∃ m : Nat, r = (m : Int) := ⟨r.toNat, by omega⟩
  exact ⟨m, s', b, c, e⟩
theorem eq0 (r : Nat) : fEq (.int (r : Int)) (.int 0) = some (.bl (decide (r = 0))) := by
  have : ((r : Int) == 0) = decide (r = 0) := by
    by_cases h : r = 0
    · subst h; rfl
    · rw [decide_eq_false h]; exact beq_eq_false_iff_ne.mpr (by omega)
  simp [fEq, flat_int, eqv_int, this]
theorem gt0 (r : Nat) : fGt (.int (r : Int)) (.int 0) = some (.bl (decide (0 < r))) := by
  have : decide ((r : Int) > 0) = decide (0 < r) := by
    congr 1
    simp
  simp [fGt]
theorem pickC {n : Nat} {s : Dw} {t : Option Nat} {cs : List Nat} (h : DwOk (n + 1) s) (h0 : cs ≠ []) (hl : cs.length < 1000000) :
    ∃ c s', c ∈ cs ∧ DwOk n s' ∧ F__law_pick [.rs t s, .sh (.lst (cs.map chD))] = .ok (.sh (chD c)) [.rs none s', .no] := by
  obtain ⟨e, s', a, b, z⟩ := pick_run (t := t) (d := .lst (cs.map chD)) (ds := cs.map chD) h rfl (by simpa using h0) (by simpa using hl)
  obtain ⟨c, hc, rfl⟩ := List.mem_map.mp a
  exact ⟨c, s', hc, b, z⟩
theorem range1N {k : Nat} (h : k ≤ 1000000) : fRange1 [.int (k : Nat)] = some ((List.range k).map fun i => D.int (0 + (i : Nat))) := by
  have : small62 (k : Int) = true := by simp [small62]; omega
  simp only [fRange1, this, if_true, Int.toNat_natCast]
/-! ### dialects that are drawn -/
def menu13 : List Nat := [44, 10, 34, 92, 9, 59, 39, 32, 124, 97, 55, 33, 126]
def alphaL : List Nat := (("\t\n !\"#$&'()*+,-./0123456789:;<=>?@ABCDEFGHIJKLMNOPQRSTUVWXYZ[\\]^_`abcdefghijklmnopqrstuvwxyz{|}~" : Str)).cps.toList
theorem menu_al {c : Nat} (h : c ∈ menu13) : c ∈ alphaL := by
  have : ∀ c ∈ menu13, c ∈ alphaL := by decide +kernel
  exact this c h
/-- the signs are among the usual ones -/
def Dia.In13 (d : Dia) : Prop := d.sep ∈ menu13 ∧ d.ter ∈ menu13 ∧ (∀ c, d.quo = some c → c ∈ menu13) ∧ ∀ c, d.esc = some c → c ∈ menu13
structure Dia.Ok (d : Dia) : Prop where
  sep : d.sep ∈ alphaL
  ter : d.ter ∈ alphaL
  quo : ∀ c, d.quo = some c → c ∈ alphaL
  esc : ∀ c, d.esc = some c → c ∈ alphaL
  st : d.sep ≠ d.ter
  sq : d.quo ≠ some d.sep
  tq : d.quo ≠ some d.ter
  se : d.esc ≠ some d.sep
  te : d.esc ≠ some d.ter
  qe : ∀ c, d.quo = some c → d.esc ≠ some c
  db : d.dbl = true → d.quo ≠ none
  pd : d.pad = true → d.sep ≠ 32 ∧ d.ter ≠ 32 ∧ d.quo ≠ some 32 ∧ d.esc ≠ some 32
theorem isi_ty {d : D} {cs : List String} {s : String} {b : Bool} (h : d.tyS = some s) (hs : kitAnyB s cs = some b) : fIsi cs d = some (.bl b) := by
  simp [fIsi, h, hs]
theorem isiS_str (x : Str) : fIsi ["str"] (.str x) = some (.bl true) := isi_ty rfl (by decide +kernel)
theorem isiS_tup (ds : List D) : fIsi ["str"] (.tup ds) = some (.bl false) := isi_ty rfl (by decide +kernel)
theorem isiS_lst (ds : List D) : fIsi ["str"] (.lst ds) = some (.bl false) := isi_ty rfl (by decide +kernel)
theorem isiS_int (i : Int) : fIsi ["str"] (.int i) = some (.bl false) := isi_ty rfl (by decide +kernel)
theorem isiS_bl (i : Bool) : fIsi ["str"] (.bl i) = some (.bl false) := isi_ty rfl (by decide +kernel)
theorem isiS_non : fIsi ["str"] .non = some (.bl false) := isi_ty rfl (by decide +kernel)
theorem isiS_dct (ks : List (D × D)) : fIsi ["str"] (.dct ks) = some (.bl false) := isi_ty rfl (by decide +kernel)
theorem isiB_bl (i : Bool) : fIsi ["bool"] (.bl i) = some (.bl true) := isi_ty rfl (by decide +kernel)
end RD
namespace CMA
open DS DS.Drw RD
open PySem (Str)
/-! ### the state behind a text -/
theorem sa_loop {x : Sl} (d : Dia) : ∀ (cs : List Nat) (p : Pl),
    match stA d cs p with
    | some q => sEach (gN 3) l1_state_after [3, 4] (cs.map chD) [.sh d.o, x, .sh (.str p.s), .no, .no] = .nx [.sh d.o, x, .sh (.str q.s), .no, .no]
    | none => ∃ a b c, sEach (gN 3) l1_state_after [3, 4] (cs.map chD) [.sh d.o, x, .sh (.str p.s), .no, .no] = .rt (.sh .non) [.sh d.o, x, a, b, c]
  | [], p => by simp only [stA]; rw [List.map_nil, sEach_nil]; rfl
  | c :: cs, p => by
    have m := moved_run d p c
    simp only [stA]
    cases e : mv d p c with
    | go q as =>
      rw [e] at m
      have ih := sa_loop (x := x) d cs q
      have s : l1_state_after [.sh d.o, x, .sh (.str p.s), .sh (chD c), .no] = .nx [.sh d.o, x, .sh (.str q.s), .sh (chD c), .sh (Mv.go q as).d] := by
        unfold chD
        simp [l1_state_after, m, Mv.d, isiS_tup]
      rw [List.map_cons, sEach_nx (ρ1 := [.sh d.o, x, .sh (.str p.s), .sh (chD c), .no]) rfl s]
      exact ih
    | quote =>
      rw [e] at m
      have s : l1_state_after [.sh d.o, x, .sh (.str p.s), .sh (chD c), .no] = .rt (.sh .non) [.sh d.o, x, .sh (.str p.s), .sh (chD c), .sh (.str "quote")] := by
        unfold chD
        simp [l1_state_after, m, Mv.d, isiS_str]
      rw [List.map_cons, sEach_rt (ρ1 := [.sh d.o, x, .sh (.str p.s), .sh (chD c), .no]) rfl s]
      exact ⟨_, _, _, rfl⟩
    | after =>
      rw [e] at m
      have s : l1_state_after [.sh d.o, x, .sh (.str p.s), .sh (chD c), .no] = .rt (.sh .non) [.sh d.o, x, .sh (.str p.s), .sh (chD c), .sh (.str "after")] := by
        unfold chD
        simp [l1_state_after, m, Mv.d, isiS_str]
      rw [List.map_cons, sEach_rt (ρ1 := [.sh d.o, x, .sh (.str p.s), .sh (chD c), .no]) rfl s]
      exact ⟨_, _, _, rfl⟩
theorem sa_run (d : Dia) (cs : List Nat) : F_state_after [.sh d.o, .sh (wD cs)] = .ok (.sh (oP (stA d cs .fresh))) [.no, .no] := by
  have L := sa_loop (x := .sh (wD cs)) d cs .fresh
  rw [show Pl.fresh.s = ("fresh" : Str) from rfl] at L
  cases e : stA d cs .fresh with
  | some q =>
    rw [e] at L
    simp [F_state_after, mkF_eq, b_state_after, x_itw, L, oP]
  | none =>
    rw [e] at L
    obtain ⟨a, b, c, L⟩ := L
    simp [F_state_after, mkF_eq, b_state_after, x_itw, L, oP]
/-! ### texts -/
def Al (cs : List Nat) : Prop := ∀ c ∈ cs, c ∈ alphaL
theorem in_alpha {c : Nat} (h : c ∈ alphaL) : fIn1 (.str (chS c)) g_ALPHABET = some (.bl true) := by
  have := sIn_ch c ("\t\n !\"#$&'()*+,-./0123456789:;<=>?@ABCDEFGHIJKLMNOPQRSTUVWXYZ[\\]^_`abcdefghijklmnopqrstuvwxyz{|}~" : Str)
  unfold alphaL at h
  rw [decide_eq_true h] at this
  simp [fIn1, g_ALPHABET, this]
theorem all_true : ∀ (l : List Nat), fAll (.lst (l.map (fun _ => D.bl true))) = some (.bl true) := by
  intro l
  induction l with
  | nil => rfl
  | cons d l ih =>
    simp only [fAll, List.map_cons, asBs] at ih ⊢
    cases e : asBs (l.map fun _ => D.bl true) with
    | none => rw [e] at ih; cases ih
    | some bs => rw [e] at ih; simp at ih ⊢; exact ih
theorem len_w {cs : List Nat} (h : cs.length ≤ 1000000) : fLen (wD cs) = some (.int (cs.length : Nat)) := by
  unfold wD
  simp only [fLen, mk_len]
  rw [if_pos (by rw [big1]; omega)]
theorem istext_run {cs : List Nat} (h : cs.length ≤ 4000) (ha : Al cs) : F_is_text [.sh (wD cs)] = .ok (.sh (.bl true)) [.no] := by
  have e1 := len_w (cs := cs) (by omega)
  have e2 : fLe (.int (cs.length : Nat)) (.int 4000) = some (.bl true) := by simp only [fLe]; rw [decide_eq_true (by omega)]
  have e0 : fIsi ["str"] (wD cs) = some (.bl true) := isiS_str _
  have r : lcRun (gN 1) (ret true) e1_is_text [1] (cs.map chD) [] [.sh (wD cs), .no] = some (cs.map (fun _ => D.bl true), [.sh (wD cs), .no]) := by
    have := lcRun_pure (g := gN 1) (tt := ret true) (te := e1_is_text) (own := [1]) (ρ := [.sh (wD cs), .no]) (fun _ => true) (fun _ => D.bl true) (cs.map chD) [] (fun d hd => by
      obtain ⟨c, hc, rfl⟩ := List.mem_map.mp hd
      have a := in_alpha (ha c hc)
      refine ⟨_, _, rfl, rfl, (fun z => nomatch z), fun _ => ⟨[.sh (wD cs), .sh (chD c)], ?_, rfl⟩⟩
      unfold chD
      simp [e1_is_text, a]) (by simp; omega)
    rw [this]
    simp [List.filter_eq_self.mpr, Function.comp_def]
  have e3 := all_true cs
  simp [F_is_text, mkF_eq, b_is_text, e0, e1, e2, g_MOST_SIGNS, x_itw, r, e3]
theorem need_run {cs : List Nat} (h : cs.length ≤ 4000) (ha : Al cs) : F_need_text [.sh (wD cs)] = .ok (.sh .non) [.no] := by
  simp [F_need_text, mkF_eq, b_need_text, istext_run h ha]
/-- a value that is no text -/
theorem istext_odd {d : D} (h : fIsi ["str"] d = some (.bl false)) : F_is_text [.sh d] = .ok (.sh (.bl false)) [.no] := by
  simp [F_is_text, mkF_eq, b_is_text, h]
theorem need_odd {d : D} (h : fIsi ["str"] d = some (.bl false)) : F_need_text [.sh d] = .ex ⟨"BadText", []⟩ [.no] := by
  simp [F_need_text, mkF_eq, b_need_text, istext_odd h]
end CMA

set_option Elab.async false
set_option linter.all false
set_option maxRecDepth 100000
set_option maxHeartbeats 1000000
namespace CMA
open DS DS.Drw RD
open PySem (Str)
/-! ### the signs of a dialect, drawn -/
def M13 : D := .lst (menu13.map chD)
theorem m13 : D.lst [.str (",":Str), .str ("\n":Str), .str ("\"":Str), .str ("\\":Str), .str ("\t":Str), .str (";":Str), .str ("'":Str), .str (" ":Str), .str ("|":Str), .str ("a":Str), .str ("7":Str), .str ("!":Str), .str ("~":Str)] = M13 := by
  have h : ∀ c : Nat, ∀ y : Str, chS c = y → D.str y = chD c := fun c y e => by rw [← e]; rfl
  simp only [M13, menu13, List.map_cons, List.map_nil]
  rw [h 44 "," (by decide +kernel), h 10 "\n" (by decide +kernel), h 34 "\"" (by decide +kernel), h 92 "\\" (by decide +kernel), h 9 "\t" (by decide +kernel), h 59 ";" (by decide +kernel), h 39 "'" (by decide +kernel), h 32 " " (by decide +kernel), h 124 "|" (by decide +kernel), h 97 "a" (by decide +kernel), h 55 "7" (by decide +kernel), h 33 "!" (by decide +kernel), h 126 "~" (by decide +kernel)]
def left (f : List Nat) : List Nat := menu13.filter fun c => !f.contains c
theorem filter_map_ch (p : Nat → Bool) (q : D → Bool) (h : ∀ c, q (chD c) = p c) : ∀ cs : List Nat, ((cs.map chD).filter q).map id = (cs.filter p).map chD
  | [] => rfl
  | c :: cs => by
    have ih := filter_map_ch p q h cs
    simp only [List.map_cons, List.filter_cons, h]
    cases p c <;> simp_all
theorem left_run {a b d e : Sl} {x5 : Sl} {f : List Nat} (hx : x5 = .no) : lcRun (gN 6) t1__law_signs_of (dVar 6) [6] (menu13.map chD) [] [a, b, .sh M13, .ow none (.lst (f.map chD)), d, x5, .no] = some ((left f).map chD, [a, b, .sh M13, .ow none (.lst (f.map chD)), d, x5, .no]) := by
  let q : D → Bool := fun z => match z with
    | .str y => !f.contains (y.cps.toList.headD 0)
    | _ => false
  have hq : ∀ c, q (chD c) = !f.contains c := fun c => rfl
  have := lcRun_pure (g := gN 6) (tt := t1__law_signs_of) (te := dVar 6) (own := [6]) (ρ := [a, b, .sh M13, .ow none (.lst (f.map chD)), d, x5, .no]) q id (menu13.map chD) [] (fun z hz => by
    obtain ⟨c, hc, rfl⟩ := List.mem_map.mp hz
    have n := notin_chs c f
    refine ⟨[a, b, .sh M13, .ow none (.lst (f.map chD)), d, x5, .sh (chD c)], [a, b, .sh M13, .ow none (.lst (f.map chD)), d, x5, .sh (chD c)], rfl, ?_, fun _ => rfl, fun _ => ⟨_, rfl, rfl⟩⟩
    rw [hq]
    simp [t1__law_signs_of, n]) (by decide)
  rw [this, filter_map_ch (fun c => !f.contains c) q hq]
  rfl
theorem left_len (f : List Nat) (hf : f.length ≤ 3) : left f ≠ [] := by
  intro h
  have h2 : ∀ c ∈ menu13, c ∈ f := by
    intro c hc
    have : c ∉ left f := by rw [h]; simp
    simp only [left, List.mem_filter, not_and, Bool.not_eq_true, Bool.not_eq_false', List.contains_iff_mem] at this
    simpa using this hc
  have a1 := h2 44 (by decide)
  have a2 := h2 10 (by decide)
  have a3 := h2 34 (by decide)
  have a4 := h2 92 (by decide)
  match f, hf, a1, a2, a3, a4 with
  | [], _, a1, _, _, _ => simp at a1
  | [a], _, a1, a2, a3, a4 => simp only [List.mem_cons, List.not_mem_nil, or_false] at a1 a2; omega
  | [a, b], _, a1, a2, a3, a4 => simp only [List.mem_cons, List.not_mem_nil, or_false] at a1 a2 a3 a4; omega
  | [a, b, c], _, a1, a2, a3, a4 => simp only [List.mem_cons, List.not_mem_nil, or_false] at a1 a2 a3 a4; omega
  | a :: b :: c :: e :: r, hf, _, _, _, _ => simp at hf
theorem left_mem {f : List Nat} {c : Nat} (h : c ∈ left f) : c ∈ menu13 ∧ c ∉ f := by
  simp only [left, List.mem_filter] at h
  refine ⟨h.1, fun z => ?_⟩
  have := h.2
  rw [List.contains_iff_mem.mpr z] at this
  cases this
theorem left_few (f : List Nat) : (left f).length < 1000000 := by
  have : (left f).length ≤ menu13.length := List.length_filter_le _ _
  have e : menu13.length = 13 := rfl
  omega
/-- one sign more -/
theorem so_turn {n : Nat} {s : Dw} {b t x2 : Sl} {f : List Nat} (h : DwOk (n + 2) s) (hf : f.length ≤ 3) (h2 : x2 = .sh M13 ∨ x2 = .ow none M13) :
    ∃ c s' x5, c ∈ menu13 ∧ c ∉ f ∧ DwOk n s' ∧ l1__law_signs_of [.rs (some 0) s, b, x2, .ow none (.lst (f.map chD)), t, .no, .no] = .nx [.rs (some 0) s', b, .sh M13, .ow none (.lst ((f ++ [c]).map chD)), t, x5, .no] := by
  obtain ⟨r, s1, hr, d1, e1⟩ := takeN (n := n + 1) (t := some 0) 2 h (by omega) (by omega)
  have hz : f.length < PySem.sizeLine := by rw [big1]; omega
  have L := left_run (a := .rs (some 0) s) (b := b) (d := t) (e := .no) (x5 := .no) (f := f) rfl
  have Lm : (M13).items = some (menu13.map chD) := rfl
  by_cases h0 : r = 0
  · obtain ⟨c, rest, hl⟩ := List.exists_cons_of_ne_nil (left_len f hf)
    have hc := left_mem (f := f) (c := c) (by rw [hl]; simp)
    have q := eq0 r
    rw [decide_eq_true h0] at q
    refine ⟨c, s1, .ow none (.lst ((left f).map chD)), hc.1, hc.2, d1.le (by omega), ?_⟩
    rw [hl] at L ⊢
    rcases h2 with rfl | rfl <;> simp [l1__law_signs_of, Lm, L, e1, q, hz]
  · have q := eq0 r
    rw [decide_eq_false h0] at q
    obtain ⟨c, s2, hc, d2, e2⟩ := pickC (n := n) (t := some 0) (cs := left f) d1 (left_len f hf) (left_few f)
    have hm := left_mem hc
    refine ⟨c, s2, .sh (.lst ((left f).map chD)), hm.1, hm.2, d2, ?_⟩
    rcases h2 with rfl | rfl <;> simp [l1__law_signs_of, Lm, L, e1, e2, q, hz]
theorem so_loop {b : Sl} : ∀ (ds : List D) (n : Nat) (s : Dw) (f : List Nat) (x2 : Sl), (x2 = .sh M13 ∨ x2 = .ow none M13) → DwOk (n + 2 * ds.length) s → f.length + ds.length ≤ 4 → f.Nodup → (∀ c ∈ f, c ∈ menu13) →
    ∃ (s' : Dw) (g : List Nat) (x' : Sl), sEach (gN 4) l1__law_signs_of [4, 5] ds [.rs (some 0) s, b, x2, .ow none (.lst (f.map chD)), .no, .no, .no] = .nx [.rs (some 0) s', b, x', .ow none (.lst (g.map chD)), .no, .no, .no] ∧ DwOk n s' ∧ g.length = f.length + ds.length ∧ g.Nodup ∧ ∀ c ∈ g, c ∈ menu13
  | [], n, s, f, x2, h2, h, hl, nd, hm => ⟨s, f, x2, by rw [sEach_nil]; rfl, h, by simp, nd, hm⟩
  | z :: ds, n, s, f, x2, h2, h, hl, nd, hm => by
    simp only [List.length_cons] at h hl
    obtain ⟨c, s1, x5, m1, m2, d1, e1⟩ := so_turn (n := n + 2 * ds.length) (b := b) (t := .sh z) (f := f) (h.le (by omega)) (by omega) h2
    obtain ⟨s2, g, x', e2, d2, l2, nd2, hm2⟩ := so_loop (b := b) ds n s1 (f ++ [c]) (.sh M13) (.inl rfl) d1 (by simp; omega) (by
      rw [List.nodup_append]
      exact ⟨nd, by simp, fun a ha b hb => by simp at hb; subst hb; intro e; subst e; exact m2 ha⟩) (by
      intro a ha
      rcases List.mem_append.mp ha with q | q
      · exact hm a q
      · simp at q; subst q; exact m1)
    refine ⟨s2, g, x', ?_, d2, by simp at l2 ⊢; omega, nd2, hm2⟩
    rw [sEach_nx (ρ1 := [.rs (some 0) s, b, x2, .ow none (.lst (f.map chD)), .sh z, .no, .no]) rfl e1]
    exact e2
theorem so_run {n : Nat} {s : Dw} {t : Option Nat} (h : DwOk (n + 8) s) : ∃ s' a b c e, F__law_signs_of [.rs t s, .sh (.int 4)] = .ok (.ow none (.lst ([a, b, c, e].map chD))) [.rs none s', .no] ∧ DwOk n s' ∧ [a, b, c, e].Nodup ∧ ∀ x ∈ [a, b, c, e], x ∈ menu13 := by
  have rr : fRange1 [.int 4] = some ((List.range 4).map fun i => D.int (0 + (i : Nat))) := rfl
  obtain ⟨s', g, x', e1, d1, l1, nd, hm⟩ := so_loop (b := .sh (.int 4)) ((List.range 4).map fun i => D.int (0 + (i : Nat))) n s [] (.ow none M13) (.inr rfl) (by simpa using h) (by simp) (by simp) (by simp)
  match g, l1, nd, hm, e1 with
  | [a, b, c, e], _, nd, hm, e1 =>
    refine ⟨s', a, b, c, e, ?_, d1, nd, hm⟩
    have mm := m13
    have el : PySem.sizeLine = 16777216 := big1
    simp only [List.map_nil] at e1
    generalize List.map (fun i => D.int (0 + (i : Nat))) (List.range 4) = ds at rr e1
    simp [F__law_signs_of, mkF_eq, b__law_signs_of, mm, el, rr, e1]
theorem eqv_o (o : Option Nat) (c : Nat) : (oD o).eqv (.str (chS c)) = decide (o = some c) := by
  cases o with
  | none => simp [oD, D.eqv, D.py, PySem.PyData.eqv]
  | some e =>
    have := eqv_ch e c
    unfold chD at this
    simp only [oD, this, Option.some.injEq]
theorem flat_set (a b : Nat) (q e : Option Nat) : (D.lst [chD a, chD b, oD q, oD e]).flat = true := by
  cases q <;> cases e <;> simp [oD, chD, D.flat, D.pur, purL, D.dep, depL]
theorem notin_set (a b : Nat) (q e : Option Nat) : fNotIn1 (.str " ") (.lst [chD a, chD b, oD q, oD e]) = some (.bl (!(decide (a = 32) || (decide (b = 32) || (decide (q = some 32) || decide (e = some 32)))))) := by
  rw [← ch_blank]
  have f1 : (D.str (chS 32)).flat = true := flat_str _
  have h1 := eqv_ch a 32
  have h2 := eqv_ch b 32
  unfold chD at h1 h2
  simp only [fNotIn1, f1, flat_set, Bool.and_self, if_true, List.any_cons, List.any_nil, eqv_o, Bool.or_false]
  unfold chD
  rw [h1, h2]
theorem okD {a b c e : Nat} {q g : Option Nat} {x y z : Bool} (nd : [a, b, c, e].Nodup) (hm : ∀ v ∈ [a, b, c, e], v ∈ menu13) (hq : q = some c ∨ q = none) (hg : g = some e ∨ g = none) (hx : x = true → q ≠ none) (hy : y = true → a ≠ 32 ∧ b ≠ 32 ∧ q ≠ some 32 ∧ g ≠ some 32) : (Dia.mk a b q g x y z).Ok ∧ (Dia.mk a b q g x y z).In13 := by
  have m1 := hm a (by simp)
  have m2 := hm b (by simp)
  have m3 := hm c (by simp)
  have m4 := hm e (by simp)
  simp only [List.nodup_cons, List.mem_cons, List.not_mem_nil, or_false, not_or, not_false_eq_true, List.nodup_nil, and_true] at nd
  obtain ⟨⟨n1, n2, n3⟩, ⟨n4, n5⟩, n6⟩ := nd
  rcases hq with rfl | rfl <;> rcases hg with rfl | rfl <;> refine ⟨⟨menu_al m1, menu_al m2, ?_, ?_, n1, ?_, ?_, ?_, ?_, ?_, hx, hy⟩, m1, m2, ?_, ?_⟩ <;> simp <;> (try intro z; subst z) <;> (first | assumption | exact menu_al m3 | exact menu_al m4 | omega)
/-- a drawn dialect's settings -/
theorem dia_run13 {n : Nat} {s : Dw} {t : Option Nat} (h : DwOk (n + 13) s) : ∃ (s' : Dw) (d : Dia), (d.Ok ∧ d.In13) ∧ DwOk n s' ∧ F__law_dialect [.rs t s] = .ok (.sh d.t) [.rs none s'] := by
  obtain ⟨s1, a, b, c, e, e1, d1, nd, hm⟩ := so_run (n := n + 5) (t := some 0) h
  obtain ⟨r1, s2, h1, d2, e2⟩ := takeN (n := n + 4) (t := some 0) 4 d1 (by omega) (by omega)
  obtain ⟨r2, s3, h2, d3, e3⟩ := takeN (n := n + 3) (t := some 0) 2 d2 (by omega) (by omega)
  have g1 := gt0 r1
  have g2 := eq0 r2
  have nn : fNotN .non .non = some (.bl false) := rfl
  have ns : ∀ x, fNotN (.str x) .non = some (.bl true) := fun _ => rfl
  have el : PySem.sizeLine = 16777216 := big1
  simp only [List.map_cons, List.map_nil] at e1
  by_cases a1 : 0 < r1
  · rw [decide_eq_true a1] at g1
    by_cases a2 : r2 = 0
    · rw [decide_eq_true a2] at g2
      have ni := notin_set a b (some c) (some e)
      by_cases hb : (decide (a = 32) || (decide (b = 32) || (decide ((some c) = some 32) || decide ((some e) = some 32)))) = true
      · rw [hb] at ni
        simp only [oD, Bool.not_true, Bool.not_false] at ni
        obtain ⟨r4, s5, h4, d5, e5⟩ := takeN (n := n + 2) (t := some 0) 3 (d3.le (by omega)) (by omega) (by omega)
        obtain ⟨r5, s6, h5, d6, e6⟩ := takeN (n := n + 1) (t := some 0) 3 (d5.le (by omega)) (by omega) (by omega)
        refine ⟨s6, ⟨a, b, (some c), (some e), (decide (0 < r4)), false, decide (r5 = 0)⟩, okD nd hm (by simp) (by simp) (fun _ => by simp) (fun z => nomatch z), d6.le (by omega), ?_⟩
        have u3 := fun r => eq0 r
        have u4 := fun r => gt0 r
        unfold chD at e1 ni
        simp [F__law_dialect, mkF_eq, b__law_dialect, e1, e2, e3, e5, e6, g1, g2, ni, nn, ns, u3, u4, el, Dia.t, Dia.l, oD, -decide_eq_true_eq]
      · rw [Bool.eq_false_iff.mpr hb] at ni
        simp only [oD, Bool.not_true, Bool.not_false] at ni
        obtain ⟨r3, s4, h3, d4, e4⟩ := takeN (n := n + 2) (t := some 0) 3 (d3.le (by omega)) (by omega) (by omega)
        obtain ⟨r4, s5, h4, d5, e5⟩ := takeN (n := n + 1) (t := some 0) 3 (d4.le (by omega)) (by omega) (by omega)
        obtain ⟨r5, s6, h5, d6, e6⟩ := takeN (n := n + 0) (t := some 0) 3 (d5.le (by omega)) (by omega) (by omega)
        refine ⟨s6, ⟨a, b, (some c), (some e), (decide (0 < r4)), (decide (r3 = 0)), decide (r5 = 0)⟩, okD nd hm (by simp) (by simp) (fun _ => by simp) (fun _ => by simpa using hb), d6.le (by omega), ?_⟩
        have u3 := fun r => eq0 r
        have u4 := fun r => gt0 r
        unfold chD at e1 ni
        simp [F__law_dialect, mkF_eq, b__law_dialect, e1, e2, e3, e4, e5, e6, g1, g2, ni, nn, ns, u3, u4, el, Dia.t, Dia.l, oD, -decide_eq_true_eq]
    · rw [decide_eq_false a2] at g2
      have ni := notin_set a b (some c) none
      by_cases hb : (decide (a = 32) || (decide (b = 32) || (decide ((some c) = some 32) || decide (none = some 32)))) = true
      · rw [hb] at ni
        simp only [oD, Bool.not_true, Bool.not_false] at ni
        obtain ⟨r4, s5, h4, d5, e5⟩ := takeN (n := n + 2) (t := some 0) 3 (d3.le (by omega)) (by omega) (by omega)
        obtain ⟨r5, s6, h5, d6, e6⟩ := takeN (n := n + 1) (t := some 0) 3 (d5.le (by omega)) (by omega) (by omega)
        refine ⟨s6, ⟨a, b, (some c), none, (decide (0 < r4)), false, decide (r5 = 0)⟩, okD nd hm (by simp) (by simp) (fun _ => by simp) (fun z => nomatch z), d6.le (by omega), ?_⟩
        have u3 := fun r => eq0 r
        have u4 := fun r => gt0 r
        unfold chD at e1 ni
        simp [F__law_dialect, mkF_eq, b__law_dialect, e1, e2, e3, e5, e6, g1, g2, ni, nn, ns, u3, u4, el, Dia.t, Dia.l, oD, -decide_eq_true_eq]
      · rw [Bool.eq_false_iff.mpr hb] at ni
        simp only [oD, Bool.not_true, Bool.not_false] at ni
        obtain ⟨r3, s4, h3, d4, e4⟩ := takeN (n := n + 2) (t := some 0) 3 (d3.le (by omega)) (by omega) (by omega)
        obtain ⟨r4, s5, h4, d5, e5⟩ := takeN (n := n + 1) (t := some 0) 3 (d4.le (by omega)) (by omega) (by omega)
        obtain ⟨r5, s6, h5, d6, e6⟩ := takeN (n := n + 0) (t := some 0) 3 (d5.le (by omega)) (by omega) (by omega)
        refine ⟨s6, ⟨a, b, (some c), none, (decide (0 < r4)), (decide (r3 = 0)), decide (r5 = 0)⟩, okD nd hm (by simp) (by simp) (fun _ => by simp) (fun _ => by simpa using hb), d6.le (by omega), ?_⟩
        have u3 := fun r => eq0 r
        have u4 := fun r => gt0 r
        unfold chD at e1 ni
        simp [F__law_dialect, mkF_eq, b__law_dialect, e1, e2, e3, e4, e5, e6, g1, g2, ni, nn, ns, u3, u4, el, Dia.t, Dia.l, oD, -decide_eq_true_eq]
  · rw [decide_eq_false a1] at g1
    by_cases a2 : r2 = 0
    · rw [decide_eq_true a2] at g2
      have ni := notin_set a b none (some e)
      by_cases hb : (decide (a = 32) || (decide (b = 32) || (decide (none = some 32) || decide ((some e) = some 32)))) = true
      · rw [hb] at ni
        simp only [oD, Bool.not_true, Bool.not_false] at ni
        obtain ⟨r5, s6, h5, d6, e6⟩ := takeN (n := n + 2) (t := some 0) 3 (d3.le (by omega)) (by omega) (by omega)
        refine ⟨s6, ⟨a, b, none, (some e), false, false, decide (r5 = 0)⟩, okD nd hm (by simp) (by simp) (fun z => nomatch z) (fun z => nomatch z), d6.le (by omega), ?_⟩
        have u3 := fun r => eq0 r
        have u4 := fun r => gt0 r
        unfold chD at e1 ni
        simp [F__law_dialect, mkF_eq, b__law_dialect, e1, e2, e3, e6, g1, g2, ni, nn, ns, u3, u4, el, Dia.t, Dia.l, oD, -decide_eq_true_eq]
      · rw [Bool.eq_false_iff.mpr hb] at ni
        simp only [oD, Bool.not_true, Bool.not_false] at ni
        obtain ⟨r3, s4, h3, d4, e4⟩ := takeN (n := n + 2) (t := some 0) 3 (d3.le (by omega)) (by omega) (by omega)
        obtain ⟨r5, s6, h5, d6, e6⟩ := takeN (n := n + 1) (t := some 0) 3 (d4.le (by omega)) (by omega) (by omega)
        refine ⟨s6, ⟨a, b, none, (some e), false, (decide (r3 = 0)), decide (r5 = 0)⟩, okD nd hm (by simp) (by simp) (fun z => nomatch z) (fun _ => by simpa using hb), d6.le (by omega), ?_⟩
        have u3 := fun r => eq0 r
        have u4 := fun r => gt0 r
        unfold chD at e1 ni
        simp [F__law_dialect, mkF_eq, b__law_dialect, e1, e2, e3, e4, e6, g1, g2, ni, nn, ns, u3, u4, el, Dia.t, Dia.l, oD, -decide_eq_true_eq]
    · rw [decide_eq_false a2] at g2
      have ni := notin_set a b none none
      by_cases hb : (decide (a = 32) || (decide (b = 32) || (decide (none = some 32) || decide (none = some 32)))) = true
      · rw [hb] at ni
        simp only [oD, Bool.not_true, Bool.not_false] at ni
        obtain ⟨r5, s6, h5, d6, e6⟩ := takeN (n := n + 2) (t := some 0) 3 (d3.le (by omega)) (by omega) (by omega)
        refine ⟨s6, ⟨a, b, none, none, false, false, decide (r5 = 0)⟩, okD nd hm (by simp) (by simp) (fun z => nomatch z) (fun z => nomatch z), d6.le (by omega), ?_⟩
        have u3 := fun r => eq0 r
        have u4 := fun r => gt0 r
        unfold chD at e1 ni
        simp [F__law_dialect, mkF_eq, b__law_dialect, e1, e2, e3, e6, g1, g2, ni, nn, ns, u3, u4, el, Dia.t, Dia.l, oD, -decide_eq_true_eq]
      · rw [Bool.eq_false_iff.mpr hb] at ni
        simp only [oD, Bool.not_true, Bool.not_false] at ni
        obtain ⟨r3, s4, h3, d4, e4⟩ := takeN (n := n + 2) (t := some 0) 3 (d3.le (by omega)) (by omega) (by omega)
        obtain ⟨r5, s6, h5, d6, e6⟩ := takeN (n := n + 1) (t := some 0) 3 (d4.le (by omega)) (by omega) (by omega)
        refine ⟨s6, ⟨a, b, none, none, false, (decide (r3 = 0)), decide (r5 = 0)⟩, okD nd hm (by simp) (by simp) (fun z => nomatch z) (fun _ => by simpa using hb), d6.le (by omega), ?_⟩
        have u3 := fun r => eq0 r
        have u4 := fun r => gt0 r
        unfold chD at e1 ni
        simp [F__law_dialect, mkF_eq, b__law_dialect, e1, e2, e3, e4, e6, g1, g2, ni, nn, ns, u3, u4, el, Dia.t, Dia.l, oD, -decide_eq_true_eq]
theorem dia_run {n : Nat} {s : Dw} {t : Option Nat} (h : DwOk (n + 13) s) : ∃ (s' : Dw) (d : Dia), d.Ok ∧ DwOk n s' ∧ F__law_dialect [.rs t s] = .ok (.sh d.t) [.rs none s'] := by
  obtain ⟨s', d, h1, h2⟩ := dia_run13 (t := t) h
  exact ⟨s', d, h1.1, h2⟩
end CMA

set_option Elab.async false
set_option linter.all false
set_option maxRecDepth 100000
set_option maxHeartbeats 1000000
namespace RD
open DS DS.Drw
open PySem (Str)
theorem purL_o : ∀ os : List (Option Nat), purL (os.map oD) = true
  | [] => rfl
  | o :: os => by cases o <;> simp only [List.map_cons, purL, purL_o os] <;> rfl
theorem depL_o : ∀ os : List (Option Nat), depL (os.map oD) = 0
  | [] => rfl
  | o :: os => by cases o <;> simp only [List.map_cons, depL, depL_o os] <;> rfl
theorem flat_ot (os : List (Option Nat)) : (D.tup (os.map oD)).flat = true := by simp [D.flat, D.pur, D.dep, purL_o, depL_o]
theorem any_o (c : Nat) : ∀ os : List (Option Nat), ((os.map oD).any fun z => z.eqv (.str (chS c))) = os.contains (some c)
  | [] => rfl
  | e :: os => by
    simp only [List.map_cons, List.any_cons, any_o c os, CMA.eqv_o, List.contains_cons]
    congr 1
    by_cases h : e = some c
    · subst h; simp
    · rw [decide_eq_false h]; exact (beq_eq_false_iff_ne.mpr fun z => h z.symm).symm
theorem in_ot (c : Nat) (os : List (Option Nat)) : fIn1 (.str (chS c)) (.tup (os.map oD)) = some (.bl (os.contains (some c))) := by
  have f1 : (D.str (chS c)).flat = true := flat_str _
  simp only [fIn1, f1, flat_ot, Bool.and_self, if_true, any_o]
theorem cut_take {α : Type} {ds : List α} {r : Nat} (h : r ≤ ds.length) : cut ds none (some (r : Int)) = ds.take r := by
  simp only [cut, HT.sIx_nat, HT.sIx_none]
  simp [Nat.min_eq_left h]
theorem cut_drop {α : Type} {ds : List α} {r : Nat} (h : r ≤ ds.length) : cut ds (some (r : Int)) none = ds.drop r := by
  simp only [cut, HT.sIx_nat, HT.sIx_none]
  rw [Nat.min_eq_left h, List.take_of_length_le]
  simp
end RD
namespace CMA
open DS DS.Drw RD
open PySem (Str)
theorem sign_run {c : Nat} (h : c ∈ alphaL) : F_is_sign [.sh (chD c)] = .ok (.sh (.bl true)) [.no] := by
  have e1 : fLen (chD c) = some (.int 1) := by
    exact len_w (cs := [c]) (by simp)
  have e0 : fIsi ["str"] (chD c) = some (.bl true) := isiS_str _
  have e2 : fEq (.int 1) (.int 1) = some (.bl true) := by simp [fEq, flat_int, eqv_int]
  have e3 := in_alpha h
  unfold chD at *
  simp [F_is_sign, mkF_eq, b_is_sign, e0, e1, e2, e3]
theorem ns_step {t f x5 : Sl} {os : List (Option Nat)} {i : Nat} {o : Option Nat} (hi : i ≤ os.length) (h : (o = none ∧ 1 < i) ∨ ∃ c, o = some c ∧ c ∈ alphaL ∧ some c ∉ os.take i) :
    ∃ r, l2_need_settings [t, .sh (.tup (os.map oD)), f, .sh (.int i), .sh (oD o), x5] = r ∧ (r = .nx [t, .sh (.tup (os.map oD)), f, .sh (.int i), .sh (oD o), x5] ∨ r = .ct [t, .sh (.tup (os.map oD)), f, .sh (.int i), .sh (oD o), x5]) := by
  refine ⟨_, rfl, ?_⟩
  rcases h with ⟨rfl, h⟩ | ⟨c, rfl, h1, h2⟩
  · right
    have g : fGt (.int (i : Int)) (.int 1) = some (.bl true) := by simp [fGt]; omega
    have n : fIsN .non .non = some (.bl true) := rfl
    simp [l2_need_settings, g, oD, n]
  · left
    have n : fIsN (.str (chS c)) .non = some (.bl false) := rfl
    have s := sign_run h1
    unfold chD at s
    have e : fSl (.tup (os.map oD)) none (some (i : Int)) = some (.tup ((os.map oD).take i)) := by
      simp only [fSl]
      rw [cut_take (by simpa using hi)]
    have m := in_ot c (os.take i)
    have mf : (os.take i).contains (some c) = false := by simpa using h2
    rw [mf, List.map_take] at m
    by_cases g0 : 1 < i
    · have g : fGt (.int (i : Int)) (.int 1) = some (.bl true) := by simp [fGt]; omega
      simp [l2_need_settings, g, oD, n, s, e, m]
    · have g : fGt (.int (i : Int)) (.int 1) = some (.bl false) := by simp [fGt]; omega
      simp [l2_need_settings, g, oD, n, s, e, m]
theorem ns_loop {t f x5 : Sl} {os : List (Option Nat)} : ∀ (rest : List (Option Nat)) (i : Nat) (x3 : Sl), os.drop i = rest → (∀ k o, os[k]? = some o → (o = none ∧ 1 < k) ∨ ∃ c, o = some c ∧ c ∈ alphaL ∧ some c ∉ os.take k) →
    ∃ x3', sEach g2_need_settings l2_need_settings [4] (pairs0 i (rest.map oD)) [t, .sh (.tup (os.map oD)), f, x3, .no, x5] = .nx [t, .sh (.tup (os.map oD)), f, x3', .no, x5]
  | [], i, x3, _, _ => ⟨x3, by rw [List.map_nil, pairs0, sEach_nil]; rfl⟩
  | o :: rest, i, x3, hd, h => by
    have hi : os[i]? = some o := by
      have := congrArg List.head? hd
      simpa [List.head?_drop] using this
    have hl : i < os.length := (List.getElem?_eq_some_iff.mp hi).1
    obtain ⟨r, e, hr⟩ := ns_step (t := t) (f := f) (x5 := x5) (os := os) (i := i) (o := o) (by omega) (h i o hi)
    obtain ⟨x', ih⟩ := ns_loop (t := t) (f := f) (x5 := x5) (os := os) rest (i + 1) (.sh (.int i)) (by rw [← List.drop_drop, hd]; rfl) h
    refine ⟨x', ?_⟩
    have g : g2_need_settings (.tup [.int (i : Nat), oD o]) [t, .sh (.tup (os.map oD)), f, x3, .no, x5] = some [t, .sh (.tup (os.map oD)), f, .sh (.int i), .sh (oD o), x5] := by simp [g2_need_settings]
    rw [List.map_cons, pairs0]
    rcases hr with rfl | rfl
    · rw [sEach_nx g e]; exact ih
    · rw [sEach_ct g e]; exact ih
def Dia.os (d : Dia) : List (Option Nat) := [some d.sep, some d.ter, d.quo, d.esc]
theorem Dia.os_ok {d : Dia} (h : d.Ok) : ∀ k o, (Dia.os d)[k]? = some o → (o = none ∧ 1 < k) ∨ ∃ c, o = some c ∧ c ∈ alphaL ∧ some c ∉ (Dia.os d).take k := by
  intro k o e
  have ks : k = 0 ∨ k = 1 ∨ k = 2 ∨ k = 3 := by
    have := (List.getElem?_eq_some_iff.mp e).1
    simp [Dia.os] at this
    omega
  rcases ks with rfl | rfl | rfl | rfl
  · simp [Dia.os] at e
    subst e
    exact .inr ⟨_, rfl, h.sep, by simp⟩
  · simp [Dia.os] at e
    subst e
    exact .inr ⟨_, rfl, h.ter, by simp [Dia.os]; exact fun z => h.st z.symm⟩
  · simp [Dia.os] at e
    cases hq : d.quo with
    | none => rw [hq] at e; exact .inl ⟨e.symm, by omega⟩
    | some c =>
      rw [hq] at e
      refine .inr ⟨c, e.symm, h.quo c hq, ?_⟩
      have a := h.sq
      have b := h.tq
      rw [hq] at a b
      simp [Dia.os] at a b ⊢
      exact ⟨a, b⟩
  · simp [Dia.os] at e
    cases hq : d.esc with
    | none => rw [hq] at e; exact .inl ⟨e.symm, by omega⟩
    | some c =>
      rw [hq] at e
      refine .inr ⟨c, e.symm, h.esc c hq, ?_⟩
      have a := h.se
      have b := h.te
      have g := h.qe
      rw [hq] at a b
      simp [Dia.os] at a b ⊢
      refine ⟨a, b, fun z => ?_⟩
      exact g c z.symm hq
theorem need_ok {d : Dia} (h : d.Ok) : F_need_settings [.sh d.t] = .ok (.sh .non) [.no] := by
  obtain ⟨x3, L⟩ := ns_loop (t := .sh d.t) (f := .sh (.tup [.bl d.dbl, .bl d.pad, .bl d.str])) (x5 := .no) (os := Dia.os d) (Dia.os d) 0 .no rfl (Dia.os_ok h)
  have n : ∀ o, fIsN (oD o) .non = some (.bl (decide (o = none))) := fun o => by cases o <;> rfl
  have bl := in_ot 32 (Dia.os d)
  rw [ch_blank] at bl
  have e1 : fSl d.t none (some 4) = some (.tup ((Dia.os d).map oD)) := rfl
  have e2 : fSl d.t (some 4) none = some (.tup [.bl d.dbl, .bl d.pad, .bl d.str]) := rfl
  have ib := isiB_bl
  have s0 : l1_need_settings [.sh d.t, .sh (.tup ((Dia.os d).map oD)), .sh (.tup [.bl d.dbl, .bl d.pad, .bl d.str]), .sh (.int 0), .no, .sh (.bl d.dbl)] = .nx [.sh d.t, .sh (.tup ((Dia.os d).map oD)), .sh (.tup [.bl d.dbl, .bl d.pad, .bl d.str]), .sh (.int 0), .no, .sh (.bl d.dbl)] := by
    have q0 : fEq (.int 0) (.int 0) = some (.bl true) := by simp [fEq, flat_int, eqv_int]
    have q1 : fEq (.int 0) (.int 1) = some (.bl false) := by simp [fEq, flat_int, eqv_int]
    cases hd : d.dbl with
    | false => simp [l1_need_settings, ib, q0, q1]
    | true =>
      have := h.db hd
      have nq := n d.quo
      rw [decide_eq_false this] at nq
      simp [l1_need_settings, ib, q0, q1, Dia.t, Dia.l, nq]
  have s1 : l1_need_settings [.sh d.t, .sh (.tup ((Dia.os d).map oD)), .sh (.tup [.bl d.dbl, .bl d.pad, .bl d.str]), .sh (.int 1), .no, .sh (.bl d.pad)] = .nx [.sh d.t, .sh (.tup ((Dia.os d).map oD)), .sh (.tup [.bl d.dbl, .bl d.pad, .bl d.str]), .sh (.int 1), .no, .sh (.bl d.pad)] := by
    have q0 : fEq (.int 1) (.int 0) = some (.bl false) := by simp [fEq, flat_int, eqv_int]
    have q1 : fEq (.int 1) (.int 1) = some (.bl true) := by simp [fEq, flat_int, eqv_int]
    cases hd : d.pad with
    | false => simp [l1_need_settings, ib, q0, q1]
    | true =>
      obtain ⟨p1, p2, p3, p4⟩ := h.pd hd
      have c : (Dia.os d).contains (some 32) = false := by
        simp [Dia.os]
        exact ⟨fun z => p1 z.symm, fun z => p2 z.symm, fun z => p3 z.symm, fun z => p4 z.symm⟩
      rw [c] at bl
      simp [l1_need_settings, ib, q0, q1, g_BLANK, bl]
  have s2 : l1_need_settings [.sh d.t, .sh (.tup ((Dia.os d).map oD)), .sh (.tup [.bl d.dbl, .bl d.pad, .bl d.str]), .sh (.int 2), .no, .sh (.bl d.str)] = .nx [.sh d.t, .sh (.tup ((Dia.os d).map oD)), .sh (.tup [.bl d.dbl, .bl d.pad, .bl d.str]), .sh (.int 2), .no, .sh (.bl d.str)] := by
    have q0 : fEq (.int 2) (.int 0) = some (.bl false) := by simp [fEq, flat_int, eqv_int]
    have q1 : fEq (.int 2) (.int 1) = some (.bl false) := by simp [fEq, flat_int, eqv_int]
    simp [l1_need_settings, ib, q0, q1]
  have L2 : sEach g1_need_settings l1_need_settings [5] (pairs0 0 [.bl d.dbl, .bl d.pad, .bl d.str]) [.sh d.t, .sh (.tup ((Dia.os d).map oD)), .sh (.tup [.bl d.dbl, .bl d.pad, .bl d.str]), x3, .no, .no] = .nx [.sh d.t, .sh (.tup ((Dia.os d).map oD)), .sh (.tup [.bl d.dbl, .bl d.pad, .bl d.str]), .sh (.int 2), .no, .no] := by
    have g : ∀ (i : Int) (b : D) (x y : Sl), g1_need_settings (.tup [.int i, b]) [.sh d.t, .sh (.tup ((Dia.os d).map oD)), .sh (.tup [.bl d.dbl, .bl d.pad, .bl d.str]), x, .no, y] = some [.sh d.t, .sh (.tup ((Dia.os d).map oD)), .sh (.tup [.bl d.dbl, .bl d.pad, .bl d.str]), .sh (.int i), .no, .sh b] := fun i b x y => by simp [g1_need_settings]
    show sEach g1_need_settings l1_need_settings [5] [.tup [.int 0, .bl d.dbl], .tup [.int 1, .bl d.pad], .tup [.int 2, .bl d.str]] _ = _
    rw [sEach_nx (g _ _ _ _) s0]
    simp only [x_dr1, x_dr0, List.set]
    rw [sEach_nx (g _ _ _ _) s1]
    simp only [x_dr1, x_dr0, List.set]
    rw [sEach_nx (g _ _ _ _) s2]
    rfl
  simp [F_need_settings, mkF_eq, b_need_settings, e1, e2, L, L2]
theorem made_run {d : Dia} (h : d.Ok) : F__law_made [.sh d.t] = .ok (.ow none d.o) [.no] := by
  have n := need_ok h
  have el : PySem.sizeLine = 16777216 := big1
  unfold Dia.t Dia.l at n
  simp [F__law_made, mkF_eq, b__law_made, Dia.t, Dia.l, perm, F_Dialect_init, b_Dialect_init, n, el, putD, Dia.o]
end CMA

set_option Elab.async false
set_option linter.all false
set_option maxRecDepth 100000
set_option maxHeartbeats 1000000
namespace RD
open DS DS.Drw
open PySem (Str)
theorem app_list (x y : Str) : (x ++ y).cps.toList = x.cps.toList ++ y.cps.toList := by
  show (x.cps ++ y.cps).toList = _
  simp
theorem join_flat : ∀ (ys : List Str), (PySem.Str.join "" ys).cps.toList = (ys.map (·.cps.toList)).flatten
  | [] => rfl
  | [y] => by simp [PySem.Str.join]
  | y :: z :: ys => by
    have := join_flat (z :: ys)
    have e : (("" : Str)).cps.toList = [] := by decide
    simp only [PySem.Str.join, app_list, e, this, List.map_cons, List.flatten_cons]
    simp
theorem asS : ∀ (ys : List Str), asStrs (ys.map D.str) = some ys
  | [] => rfl
  | y :: ys => by simp [asStrs, asS ys]
theorem sum_len (ws : List (List Nat)) : ((ws.map mkS').map (·.length)).sum = ws.flatten.length := by
  induction ws with
  | nil => rfl
  | cons w ws ih => simp only [List.map_cons, List.sum_cons, ih, mk_len, List.flatten_cons, List.length_append]
theorem join_w {ws : List (List Nat)} (h : ws.flatten.length ≤ 1000000) : fJoin (.str "") (.lst (ws.map wD)) = some (wD ws.flatten) := by
  have e : ws.map wD = (ws.map mkS').map D.str := by rw [List.map_map]; rfl
  have ej : ∀ ys : List Str, PySem.Txt.join "" ys = PySem.Str.join "" ys := fun ys => PySem.StrLaws.glued_eq_join _ _
  have el : (("" : Str)).length = 0 := rfl
  simp only [fJoin, e, asS, joinD]
  rw [if_pos (by rw [el, sum_len]; omega), ej]
  unfold wD
  congr 2
  apply str_ext
  rw [join_flat, mk_list, List.map_map]
  congr 1
  rw [show ((fun x : Str => x.cps.toList) ∘ mkS') = id from funext fun w => mk_list w]
  simp
theorem join_c {cs : List Nat} (h : cs.length ≤ 1000000) : fJoin (.str "") (.lst (cs.map chD)) = some (wD cs) := by
  have e1 : (cs.map fun c => [c]).flatten = cs := by
    induction cs with
    | nil => rfl
    | cons c cs ih => simp at ih ⊢; exact ih (by simp at h; omega)
  have := join_w (ws := cs.map fun c => [c]) (by rw [e1]; exact h)
  rw [e1] at this
  rw [← this, List.map_map]
  rfl
/-- first occurrences -/
def dd : List Nat → List Nat → List Nat
  | _, [] => []
  | pre, c :: r => if pre.contains c then dd (pre ++ [c]) r else c :: dd (pre ++ [c]) r
theorem dd_sub : ∀ (r pre : List Nat) (c : Nat), c ∈ dd pre r → c ∈ r
  | [], pre, c, h => by simp [dd] at h
  | e :: r, pre, c, h => by
    unfold dd at h
    split at h
    · exact List.mem_cons_of_mem _ (dd_sub r _ c h)
    · rcases List.mem_cons.mp h with rfl | h
      · exact List.mem_cons_self
      · exact List.mem_cons_of_mem _ (dd_sub r _ c h)
theorem dd_has : ∀ (r pre : List Nat) (c : Nat), c ∈ r → c ∉ pre → c ∈ dd pre r
  | [], pre, c, h, _ => by simp at h
  | e :: r, pre, c, h, hn => by
    unfold dd
    by_cases q : c = e
    · subst q
      rw [if_neg (by simpa using hn)]
      exact List.mem_cons_self
    · have ih := dd_has r (pre ++ [e]) c (by rcases List.mem_cons.mp h with z | z; exact absurd z q; exact z) (by simp [hn, q])
      split
      · exact ih
      · exact List.mem_cons_of_mem _ ih
theorem dd_len : ∀ (r pre : List Nat), (dd pre r).length ≤ r.length
  | [], pre => by simp [dd]
  | e :: r, pre => by
    have := dd_len r (pre ++ [e])
    unfold dd
    split <;> simp <;> omega
def osN (d : Dia) : List Nat := [d.sep, d.ter] ++ d.quo.toList ++ d.esc.toList
def someN (d : Dia) : List Nat := osN d ++ [32, 120, 98]
def menuN (d : Dia) : List Nat := dd [] (someN d)
theorem menuN_len (d : Dia) : (menuN d).length ≤ 7 := by
  have := dd_len (someN d) []
  have : (someN d).length ≤ 7 := by
    unfold someN osN
    cases d.quo <;> cases d.esc <;> simp
  unfold menuN
  omega
theorem menuN_ne (d : Dia) : menuN d ≠ [] := by
  have : d.sep ∈ menuN d := dd_has _ _ _ (by simp [someN, osN]) (by simp)
  intro h
  rw [h] at this
  cases this
theorem menuN_al {d : Dia} (h : d.Ok) {c : Nat} (hc : c ∈ menuN d) : c ∈ alphaL := by
  have := dd_sub _ _ _ hc
  simp only [someN, osN, List.mem_append, List.mem_cons, List.not_mem_nil, or_false, Option.mem_toList] at this
  rcases this with ((((rfl | rfl) | z) | z) | rfl | rfl | rfl)
  · exact h.sep
  · exact h.ter
  · exact h.quo c z
  · exact h.esc c z
  · decide +kernel
  · decide +kernel
  · decide +kernel
end RD
namespace CMA
open DS DS.Drw RD
open PySem (Str)
def strO : D → Bool
  | .str _ => true
  | _ => false
theorem fil_os (d : Dia) : (((CMA.Dia.os d).map oD).filter strO).map id = (osN d).map chD := by
  unfold osN Dia.os
  cases d.quo <;> cases d.esc <;> rfl
theorem some_run {t : Sl} (d : Dia) : lcRun (gN 2) t2__law_menu (dVar 2) [2] ((CMA.Dia.os d).map oD) [] [t, .no, .no, .no] = some ((osN d).map chD, [t, .no, .no, .no]) := by
  have := lcRun_pure (g := gN 2) (tt := t2__law_menu) (te := dVar 2) (own := [2]) (ρ := [t, .no, .no, .no]) strO id ((CMA.Dia.os d).map oD) [] (fun z hz => by
    obtain ⟨o, ho, rfl⟩ := List.mem_map.mp hz
    refine ⟨[t, .no, .sh (oD o), .no], [t, .no, .sh (oD o), .no], rfl, ?_, fun _ => rfl, fun _ => ⟨_, rfl, rfl⟩⟩
    have nn : fNotN .non .non = some (.bl false) := rfl
    have ns : ∀ x, fNotN (.str x) .non = some (.bl true) := fun _ => rfl
    cases o <;> simp [t2__law_menu, oD, nn, ns, strO]) (by simp [Dia.os])
  rw [this, fil_os]
  rfl
def pIx (os : List Nat) : D → Bool
  | .tup [.int i, .str y] => !(os.take i.toNat).contains (y.cps.toList.headD 0)
  | _ => false
def pSn : D → D
  | .tup [_, z] => z
  | z => z
theorem dd_fil (os : List Nat) : ∀ (r : List Nat) (i : Nat), os.drop i = r → ((pairs0 i (r.map chD)).filter (pIx os)).map pSn = (dd (os.take i) r).map chD
  | [], i, _ => rfl
  | c :: r, i, h => by
    have ih := dd_fil os r (i + 1) (by rw [← List.drop_drop, h]; rfl)
    have hi : os[i]? = some c := by
      have := congrArg List.head? h
      simpa [List.head?_drop] using this
    have ht : os.take (i + 1) = os.take i ++ [c] := by
      rw [List.take_succ, hi]; rfl
    have hp : pIx os (.tup [.int (i : Nat), chD c]) = !(os.take i).contains c := rfl
    rw [List.map_cons, pairs0, List.filter_cons, hp]
    unfold dd
    rw [ht] at ih
    cases (os.take i).contains c with
    | true => simpa using ih
    | false => simp [ih, pSn]
theorem fil_run {t : Sl} (os : List Nat) (hl : os.length ≤ 1000) : lcRun g1__law_menu t1__law_menu (dVar 2) [3, 2] (pairs0 0 (os.map chD)) [] [t, .sh (.lst (os.map chD)), .no, .no] = some ((dd [] os).map chD, [t, .sh (.lst (os.map chD)), .no, .no]) := by
  have := lcRun_pure (g := g1__law_menu) (tt := t1__law_menu) (te := dVar 2) (own := [3, 2]) (ρ := [t, .sh (.lst (os.map chD)), .no, .no]) (pIx os) pSn (pairs0 0 (os.map chD)) [] (fun z hz => by
    obtain ⟨i, hi⟩ := List.getElem?_of_mem hz
    obtain ⟨e, h1, rfl⟩ := pairs0_get 0 _ i z hi
    rw [List.getElem?_map] at h1
    cases hc : os[i]? with
    | none => rw [hc] at h1; cases h1
    | some c =>
      rw [hc] at h1
      cases h1
      have hlt : i < os.length := (List.getElem?_eq_some_iff.mp hc).1
      refine ⟨[t, .sh (.lst (os.map chD)), .sh (chD c), .sh (.int i)], [t, .sh (.lst (os.map chD)), .sh (chD c), .sh (.int i)], by simp [g1__law_menu], ?_, fun _ => rfl, fun _ => ⟨_, rfl, rfl⟩⟩
      have e : fSl (.lst (os.map chD)) none (some (i : Int)) = some (.lst ((os.map chD).take i)) := by
        simp only [fSl]
        rw [cut_take (by simpa using (by omega : i ≤ os.length))]
      have n := notin_chs c (os.take i)
      rw [List.map_take] at n
      have hp : pIx os (.tup [.int ((0 + i : Nat) : Int), chD c]) = !(os.take i).contains c := by
        rw [Nat.zero_add]; rfl
      rw [hp]
      simp [t1__law_menu, e, n]) (by rw [pairs0_length]; simp; omega)
  rw [this, dd_fil os os 0 rfl]
  rfl
theorem menu_run (d : Dia) : F__law_menu [.sh d.t] = .ok (.ow none (.lst ((menuN d).map chD))) [.no] := by
  have e1 : fSl d.t none (some 4) = some (.tup ((Dia.os d).map oD)) := rfl
  have s := some_run (t := .sh d.t) d
  have f := fil_run (t := .sh d.t) (someN d) (by unfold someN osN; cases d.quo <;> cases d.esc <;> simp)
  have el : PySem.sizeLine = 16777216 := big1
  have x1 : D.str (" " : Str) = chD 32 := by unfold chD; rw [ch_blank]
  have x2 : D.str ("x" : Str) = chD 120 := by unfold chD; rw [show chS 120 = ("x" : Str) by decide +kernel]
  have x3 : D.str ("b" : Str) = chD 98 := by unfold chD; rw [show chS 98 = ("b" : Str) by decide +kernel]
  have a : fAdd (.lst ((osN d).map chD)) (.lst [chD 32, chD 120, chD 98]) = some (.lst ((someN d).map chD)) := by
    simp only [fAdd]
    rw [if_pos (by rw [el]; unfold osN; cases d.quo <;> cases d.esc <;> simp)]
    simp [someN]
  have it : (D.tup ((Dia.os d).map oD)).items = some ((Dia.os d).map oD) := rfl
  have m : menuN d = dd [] (someN d) := rfl
  simp only [F__law_menu, mkF_eq, b__law_menu, x1, x2, x3]
  generalize hs : (Dia.os d).map oD = A at *
  generalize ho : (osN d).map chD = B at *
  generalize hz : (someN d).map chD = C at *
  simp [e1, s, a, it, f, el, m]
/-- picks from a menu -/
theorem picks_run {n : Nat} {s : Dw} {a b c : Sl} {cs : List Nat} {ds : List D} (h : DwOk (n + ds.length) s) (h0 : cs ≠ []) (hl : cs.length ≤ 1000) (hd : ds.length ≤ 1000) (hc : c = .sh (.lst (cs.map chD)) ∨ c = .ow none (.lst (cs.map chD))) :
    ∃ (ks : List Nat) (s' : Dw) (c' : Sl), lcRun (gN 4) (ret true) e1__law_page [4] ds [] [.rs (some 0) s, a, b, c, .no] = some (ks.map chD, [.rs (some 0) s', a, b, c', .no]) ∧ DwOk n s' ∧ ks.length = ds.length ∧ (∀ k ∈ ks, k ∈ cs) ∧ (c' = .sh (.lst (cs.map chD)) ∨ c' = .ow none (.lst (cs.map chD))) := by
  obtain ⟨acc, ρ, h1, s', c', ks, h2, h3, h4, h5, h6, h7⟩ := lcRun_inv (g := gN 4) (tt := ret true) (te := e1__law_page) (own := [4])
    (fun acc rest ρ => ∃ s' c' ks, ρ = [.rs (some 0) s', a, b, c', .no] ∧ acc = (ks : List Nat).map chD ∧ DwOk (n + rest.length) s' ∧ ks.length + rest.length = ds.length ∧ (∀ k ∈ ks, k ∈ cs) ∧ (c' = .sh (.lst (cs.map chD)) ∨ c' = .ow none (.lst (cs.map chD)))) ds [] _ ⟨s, c, [], rfl, rfl, h, by simp, by simp, hc⟩
    (fun x rest acc ρ ⟨s1, c1, ks, e1, e2, d1, l1, m1, q1⟩ => by
      subst e1 e2
      simp only [List.length_cons] at d1 l1
      obtain ⟨k, s2, hk, d2, e2⟩ := pickC (n := n + rest.length) (t := some 0) (cs := cs) d1 h0 (by omega)
      refine ⟨_, _, true, rfl, rfl, (fun z => nomatch z), fun _ => ?_⟩
      refine ⟨chD k, [.rs (some 0) s2, a, b, .sh (.lst (cs.map chD)), .sh x], ?_, s2, .sh (.lst (cs.map chD)), ks ++ [k], rfl, by simp, d2, by simp; omega, ?_, .inl rfl⟩
      · rcases q1 with rfl | rfl <;> simp [e1__law_page, e2]
      · intro z hz
        rcases List.mem_append.mp hz with q | q
        · exact m1 z q
        · simp at q; subst q; exact hk) (by simp; omega)
  subst h2 h3
  exact ⟨ks, s', c', h1, h4, by simpa using h5, h6, h7⟩
theorem mem_rep {k : Nat} {cs : List Nat} {x : Nat} (h : x ∈ (List.replicate k cs).flatten) : x ∈ cs := by
  obtain ⟨L, hL, hx⟩ := List.mem_flatten.mp h
  rw [List.eq_of_mem_replicate hL] at hx
  exact hx
theorem take4_run (cs : List Nat) : fSl (.lst (cs.map chD)) none (some 4) = some (.lst ((cs.take 4).map chD)) := by
  simp only [fSl]
  have : cut (cs.map chD) none (some 4) = (cs.map chD).take 4 := by
    have e : (4 : Int) = ((4 : Nat) : Int) := rfl
    rw [e]
    simp only [cut, HT.sIx_none, HT.sIx_nat]
    simp
  rw [this, List.map_take]
theorem add_chs (a b : List Nat) (h : a.length + b.length ≤ 1000000) : fAdd (.lst (a.map chD)) (.lst (b.map chD)) = some (.lst ((a ++ b).map chD)) := by
  simp only [fAdd]
  rw [if_pos (by rw [big1]; simp only [List.length_map]; omega), List.map_append]
theorem small_rep (r : Nat) (h : r ≤ 1000) : small64 (2 * (r : Int) + 1) = true := by
  unfold small64
  rw [decide_eq_true (by omega), decide_eq_true (by omega)]
  rfl
theorem flat_rep (k : Nat) : ∀ r : Nat, (List.replicate r [chD k]).flatten = (List.replicate r k).map chD
  | 0 => rfl
  | r + 1 => by rw [List.replicate_succ, List.flatten_cons, flat_rep k r]; rfl
theorem fMul_rep (xs : List D) (k : Int) : fMul (.lst xs) (.int k) = fRep (.lst xs) (.int k) := by simp only [fMul, fOr, fMulI, fI]
theorem rep_ch (k r : Nat) (h : r ≤ 1000) : fMul (.lst [chD k]) (.int r) = some (.lst ((List.replicate r k).map chD)) := by
  have key : (small64 (2 * (r : Int) + 1) && decide (([chD k] : List D).length * ((r : Int)).toNat ≤ PySem.sizeLine)) = true := by
    rw [small_rep r h, Bool.true_and]
    apply decide_eq_true
    rw [Int.toNat_natCast, big1]
    simp only [List.length_cons, List.length_nil]
    omega
  rw [fMul_rep]
  simp only [fRep]
  rw [if_pos key, Int.toNat_natCast, flat_rep]
/-- .. + [pick] * take: the operator left open -/
theorem s2_run {f : D → D → Option D} {s s1 s2 : Dw} {A B C E G : List D} {x y : Sl} {k r : Nat} (e1 : F__law_pick [Sl.rs (some 0) s, Sl.sh (D.lst A)] = FR.ok (Sl.sh (chD k)) [Sl.rs none s1, Sl.no])
    (e2 : F__law_take [Sl.rs (some 0) s1, Sl.sh (D.int 6)] = FR.ok (Sl.sh (D.int ↑r)) [Sl.rs none s2, Sl.no]) (x1 : fSl (.lst A) none (some 4) = some (.lst B)) (x2 : fAdd (.lst A) (.lst B) = some (.lst C))
    (x3 : f (D.lst [chD k]) (D.int ↑r) = some (D.lst E)) (x4 : fAdd (.lst C) (.lst E) = some (.lst G)) :
    (sSet 3 (dSh (d2 fAdd (d2 fAdd (dVarB 3) (dSl (dVarB 3) (ret none) (dPart (ret (.int 4))))) (d2 f (dFz (dLst (dCons (dFz (dCall F__law_pick [some 0, none] (dRef 0 (dCons (dVar 3) dNil)))) dNil))) (dFz (dCall F__law_take [some 0, none] (dRef 0 (dCons (ret (.int 6)) dNil)))))))) [.rs (some 0) s, x, y, .ow none (.lst A), .no] = .nx [.rs (some 0) s2, x, y, .sh (.lst G), .no] := by
  simp [e1, e2, x1, x2, x3, x4]
theorem s3_run {s s1 s2 : Dw} {J G ds : List D} {x c' : Sl} {cs : List Nat} {m w : Int} (e3 : F__law_take [Sl.rs (some 0) s, Sl.sh (D.int (m + 1))] = FR.ok (Sl.sh (D.int w)) [Sl.rs none s1, Sl.no]) (x5 : fRange1 [.int w] = some ds)
    (p1 : lcRun (gN 4) (ret true) e1__law_page [4] ds [] [Sl.rs (some 0) s1, x, Sl.sh (D.int m), Sl.sh (D.lst G), Sl.no] = some (J, [Sl.rs (some 0) s2, x, Sl.sh (D.int m), c', Sl.no])) (p5 : c' = .sh (.lst G) ∨ c' = .ow none (.lst G)) (j : fJoin (D.str "") (D.lst J) = some (wD cs)) :
    (sRet (dSh (dJoin (ret (.str ("" : Str))) (dFz (dLc (lRange fRange1 (dCons (dFz (dCall F__law_take [some 0, none] (dRef 0 (dCons (d2 fAdd (dVarB 2) (ret (.int 1))) dNil)))) dNil)) (gN 4) (ret true) e1__law_page [4]))))) [.rs (some 0) s, x, .sh (.int m), .sh (.lst G), .no] = .rt (.sh (wD cs)) [.rs (some 0) s2, x, .sh (.int m), c', .no] := by
  have fa : fAdd (.int m) (.int 1) = some (.int (m + 1)) := rfl
  rcases p5 with rfl | rfl <;> simp [e3, x5, p1, j, fa]
/-- a drawn text -/
theorem page_run {n m : Nat} {s : Dw} {t : Option Nat} {d : Dia} (hd : d.Ok) (h : DwOk (n + m + 3) s) (hm : m ≤ 900) :
    ∃ (s' : Dw) (cs : List Nat), F__law_page [.rs t s, .sh d.t, .sh (.int m)] = .ok (.sh (wD cs)) [.rs none s', .no, .no] ∧ DwOk n s' ∧ cs.length ≤ m ∧ ∀ c ∈ cs, c ∈ menuN d := by
  have M := menu_run d
  obtain ⟨k, s1, hk, d1, e1⟩ := pickC (n := n + m + 2) (t := some 0) (cs := menuN d) h (menuN_ne d) (by have := menuN_len d; omega)
  obtain ⟨r, s2, hr, d2, e2⟩ := takeN (n := n + m + 1) (t := some 0) 6 d1 (by omega) (by omega)
  obtain ⟨w, s3, hw, d3, e3⟩ := takeN (n := n + m) (t := some 0) ((m : Int) + 1) d2 (by omega) (by omega)
  have el : PySem.sizeLine = 16777216 := big1
  have l7 := menuN_len d
  have l4 : ((menuN d).take 4).length ≤ 4 := by simp only [List.length_take]; omega
  have x1 := take4_run (menuN d)
  have x2 := add_chs (menuN d) ((menuN d).take 4) (by omega)
  have x3 := rep_ch k r (by omega)
  have x4 := add_chs (menuN d ++ (menuN d).take 4) (List.replicate r k) (by simp only [List.length_append, List.length_replicate]; omega)
  have x5 : fRange1 [.int (w : Nat)] = some ((List.range w).map fun i => D.int (0 + (i : Nat))) := range1N (by omega)
  have hall : ∀ c ∈ menuN d ++ (menuN d).take 4 ++ List.replicate r k, c ∈ menuN d := by
    intro c hc
    rcases List.mem_append.mp hc with hc | hc
    · rcases List.mem_append.mp hc with hc | hc
      · exact hc
      · exact List.mem_of_mem_take hc
    · rw [List.eq_of_mem_replicate hc]
      exact hk
  have hlen : (menuN d ++ (menuN d).take 4 ++ List.replicate r k).length ≤ 1000 := by simp only [List.length_append, List.length_replicate]; omega
  have hne : menuN d ++ (menuN d).take 4 ++ List.replicate r k ≠ [] := by
    intro z
    exact menuN_ne d (List.append_eq_nil_iff.mp (List.append_eq_nil_iff.mp z).1).1
  obtain ⟨ks, s4, c', p1, p2, p3, p4, p5⟩ := picks_run (n := n) (a := .sh d.t) (b := .sh (.int m)) (c := .sh (.lst ((menuN d ++ (menuN d).take 4 ++ List.replicate r k).map chD))) (ds := (List.range w).map fun i => D.int (0 + (i : Nat))) (d3.le (by rw [List.length_map, List.length_range]; omega)) hne hlen (by rw [List.length_map, List.length_range]; omega) (.inl rfl)
  have j := join_c (cs := ks) (by rw [List.length_map, List.length_range] at p3; omega)
  refine ⟨s4, ks, ?_, p2, by rw [List.length_map, List.length_range] at p3; omega, fun c hc => hall c (p4 c hc)⟩
  generalize (List.map (fun i => D.int (0 + (i : Nat))) (List.range w)) = ds at *
  generalize h1 : (menuN d).map chD = A at *
  generalize h2 : ((menuN d).take 4).map chD = B at *
  generalize h3 : (menuN d ++ (menuN d).take 4).map chD = C at *
  generalize h4 : (List.replicate r k).map chD = E at *
  generalize h5 : (menuN d ++ (menuN d).take 4 ++ List.replicate r k).map chD = G at *
  generalize h6 : ks.map chD = J at *
  have fa : fAdd (.int (m : Int)) (.int 1) = some (.int ((m : Int) + 1)) := rfl
  have S1 : (sSet 3 (dCall F__law_menu [none] (dCons (dVar 1) dNil))) [.rs (some 0) s, .sh d.t, .sh (.int m), .no, .no] = .nx [.rs (some 0) s, .sh d.t, .sh (.int m), .ow none (.lst A), .no] := by simp [M]
  have S2 := s2_run (f := fMul) (x := .sh d.t) (y := .sh (.int m)) e1 e2 x1 x2 x3 x4
  simp only [F__law_page, mkF_eq, b__law_page, x_tf1, x_tf0, x_tgR, x_tgS, List.replicate, List.cons_append, List.nil_append]
  rw [sSeq_nx S1, sSeq_nx S2, s3_run e3 x5 p1 p5 j]
  rfl
end CMA

set_option Elab.async false
set_option linter.all false
set_option maxRecDepth 100000
set_option maxHeartbeats 1000000
namespace K02
open DS DS.Drw RD CMA
open PySem (Str)
@[simp] theorem x_lc2 {ρ : List Sl} (t : M (List D)) (g : D → List Sl → Option (List Sl)) (tt : M Bool) (t1 : M (List D)) (g1 : D → List Sl → Option (List Sl)) (tt1 : M Bool) (te : M D) (own own1 : List Nat) : dLc2 t g tt t1 g1 tt1 te own own1 ρ = (t ρ).bind fun ds ρ1 => lcR own ρ1 (lcRun2 g tt t1 g1 tt1 te own own1 ds [] (drops own ρ1)) := by
  unfold dLc2; rfl
/-! ### the signs that are special -/
def spN (d : Dia) : List Nat := osN d ++ (if d.pad = true then [32] else [])
def hd (x : Str) : Nat := x.cps.toList.headD 0
def sp (d : Dia) : List Nat := (srtS ((spN d).map chS)).map hd
theorem sp_map (d : Dia) : (srtS ((spN d).map chS)).map D.str = (sp d).map chD := by
  unfold sp
  rw [List.map_map]
  refine List.map_congr_left fun x hx => ?_
  obtain ⟨c, _, rfl⟩ := List.mem_map.mp ((srtS_perm _).mem_iff.mp hx)
  rfl
theorem spN_len (d : Dia) : (spN d).length ≤ 5 := by
  unfold spN osN
  cases d.quo <;> cases d.esc <;> split <;> simp
theorem sp_len (d : Dia) : (sp d).length ≤ 5 := by
  unfold sp
  rw [List.length_map, (srtS_perm _).length_eq, List.length_map]
  exact spN_len d
theorem sorted_sp (d : Dia) : fSorted (.lst ((spN d).map chD)) = some (.lst ((sp d).map chD)) := by
  have e : (spN d).map chD = ((spN d).map chS).map D.str := by rw [List.map_map]; rfl
  rw [e]
  simp only [fSorted, strsOf_map]
  rw [if_pos (by rw [List.length_map]; have := spN_len d; omega), sp_map]
theorem spec_lc (d : Dia) {k : Sl} : lcRun (gN 2) t1_special (dVar 2) [2] ((Dia.os d).map oD) [] [k, .no, .no] = some ((osN d).map chD, [k, .no, .no]) := by
  have := lcRun_pure (g := gN 2) (tt := t1_special) (te := dVar 2) (own := [2]) (ρ := [k, .no, .no]) strO id ((Dia.os d).map oD) [] (fun z hz => by
    obtain ⟨o, ho, rfl⟩ := List.mem_map.mp hz
    refine ⟨[k, .no, .sh (oD o)], [k, .no, .sh (oD o)], rfl, ?_, fun _ => rfl, fun _ => ⟨_, rfl, rfl⟩⟩
    have nn : fNotN .non .non = some (.bl false) := rfl
    have ns : ∀ x, fNotN (.str x) .non = some (.bl true) := fun _ => rfl
    cases o <;> simp [t1_special, oD, nn, ns, strO]) (by simp [Dia.os])
  rw [this, fil_os]
  rfl
theorem add_bl (d : Dia) : ∃ L : D, fMul (.lst [chD 32]) (.int (if d.pad = true then 1 else 0)) = some L ∧ fAdd (.lst ((osN d).map chD)) L = some (.lst ((spN d).map chD)) := by
  have rp := rep_ch 32 (if d.pad = true then 1 else 0) (by split <;> omega)
  have hrep : (List.replicate (if d.pad = true then 1 else 0) 32 : List Nat) = if d.pad = true then [32] else [] := by split <;> rfl
  rw [hrep] at rp
  have ci : (((if d.pad = true then 1 else 0 : Nat)) : Int) = if d.pad = true then 1 else 0 := by split <;> rfl
  rw [ci] at rp
  refine ⟨_, rp, ?_⟩
  exact add_chs (osN d) _ (by unfold osN; cases d.quo <;> cases d.esc <;> split <;> simp)
theorem special_run (d : Dia) : F_special [.sh d.o] = .ok (.ow none (.lst ((sp d).map chD))) [.no] := by
  have f : fFld "Dialect" "settings" d.o = some d.t := by simp [fFld, Dia.o, List.lookup]
  have sl : fSl d.t none (some 4) = some (.tup ((Dia.os d).map oD)) := rfl
  have it : (D.tup ((Dia.os d).map oD)).items = some ((Dia.os d).map oD) := rfl
  have L := spec_lc d (k := .sh d.o)
  have p := p_pad d
  have bl : g_BLANK = chD 32 := by
    unfold chD; rw [ch_blank]; rfl
  obtain ⟨B, m1, m2⟩ := add_bl d
  have so := sorted_sp d
  have it2 : fIntT (.bl d.pad) = some (.int (if d.pad = true then 1 else 0)) := rfl
  generalize (Dia.os d).map oD = O at *
  generalize (osN d).map chD = O2 at *
  generalize (spN d).map chD = O3 at *
  generalize (if d.pad = true then (1 : Int) else 0) = pi at *
  simp [F_special, mkF_eq, b_special, f, sl, it, L, p, bl, m1, m2, so, it2]
theorem lspec_lc (d : Dia) {k : Sl} : lcRun (gN 2) t1__law_special (dVar 2) [2] ((Dia.os d).map oD) [] [k, .no, .no] = some ((osN d).map chD, [k, .no, .no]) := spec_lc d
theorem lspecial_run (d : Dia) : F__law_special [.sh d.t] = .ok (.ow none (.lst ((sp d).map chD))) [.no] := by
  have sl : fSl d.t none (some 4) = some (.tup ((Dia.os d).map oD)) := rfl
  have it : (D.tup ((Dia.os d).map oD)).items = some ((Dia.os d).map oD) := rfl
  have L := lspec_lc d (k := .sh d.t)
  have bl : D.str (" " : Str) = chD 32 := by unfold chD; rw [ch_blank]
  have x5 : fIx d.t (.int 5) = some (.bl d.pad) := rfl
  obtain ⟨B, m1, m2⟩ := add_bl d
  have so := sorted_sp d
  have it2 : fIntT (.bl d.pad) = some (.int (if d.pad = true then 1 else 0)) := rfl
  generalize (Dia.os d).map oD = O at *
  generalize (osN d).map chD = O2 at *
  generalize (spN d).map chD = O3 at *
  generalize (if d.pad = true then (1 : Int) else 0) = pi at *
  simp [F__law_special, mkF_eq, b__law_special, sl, it, L, x5, bl, m1, m2, so, it2]
/-! ### a sign that none uses -/
def usd (ds : List Dia) : List Nat := (ds.map sp).flatten
theorem pig : ∀ (U cs : List Nat), U.Nodup → (∀ x ∈ U, x ∈ cs) → U.length ≤ cs.length
  | [], cs, _, _ => Nat.zero_le _
  | x :: U, cs, nd, h => by
    obtain ⟨n1, n2⟩ := List.nodup_cons.mp nd
    have hx := h x List.mem_cons_self
    have ih := pig U (cs.erase x) n2 fun y hy => (List.mem_erase_of_ne (fun z : y = x => n1 (by rw [← z]; exact hy))).mpr (h y (List.mem_cons_of_mem _ hy))
    rw [List.length_erase_of_mem hx] at ih
    have := List.length_pos_of_mem hx
    simp only [List.length_cons]
    omega
theorem al_len : alphaL.length = 96 := by decide +kernel
theorem al_nd : alphaL.Nodup := by decide +kernel
theorem usd_len : ∀ ds : List Dia, (usd ds).length ≤ 5 * ds.length
  | [] => by simp [usd]
  | d :: ds => by
    have h1 := sp_len d
    have h2 := usd_len ds
    simp only [usd, List.map_cons, List.flatten_cons, List.length_append, List.length_cons] at h2 ⊢
    omega
theorem fst_ex {ds : List Dia} (h : ds.length ≤ 4) : ∃ z zs, (alphaL.filter fun c => !(usd ds).contains c) = z :: zs := by
  cases e : alphaL.filter fun c => !(usd ds).contains c with
  | cons z zs => exact ⟨z, zs, rfl⟩
  | nil =>
    exfalso
    have := pig alphaL (usd ds) al_nd fun x hx => by
      have := List.filter_eq_nil_iff.mp e x hx
      simpa using this
    rw [al_len] at this
    have := usd_len ds
    omega
theorem lc_id {t : Sl} {d : D} : ∀ (cs : List Nat) (acc : List D), acc.length + cs.length ≤ 1000 → lcRun (gN 3) (ret true) (dVar 3) [3] (cs.map chD) acc [t, .no, .sh d, .no] = some (acc ++ cs.map chD, [t, .no, .sh d, .no])
  | [], acc, _ => by simp [lcRun]
  | c :: cs, acc, h => by
    simp only [List.length_cons] at h
    have hz : acc.length < PySem.sizeLine := by rw [big1]; omega
    have ih := lc_id (t := t) (d := d) cs (acc ++ [chD c]) (by simp; omega)
    have g : gN 3 (chD c) [t, .no, .sh d, .no] = some [t, .no, .sh d, .sh (chD c)] := rfl
    have dv : dVar 3 [t, .no, .sh d, .sh (chD c)] = .ok (chD c) [t, .no, .sh d, .sh (chD c)] := rfl
    have dr : drops [3] [t, .no, .sh d, .sh (chD c)] = [t, .no, .sh d, .no] := rfl
    rw [List.map_cons, lcRun]
    simp only [g, ret, dv, hz, if_true, dr, ih]
    simp
theorem or_lc {t : Sl} : ∀ (ds : List Dia) (acc : List Nat), acc.length + 5 * ds.length ≤ 500 → lcRun2 (gN 2) (ret true) s1_ordinary (gN 3) (ret true) (dVar 3) [2, 3] [3] (ds.map Dia.o) (acc.map chD) [t, .no, .no, .no] = some ((acc ++ usd ds).map chD, [t, .no, .no, .no])
  | [], acc, _ => by simp [lcRun2, usd]
  | d :: ds, acc, h => by
    simp only [List.length_cons] at h
    have sl := sp_len d
    have S := special_run d
    have it : (D.lst ((sp d).map chD)).items = some ((sp d).map chD) := rfl
    have L := lc_id (t := t) (d := d.o) (sp d) (acc.map chD) (by simp; omega)
    have ih := or_lc (t := t) ds (acc ++ sp d) (by simp; omega)
    have g : gN 2 d.o [t, .no, .no, .no] = some [t, .no, .sh d.o, .no] := rfl
    have s1 : s1_ordinary [t, .no, .sh d.o, .no] = .ok ((sp d).map chD) [t, .no, .sh d.o, .no] := by
      generalize (sp d).map chD = P at *
      simp [s1_ordinary, S, it]
    have d3 : drops [3] [t, .no, .sh d.o, .no] = [t, .no, .sh d.o, .no] := rfl
    have d23 : drops [2, 3] [t, .no, .sh d.o, .no] = [t, .no, .no, .no] := rfl
    rw [← List.map_append] at L
    rw [List.map_cons, lcRun2]
    simp only [g, ret, s1, d3, L, d23, ih]
    simp [usd]
theorem al_lc {t x2 : Sl} (cs : List Nat) : lcRun (gN 3) t1_ordinary (dVar 3) [3] (alphaL.map chD) [] [t, .ow none (.lst (cs.map chD)), x2, .no] = some ((alphaL.filter fun c => !cs.contains c).map chD, [t, .ow none (.lst (cs.map chD)), x2, .no]) := by
  have := lcRun_pure (g := gN 3) (tt := t1_ordinary) (te := dVar 3) (own := [3]) (ρ := [t, .ow none (.lst (cs.map chD)), x2, .no]) (fun v => match v with | .str y => !cs.contains (y.cps.toList.headD 0) | _ => false) id (alphaL.map chD) [] (fun v hv => by
    obtain ⟨c, hc, rfl⟩ := List.mem_map.mp hv
    have n := notin_chs c cs
    refine ⟨[t, .ow none (.lst (cs.map chD)), x2, .sh (chD c)], [t, .ow none (.lst (cs.map chD)), x2, .sh (chD c)], rfl, ?_, fun _ => rfl, fun _ => ⟨_, rfl, rfl⟩⟩
    show _ = Res.ok (!cs.contains c) _
    generalize cs.map chD = O at *
    simp [t1_ordinary, n]) (by rw [List.length_map, al_len]; simp)
  rw [this, List.nil_append, List.map_id]
  congr 2
  rw [List.filter_map]
  rfl
theorem al_d : g_ALPHABET = wD alphaL := by
  unfold g_ALPHABET wD alphaL
  congr 1
theorem ix_head {x : D} {K : List D} : fIx (.lst (x :: K)) (.int 0) = some x := by
  show fIx _ (.int ((0 : Nat) : Int)) = _
  simp only [fIx]
  rw [at_nat]
  rfl
theorem ordinary_run {ds : List Dia} {z : Nat} {zs : List Nat} (h : ds.length ≤ 4) (hz : (alphaL.filter fun c => !(usd ds).contains c) = z :: zs) : F_ordinary [.sh (.tup (ds.map Dia.o))] = .ok (.sh (chD z)) [.no] := by
  have L1 := or_lc (t := .sh (.tup (ds.map Dia.o))) ds [] (by simp; omega)
  have L2 := al_lc (t := .sh (.tup (ds.map Dia.o))) (x2 := .no) (usd ds)
  rw [hz, List.map_cons] at L2
  rw [List.nil_append, List.map_nil] at L1
  have it : (D.tup (ds.map Dia.o)).items = some (ds.map Dia.o) := rfl
  have it2 := x_itw alphaL
  have ix := ix_head (x := chD z) (K := zs.map chD)
  have al := al_d
  generalize ds.map Dia.o = O at *
  generalize (usd ds).map chD = U at *
  generalize alphaL.map chD = A at *
  generalize wD alphaL = W at *
  generalize chD z = Z at *
  generalize zs.map chD = ZS at *
  simp [F_ordinary, mkF_eq, b_ordinary, it, L1, al, it2, L2, ix]
end K02

set_option Elab.async false
set_option linter.all false
set_option maxRecDepth 100000
set_option maxHeartbeats 1000000
namespace K02
open DS DS.Drw RD CMA
open PySem (Str)
/-! ### all signs -/
theorem add_str {a b : Str} (h : a.length + b.length ≤ 1000) : fAdd (.str a) (.str b) = some (.str (a ++ b)) := by
  simp only [fAdd]
  rw [if_pos (by rw [big1]; omega)]
theorem signs_run : F__law_signs [] = .ok (.sh (wD alphaL)) [] := by
  have a1 := add_str (a := "\t\n !") (b := "\"") (by decide)
  have a2 := add_str (a := "\t\n !" ++ "\"") (b := "#$&'()*+,-./0123456789:;<=>?@ABCDEFGHIJKLMNOPQRSTUVWXYZ[") (by decide)
  have a3 := add_str (a := "\t\n !" ++ "\"" ++ "#$&'()*+,-./0123456789:;<=>?@ABCDEFGHIJKLMNOPQRSTUVWXYZ[") (b := "\\") (by decide)
  have a4 := add_str (a := "\t\n !" ++ "\"" ++ "#$&'()*+,-./0123456789:;<=>?@ABCDEFGHIJKLMNOPQRSTUVWXYZ[" ++ "\\") (b := "]^_") (by decide)
  have a5 := add_str (a := "\t\n !" ++ "\"" ++ "#$&'()*+,-./0123456789:;<=>?@ABCDEFGHIJKLMNOPQRSTUVWXYZ[" ++ "\\" ++ "]^_") (b := "`abcdefghijklmnopqrstuvwxyz{|}~") (by decide)
  have e : (("\t\n !" : Str) ++ "\"" ++ "#$&'()*+,-./0123456789:;<=>?@ABCDEFGHIJKLMNOPQRSTUVWXYZ[" ++ "\\" ++ "]^_" ++ "`abcdefghijklmnopqrstuvwxyz{|}~") = mkS' alphaL := by decide +kernel
  rw [e] at a5
  have e2 : D.str (mkS' alphaL) = wD alphaL := rfl
  rw [e2] at a5
  generalize wD alphaL = W at *
  simp [F__law_signs, mkF_eq, b__law_signs, a1, a2, a3, a4, a5]
theorem lord_run {ds : List Dia} {z : Nat} {zs : List Nat} (h0 : ds ≠ []) (h : ds.length ≤ 4) (hz : (alphaL.filter fun c => !(usd ds).contains c) = z :: zs) : F__law_ordinary [.sh (.lst (ds.map Dia.o))] = .ok (.sh (chD z)) [.no] := by
  have O := ordinary_run h hz
  have e : ∀ i j : Int, fEq (.int i) (.int j) = some (.bl (decide (i = j))) := fun i j => by
    have : (i == j) = decide (i = j) := rfl
    simp [fEq, flat_int, eqv_int, this]
  generalize chD z = Z at *
  match ds, h0, h, O with
  | [a], _, _, O =>
    simp only [List.map_cons, List.map_nil] at O ⊢
    have ln : fLen (.lst [a.o]) = some (.int 1) := rfl
    have x0 : fIx (.lst [a.o]) (.int 0) = some a.o := rfl
    simp [F__law_ordinary, mkF_eq, b__law_ordinary, ln, e, x0, O, finC]
  | [a, b], _, _, O =>
    simp only [List.map_cons, List.map_nil] at O ⊢
    have ln : fLen (.lst [a.o, b.o]) = some (.int 2) := rfl
    have x0 : fIx (.lst [a.o, b.o]) (.int 0) = some a.o := rfl
    have x1 : fIx (.lst [a.o, b.o]) (.int 1) = some b.o := rfl
    simp [F__law_ordinary, mkF_eq, b__law_ordinary, ln, e, x0, x1, O, finC]
  | [a, b, c], _, _, O =>
    simp only [List.map_cons, List.map_nil] at O ⊢
    have ln : fLen (.lst [a.o, b.o, c.o]) = some (.int 3) := rfl
    have x0 : fIx (.lst [a.o, b.o, c.o]) (.int 0) = some a.o := rfl
    have x1 : fIx (.lst [a.o, b.o, c.o]) (.int 1) = some b.o := rfl
    have x2 : fIx (.lst [a.o, b.o, c.o]) (.int 2) = some c.o := rfl
    simp [F__law_ordinary, mkF_eq, b__law_ordinary, ln, e, x0, x1, x2, O, finC]
  | [a, b, c, d], _, _, O =>
    simp only [List.map_cons, List.map_nil] at O ⊢
    have ln : fLen (.lst [a.o, b.o, c.o, d.o]) = some (.int 4) := rfl
    have x0 : fIx (.lst [a.o, b.o, c.o, d.o]) (.int 0) = some a.o := rfl
    have x1 : fIx (.lst [a.o, b.o, c.o, d.o]) (.int 1) = some b.o := rfl
    have x2 : fIx (.lst [a.o, b.o, c.o, d.o]) (.int 2) = some c.o := rfl
    have x3 : fIx (.lst [a.o, b.o, c.o, d.o]) (.int 3) = some d.o := rfl
    simp [F__law_ordinary, mkF_eq, b__law_ordinary, ln, e, x0, x1, x2, x3, O, finC]
  | a :: b :: c :: d :: f :: r, _, h, _ => simp at h
/-! ### odd values -/
def oddS : List D := [.str "", .str "ab", .non, .int 5, .bl true, .lst [.str ","], .tup [.str ","], .dct [], .lst [.str "a", .str "b"], .str "\n\n"]
theorem sign_no {d : D} (h : fIsi ["str"] d = some (.bl false)) : F_is_sign [.sh d] = .ok (.sh (.bl false)) [.no] := by
  simp [F_is_sign, mkF_eq, b_is_sign, h]
theorem sign_long {x : Str} {n : Int} (h : fLen (.str x) = some (.int n)) (hn : fEq (.int n) (.int 1) = some (.bl false)) : F_is_sign [.sh (.str x)] = .ok (.sh (.bl false)) [.no] := by
  have e := isiS_str x
  simp [F_is_sign, mkF_eq, b_is_sign, e, h, hn]
theorem sign_odd {o : D} (h : o ∈ oddS) : F_is_sign [.sh o] = .ok (.sh (.bl false)) [.no] := by
  have e01 : fEq (.int 0) (.int 1) = some (.bl false) := by simp [fEq, flat_int, eqv_int]
  have e21 : fEq (.int 2) (.int 1) = some (.bl false) := by simp [fEq, flat_int, eqv_int]
  simp only [oddS, List.mem_cons, List.not_mem_nil, or_false] at h
  rcases h with rfl | rfl | rfl | rfl | rfl | rfl | rfl | rfl | rfl | rfl
  · exact sign_long (n := 0) (by simp only [fLen]; rw [if_pos (by rw [big1]; decide)] <;> rfl) e01
  · exact sign_long (n := 2) (by simp only [fLen]; rw [if_pos (by rw [big1]; decide)]; rfl) e21
  · exact sign_no isiS_non
  · exact sign_no (isiS_int _)
  · exact sign_no (isiS_bl _)
  · exact sign_no (isiS_lst _)
  · exact sign_no (isiS_tup _)
  · exact sign_no (isiS_dct _)
  · exact sign_no (isiS_lst _)
  · exact sign_long (n := 2) (by simp only [fLen]; rw [if_pos (by rw [big1]; decide)]; rfl) e21
/-! ### a lap -/
def LS (sc : D) (s : Dw) (x2 x3 x4 x5 x6 x7 x8 x9 x10 x11 x12 : Sl) : List Sl := [.sh sc, .rs none s, x2, x3, x4, x5, x6, x7, x8, x9, x10, x11, x12]
theorem dias_lc {n : Nat} {sc : D} {s : Dw} {x2 x6 x12 : Sl} {rs : List D} (h : DwOk (n + 13 * rs.length) s) (hl : rs.length ≤ 100) : ∃ (s' : Dw) (ds : List Dia), lcRun (gN 11) (ret true) e2_law [11] rs [] (LS sc s x2 .no .no .no x6 .no .no .no .no .no x12) = some (ds.map Dia.t, LS sc s' x2 .no .no .no x6 .no .no .no .no .no x12) ∧ DwOk n s' ∧ ds.length = rs.length ∧ ∀ d ∈ ds, d.Ok := by
  obtain ⟨acc, ρ, h1, s', ds, h2, h3, h4, h5, h6⟩ := lcRun_inv (g := gN 11) (tt := ret true) (te := e2_law) (own := [11])
    (fun acc rest ρ => ∃ (s' : Dw) (ds : List Dia), ρ = LS sc s' x2 .no .no .no x6 .no .no .no .no .no x12 ∧ acc = ds.map Dia.t ∧ DwOk (n + 13 * rest.length) s' ∧ ds.length + rest.length = rs.length ∧ ∀ d ∈ ds, d.Ok) rs [] _ ⟨s, [], rfl, rfl, h, by simp, by simp⟩
    (fun x rest acc ρ ⟨s1, ds, e1, e2, k1, l1, m1⟩ => by
      subst e1 e2
      simp only [List.length_cons] at k1 l1
      obtain ⟨s2, d, hd, dk2, E⟩ := dia_run (n := n + 13 * rest.length) (t := none) (k1.le (by omega))
      refine ⟨_, _, true, rfl, rfl, (fun z => nomatch z), fun _ => ?_⟩
      refine ⟨d.t, LS sc s2 x2 .no .no .no x6 .no .no .no .no (.sh x) x12, ?_, s2, ds ++ [d], rfl, by simp, dk2, by simp; omega, ?_⟩
      · unfold LS
        simp [e2_law, E]
      · intro z hz
        rcases List.mem_append.mp hz with q | q
        · exact m1 z q
        · simp at q; subst q; exact hd) (by simp; omega)
  subst h2 h3
  exact ⟨s', ds, h1, by simpa using h4, by simpa using h5, h6⟩
theorem made_lc {sc : D} {s : Dw} {x2 x3 : Sl} {ds : List Dia} (hd : ∀ d ∈ ds, d.Ok) (hl : ds.length ≤ 100) {x12 : Sl} : lcRun (gN 6) (ret true) e1_law [6] (ds.map Dia.t) [] (LS sc s x2 x3 .no .no .no .no .no .no .no .no x12) = some (ds.map Dia.o, LS sc s x2 x3 .no .no .no .no .no .no .no .no x12) := by
  have go : ∀ (ds : List Dia) (acc : List D), (∀ d ∈ ds, d.Ok) → acc.length + ds.length ≤ 1000 → lcRun (gN 6) (ret true) e1_law [6] (ds.map Dia.t) acc (LS sc s x2 x3 .no .no .no .no .no .no .no .no x12) = some (acc ++ ds.map Dia.o, LS sc s x2 x3 .no .no .no .no .no .no .no .no x12) := by
    intro ds
    induction ds with
    | nil => intro acc _ _; simp [lcRun]
    | cons d ds ih =>
      intro acc hd hl
      simp only [List.length_cons] at hl
      have M := made_run (hd d List.mem_cons_self)
      have hz : acc.length < PySem.sizeLine := by rw [big1]; omega
      have ih := ih (acc ++ [d.o]) (fun x hx => hd x (List.mem_cons_of_mem _ hx)) (by simp; omega)
      have g : gN 6 d.t (LS sc s x2 x3 .no .no .no .no .no .no .no .no x12) = some (LS sc s x2 x3 .no .no (.sh d.t) .no .no .no .no .no x12) := rfl
      have E : e1_law (LS sc s x2 x3 .no .no (.sh d.t) .no .no .no .no .no x12) = .ok d.o (LS sc s x2 x3 .no .no (.sh d.t) .no .no .no .no .no x12) := by
        unfold LS
        simp [e1_law, M]
      have dr : drops [6] (LS sc s x2 x3 .no .no (.sh d.t) .no .no .no .no .no x12) = LS sc s x2 x3 .no .no .no .no .no .no .no .no x12 := rfl
      rw [List.map_cons, lcRun]
      simp only [g, ret, E, hz, if_true, dr, ih]
      simp
  have := go ds [] hd (by simp; omega)
  rw [this]
  simp
theorem ne_chs (cs : List Nat) : fNe (.lst (cs.map chD)) (.lst (cs.map chD)) = some (.bl false) := by
  have v : ∀ cs : List Nat, PySem.PyData.eqvAll (pyL (cs.map chD)) (pyL (cs.map chD)) = true := fun cs => by
    induction cs with
    | nil => rfl
    | cons c cs ih => simp only [List.map_cons, pyL, PySem.PyData.eqvAll, ih]; simp [chD, D.py, PySem.PyData.eqv]
  have h : (D.lst (cs.map chD)).eqv (.lst (cs.map chD)) = true := by simp [D.eqv, D.py, PySem.PyData.eqv, v]
  simp [fNe, flat_chs, h]
theorem pair_step {sc : D} {s : Dw} {x2 x3 x4 x5 x12 : Sl} {d : Dia} {acc : List Nat} (h5 : x5 = .sh (.lst (acc.map chD)) ∨ x5 = .ow none (.lst (acc.map chD))) (hl : acc.length ≤ 100) :
    l1_law (LS sc s x2 x3 x4 x5 (.sh d.t) (.sh d.o) .no .no .no .no x12) = .nx (LS sc s x2 x3 x4 (.sh (.lst ((acc ++ sp d).map chD))) (.sh d.t) (.sh d.o) (.ow none (.lst ((sp d).map chD ++ [.str "z"]))) .no .no .no x12) := by
  have S := special_run d
  have T := lspecial_run d
  have sl := sp_len d
  have ad := add_chs acc (sp d) (by omega)
  have ne := ne_chs (sp d)
  have il : fIsi ["list"] (.lst ((sp d).map chD)) = some (.bl true) := isi_ty rfl (by decide +kernel)
  have hz : ((sp d).map chD).length < PySem.sizeLine := by rw [big1, List.length_map]; omega
  unfold LS
  generalize (acc ++ sp d).map chD = A2 at *
  generalize acc.map chD = A at *
  generalize (sp d).map chD = P at *
  rcases h5 with rfl | rfl <;> simp [l1_law, S, T, ad, ne, il, hz, dKw, perm, finC]
theorem pair_loop {sc : D} {s : Dw} {x2 x3 x4 x12 : Sl} : ∀ (ds : List Dia) (acc : List Nat) (x5 x6 : Sl), (x5 = .sh (.lst (acc.map chD)) ∨ x5 = .ow none (.lst (acc.map chD))) → acc.length + 5 * ds.length ≤ 100 → shOr (some x6) = x6 →
    ∃ x5' x6', sEach g1_law l1_law [7, 8] (pairs2 (ds.map Dia.t) (ds.map Dia.o)) (LS sc s x2 x3 x4 x5 x6 .no .no .no .no .no x12) = .nx (LS sc s x2 x3 x4 x5' x6' .no .no .no .no .no x12) ∧ (x5' = .sh (.lst ((acc ++ usd ds).map chD)) ∨ x5' = .ow none (.lst ((acc ++ usd ds).map chD))) ∧ shOr (some x6') = x6'
  | [], acc, x5, x6, h5, _, h6 => by
    refine ⟨x5, x6, ?_, by simpa [usd] using h5, h6⟩
    show sEach _ _ _ [] _ = _
    rw [sEach_nil]
    rfl
  | d :: ds, acc, x5, x6, h5, hl, h6 => by
    simp only [List.length_cons] at hl
    have sl := sp_len d
    have S := pair_step (sc := sc) (s := s) (x2 := x2) (x3 := x3) (x4 := x4) (x12 := x12) (d := d) h5 (by omega)
    obtain ⟨x5', x6', E, h5', h6'⟩ := pair_loop (sc := sc) (s := s) (x2 := x2) (x3 := x3) (x4 := x4) (x12 := x12) ds (acc ++ sp d) (.sh (.lst ((acc ++ sp d).map chD))) (.sh d.t) (.inl rfl) (by simp; omega) rfl
    refine ⟨x5', x6', ?_, by simpa [usd] using h5', h6'⟩
    have g : g1_law (.tup [d.t, d.o]) (LS sc s x2 x3 x4 x5 x6 .no .no .no .no .no x12) = some (LS sc s x2 x3 x4 x5 (.sh d.t) (.sh d.o) .no .no .no .no x12) := by
      unfold LS
      simp [g1_law]
    show sEach _ _ _ (.tup [d.t, d.o] :: pairs2 (ds.map Dia.t) (ds.map Dia.o)) _ = _
    rw [sEach_nx g S]
    exact E
theorem du_lc {sc : D} {s : Dw} {x2 x3 x4 x5 x6 : Sl} {cs : List Nat} (h5 : x5 = .sh (.lst (cs.map chD)) ∨ x5 = .ow none (.lst (cs.map chD))) : lcRun (gN 12) t1_law (dVar 12) [12] (alphaL.map chD) [] (LS sc s x2 x3 x4 x5 x6 .no .no .no .no .no .no) = some ((alphaL.filter fun c => !cs.contains c).map chD, LS sc s x2 x3 x4 x5 x6 .no .no .no .no .no .no) := by
  have := lcRun_pure (g := gN 12) (tt := t1_law) (te := dVar 12) (own := [12]) (ρ := LS sc s x2 x3 x4 x5 x6 .no .no .no .no .no .no) (fun v => match v with | .str y => !cs.contains (y.cps.toList.headD 0) | _ => false) id (alphaL.map chD) [] (fun v hv => by
    obtain ⟨c, hc, rfl⟩ := List.mem_map.mp hv
    have n := notin_chs c cs
    refine ⟨LS sc s x2 x3 x4 x5 x6 .no .no .no .no .no (.sh (chD c)), LS sc s x2 x3 x4 x5 x6 .no .no .no .no .no (.sh (chD c)), rfl, ?_, fun _ => rfl, fun _ => ⟨_, rfl, rfl⟩⟩
    show _ = Res.ok (!cs.contains c) _
    unfold LS
    generalize cs.map chD = O at *
    rcases h5 with rfl | rfl <;> simp [t1_law, n]) (by rw [List.length_map, al_len]; simp)
  rw [this, List.nil_append, List.map_id]
  refine congrArg (fun l => some (l, _)) ?_
  rw [List.filter_map]
  rfl
theorem lt_al : fLstT (wD alphaL) = some (.lst (alphaL.map chD)) := by
  have it := x_itw alphaL
  unfold wD at it ⊢
  simp only [D.items, Option.some.injEq] at it
  simp only [fLstT, it]
  rw [if_pos (by rw [mk_len, al_len, big1]; omega)]
theorem s3_run {n : Nat} {sc : D} {s : Dw} {x2 x6 : Sl} (h : DwOk (n + 53) s) : ∃ (s' : Dw) (ds : List Dia), (sSet 3 (dLc (lRange fRange1 (dCons (d2 fAdd (ret (.int 1)) (dFz (dCall F__law_take [some 1, none] (dRef 1 (dCons (ret (.int 4)) dNil))))) dNil)) (gN 11) (ret true) e2_law [11])) (LS sc s x2 .no .no .no x6 .no .no .no .no .no .no) = .nx (LS sc s' x2 (.ow none (.lst (ds.map Dia.t))) .no .no x6 .no .no .no .no .no .no) ∧ DwOk n s' ∧ ds ≠ [] ∧ ds.length ≤ 4 ∧ ∀ d ∈ ds, d.Ok := by
  obtain ⟨r, s1, hr, dk1, e1⟩ := takeN (n := n + 52) (t := none) 4 h (by omega) (by omega)
  have rr : fRange1 [.int ((1 + r : Nat) : Int)] = some ((List.range (1 + r)).map fun i => D.int (0 + (i : Nat))) := range1N (by omega)
  have rl : ((List.range (1 + r)).map fun i => D.int (0 + (i : Nat))).length = 1 + r := by rw [List.length_map, List.length_range]
  obtain ⟨s2, ds, L, dk2, l2, ok⟩ := dias_lc (n := n) (sc := sc) (s := s1) (x2 := x2) (x6 := x6) (x12 := .no) (rs := (List.range (1 + r)).map fun i => D.int (0 + (i : Nat))) (dk1.le (by rw [rl]; omega)) (by rw [rl]; omega)
  rw [rl] at l2
  refine ⟨s2, ds, ?_, dk2, fun z => by rw [z, List.length_nil] at l2; omega, by omega, ok⟩
  have ad : fAdd (.int 1) (.int (r : Int)) = some (.int ((1 + r : Nat) : Int)) := by
    have : (1 : Int) + (r : Int) = ((1 + r : Nat) : Int) := by omega
    rw [← this]; rfl
  have step : ∀ {rI aI : Int} {rs : List D} {T : List D}, F__law_take [.rs none s, .sh (.int 4)] = .ok (.sh (.int rI)) [.rs none s1, .no] → fAdd (.int 1) (.int rI) = some (.int aI) → fRange1 [.int aI] = some rs →
      lcRun (gN 11) (ret true) e2_law [11] rs [] (LS sc s1 x2 .no .no .no x6 .no .no .no .no .no .no) = some (T, LS sc s2 x2 .no .no .no x6 .no .no .no .no .no .no) →
      (sSet 3 (dLc (lRange fRange1 (dCons (d2 fAdd (ret (.int 1)) (dFz (dCall F__law_take [some 1, none] (dRef 1 (dCons (ret (.int 4)) dNil))))) dNil)) (gN 11) (ret true) e2_law [11])) (LS sc s x2 .no .no .no x6 .no .no .no .no .no .no) = .nx (LS sc s2 x2 (.ow none (.lst T)) .no .no x6 .no .no .no .no .no .no) := by
    intro rI aI rs T h1 h2 h3 h4
    unfold LS at h4 ⊢
    simp [h1, h2, h3, h4]
  exact step e1 ad rr L
theorem s4_run {sc : D} {s : Dw} {x2 x6 : Sl} {ds : List Dia} (hd : ∀ d ∈ ds, d.Ok) (hl : ds.length ≤ 4) (h6 : shOr (some x6) = x6) : (sParN [4, 5] (sCons (dLc (lItems (dVar 3)) (gN 6) (ret true) e1_law [6]) (sCons (dLst dNil) (ret [])))) (LS sc s x2 (.ow none (.lst (ds.map Dia.t))) .no .no x6 .no .no .no .no .no .no) = .nx (LS sc s x2 (.sh (.lst (ds.map Dia.t))) (.ow none (.lst (ds.map Dia.o))) (.ow none (.lst [])) x6 .no .no .no .no .no .no) := by
  have L := made_lc (sc := sc) (s := s) (x2 := x2) (x3 := .sh (.lst (ds.map Dia.t))) (x12 := .no) hd (by omega)
  have it : (D.lst (ds.map Dia.t)).items = some (ds.map Dia.t) := rfl
  unfold LS at L ⊢
  generalize ds.map Dia.t = A at *
  generalize ds.map Dia.o = B at *
  simp [sParN, it, L, h6]
theorem s5_src {sc : D} {s : Dw} {x2 x5 x6 : Sl} {A B : List D} : (lZip (dVar 3) (dVar 4)) (LS sc s x2 (.sh (.lst A)) (.ow none (.lst B)) x5 x6 .no .no .no .no .no .no) = .ok (pairs2 A B) (LS sc s x2 (.sh (.lst A)) (.sh (.lst B)) x5 x6 .no .no .no .no .no .no) := by
  have z : zipD (.lst A) (.lst B) = some (pairs2 A B) := rfl
  unfold LS
  simp [lZip, z]
theorem lap {n : Nat} {sc : D} {s : Dw} {x2 x6 : Sl} (h6 : shOr (some x6) = x6) (h : DwOk (n + 55) s) : ∃ (s' : Dw) (x3 x4 x5 x6' x9 x10 : Sl), l2_law (LS sc s x2 .no .no .no x6 .no .no .no .no .no .no) = .nx (LS sc s' x2 x3 x4 x5 x6' .no .no x9 x10 .no .no) ∧ DwOk n s' ∧ shOr (some x6') = x6' := by
  obtain ⟨s1, ds, S3, dk1, dn, dl, ok⟩ := s3_run (n := n + 2) (sc := sc) (x2 := x2) (x6 := x6) (h.le (by omega))
  have S4 := s4_run (sc := sc) (s := s1) (x2 := x2) (x6 := x6) ok dl h6
  obtain ⟨x5, x7, L5, h5, h7⟩ := pair_loop (sc := sc) (s := s1) (x2 := x2) (x3 := .sh (.lst (ds.map Dia.t))) (x4 := .sh (.lst (ds.map Dia.o))) (x12 := .no) ds [] (.ow none (.lst [])) x6 (.inr rfl) (by simp; omega) h6
  rw [List.nil_append] at h5
  obtain ⟨z, zs, hz⟩ := fst_ex dl
  have L9 := du_lc (sc := sc) (s := s1) (x2 := x2) (x3 := .sh (.lst (ds.map Dia.t))) (x4 := .sh (.lst (ds.map Dia.o))) (x6 := x7) h5
  rw [hz, List.map_cons] at L9
  have SR := signs_run
  have it2 := x_itw alphaL
  have ix := ix_head (x := chD z) (K := zs.map chD)
  have OR := lord_run dn dl hz
  have nz : fNe (chD z) (chD z) = some (.bl false) := by unfold chD; rw [ne_str]; simp
  obtain ⟨o, s2, ho, dk2, E2⟩ := pick_run (n := n + 1) (t := none) (d := .lst oddS) (ds := oddS) dk1 rfl (by simp [oddS]) (by simp [oddS])
  have SO := sign_odd ho
  obtain ⟨c, s3, hc, dk3, E3⟩ := pickC (n := n) (t := none) (cs := alphaL) dk2 (by intro q; have := al_len; rw [q] at this; cases this) (by rw [al_len]; omega)
  have SC := sign_run hc
  have lt := lt_al
  refine ⟨s3, .sh (.lst (ds.map Dia.t)), .sh (.lst (ds.map Dia.o)), x5, x7, .sh (chD z), .sh o, ?_, dk3, h7⟩
  unfold l2_law
  refine sSeq_to S3 (sSeq_to S4 (sSeq_to (sFor_to s5_src L5) ?_))
  refine sSeq_to (ρ' := LS sc s1 x2 (.sh (.lst (ds.map Dia.t))) (.sh (.lst (ds.map Dia.o))) x5 x7 .no .no (.sh (chD z)) .no .no .no) ?_ ?_
  · unfold LS at L9 ⊢
    generalize ds.map Dia.t = A at *
    generalize ds.map Dia.o = B at *
    generalize wD alphaL = W at *
    generalize alphaL.map chD = AL at *
    generalize zs.map chD = ZS at *
    generalize chD z = Z at *
    simp [SR, it2, L9, ix]
  · refine sSeq_to (ρ' := LS sc s1 x2 (.sh (.lst (ds.map Dia.t))) (.sh (.lst (ds.map Dia.o))) x5 x7 .no .no (.sh (chD z)) .no .no .no) ?_ ?_
    · unfold LS
      generalize ds.map Dia.t = A at *
      generalize ds.map Dia.o = B at *
      generalize chD z = Z at *
      simp [OR, nz]
    · refine sSeq_to (ρ' := LS sc s2 x2 (.sh (.lst (ds.map Dia.t))) (.sh (.lst (ds.map Dia.o))) x5 x7 .no .no (.sh (chD z)) (.sh o) .no .no) ?_ ?_
      · unfold oddS at E2
        have el : PySem.sizeLine = 16777216 := big1
        unfold LS
        generalize ds.map Dia.t = A at *
        generalize ds.map Dia.o = B at *
        generalize chD z = Z at *
        simp [E2]
      · have b1 : fIsB true (.bl false) (.bl false) = some (.bl false) := rfl
        have b2 : fIsB true (.bl true) (.bl true) = some (.bl false) := rfl
        unfold LS
        generalize ds.map Dia.t = A at *
        generalize ds.map Dia.o = B at *
        generalize wD alphaL = W at *
        generalize alphaL.map chD = AL at *
        generalize chD z = Z at *
        generalize chD c = C at *
        simp [SO, b1, b2, SR, lt, E3, dKw, perm, finC, SC]
theorem laps {sc : D} : ∀ (ds : List D) (n : Nat) (s : Dw) (x6 : Sl), shOr (some x6) = x6 → DwOk (n + 55 * ds.length) s → ∃ (s' : Dw) (x : Sl), sEach (gN 2) l2_law [2, 3, 4, 5, 7, 8, 9, 10, 11] ds (LS sc s .no .no .no .no x6 .no .no .no .no .no .no) = .nx (LS sc s' .no .no .no .no x .no .no .no .no .no .no) ∧ DwOk n s'
  | [], n, s, x6, _, h => ⟨s, x6, by rw [sEach_nil]; rfl, h⟩
  | y :: ds, n, s, x6, h6, h => by
    simp only [List.length_cons] at h
    obtain ⟨s1, x3, x4, x5, x6', x9, x10, E, dk1, h6'⟩ := lap (n := n + 55 * ds.length) (sc := sc) (x2 := .sh y) h6 (h.le (by omega))
    obtain ⟨s2, x, E2, dk2⟩ := laps (sc := sc) ds n s1 x6' h6' dk1
    refine ⟨s2, x, ?_, dk2⟩
    rw [sEach_nx (ρ1 := LS sc s (.sh y) .no .no .no x6 .no .no .no .no .no .no) rfl E]
    exact E2
theorem law_true : ∀ ns : List Int, ns.length ≤ 63 → ∃ ss, F_law [.sh (.scr ns)] = .ok (.sh (.bl true)) ss := by
  intro ns hn
  obtain ⟨s, h, e⟩ := begun_run hn
  obtain ⟨ds, e2, l2⟩ : ∃ ds, fRange1 [.int (5 + (if (12 : Int) < (ns.length : Int) then 12 else (ns.length : Int)))] = some ds ∧ ds.length ≤ 17 := by
    have hsm : small62 (5 + (if (12 : Int) < (ns.length : Int) then 12 else (ns.length : Int))) = true := by
      simp [small62]
      split <;> omega
    refine ⟨_, by simp only [fRange1, hsm]; rfl, ?_⟩
    simp only [List.length_map, List.length_range]
    split <;> omega
  obtain ⟨s', x, e3, h'⟩ := laps (sc := .scr ns) ds 1 s .no rfl (h.le (by omega))
  have ln : fLen (.scr ns) = some (.int (ns.length : Int)) := rfl
  have mn : ∀ i j : Int, fMin (.int i) (.int j) = some (.int (if j < i then j else i)) := fun _ _ => rfl
  have ad : ∀ i j : Int, fAdd (.int i) (.int j) = some (.int (i + j)) := fun _ _ => rfl
  have SR := signs_run
  have lw := len_w (cs := alphaL) (by rw [al_len]; omega)
  rw [al_len] at lw
  have e96 : fEq (.int ((96 : Nat) : Int)) (.int 96) = some (.bl true) := by simp [fEq, flat_int, eqv_int]
  obtain ⟨zs, hz⟩ : ∃ zs, (alphaL.filter fun c => !(usd []).contains c) = 9 :: zs := ⟨alphaL.tail, by decide +kernel⟩
  have O := ordinary_run (ds := []) (by simp) hz
  have tb : D.str ("\t" : Str) = chD 9 := by unfold chD; rw [show chS 9 = ("\t" : Str) by decide +kernel]
  have e9 : fEq (chD 9) (chD 9) = some (.bl true) := by unfold chD; rw [eq_str]; simp
  rw [List.map_nil] at O
  unfold LS at e3
  refine ⟨[.no], ?_⟩
  generalize wD alphaL = W at *
  generalize ((96 : Nat) : Int) = N96 at *
  generalize (ns.length : Int) = nl at *
  simp [F_law, mkF_eq, b_law, e, e2, e3, ln, mn, ad, SR, lw, e96, O, finC, tb, e9]
end K02

set_option Elab.async false
set_option linter.all false
open PySem PySem.W PyProof.Rows in
set_option maxRecDepth 100000 in
set_option maxHeartbeats 0 in
theorem PySem.Challenge.cw_fieldfence_k02_signs_of_dialects_holds : PySem.Challenge.rw_fieldfence_k02_signs_of_dialects.Holds := by
  w_on; o_law; k_head; (case hw => w_witness2)
  k_fill
  refine DS.walk_ds (l := PySem.Challenge.rw_fieldfence_k02_signs_of_dialects) (n := 63) (k := 12) (x := "_law_script") (Fn := K02.F_law) rfl (by decide) rfl ⟨rfl, by decide, by decide⟩ (fun w h Y => PySem.W.kIn_of Y) ?F K02.law_true
  case F =>
    intro w mg fa h KX G hmg
    refine' K02.head KX G hmg ?zb_abs ?zb_bool ?zb_enumerate ?zb_int ?zb_isinstance ?zb_len ?zb_list ?zb_min ?zb_range ?zb_sorted ?zb_str ?zb_zip ?zg_ALPHABET ?zg_BLANK ?zg_NAMES ?zv_3 ?z_super ?z_third ?a_BadDialect ?eb_BadDialect ?ic_BadDialect ?ty_BadDialect ?kp_BadDialect ?ga_BadDialect ?gg_BadDialect ?hd_BadDialect ?no_BadDialect_field ?x_BadDialect ?sa_BadDialect ?ii_BadDialect ?ti_BadDialect ?ve_BadDialect ?li_BadDialect ?ci_BadDialect ?up_BadDialect ?ow_BadDialect ?ce_BadDialect ?cd_BadDialect ?cv_BadDialect ?cf_BadDialect ?tp_BadDialect ?a_Dialect ?pg_Dialect ?hd_Dialect ?po_Dialect ?sa_Dialect ?no_Dialect_settings ?mk_Dialect ?in_Dialect ?if_Dialect ?kc_Dialect ?fl_Dialect_init ?fc_Dialect_init ?fk_Dialect_init ?dk_Dialect ?cf_dz_Dialect ?pa_Dialect_padded ?pb_Dialect_padded ?pc_Dialect_padded ?pd_Dialect_padded ?fl_Dialect_padded ?fc_Dialect_padded ?fk_Dialect_padded ?fa__wall ?fl__wall ?fc__wall ?fk__wall ?fa_is_sign ?fl_is_sign ?fc_is_sign ?fk_is_sign ?fa_need_settings ?fl_need_settings ?fc_need_settings ?fk_need_settings ?fa_special ?fl_special ?fc_special ?fk_special ?fa_ordinary ?fl_ordinary ?fc_ordinary ?fk_ordinary ?fa__law_begun ?fl__law_begun ?fc__law_begun ?fk__law_begun ?fa__law_mixed ?fl__law_mixed ?fc__law_mixed ?fk__law_mixed ?fa__law_take ?fl__law_take ?fc__law_take ?fk__law_take ?fa__law_pick ?fl__law_pick ?fc__law_pick ?fk__law_pick ?fa__law_signs_of ?fl__law_signs_of ?fc__law_signs_of ?fk__law_signs_of ?fa__law_dialect ?fl__law_dialect ?fc__law_dialect ?fk__law_dialect ?fa__law_made ?fl__law_made ?fc__law_made ?fk__law_made ?fa__law_signs ?fl__law_signs ?fc__law_signs ?fk__law_signs ?fa__law_special ?fl__law_special ?fc__law_special ?fk__law_special ?fa__law_ordinary ?fl__law_ordinary ?fc__law_ordinary ?fk__law_ordinary ?fa_law ?fl_law ?fc_law ?fk_law
    (case zb_abs => k_is)
    (case zb_bool => k_is)
    (case zb_enumerate => k_is)
    (case zb_int => k_is)
    (case zb_isinstance => k_is)
    (case zb_len => k_is)
    (case zb_list => k_is)
    (case zb_min => k_is)
    (case zb_range => k_is)
    (case zb_sorted => k_is)
    (case zb_str => k_is)
    (case zb_zip => k_is)
    (case zg_ALPHABET => k_is)
    (case zg_BLANK => k_is)
    (case zg_NAMES => k_is)
    (case zv_3 => k_is)
    (case z_super => k_is)
    (case z_third => k_is)
    (case a_BadDialect => k_is)
    (case eb_BadDialect => k_is)
    (case ic_BadDialect => k_is)
    (case ty_BadDialect => k_is)
    (case kp_BadDialect => k_is)
    (case ga_BadDialect => k_is)
    (case gg_BadDialect => k_is)
    (case hd_BadDialect => k_is)
    (case no_BadDialect_field => k_is)
    (case x_BadDialect => k_is)
    (case sa_BadDialect => k_is)
    (case ii_BadDialect => k_is)
    (case ti_BadDialect => k_is)
    (case ve_BadDialect => k_is)
    (case li_BadDialect => k_is)
    (case ci_BadDialect => k_is)
    (case up_BadDialect => first | ks_is | k_is)
    (case ow_BadDialect => k_is)
    (case ce_BadDialect => k_is)
    (case cd_BadDialect => k_is)
    (case cv_BadDialect => rfl)
    (case cf_BadDialect => first | rfl | decide +kernel)
    (case tp_BadDialect => first | rfl | decide +kernel)
    (case a_Dialect => k_is)
    (case pg_Dialect => k_is)
    (case hd_Dialect => k_is)
    (case po_Dialect => k_is)
    (case sa_Dialect => k_is)
    (case no_Dialect_settings => k_is)
    (case mk_Dialect => k_is)
    (case in_Dialect => k_is)
    (case if_Dialect => k_is)
    (case kc_Dialect => k_is)
    (case fl_Dialect_init => k_is)
    (case fc_Dialect_init => k_is)
    (case fk_Dialect_init => k_is)
    (case dk_Dialect => k_is)
    (case cf_dz_Dialect => first | rfl | decide +kernel)
    (case pa_Dialect_padded => k_is)
    (case pb_Dialect_padded => k_is)
    (case pc_Dialect_padded => k_is)
    (case pd_Dialect_padded => k_is)
    (case fl_Dialect_padded => k_is)
    (case fc_Dialect_padded => k_is)
    (case fk_Dialect_padded => k_is)
    (case fa__wall => k_is)
    (case fl__wall => k_is)
    (case fc__wall => k_is)
    (case fk__wall => k_is)
    (case fa_is_sign => k_is)
    (case fl_is_sign => k_is)
    (case fc_is_sign => k_is)
    (case fk_is_sign => k_is)
    (case fa_need_settings => k_is)
    (case fl_need_settings => k_is)
    (case fc_need_settings => k_is)
    (case fk_need_settings => k_is)
    (case fa_special => k_is)
    (case fl_special => k_is)
    (case fc_special => k_is)
    (case fk_special => k_is)
    (case fa_ordinary => k_is)
    (case fl_ordinary => k_is)
    (case fc_ordinary => k_is)
    (case fk_ordinary => k_is)
    (case fa__law_begun => k_is)
    (case fl__law_begun => k_is)
    (case fc__law_begun => k_is)
    (case fk__law_begun => k_is)
    (case fa__law_mixed => k_is)
    (case fl__law_mixed => k_is)
    (case fc__law_mixed => k_is)
    (case fk__law_mixed => k_is)
    (case fa__law_take => k_is)
    (case fl__law_take => k_is)
    (case fc__law_take => k_is)
    (case fk__law_take => k_is)
    (case fa__law_pick => k_is)
    (case fl__law_pick => k_is)
    (case fc__law_pick => k_is)
    (case fk__law_pick => k_is)
    (case fa__law_signs_of => k_is)
    (case fl__law_signs_of => k_is)
    (case fc__law_signs_of => k_is)
    (case fk__law_signs_of => k_is)
    (case fa__law_dialect => k_is)
    (case fl__law_dialect => k_is)
    (case fc__law_dialect => k_is)
    (case fk__law_dialect => k_is)
    (case fa__law_made => k_is)
    (case fl__law_made => k_is)
    (case fc__law_made => k_is)
    (case fk__law_made => k_is)
    (case fa__law_signs => k_is)
    (case fl__law_signs => k_is)
    (case fc__law_signs => k_is)
    (case fk__law_signs => k_is)
    (case fa__law_special => k_is)
    (case fl__law_special => k_is)
    (case fc__law_special => k_is)
    (case fk__law_special => k_is)
    (case fa__law_ordinary => k_is)
    (case fl__law_ordinary => k_is)
    (case fc__law_ordinary => k_is)
    (case fk__law_ordinary => k_is)
    (case fa_law => k_is)
    (case fl_law => k_is)
    (case fc_law => k_is)
    (case fk_law => k_is)

