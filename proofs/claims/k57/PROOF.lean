import PyProof.Rows.All
import Wide.All
import OpenK.AllK
import Wide.FinOn
import HandS.GenList
import HandS.GenYield
import HandS.ForExc
import HandS.ForMost
import HandS.CallSlots
import HandS.Lambda
import HandS.TupAny
import HandS.Style
import HandS.Deep
import HandS.Wide
import HandS.IsInst
import HandS.Walk
import KE.GoesEnum
import HandS.Zip
import HandS.WordsExc
import HandS.Comp
import HandS.Dict
import PyProof.ReprRoads
import PyProof.Rows.StrBoot
import HandS.ExcInit
import HandS.ExcOwn
import KE.KExcSuper
import HandS.TryOnly
import HandS.ExcField
import HandS.ExcIs
import KE.KExcIs
import HandS.Ends
import PyProof.StrLawsRepr
import PyProof.ReprLen
import HandS.MakeKwOnly
import HandS.Property
import HandS.EndTab
import HandS.Strs
import HandS.SetFor
import HandS.SortInts
import HandS.NoneIn
import KE.GoesMore
import HandS.Star
import HandS.Defaults
import HandS.MakeKw
import HandS.Text
import KE.GoesZip
import HandS.GenCall
import HandS.Flow
import HandS.ClsMeth
import HandS.OwnEq
import HandS.More
import PyProof.InstNe
import HandS.StrMore
import HandS.DictComp
import PyProof.Rows.ChunkEnd
import HandS.Conv
import HandS.ListItems
import KE.KUnpackStar
import HandS.DeepEq
import HandS.ListEq
import PyProof.NeKinds
import PySem.Challenge.RW_fieldfence_k57_whole_tables_of_records
import KE.KStateDown
import HandS.Head2
set_option Elab.async false
set_option linter.all false
set_option maxRecDepth 100000
set_option maxHeartbeats 2000000
namespace GN
open PySem PySem.Spec PyProof.Rows L2
section
variable {M : Model} {A : Around} {R : GenEnd} {Y : Protocol} {n : Nat} {s₀ : Shared} {c : Code} {fs : List Frame} {s : Shared} {env : Env}
  {K : Flow → Sem PySem.Fin} {Hh : Value → Sem PySem.Fin} {gd : Bool → Bool} {lv : List Value → List Value}
end
section
variable {prog : Program} {w : World} {A : Around} {R : GenEnd} {Y : Protocol} {n : Nat} {s₀ : Shared} {fs : List Frame} {s : Shared} {env : Env}
end
end GN
set_option Elab.async false
set_option linter.all false
set_option maxRecDepth 100000
set_option maxHeartbeats 2000000
namespace GN
open PySem PySem.Spec PyProof.Rows L2
variable {X : Cx}
end GN
set_option Elab.async false
set_option linter.all false
set_option maxRecDepth 100000
namespace DS
open PySem PySem.Spec PyProof.Rows L2
inductive D where
  | non | bl (b : Bool) | int (i : Int) | str (x : Str) | ty (n : String)
  | tup (xs : List D) | lst (xs : List D) | dct (kvs : List (D × D))
  | obj (c : Str) (fs : List (Str × D))
  | exc (c : Str) (fs : List (Str × D))
  | glo (x : Str)
  | scr (ns : List Int)
  | hup (xs : List D)
  | dcu (kvs : List (D × D))
  | ol (xs : List D)
  | obo (c : Str) (fs : List (Str × D))
  | dcl (kvs : List (D × D))
def keyD : Key → D
  | .inl i => .int i
  | .inr x => .str x
def XcP (a : Addr) (cls : Value) (d : Option Addr) : Heap → Prop := fun h => ∃ oe vs, h.get? a = some oe ∧ Zc cls d oe ∧ oe.data = .fields vs
mutual
def Rep (K : PySem.W.Frag) (mg : Str → Option Value) (G : Hp) : D → V → Prop
  | .non, v => v = .non
  | .bl b, v => v = .bl b
  | .int i, v => v = .int i
  | .str x, v => v = .str x ∧ PyData.strOk x = true
  | .ty n, v => v = .ty n
  | .tup ds, v => ∃ a vs, v = .ref a ∧ SqT K G a vs ∧ RepL K mg G ds vs
  | .lst ds, v => ∃ a vs, v = .ref a ∧ G a = some (.lst vs) ∧ RepL K mg G ds vs
  | .dct kvs, v => ∃ a ws, v = .ref a ∧ G a = some (.dK ws) ∧ RepK K mg G kvs ws
  | .obj c fs, v => ∃ a C dx ws, v = .ref a ∧ mg c = some (.ref C) ∧ G a = some (.ins C dx ws) ∧ RepF K mg G fs ws
  | .exc c fs, v => ∃ a C, v = .ref a ∧ mg c = some (.ref C) ∧ ((fs = [] ∧ G a = some (.ext (XcP a (.ref C) none))) ∨ ∃ dd ws, G a = some (.ext (XcP a (.ref C) (some dd))) ∧ G dd = some (.xd ws) ∧ RepF K mg G fs ws)
  | .glo x, v => ∃ a, v = .ref a ∧ mg x = some (.ref a)
  | .scr ns, v => ∃ a, v = .ref a ∧ SqL K G a (ns.map V.int)
  | .hup ds, v => ∃ a vs, v = .ref a ∧ G a = some (.tup vs) ∧ RepL K mg G ds vs
  | .dcu kvs, v => ∃ a ws, v = .ref a ∧ G a = some (.dT ws) ∧ RepU K mg G kvs ws
  | .ol ds, v => ∃ a vs, v = .ref a ∧ G a = some (.lst vs) ∧ RepL K mg G ds vs
  | .obo c fs, v => ∃ a C dx ws, v = .ref a ∧ mg c = some (.ref C) ∧ G a = some (.ins C dx ws) ∧ RepF K mg G fs ws
  | .dcl kvs, v => ∃ a ws, v = .ref a ∧ G a = some (.dT ws) ∧ RepU K mg G kvs ws
def RepL (K : PySem.W.Frag) (mg : Str → Option Value) (G : Hp) : List D → List V → Prop
  | [], vs => vs = []
  | d :: ds, vs => ∃ v vs', vs = v :: vs' ∧ Rep K mg G d v ∧ RepL K mg G ds vs'
def RepK (K : PySem.W.Frag) (mg : Str → Option Value) (G : Hp) : List (D × D) → List (Key × V) → Prop
  | [], ws => ws = []
  | (k, d) :: r, ws => ∃ kk v ws', ws = (kk, v) :: ws' ∧ k = keyD kk ∧ Rep K mg G d v ∧ RepK K mg G r ws'
def RepF (K : PySem.W.Frag) (mg : Str → Option Value) (G : Hp) : List (Str × D) → List (Str × V) → Prop
  | [], ws => ws = []
  | (f, d) :: r, ws => ∃ v ws', ws = (f, v) :: ws' ∧ Rep K mg G d v ∧ RepF K mg G r ws'
def RepU (K : PySem.W.Frag) (mg : Str → Option Value) (G : Hp) : List (D × D) → List (List Key × V) → Prop
  | [], ws => ws = []
  | (k, d) :: r, ws => ∃ kk v ws', ws = (kk, v) :: ws' ∧ k = .hup (kk.map keyD) ∧ Rep K mg G d v ∧ RepU K mg G r ws'
end
theorem Same.sqt {K : PySem.W.Frag} {H H' : Hp} {a : Addr} {xs : List V} (e : Same H H') (h : SqT K H a xs) : SqT K H' a xs := by
  rcases h with (h | ⟨o, h⟩) | h
  · exact .inl (.inl (e _ _ h))
  · exact .inl (.inr ⟨o, e _ _ h⟩)
  · exact .inr h
section
variable {K : PySem.W.Frag} {mg : Str → Option Value} {G G' : Hp}
mutual
theorem Rep.mono (e : Same G G') : ∀ (d : D) (v : V), Rep K mg G d v → Rep K mg G' d v
  | .non, v, h => by unfold Rep at h ⊢; exact h
  | .bl b, v, h => by unfold Rep at h ⊢; exact h
  | .int i, v, h => by unfold Rep at h ⊢; exact h
  | .str x, v, h => by unfold Rep at h ⊢; exact h
  | .ty n, v, h => by unfold Rep at h ⊢; exact h
  | .tup ds, v, h => by
    unfold Rep at h ⊢
    obtain ⟨a, vs, h1, h2, h3⟩ := h
    exact ⟨a, vs, h1, Same.sqt e h2, RepL.mono e ds vs h3⟩
  | .lst ds, v, h => by
    unfold Rep at h ⊢
    obtain ⟨a, vs, h1, h2, h3⟩ := h
    exact ⟨a, vs, h1, e _ _ h2, RepL.mono e ds vs h3⟩
  | .scr ns, v, h => by
    unfold Rep at h ⊢
    obtain ⟨a, h1, h2⟩ := h
    exact ⟨a, h1, Same.seq e h2⟩
  | .hup ds, v, h => by
    unfold Rep at h ⊢
    obtain ⟨a, vs, h1, h2, h3⟩ := h
    exact ⟨a, vs, h1, e _ _ h2, RepL.mono e ds vs h3⟩
  | .dcu ds, v, h => by
    unfold Rep at h ⊢
    obtain ⟨a, vs, h1, h2, h3⟩ := h
    exact ⟨a, vs, h1, e _ _ h2, RepU.mono e ds vs h3⟩
  | .dct ds, v, h => by
    unfold Rep at h ⊢
    obtain ⟨a, vs, h1, h2, h3⟩ := h
    exact ⟨a, vs, h1, e _ _ h2, RepK.mono e ds vs h3⟩
  | .ol ds, v, h => by
    unfold Rep at h ⊢
    obtain ⟨a, vs, h1, h2, h3⟩ := h
    exact ⟨a, vs, h1, e _ _ h2, RepL.mono e ds vs h3⟩
  | .obo c fs, v, h => by
    unfold Rep at h ⊢
    obtain ⟨a, C, dx, ws, h1, h2, h3, h4⟩ := h
    exact ⟨a, C, dx, ws, h1, h2, e _ _ h3, RepF.mono e fs ws h4⟩
  | .dcl ds, v, h => by
    unfold Rep at h ⊢
    obtain ⟨a, vs, h1, h2, h3⟩ := h
    exact ⟨a, vs, h1, e _ _ h2, RepU.mono e ds vs h3⟩
  | .obj c fs, v, h => by
    unfold Rep at h ⊢
    obtain ⟨a, C, dx, ws, h1, h2, h3, h4⟩ := h
    exact ⟨a, C, dx, ws, h1, h2, e _ _ h3, RepF.mono e fs ws h4⟩
  | .exc c fs, v, h => by
    unfold Rep at h ⊢
    obtain ⟨a, C, h1, h2, h3⟩ := h
    refine ⟨a, C, h1, h2, ?_⟩
    rcases h3 with ⟨h3, h4⟩ | ⟨dd, ws, h3, h4, h5⟩
    · exact .inl ⟨h3, e _ _ h4⟩
    · exact .inr ⟨dd, ws, e _ _ h3, e _ _ h4, RepF.mono e fs ws h5⟩
  | .glo x, v, h => by unfold Rep at h ⊢; exact h
theorem RepL.mono (e : Same G G') : ∀ (ds : List D) (vs : List V), RepL K mg G ds vs → RepL K mg G' ds vs
  | [], vs, h => by unfold RepL at h ⊢; exact h
  | d :: ds, vs, h => by
    unfold RepL at h ⊢
    obtain ⟨v, vs', h1, h2, h3⟩ := h
    exact ⟨v, vs', h1, Rep.mono e d v h2, RepL.mono e ds vs' h3⟩
theorem RepK.mono (e : Same G G') : ∀ (ds : List (D × D)) (vs : List (Key × V)), RepK K mg G ds vs → RepK K mg G' ds vs
  | [], vs, h => by unfold RepK at h ⊢; exact h
  | (k, d) :: ds, vs, h => by
    unfold RepK at h ⊢
    obtain ⟨kk, v, vs', h1, h2, h3, h4⟩ := h
    exact ⟨kk, v, vs', h1, h2, Rep.mono e d v h3, RepK.mono e ds vs' h4⟩
theorem RepF.mono (e : Same G G') : ∀ (ds : List (Str × D)) (vs : List (Str × V)), RepF K mg G ds vs → RepF K mg G' ds vs
  | [], vs, h => by unfold RepF at h ⊢; exact h
  | (k, d) :: ds, vs, h => by
    unfold RepF at h ⊢
    obtain ⟨v, vs', h1, h2, h3⟩ := h
    exact ⟨v, vs', h1, Rep.mono e d v h2, RepF.mono e ds vs' h3⟩
theorem RepU.mono (e : Same G G') : ∀ (ds : List (D × D)) (vs : List (List Key × V)), RepU K mg G ds vs → RepU K mg G' ds vs
  | [], vs, h => by unfold RepU at h ⊢; exact h
  | (k, d) :: ds, vs, h => by
    unfold RepU at h ⊢
    obtain ⟨kk, v, vs', h1, hk, h2, h3⟩ := h
    exact ⟨kk, v, vs', h1, hk, Rep.mono e d v h2, RepU.mono e ds vs' h3⟩
end
theorem RepL.length : ∀ {ds : List D} {vs : List V}, RepL K mg G ds vs → vs.length = ds.length
  | [], vs, h => by unfold RepL at h; subst h; rfl
  | d :: ds, vs, h => by
    unfold RepL at h
    obtain ⟨v, vs', rfl, _, h3⟩ := h
    simp [RepL.length h3]
theorem RepL.append : ∀ {ds es : List D} {vs ws : List V}, RepL K mg G ds vs → RepL K mg G es ws → RepL K mg G (ds ++ es) (vs ++ ws)
  | [], es, vs, ws, h, h' => by unfold RepL at h; subst h; exact h'
  | d :: ds, es, vs, ws, h, h' => by
    unfold RepL at h
    obtain ⟨v, vs', rfl, h2, h3⟩ := h
    rw [List.cons_append, List.cons_append]
    unfold RepL
    exact ⟨v, _, rfl, h2, RepL.append h3 h'⟩
theorem RepL.get : ∀ {ds : List D} {vs : List V} {i : Nat} {d : D}, RepL K mg G ds vs → ds[i]? = some d → ∃ v, vs[i]? = some v ∧ Rep K mg G d v
  | [], vs, i, d, h, e => by simp at e
  | d0 :: ds, vs, i, d, h, e => by
    unfold RepL at h
    obtain ⟨v, vs', rfl, h2, h3⟩ := h
    cases i with
    | zero => simp at e; subst e; exact ⟨v, rfl, h2⟩
    | succ i => exact RepL.get (i := i) h3 (by simpa using e)
theorem RepL.take : ∀ {ds : List D} {vs : List V} (n : Nat), RepL K mg G ds vs → RepL K mg G (ds.take n) (vs.take n)
  | [], vs, n, h => by unfold RepL at h; subst h; simp [RepL]
  | d :: ds, vs, 0, h => by simp [RepL]
  | d :: ds, vs, n + 1, h => by
    unfold RepL at h
    obtain ⟨v, vs', rfl, h2, h3⟩ := h
    rw [List.take_succ_cons, List.take_succ_cons]
    unfold RepL
    exact ⟨v, _, rfl, h2, RepL.take n h3⟩
theorem RepL.drop : ∀ {ds : List D} {vs : List V} (n : Nat), RepL K mg G ds vs → RepL K mg G (ds.drop n) (vs.drop n)
  | [], vs, n, h => by unfold RepL at h; subst h; simp [RepL]
  | d :: ds, vs, 0, h => by simpa using h
  | d :: ds, vs, n + 1, h => by
    unfold RepL at h
    obtain ⟨v, vs', rfl, h2, h3⟩ := h
    simpa using RepL.drop n h3
theorem RepL.one {d : D} {v : V} (h : Rep K mg G d v) : RepL K mg G [d] [v] := by
  unfold RepL; exact ⟨v, [], rfl, h, by unfold RepL; rfl⟩
theorem RepL.cons {d : D} {v : V} {ds : List D} {vs : List V} (h : Rep K mg G d v) (t : RepL K mg G ds vs) : RepL K mg G (d :: ds) (v :: vs) := by
  unfold RepL; exact ⟨v, vs, rfl, h, t⟩
theorem RepL.nil : RepL K mg G [] [] := by unfold RepL; rfl
theorem RepL.ints : ∀ (ns : List Int), RepL K mg G (ns.map D.int) (ns.map V.int)
  | [] => RepL.nil
  | n :: ns => RepL.cons (by unfold Rep; rfl) (RepL.ints ns)
theorem RepL.set : ∀ {ds : List D} {vs : List V} {d : D} {v : V} (n : Nat), RepL K mg G ds vs → Rep K mg G d v → RepL K mg G (ds.set n d) (vs.set n v)
  | [], vs, d, v, n, h, _ => by unfold RepL at h; subst h; simp [RepL]
  | d0 :: ds, vs, d, v, 0, h, r => by
    unfold RepL at h
    obtain ⟨v0, vs', rfl, h2, h3⟩ := h
    exact RepL.cons r h3
  | d0 :: ds, vs, d, v, n + 1, h, r => by
    unfold RepL at h
    obtain ⟨v0, vs', rfl, h2, h3⟩ := h
    exact RepL.cons h2 (RepL.set n h3 r)
end
structure Dw where
  large : List Int
  cells : List Int
  rest : Int
  turn : Int
def kLg : Str := "large"
def kCe : Str := "cells"
def kRe : Str := "rest"
def kTu : Str := "turn"
def Dw.kvs (s : Dw) (l c : Addr) : List (Key × V) := [(.inr kLg, .ref l), (.inr kCe, .ref c), (.inr kRe, .int s.rest), (.inr kTu, .int s.turn)]
def DrawAt (a : Addr) (G h : Hp) (s : Dw) : Prop := ∃ l c, h a = some (.dK (s.kvs l c)) ∧ h l = some (.lst (s.large.map V.int)) ∧ G c = some (.lst (s.cells.map V.int))
theorem DrawAt.mono {a : Addr} {G G' h : Hp} {s : Dw} (e : Same G G') (x : DrawAt a G h s) : DrawAt a G' h s := by
  obtain ⟨l, c, h1, h2, h3⟩ := x
  exact ⟨l, c, h1, h2, e _ _ h3⟩
abbrev Rsc := Dw
structure Exn where
  cls : Str
  fs : List (Str × D)
structure ThD where
  f : Addr
  c : Addr
  q : Str
  ar : Nat → Option Addr
  er : Option (Addr × Value × Option Addr)
  tb : List (Addr × Str)
  σ : L2.St
structure Tau where
  ar : Nat → Option Addr
  er : Option (Addr × Value × Option Addr)
  th : Option ThD
  tb : List (Addr × Str)
def RepX (K : PySem.W.Frag) (mg : Str → Option Value) (G : Hp) (x : Exn) (cls : Value) (d : Option Addr) : Prop :=
  ∃ C, mg x.cls = some (.ref C) ∧ cls = .ref C ∧ ((x.fs = [] ∧ d = none) ∨ ∃ dd ws, d = some dd ∧ G dd = some (.xd ws) ∧ RepF K mg G x.fs ws)
theorem RepX.mono {K : PySem.W.Frag} {mg : Str → Option Value} {G G' : Hp} {x : Exn} {cls : Value} {d : Option Addr} (e : Same G G') (h : RepX K mg G x cls d) : RepX K mg G' x cls d := by
  obtain ⟨C, h1, h2, h3⟩ := h
  refine ⟨C, h1, h2, ?_⟩
  rcases h3 with h3 | ⟨dd, ws, h3, h4, h5⟩
  · exact .inl h3
  · exact .inr ⟨dd, ws, h3, e _ _ h4, RepF.mono e _ _ h5⟩
inductive Sl where
  | no
  | sh (d : D)
  | ow (t : Option Nat) (d : D)
  | rs (t : Option Nat) (R : Rsc)
  | er (x : Exn)
  | th (ρ : List Sl)
  | td (ρ : List Sl)
  | tb
  | op (x : Str) (ds : List D)
  | pn (k : Nat)
def D.isOl : D → Bool
  | .ol _ => true
  | _ => false
inductive FldO (K : PySem.W.Frag) (mg : Str → Option Value) (G h : Hp) : List (Str × D) → List (Str × V) → List Addr → Prop
  | nil : FldO K mg G h [] [] []
  | dt {f : Str} {d : D} {v : V} {fs : List (Str × D)} {ws : List (Str × V)} {qs : List Addr} : d.isOl = false → Rep K mg G d v → FldO K mg G h fs ws qs → FldO K mg G h ((f, d) :: fs) ((f, v) :: ws) qs
  | ol {f : Str} {ds : List D} {q : Addr} {vs : List V} {fs : List (Str × D)} {ws : List (Str × V)} {qs : List Addr} : h q = some (.lst vs) → RepL K mg G ds vs → FldO K mg G h fs ws qs → FldO K mg G h ((f, .ol ds) :: fs) ((f, .ref q) :: ws) (q :: qs)
inductive EntO (K : PySem.W.Frag) (mg : Str → Option Value) (G h : Hp) : List (D × D) → List (List Key × V) → List Addr → Prop
  | nil : EntO K mg G h [] [] []
  | ol {kk : List Key} {ds : List D} {q : Addr} {vs : List V} {fs : List (D × D)} {ws : List (List Key × V)} {qs : List Addr} : h q = some (.lst vs) → RepL K mg G ds vs → EntO K mg G h fs ws qs → EntO K mg G h ((.hup (kk.map keyD), .ol ds) :: fs) ((kk, .ref q) :: ws) (q :: qs)
theorem FldO.mono {K : PySem.W.Frag} {mg : Str → Option Value} {G G' h h' : Hp} (e : Same G G') (eh : Same h h') {fs : List (Str × D)} {ws : List (Str × V)} {qs : List Addr} (x : FldO K mg G h fs ws qs) : FldO K mg G' h' fs ws qs := by
  induction x with
  | nil => exact .nil
  | dt h1 h2 _ ih => exact .dt h1 (Rep.mono e _ _ h2) ih
  | ol h1 h2 _ ih => exact .ol (eh _ _ h1) (RepL.mono e _ _ h2) ih
theorem EntO.mono {K : PySem.W.Frag} {mg : Str → Option Value} {G G' h h' : Hp} (e : Same G G') (eh : Same h h') {fs : List (D × D)} {ws : List (List Key × V)} {qs : List Addr} (x : EntO K mg G h fs ws qs) : EntO K mg G' h' fs ws qs := by
  induction x with
  | nil => exact .nil
  | ol h1 h2 _ ih => exact .ol (eh _ _ h1) (RepL.mono e _ _ h2) ih
theorem FldO.rep {K : PySem.W.Frag} {mg : Str → Option Value} {G h : Hp} (eh : Same h G) {fs : List (Str × D)} {ws : List (Str × V)} {qs : List Addr} (x : FldO K mg G h fs ws qs) : RepF K mg G fs ws := by
  induction x with
  | nil => unfold RepF; rfl
  | dt h1 h2 _ ih => unfold RepF; exact ⟨_, _, rfl, h2, ih⟩
  | ol h1 h2 _ ih => unfold RepF; exact ⟨_, _, rfl, by unfold Rep; exact ⟨_, _, rfl, eh _ _ h1, h2⟩, ih⟩
theorem EntO.rep {K : PySem.W.Frag} {mg : Str → Option Value} {G h : Hp} (eh : Same h G) {fs : List (D × D)} {ws : List (List Key × V)} {qs : List Addr} (x : EntO K mg G h fs ws qs) : RepU K mg G fs ws := by
  induction x with
  | nil => unfold RepU; rfl
  | ol h1 h2 _ ih => unfold RepU; exact ⟨_, _, _, rfl, rfl, by unfold Rep; exact ⟨_, _, rfl, eh _ _ h1, h2⟩, ih⟩
def E0 : Hp := fun _ => none
theorem same_E0 {h : Hp} : Same E0 h := fun _ _ e => nomatch e
inductive TopOk (K : PySem.W.Frag) (mg : Str → Option Value) (G h : Hp) : D → HO → Prop
  | lst {ds : List D} {vs : List V} : RepL K mg G ds vs → TopOk K mg G h (.lst ds) (.lst vs)
  | dct {kvs : List (D × D)} {ws : List (Key × V)} : RepK K mg G kvs ws → TopOk K mg G h (.dct kvs) (.dK ws)
  | dcu {kvs : List (D × D)} {ws : List (List Key × V)} : RepU K mg G kvs ws → TopOk K mg G h (.dcu kvs) (.dT ws)
  | obj {c : Str} {C dx : Addr} {fs : List (Str × D)} {ws : List (Str × V)} : mg c = some (.ref C) → RepF K mg G fs ws → TopOk K mg G h (.obj c fs) (.ins C dx ws)
  | obo {c : Str} {C dx : Addr} {fs : List (Str × D)} {ws : List (Str × V)} {qs : List Addr} : mg c = some (.ref C) → FldO K mg G h fs ws qs → qs.Nodup → TopOk K mg G h (.obo c fs) (.ins C dx ws)
  | dcl {kvs : List (D × D)} {ws : List (List Key × V)} {qs : List Addr} : EntO K mg G h kvs ws qs → qs.Nodup → TopOk K mg G h (.dcl kvs) (.dT ws)
theorem TopOk.mono2 {K : PySem.W.Frag} {mg : Str → Option Value} {G G' h h' : Hp} (e : Same G G') (eh : Same h h') {d : D} {o : HO} (x : TopOk K mg G h d o) : TopOk K mg G' h' d o := by
  cases x with
  | lst h => exact .lst (RepL.mono e _ _ h)
  | dct h => exact .dct (RepK.mono e _ _ h)
  | dcu h => exact .dcu (RepU.mono e _ _ h)
  | obj h1 h2 => exact .obj h1 (RepF.mono e _ _ h2)
  | obo h1 h2 h3 => exact .obo h1 (h2.mono e eh) h3
  | dcl h1 h2 => exact .dcl (h1.mono e eh) h2
theorem TopOk.mono {K : PySem.W.Frag} {mg : Str → Option Value} {G G' h : Hp} (e : Same G G') {d : D} {o : HO} (x : TopOk K mg G h d o) : TopOk K mg G' h d o := x.mono2 e (Same.refl _)
theorem TopOk.repH {K : PySem.W.Frag} {mg : Str → Option Value} {G h : Hp} {a : Addr} {d : D} {o : HO} (x : TopOk K mg G h d o) (e : G a = some o) (eh : Same h G) : Rep K mg G d (.ref a) := by
  cases x with
  | lst h => unfold Rep; exact ⟨a, _, rfl, e, h⟩
  | dct h => unfold Rep; exact ⟨a, _, rfl, e, h⟩
  | dcu h => unfold Rep; exact ⟨a, _, rfl, e, h⟩
  | obj h1 h2 => unfold Rep; exact ⟨a, _, _, _, rfl, h1, e, h2⟩
  | obo h1 h2 h3 => unfold Rep; exact ⟨a, _, _, _, rfl, h1, e, h2.rep eh⟩
  | dcl h1 h2 => unfold Rep; exact ⟨a, _, rfl, e, h1.rep eh⟩
def KT (o : HO) : Prop := ∃ ks : List Key, o = .tup (ks.map L2.kV)
open Classical in
noncomputable def cl (H : Hp) : Hp := fun a => match H a with
  | some o => if KT o then none else some o
  | none => none
theorem cl_some {H : Hp} {a : Addr} {o : HO} : cl H a = some o ↔ H a = some o ∧ ¬ KT o := by
  unfold cl
  cases H a with
  | none => simp
  | some u =>
    by_cases q : KT u
    · simp only [if_pos q]
      constructor
      · intro h; cases h
      · rintro ⟨h, h2⟩; cases h; exact absurd q h2
    · simp only [if_neg q, Option.some.injEq]
      constructor
      · rintro rfl; exact ⟨rfl, q⟩
      · exact fun h => h.1
theorem cl_none {H : Hp} {a : Addr} (h : H a = none) : cl H a = none := by
  unfold cl; rw [h]
theorem cl_at {H : Hp} {a : Addr} {o : HO} (h : H a = some o) (n : ¬ KT o) : cl H a = some o := cl_some.mpr ⟨h, n⟩
theorem cl_mono {H H' : Hp} (e : Same H H') : Same (cl H) (cl H') := fun a o h => cl_at (e _ _ (cl_some.mp h).1) (cl_some.mp h).2
theorem cl_eq {H H' : Hp} {a : Addr} (e : H a = H' a) : cl H a = cl H' a := by unfold cl; rw [e]
theorem kt_lst {vs : List V} : ¬ KT (.lst vs) := fun ⟨_, e⟩ => nomatch e
theorem kt_dK {ws : List (Key × V)} : ¬ KT (.dK ws) := fun ⟨_, e⟩ => nomatch e
theorem kt_tup2 {x : V} {q : Addr} : ¬ KT (.tup [x, .ref q]) := fun ⟨ks, e⟩ => by
  have e2 : [x, V.ref q] = ks.map L2.kV := by injection e
  match ks, e2 with
  | [], e2 => cases e2
  | [_], e2 => simp at e2
  | [_, k], e2 =>
    simp only [List.map_cons, List.map_nil, List.cons.injEq, and_true] at e2
    cases k <;> exact nomatch e2.2
  | _ :: _ :: _ :: _, e2 => simp at e2
theorem FldO.cl {K : PySem.W.Frag} {mg : Str → Option Value} {G h : Hp} {fs : List (Str × D)} {ws : List (Str × V)} {qs : List Addr} (x : FldO K mg G h fs ws qs) : FldO K mg G (cl h) fs ws qs := by
  induction x with
  | nil => exact .nil
  | dt h1 h2 _ ih => exact .dt h1 h2 ih
  | ol h1 h2 _ ih => exact .ol (cl_at h1 kt_lst) h2 ih
theorem EntO.cl {K : PySem.W.Frag} {mg : Str → Option Value} {G h : Hp} {fs : List (D × D)} {ws : List (List Key × V)} {qs : List Addr} (x : EntO K mg G h fs ws qs) : EntO K mg G (cl h) fs ws qs := by
  induction x with
  | nil => exact .nil
  | ol h1 h2 _ ih => exact .ol (cl_at h1 kt_lst) h2 ih
theorem TopOk.cl {K : PySem.W.Frag} {mg : Str → Option Value} {G h : Hp} {d : D} {o : HO} (x : TopOk K mg G h d o) : TopOk K mg G (cl h) d o := by
  cases x with
  | lst h => exact .lst h
  | dct h => exact .dct h
  | dcu h => exact .dcu h
  | obj h1 h2 => exact .obj h1 h2
  | obo h1 h2 h3 => exact .obo h1 h2.cl h3
  | dcl h1 h2 => exact .dcl h1.cl h2
theorem TopOk.nk {K : PySem.W.Frag} {mg : Str → Option Value} {G h : Hp} {d : D} {o : HO} (x : TopOk K mg G h d o) : ¬ KT o := by
  rintro ⟨ks, rfl⟩
  cases x
def own (O : Addr → Option Nat) (i : Nat) (H : Hp) : Hp := fun a => if O a = some i then H a else none
def tg (τ : Tau) (t : Option Nat) (a : Addr) : Prop := ∀ k, t = some k → τ.ar k = some a
def TabG (G h : Hp) (P : Addr) (q : Str) : Prop := ∃ ps : Array Value, h P = some (.tbl ps) ∧ TriplesOk ps.toList ∧ ∀ (pos : Pos) (cv : Value), codeAmong pos ps.toList = some cv → ∃ c, cv = .ref c ∧ G c = some (LamX.CodeO c q)
theorem TabG.mono {G G' h : Hp} {P : Addr} {q : Str} (e : Same G G') (x : TabG G h P q) : TabG G' h P q := by
  obtain ⟨ps, h1, h2, h3⟩ := x
  exact ⟨ps, h1, h2, fun pos cv hc => let ⟨c, e1, e2⟩ := h3 pos cv hc; ⟨c, e1, e _ _ e2⟩⟩
def SlOk1 (K : PySem.W.Frag) (mg : Str → Option Value) (τ : Tau) (G h : Hp) : Sl → Option V → Prop
  | .no, _ => True
  | .sh d, v => ∃ u, v = some u ∧ Rep K mg G d u
  | .ow t d, v => ∃ a o, v = some (.ref a) ∧ tg τ t a ∧ h a = some o ∧ TopOk K mg G h d o
  | .rs t R, v => ∃ a, v = some (.ref a) ∧ tg τ t a ∧ DrawAt a G h R
  | .er x, v => ∃ a cls d, v = some (.ref a) ∧ τ.er = some (a, cls, d) ∧ RepX K mg G x cls d
  | .th _, _ => False
  | .td _, _ => False
  | .tb, _ => ∀ p ∈ τ.tb, TabG G h p.1 p.2
  | .op x ds, v => ∃ p q vs, v = some (.ref p) ∧ h p = some (.tup [.str x, .ref q]) ∧ h q = some (.lst vs) ∧ RepL K mg G ds vs ∧ PyData.strOk x = true
  | .pn k, v => ∃ a, v = some (.ref a) ∧ τ.ar k = some a
theorem SlOk1.mono {K : PySem.W.Frag} {mg : Str → Option Value} {τ : Tau} {G G' h : Hp} {s : Sl} {v : Option V} (e : Same G G') (x : SlOk1 K mg τ G h s v) : SlOk1 K mg τ G' h s v := by
  cases s with
  | no => trivial
  | sh d => obtain ⟨u, h1, h2⟩ := x; exact ⟨u, h1, Rep.mono e _ _ h2⟩
  | ow t d => obtain ⟨a, o, h1, h0, h2, h3⟩ := x; exact ⟨a, o, h1, h0, h2, h3.mono e⟩
  | rs t R => obtain ⟨a, h1, h0, h2⟩ := x; exact ⟨a, h1, h0, h2.mono e⟩
  | er x => obtain ⟨a, cls, d, h1, h0, h2⟩ := x; exact ⟨a, cls, d, h1, h0, h2.mono e⟩
  | th r => exact x
  | td r => exact x
  | tb => exact fun p hp => (x p hp).mono e
  | op y ds => obtain ⟨p, q, vs, h1, h2, h3, h4, h5⟩ := x; exact ⟨p, q, vs, h1, h2, h3, RepL.mono e _ _ h4, h5⟩
  | pn k => exact x
def ThOk (K : PySem.W.Frag) (mg : Str → Option Value) (T : ThD) (G h : Hp) (ρ : List Sl) : Prop :=
  ρ.length = T.σ.length ∧ ∃ O : Addr → Option Nat, (∀ a i, O a = some i → h a ≠ none) ∧ ∀ i s, ρ[i]? = some s → SlOk1 K mg ⟨T.ar, T.er, none, T.tb⟩ G (own O i h) s (T.σ[i]?.join)
theorem ThOk.mono {K : PySem.W.Frag} {mg : Str → Option Value} {T : ThD} {G G' h : Hp} {ρ : List Sl} (e : Same G G') (x : ThOk K mg T G h ρ) : ThOk K mg T G' h ρ := by
  obtain ⟨h1, O, h2, h3⟩ := x
  exact ⟨h1, O, h2, fun i s q => (h3 i s q).mono e⟩
def SlOk (K : PySem.W.Frag) (mg : Str → Option Value) (τ : Tau) (G h : Hp) : Sl → Option V → Prop
  | .no, _ => True
  | .sh d, v => ∃ u, v = some u ∧ Rep K mg G d u
  | .ow t d, v => ∃ a o, v = some (.ref a) ∧ tg τ t a ∧ h a = some o ∧ TopOk K mg G h d o
  | .rs t R, v => ∃ a, v = some (.ref a) ∧ tg τ t a ∧ DrawAt a G h R
  | .er x, v => ∃ a cls d, v = some (.ref a) ∧ τ.er = some (a, cls, d) ∧ RepX K mg G x cls d
  | .th ρ, v => ∃ T, τ.th = some T ∧ v = some (.ref T.f) ∧ G T.c = some (LamX.CodeO T.c T.q) ∧ ThOk K mg T G h ρ
  | .td ρ, v => ∃ T, τ.th = some T ∧ ThOk K mg T G h ρ
  | .tb, _ => ∀ p ∈ τ.tb, TabG G h p.1 p.2
  | .op x ds, v => ∃ p q vs, v = some (.ref p) ∧ h p = some (.tup [.str x, .ref q]) ∧ h q = some (.lst vs) ∧ RepL K mg G ds vs ∧ PyData.strOk x = true
  | .pn k, v => ∃ a, v = some (.ref a) ∧ τ.ar k = some a
theorem SlOk.mono {K : PySem.W.Frag} {mg : Str → Option Value} {τ : Tau} {G G' h : Hp} {s : Sl} {v : Option V} (e : Same G G') (x : SlOk K mg τ G h s v) : SlOk K mg τ G' h s v := by
  cases s with
  | no => trivial
  | sh d => obtain ⟨u, h1, h2⟩ := x; exact ⟨u, h1, Rep.mono e _ _ h2⟩
  | ow t d => obtain ⟨a, o, h1, h0, h2, h3⟩ := x; exact ⟨a, o, h1, h0, h2, h3.mono e⟩
  | rs t R => obtain ⟨a, h1, h0, h2⟩ := x; exact ⟨a, h1, h0, h2.mono e⟩
  | er x => obtain ⟨a, cls, d, h1, h0, h2⟩ := x; exact ⟨a, cls, d, h1, h0, h2.mono e⟩
  | th r => obtain ⟨T, h1, h2, h3, h4⟩ := x; exact ⟨T, h1, h2, e _ _ h3, h4.mono e⟩
  | td r => obtain ⟨T, h1, h2⟩ := x; exact ⟨T, h1, h2.mono e⟩
  | tb => exact fun p hp => (x p hp).mono e
  | op y ds => obtain ⟨p, q, vs, h1, h2, h3, h4, h5⟩ := x; exact ⟨p, q, vs, h1, h2, h3, RepL.mono e _ _ h4, h5⟩
  | pn k => exact x
theorem own_prune {O : Addr → Option Nat} {H : Hp} {O' : Addr → Option Nat} (h1 : ∀ a o, H a = some o → KT o → O' a = none) (h2 : ∀ a, (∀ o, H a = some o → ¬ KT o) → O' a = O a) (i : Nat) : own O' i H = cl (own O i H) := by
  funext a
  unfold own cl
  cases e : H a with
  | none => by_cases q : O a = some i <;> simp [q, e]
  | some o =>
    by_cases k : KT o
    · rw [h1 a o e k]
      by_cases q : O a = some i <;> simp [q, e, k]
    · rw [h2 a fun o' e' => by rw [e] at e'; cases e'; exact k]
      by_cases q : O a = some i <;> simp [q, e, k]
open Classical in
noncomputable def pruO (O : Addr → Option Nat) (H : Hp) : Addr → Option Nat := fun a => if ∃ o, H a = some o ∧ KT o then none else O a
theorem pruO_own (O : Addr → Option Nat) (H : Hp) (i : Nat) : own (pruO O H) i H = cl (own O i H) :=
  own_prune (fun a o e k => by unfold pruO; rw [if_pos ⟨o, e, k⟩]) (fun a h => by unfold pruO; rw [if_neg]; rintro ⟨o, e, k⟩; exact h o e k) i
theorem pruO_some {O : Addr → Option Nat} {H : Hp} {a : Addr} {i : Nat} (h : pruO O H a = some i) : O a = some i ∧ ∀ o, H a = some o → ¬ KT o := by
  unfold pruO at h
  by_cases q : ∃ o, H a = some o ∧ KT o
  · rw [if_pos q] at h; cases h
  · rw [if_neg q] at h
    exact ⟨h, fun o e k => q ⟨o, e, k⟩⟩
theorem DrawAt.cl {a : Addr} {G h : Hp} {s : Dw} (x : DrawAt a G h s) : DrawAt a G (cl h) s := by
  obtain ⟨l, c, h1, h2, h3⟩ := x
  exact ⟨l, c, cl_at h1 kt_dK, cl_at h2 kt_lst, h3⟩
theorem TabG.cl {G h : Hp} {P : Addr} {q : Str} (x : TabG G h P q) : TabG G (cl h) P q := by
  obtain ⟨ps, h1, h2, h3⟩ := x
  exact ⟨ps, cl_at h1 (fun ⟨_, e⟩ => nomatch e), h2, h3⟩
theorem SlOk1.cl {K : PySem.W.Frag} {mg : Str → Option Value} {τ : Tau} {G h : Hp} {s : Sl} {v : Option V} (x : SlOk1 K mg τ G h s v) : SlOk1 K mg τ G (cl h) s v := by
  cases s with
  | no => trivial
  | sh d => exact x
  | ow t d => obtain ⟨a, o, h1, h0, h2, h3⟩ := x; exact ⟨a, o, h1, h0, cl_at h2 h3.nk, h3.cl⟩
  | rs t R => obtain ⟨a, h1, h0, h2⟩ := x; exact ⟨a, h1, h0, h2.cl⟩
  | er x => obtain ⟨a, cls, d, h1, h0, h2⟩ := x; exact ⟨a, cls, d, h1, h0, h2⟩
  | th r => exact x
  | td r => exact x
  | tb => exact fun p hp => (x p hp).cl
  | op y ds => obtain ⟨p, q, vs, h1, h2, h3, h4, h5⟩ := x; exact ⟨p, q, vs, h1, cl_at h2 kt_tup2, cl_at h3 kt_lst, h4, h5⟩
  | pn k => exact x
theorem ThOk.cl {K : PySem.W.Frag} {mg : Str → Option Value} {T : ThD} {G h : Hp} {ρ : List Sl} (x : ThOk K mg T G h ρ) : ThOk K mg T G (cl h) ρ := by
  obtain ⟨h1, O, h2, h3⟩ := x
  refine ⟨h1, pruO O h, fun a i e => ?_, fun i s q => ?_⟩
  · obtain ⟨e1, e2⟩ := pruO_some e
    cases q : h a with
    | none => exact absurd q (h2 a i e1)
    | some o => rw [cl_at q (e2 o q)]; simp
  · have z : own (pruO O h) i (DS.cl h) = DS.cl (own O i h) := by
      rw [← pruO_own]
      funext a
      unfold own
      by_cases w : pruO O h a = some i
      · rw [if_pos w, if_pos w]
        obtain ⟨e1, e2⟩ := pruO_some w
        cases q : h a with
        | none => exact cl_none q
        | some o => exact cl_at q (e2 o q)
      · rw [if_neg w, if_neg w]
    rw [z]
    exact (h3 i s q).cl
theorem SlOk.cl {K : PySem.W.Frag} {mg : Str → Option Value} {τ : Tau} {G h : Hp} {s : Sl} {v : Option V} (x : SlOk K mg τ G h s v) : SlOk K mg τ G (cl h) s v := by
  cases s with
  | no => trivial
  | sh d => exact x
  | ow t d => obtain ⟨a, o, h1, h0, h2, h3⟩ := x; exact ⟨a, o, h1, h0, cl_at h2 h3.nk, h3.cl⟩
  | rs t R => obtain ⟨a, h1, h0, h2⟩ := x; exact ⟨a, h1, h0, h2.cl⟩
  | er x => obtain ⟨a, cls, d, h1, h0, h2⟩ := x; exact ⟨a, cls, d, h1, h0, h2⟩
  | th r => obtain ⟨T, h1, h2, h3, h4⟩ := x; exact ⟨T, h1, h2, h3, h4.cl⟩
  | td r => obtain ⟨T, h1, h2⟩ := x; exact ⟨T, h1, h2.cl⟩
  | tb => exact fun p hp => (x p hp).cl
  | op y ds => obtain ⟨p, q, vs, h1, h2, h3, h4, h5⟩ := x; exact ⟨p, q, vs, h1, cl_at h2 kt_tup2, cl_at h3 kt_lst, h4, h5⟩
  | pn k => exact x
structure RS0 (K : PySem.W.Frag) (mg : Str → Option Value) (τ : Tau) (Ho G : Hp) (O : Addr → Option Nat) (ρ : List Sl) (σ : L2.St) (H : Hp) : Prop where
  gh : Same G H
  oh : ∀ a i, O a = some i → G a = none ∧ cl Ho a = none ∧ H a ≠ none
  out : Same Ho H
  len : ρ.length = σ.length
  sl : ∀ i s, ρ[i]? = some s → SlOk K mg τ G (own O i H) s (σ[i]?.join)
def RS (K : PySem.W.Frag) (mg : Str → Option Value) (τ : Tau) (Ho G : Hp) (ρ : List Sl) (σ : L2.St) (H : Hp) : Prop := ∃ O, RS0 K mg τ Ho G O ρ σ H
def Gr (Ho G G' : Hp) : Prop := Same G G' ∧ ∀ a o, cl Ho a = some o → G' a = G a
theorem Gr.refl {Ho G : Hp} : Gr Ho G G := ⟨Same.refl _, fun _ _ _ => rfl⟩
theorem Gr.trans {Ho G G' G'' : Hp} (a : Gr Ho G G') (b : Gr Ho G' G'') : Gr Ho G G'' := ⟨a.1.trans b.1, fun c o h => (b.2 c o h).trans (a.2 c o h)⟩
theorem same_upd {H : Hp} {p : Addr} {o : HO} (h : H p = none) : Same H (upd H p o) := fun b u e => by rw [upd_ne (ne_of_none e h)]; exact e
section
variable {K : PySem.W.Frag} {mg : Str → Option Value} {τ : Tau} {Ho G : Hp} {O : Addr → Option Nat} {ρ : List Sl} {σ : L2.St} {H : Hp}
theorem RS.gh (x : RS K mg τ Ho G ρ σ H) : Same G H := x.choose_spec.gh
theorem RS.out (x : RS K mg τ Ho G ρ σ H) : Same Ho H := x.choose_spec.out
theorem RS.len (x : RS K mg τ Ho G ρ σ H) : ρ.length = σ.length := x.choose_spec.len
theorem RS.freeG (x : RS K mg τ Ho G ρ σ H) {p : Addr} (h : H p = none) : G p = none := by
  cases e : G p with
  | none => rfl
  | some o => rw [x.gh _ _ e] at h; cases h
theorem RS.freeHo (x : RS K mg τ Ho G ρ σ H) {p : Addr} (h : H p = none) : Ho p = none := by
  cases e : Ho p with
  | none => rfl
  | some o => rw [x.out _ _ e] at h; cases h
theorem RS.sh (x : RS K mg τ Ho G ρ σ H) {i : Nat} {d : D} (e : ρ[i]? = some (.sh d)) : ∃ v, σ[i]? = some (some v) ∧ Rep K mg G d v := by
  obtain ⟨O, x⟩ := x
  obtain ⟨u, h1, h2⟩ := x.sl i _ e
  cases q : σ[i]? with
  | none => rw [q] at h1; cases h1
  | some w => rw [q] at h1; exact ⟨u, by rw [show w = some u from h1], h2⟩
theorem RS.pruned (x : RS K mg τ Ho G ρ σ H) : ∃ O, RS0 K mg τ Ho G O ρ σ H ∧ ∀ a i, O a = some i → ∀ o, H a = some o → ¬ KT o := by
  obtain ⟨O, x⟩ := x
  refine ⟨pruO O H, ⟨x.gh, fun a i e => x.oh a i (pruO_some e).1, x.out, x.len, fun i s e => ?_⟩, fun a i e => (pruO_some e).2⟩
  rw [pruO_own]
  exact (x.sl i s e).cl
theorem RS0.ho (x : RS0 K mg τ Ho G O ρ σ H) {a : Addr} {i : Nat} (e : O a = some i) (kt : ∀ o, H a = some o → ¬ KT o) : Ho a = none := by
  cases q : Ho a with
  | none => rfl
  | some o =>
    have h := x.out _ _ q
    have z := (x.oh a i e).2.1
    rw [cl_at q (kt o h)] at z
    cases z
theorem RS.allocF (x : RS K mg τ Ho G ρ σ H) {p : Addr} {o : HO} (h : H p = none) : RS K mg τ Ho (upd G p o) ρ σ (upd H p o) ∧ Gr Ho G (upd G p o) := by
  have gp := x.freeG h
  have hp := x.freeHo h
  have sg : Same G (upd G p o) := same_upd gp
  refine ⟨?_, sg, fun a u e => upd_ne (ne_of_none e (cl_none hp))⟩
  obtain ⟨O, x⟩ := x
  have op : ∀ i, O p ≠ some i := fun i e => (x.oh p i e).2.2 h
  refine ⟨O, fun b u e => ?_, fun a i e => ?_, x.out.trans (same_upd h), x.len, fun i s e => ?_⟩
  · by_cases q : b = p
    · subst q; rw [upd_same] at e ⊢; exact e
    · rw [upd_ne q] at e ⊢; exact x.gh b u e
  · have q : a ≠ p := fun q => op i (q ▸ e)
    obtain ⟨h1, h2, h3⟩ := x.oh a i e
    rw [upd_ne q, upd_ne q]
    exact ⟨h1, h2, h3⟩
  · have z : own O i (upd H p o) = own O i H := by
      funext a
      unfold own
      by_cases q : O a = some i
      · rw [if_pos q, if_pos q, upd_ne]
        intro r; subst r; exact op i q
      · rw [if_neg q, if_neg q]
    rw [z]
    exact (x.sl i s e).mono sg
def shO (O : Addr → Option Nat) : Addr → Option Nat := fun a => (O a).map (· + 1)
theorem shO_some {O : Addr → Option Nat} {a : Addr} {i : Nat} : shO O a = some (i + 1) ↔ O a = some i := by
  unfold shO; cases O a with
  | none => simp
  | some j => simp
theorem shO_zero {O : Addr → Option Nat} {a : Addr} : shO O a ≠ some 0 := by
  unfold shO; cases O a with
  | none => simp
  | some j => simp
theorem own_shO {O : Addr → Option Nat} {i : Nat} {H : Hp} : own (shO O) (i + 1) H = own O i H := by
  funext a
  unfold own
  by_cases q : O a = some i
  · rw [if_pos q, if_pos (shO_some.mpr q)]
  · rw [if_neg q, if_neg fun z => q (shO_some.mp z)]
theorem RS.push (x : RS K mg τ Ho G ρ σ H) {d : D} {v : V} (r : Rep K mg G d v) : RS K mg τ Ho G (.sh d :: ρ) (some v :: σ) H := by
  obtain ⟨O, x⟩ := x
  refine ⟨shO O, x.gh, fun a i e => ?_, x.out, by simp [x.len], fun i s e => ?_⟩
  · cases i with
    | zero => exact absurd e shO_zero
    | succ i => exact x.oh a i (shO_some.mp e)
  · cases i with
    | zero => simp at e; subst e; exact ⟨v, rfl, r⟩
    | succ i =>
      rw [own_shO]
      simpa using x.sl i s (by simpa using e)
theorem RS.pushO (x : RS K mg τ Ho G ρ σ H) {d : D} {o : HO} (r : TopOk K mg G E0 d o) {p : Addr} (h : H p = none) : RS K mg τ Ho G (.ow none d :: ρ) (some (.ref p) :: σ) (upd H p o) := by
  have gp := x.freeG h
  have hp := x.freeHo h
  obtain ⟨O, x⟩ := x
  have op : ∀ i, O p ≠ some i := fun i e => (x.oh p i e).2.2 h
  have on : O p = none := by
    cases e : O p with
    | none => rfl
    | some i => exact absurd e (op i)
  refine ⟨fun a => if a = p then some 0 else shO O a, x.gh.trans (same_upd h), fun a i e => ?_, x.out.trans (same_upd h), by simp [x.len], fun i s e => ?_⟩
  · by_cases q : a = p
    · subst q; rw [upd_same]; exact ⟨gp, cl_none hp, by simp⟩
    · simp only [if_neg q] at e
      cases i with
      | zero => exact absurd e shO_zero
      | succ i =>
        rw [upd_ne q]
        exact x.oh a i (shO_some.mp e)
  · cases i with
    | zero =>
      simp at e; subst e
      refine ⟨p, o, rfl, (fun _ q => nomatch q), ?_⟩
      refine ⟨?_, r.mono2 (Same.refl _) same_E0⟩
      unfold own
      rw [if_pos (if_pos rfl), upd_same]
    | succ i =>
      have z : own (fun a => if a = p then some 0 else shO O a) (i + 1) (upd H p o) = own O i H := by
        funext a
        unfold own
        by_cases q : a = p
        · subst q; simp [on]
        · simp only [if_neg q, upd_ne q]
          by_cases q2 : O a = some i
          · rw [if_pos q2, if_pos (shO_some.mpr q2)]
          · rw [if_neg q2, if_neg fun z => q2 (shO_some.mp z)]
      rw [z]
      simpa using x.sl i s (by simpa using e)
def popO (O : Addr → Option Nat) : Addr → Option Nat := fun a => match O a with
  | some (i + 1) => some i
  | _ => none
theorem popO_some {O : Addr → Option Nat} {a : Addr} {i : Nat} : popO O a = some i ↔ O a = some (i + 1) := by
  unfold popO
  cases O a with
  | none => simp
  | some k =>
    cases k with
    | zero => simp
    | succ k => simp
def asO (O : Addr → Option Nat) (i : Nat) : Addr → Option Nat := fun a => match O a with
  | some 0 => some i
  | some (j + 1) => if j = i then none else some j
  | none => none
theorem asO_some {O : Addr → Option Nat} {a : Addr} {i j : Nat} : asO O i a = some j ↔ (j = i ∧ O a = some 0) ∨ (j ≠ i ∧ O a = some (j + 1)) := by
  unfold asO
  cases O a with
  | none => simp
  | some k =>
    cases k with
    | zero => simp [eq_comm]
    | succ k =>
      by_cases q : k = i
      · subst q
        simp
        intro h e; exact h e.symm
      · simp [q]
        intro h; subst h; exact q
theorem own_of {O O' : Addr → Option Nat} {i j : Nat} {H : Hp} (h : ∀ a, O' a = some j ↔ O a = some i) : own O' j H = own O i H := by
  funext a
  unfold own
  by_cases q : O a = some i
  · rw [if_pos q, if_pos ((h a).mpr q)]
  · rw [if_neg q, if_neg fun z => q ((h a).mp z)]
theorem RS.pop {r : Sl} {v : Option V} (x : RS K mg τ Ho G (r :: ρ) (v :: σ) H) : RS K mg τ Ho G ρ σ H := by
  obtain ⟨O, x⟩ := x
  refine ⟨popO O, x.gh, fun a i e => x.oh a _ (popO_some.mp e), x.out, by simpa using x.len, fun i s e => ?_⟩
  rw [own_of fun a => popO_some]
  simpa using x.sl (i + 1) s (by simpa using e)
theorem RS.assign {r : Sl} {v : V} (x : RS K mg τ Ho G (r :: ρ) (some v :: σ) H) (i : Nat) : RS K mg τ Ho G (ρ.set i r) (σ.set i (some v)) H := by
  obtain ⟨O, x⟩ := x
  have l : ρ.length = σ.length := by simpa using x.len
  refine ⟨asO O i, x.gh, fun a j e => ?_, x.out, by simp [l], fun j s e => ?_⟩
  · rcases asO_some.mp e with ⟨_, e⟩ | ⟨_, e⟩
    · exact x.oh a _ e
    · exact x.oh a _ e
  · by_cases q : j = i
    · subst q
      have hj : j < ρ.length := by
        have := (List.getElem?_eq_some_iff.mp e).1
        simpa using this
      rw [List.getElem?_set_self hj] at e
      cases e
      rw [List.getElem?_set_self (by omega)]
      rw [own_of (O := O) (i := 0) fun a => by rw [asO_some]; simp]
      exact x.sl 0 _ rfl
    · rw [List.getElem?_set_ne (Ne.symm q)] at e ⊢
      rw [own_of (O := O) (i := j + 1) fun a => by rw [asO_some]; simp [q]]
      simpa using x.sl (j + 1) s (by simpa using e)
theorem own_le {O : Addr → Option Nat} {i : Nat} {H : Hp} : Same (own O i H) H := fun b u q => by
  unfold own at q
  by_cases w : O b = some i
  · rw [if_pos w] at q; exact q
  · rw [if_neg w] at q; cases q
theorem RS.mutN (x : RS K mg τ Ho G ρ σ H) {i : Nat} {t : Option Nat} {d : D} (e : ρ[i]? = some (.ow t d)) : ∃ a o h, σ[i]? = some (some (.ref a)) ∧ h a = some o ∧ Same h H ∧ TopOk K mg G h d o ∧
    ∀ b u d', h b ≠ none → (∃ o', upd h b u a = some o' ∧ TopOk K mg G (upd h b u) d' o') → RS K mg τ Ho G (ρ.set i (.ow t d')) σ (upd H b u) := by
  obtain ⟨O, x, kt⟩ := x.pruned
  obtain ⟨a, o, h1, h0, h2, h3⟩ := x.sl i _ e
  have hs : σ[i]? = some (some (.ref a)) := by
    cases q : σ[i]? with
    | none => rw [q] at h1; cases h1
    | some w => rw [q] at h1; rw [show w = some (.ref a) from h1]
  refine ⟨a, o, own O i H, hs, h2, own_le, h3, fun b0 u0 d' hb ⟨o', ho', r'⟩ => ?_⟩
  have hO : O b0 = some i := by
    unfold own at hb
    by_cases q : O b0 = some i
    · exact q
    · rw [if_neg q] at hb; exact absurd rfl hb
  obtain ⟨ga, _, _⟩ := x.oh b0 i hO
  have oa := x.ho hO (kt b0 i hO)
  refine ⟨O, fun b u q => ?_, fun b j q => ?_, fun b u q => ?_, by simp [x.len], fun j s q => ?_⟩
  · rw [upd_ne (ne_of_none q ga)]; exact x.gh b u q
  · obtain ⟨z1, z2, z3⟩ := x.oh b j q
    refine ⟨z1, z2, ?_⟩
    by_cases w : b = b0
    · subst w; rw [upd_same]; simp
    · rw [upd_ne w]; exact z3
  · rw [upd_ne (ne_of_none q oa)]; exact x.out b u q
  · by_cases w : j = i
    · subst w
      have hj : j < ρ.length := (List.getElem?_eq_some_iff.mp e).1
      rw [List.getElem?_set_self hj] at q
      cases q
      have z : own O j (upd H b0 u0) = upd (own O j H) b0 u0 := by
        funext b
        by_cases w : b = b0
        · subst w; unfold own; rw [if_pos hO, upd_same, upd_same]
        · rw [upd_ne w]; unfold own
          by_cases w2 : O b = some j
          · rw [if_pos w2, if_pos w2, upd_ne w]
          · rw [if_neg w2, if_neg w2]
      rw [z]
      exact ⟨a, o', by rw [hs]; rfl, h0, ho', r'⟩
    · rw [List.getElem?_set_ne (Ne.symm w)] at q
      have z : own O j (upd H b0 u0) = own O j H := by
        funext b
        unfold own
        by_cases w2 : O b = some j
        · rw [if_pos w2, if_pos w2, upd_ne]
          intro w3; subst w3; rw [hO] at w2; cases w2; exact w rfl
        · rw [if_neg w2, if_neg w2]
      rw [z]
      exact x.sl j s q
theorem RS.mut (x : RS K mg τ Ho G ρ σ H) {i : Nat} {t : Option Nat} {d : D} (e : ρ[i]? = some (.ow t d)) : ∃ a o, σ[i]? = some (some (.ref a)) ∧ H a = some o ∧ TopOk K mg G H d o ∧
    ∀ o' d', TopOk K mg G E0 d' o' → RS K mg τ Ho G (ρ.set i (.ow t d')) σ (upd H a o') := by
  obtain ⟨a, o, h, h1, h2, h3, h4, h5⟩ := x.mutN e
  exact ⟨a, o, h1, h3 _ _ h2, h4.mono2 (Same.refl _) h3, fun o' d' r => h5 a o' d' (by rw [h2]; simp) ⟨o', upd_same, r.mono2 (Same.refl _) same_E0⟩⟩
theorem RS.freeze (x : RS K mg τ Ho G ρ σ H) {i : Nat} {t : Option Nat} {d : D} (e : ρ[i]? = some (.ow t d)) : ∃ G', Gr Ho G G' ∧ RS K mg τ Ho G' (ρ.set i (.sh d)) σ H := by
  obtain ⟨O, x⟩ := x
  obtain ⟨a, o, h1, h0, h2, h3⟩ := x.sl i _ e
  obtain ⟨G', eG⟩ : ∃ G' : Hp, G' = fun b => if O b = some i then H b else G b := ⟨_, rfl⟩
  have g0 : ∀ b, O b = some i → G' b = H b := fun b q => by rw [eG]; simp only [if_pos q]
  have g1 : ∀ b, O b ≠ some i → G' b = G b := fun b q => by rw [eG]; simp only [if_neg q]
  have sg : Same G G' := fun b u q => by
    by_cases w : O b = some i
    · rw [(x.oh b i w).1] at q; cases q
    · rw [g1 b w]; exact q
  have so : Same (own O i H) G' := fun b u q => by
    unfold own at q
    by_cases w : O b = some i
    · rw [if_pos w] at q; rw [g0 b w]; exact q
    · rw [if_neg w] at q; cases q
  refine ⟨G', ⟨sg, fun b o h => ?_⟩, fun b => if O b = some i then none else O b, fun b u q => ?_, fun b j q => ?_, x.out, by simp [x.len], fun j s q => ?_⟩
  · refine g1 b fun w => ?_
    rw [(x.oh b i w).2.1] at h; cases h
  · by_cases w : O b = some i
    · rw [g0 b w] at q; exact q
    · rw [g1 b w] at q; exact x.gh b u q
  · by_cases w : O b = some i
    · simp [w] at q
    · simp only [if_neg w] at q
      rw [g1 b w]; exact x.oh b j q
  · by_cases w : j = i
    · subst w
      have hj : j < ρ.length := (List.getElem?_eq_some_iff.mp e).1
      rw [List.getElem?_set_self hj] at q
      cases q
      exact ⟨.ref a, h1, (h3.mono sg).repH (so _ _ h2) so⟩
    · rw [List.getElem?_set_ne (Ne.symm w)] at q
      have z : own (fun b => if O b = some i then none else O b) j H = own O j H := by
        funext b
        unfold own
        by_cases w2 : O b = some i
        · have : ¬ (some i = some j) := fun z => w (by cases z; rfl)
          simp [w2, this]
        · simp [w2]
      rw [z]
      exact (x.sl j s q).mono sg
theorem RS.forget (x : RS K mg τ Ho G ρ σ H) (i : Nat) : RS K mg τ Ho G (ρ.set i .no) σ H := by
  obtain ⟨O, x⟩ := x
  refine ⟨O, x.gh, x.oh, x.out, by simp [x.len], fun j s q => ?_⟩
  by_cases w : j = i
  · subst w
    have hj : j < ρ.length := by
      have := (List.getElem?_eq_some_iff.mp q).1
      simpa using this
    rw [List.getElem?_set_self hj] at q
    cases q
    trivial
  · rw [List.getElem?_set_ne (Ne.symm w)] at q
    exact x.sl j s q
end
end DS
set_option Elab.async false
set_option linter.all false
set_option maxRecDepth 100000
namespace DS
open PySem PySem.Spec PyProof.Rows L2
inductive Res (α : Type) where
  | ok (a : α) (ρ : List Sl)
  | ex (x : Exn) (ρ : List Sl)
  | no
abbrev M (α : Type) := List Sl → Res α
def Res.bind {α β : Type} (r : Res α) (u : α → M β) : Res β := match r with
  | .ok a ρ => u a ρ
  | .ex x ρ => .ex x ρ
  | .no => .no
def bnd {α β : Type} (t : M α) (u : α → M β) : M β := fun ρ => (t ρ).bind u
def ret {α : Type} (a : α) : M α := fun ρ => .ok a ρ
def lft {α : Type} (o : Option α) : M α := fun ρ => match o with
  | some a => .ok a ρ
  | none => .no
theorem RS.anti {K : PySem.W.Frag} {mg : Str → Option Value} {τ : Tau} {Ho Ho' G : Hp} {ρ : List Sl} {σ : L2.St} {H : Hp} (e : Same Ho Ho') (x : RS K mg τ Ho' G ρ σ H) : RS K mg τ Ho G ρ σ H := by
  obtain ⟨O, x⟩ := x
  refine ⟨O, x.gh, fun a i q => ?_, e.trans x.out, x.len, x.sl⟩
  obtain ⟨h1, h2, h3⟩ := x.oh a i q
  refine ⟨h1, ?_, h3⟩
  cases w : cl Ho a with
  | none => rfl
  | some o => rw [cl_mono e _ _ w] at h2; cases h2
theorem Gr.anti {Ho Ho' G G' : Hp} (e : Same Ho Ho') (x : Gr Ho' G G') : Gr Ho G G' := ⟨x.1, fun a o h => x.2 a o (cl_mono e a o h)⟩
structure DC where
  X : Cx
  τ : Tau
  Ho : Hp
  G0 : Hp
  Ex : Exn → List Sl → Prop
  k : Nat
  g : Bool
  gd : g = true → X.A.guards = some []
  hot : Bool
  dp : X.A.depth + 3 * k + 5 < recursionLimit
  un : X.A.units + 16 * k + 200 < cLine
  hd : hot = false → X.A.handled = none
  calm : hot = false → X.calm = true
  tk : Takes X (fun cls d σ H => ∃ G ρ x, RS X.K X.mg τ Ho G ρ σ H ∧ Gr Ho G0 G ∧ RepX X.K X.mg G x cls d ∧ Ex x ρ)
theorem DC.room (Z : DC) (h : Z.hot = false) : Room Z.k Z.X.A := ⟨Z.hd h, Z.dp, Z.un⟩
theorem DC.units (Z : DC) : Z.X.A.units + 64 < cLine := by have := Z.un; omega
structure DC.R (Z : DC) (Ho G : Hp) (ρ : List Sl) (σ : L2.St) (H : Hp) : Prop where
  rs : RS Z.X.K Z.X.mg Z.τ Ho G ρ σ H
  ho : Same Z.Ho Ho
  g0 : Gr Z.Ho Z.G0 G
abbrev DC.rep (Z : DC) : Hp → D → V → Prop := Rep Z.X.K Z.X.mg
def DC.W (Z : DC) : WX := fun cls d σ H => ∃ G ρ x, RS Z.X.K Z.X.mg Z.τ Z.Ho G ρ σ H ∧ Gr Z.Ho Z.G0 G ∧ RepX Z.X.K Z.X.mg G x cls d ∧ Z.Ex x ρ
section
variable {Z : DC} {Ho G : Hp} {ρ : List Sl} {σ : L2.St} {H : Hp}
theorem DC.R.to {G' : Hp} {ρ' : List Sl} {σ' : L2.St} {H' : Hp} (x : Z.R Ho G ρ σ H) (y : RS Z.X.K Z.X.mg Z.τ Ho G' ρ' σ' H') (g : Gr Ho G G') : Z.R Ho G' ρ' σ' H' := ⟨y, x.ho, x.g0.trans (g.anti x.ho)⟩
theorem DC.R.gh (x : Z.R Ho G ρ σ H) : Same G H := x.rs.gh
theorem DC.R.out (x : Z.R Ho G ρ σ H) : Same Ho H := x.rs.out
theorem DC.R.len (x : Z.R Ho G ρ σ H) : ρ.length = σ.length := x.rs.len
theorem DC.R.freeG (x : Z.R Ho G ρ σ H) {p : Addr} (h : H p = none) : G p = none := x.rs.freeG h
theorem DC.R.freeHo (x : Z.R Ho G ρ σ H) {p : Addr} (h : H p = none) : Ho p = none := x.rs.freeHo h
theorem DC.R.sh (x : Z.R Ho G ρ σ H) {i : Nat} {d : D} (e : ρ[i]? = some (.sh d)) : ∃ v, σ[i]? = some (some v) ∧ Rep Z.X.K Z.X.mg G d v := x.rs.sh e
theorem DC.R.allocF (x : Z.R Ho G ρ σ H) {p : Addr} {o : HO} (h : H p = none) : Z.R Ho (upd G p o) ρ σ (upd H p o) ∧ Gr Ho G (upd G p o) :=
  let ⟨h1, h2⟩ := x.rs.allocF (o := o) h
  ⟨x.to h1 h2, h2⟩
theorem DC.R.push (x : Z.R Ho G ρ σ H) {d : D} {v : V} (r : Rep Z.X.K Z.X.mg G d v) : Z.R Ho G (.sh d :: ρ) (some v :: σ) H := x.to (x.rs.push r) Gr.refl
theorem DC.R.pushO (x : Z.R Ho G ρ σ H) {d : D} {o : HO} (r : TopOk Z.X.K Z.X.mg G E0 d o) {p : Addr} (h : H p = none) : Z.R Ho G (.ow none d :: ρ) (some (.ref p) :: σ) (upd H p o) := x.to (x.rs.pushO r h) Gr.refl
theorem DC.R.pop {r : Sl} {v : Option V} (x : Z.R Ho G (r :: ρ) (v :: σ) H) : Z.R Ho G ρ σ H := x.to x.rs.pop Gr.refl
theorem DC.R.assign {r : Sl} {v : V} (x : Z.R Ho G (r :: ρ) (some v :: σ) H) (i : Nat) : Z.R Ho G (ρ.set i r) (σ.set i (some v)) H := x.to (x.rs.assign i) Gr.refl
theorem DC.R.mut (x : Z.R Ho G ρ σ H) {i : Nat} {t : Option Nat} {d : D} (e : ρ[i]? = some (.ow t d)) : ∃ a o, σ[i]? = some (some (.ref a)) ∧ H a = some o ∧ TopOk Z.X.K Z.X.mg G H d o ∧
    ∀ o' d', TopOk Z.X.K Z.X.mg G E0 d' o' → Z.R Ho G (ρ.set i (.ow t d')) σ (upd H a o') :=
  let ⟨a, o, h1, h2, h3, h4⟩ := x.rs.mut e
  ⟨a, o, h1, h2, h3, fun o' d' z => x.to (h4 o' d' z) Gr.refl⟩
theorem DC.R.freeze (x : Z.R Ho G ρ σ H) {i : Nat} {t : Option Nat} {d : D} (e : ρ[i]? = some (.ow t d)) : ∃ G', Gr Ho G G' ∧ Z.R Ho G' (ρ.set i (.sh d)) σ H :=
  let ⟨G', g, h⟩ := x.rs.freeze e
  ⟨G', g, x.to h g⟩
theorem DC.R.forget (x : Z.R Ho G ρ σ H) (i : Nat) : Z.R Ho G (ρ.set i .no) σ H := x.to (x.rs.forget i) Gr.refl
end
def BR (K : PySem.W.Frag) (mg : Str → Option Value) (b : Bool) (G H : Hp) (d : D) (v : V) : Prop :=
  Rep K mg G d v ∨ (b = true ∧ ∃ a o, v = .ref a ∧ H a = some o ∧ TopOk K mg G H d o)
abbrev DC.BR (Z : DC) : Bool → Hp → Hp → D → V → Prop := DS.BR Z.X.K Z.X.mg
theorem BR.rep {K : PySem.W.Frag} {mg : Str → Option Value} {G H : Hp} {d : D} {v : V} (h : BR K mg false G H d v) : Rep K mg G d v := by
  rcases h with h | ⟨h, _⟩
  · exact h
  · cases h
theorem BR.of {K : PySem.W.Frag} {mg : Str → Option Value} {b : Bool} {G H : Hp} {d : D} {v : V} (h : Rep K mg G d v) : BR K mg b G H d v := .inl h
theorem BR.inH {K : PySem.W.Frag} {mg : Str → Option Value} {b : Bool} {G H : Hp} {d : D} {v : V} (e : Same G H) (h : BR K mg b G H d v) : Rep K mg H d v := by
  rcases h with h | ⟨_, a, o, rfl, h1, h2⟩
  · exact Rep.mono e _ _ h
  · exact (h2.mono e).repH h1 (Same.refl _)
theorem BR.go {K : PySem.W.Frag} {mg : Str → Option Value} {b : Bool} {G G' H H' : Hp} {d : D} {v : V} (e : Same G G') (f : b = true → Same H H') (h : BR K mg b G H d v) : BR K mg b G' H' d v := by
  rcases h with h | ⟨hb, a, o, rfl, h1, h2⟩
  · exact .inl (Rep.mono e _ _ h)
  · exact .inr ⟨hb, a, o, rfl, f hb _ _ h1, h2.mono2 e (f hb)⟩
theorem BR.up {K : PySem.W.Frag} {mg : Str → Option Value} {b : Bool} {G H : Hp} {d : D} {v : V} (h : BR K mg b G H d v) : BR K mg true G H d v := by
  rcases h with h | ⟨_, h⟩
  · exact .inl h
  · exact .inr ⟨rfl, h⟩
structure Md where
  p : Bool
  b : Bool
def LJ (Z : DC) (Ho : Hp) (m : Md) (G H : Hp) (σ : L2.St) (r : Res D) (Q : VK) : Prop := match r with
  | .ok d ρ => ∀ v G' H', Z.R Ho G' ρ σ H' → Gr Ho G G' → (m.p = true → Same H H') → Z.BR m.b G' H' d v → Q v H'
  | .ex x ρ => Z.Ex x ρ
  | .no => False
def LT (Z : DC) (Ho : Hp) (p : Bool) (G H : Hp) (σ : L2.St) (r : Res Bool) (Q : Bool → Hp → Prop) : Prop := match r with
  | .ok c ρ => ∀ G' H', Z.R Ho G' ρ σ H' → Gr Ho G G' → (p = true → Same H H') → Q c H'
  | .ex x ρ => Z.Ex x ρ
  | .no => False
inductive Arg where
  | dt (d : D)
  | sl (i : Nat)
def ArgOk (Z : DC) (G : Hp) (ρ : List Sl) (σ : L2.St) : Arg → V → Prop
  | .dt d, v => Z.rep G d v
  | .sl i, v => σ[i]? = some (some v) ∧ ∃ t R, ρ[i]? = some (.rs t R)
inductive ArgsOk (Z : DC) (G : Hp) (ρ : List Sl) (σ : L2.St) : List Arg → List V → Prop
  | nil : ArgsOk Z G ρ σ [] []
  | cons {a : Arg} {v : V} {as : List Arg} {vs : List V} : ArgOk Z G ρ σ a v → ArgsOk Z G ρ σ as vs → ArgsOk Z G ρ σ (a :: as) (v :: vs)
def LA (Z : DC) (Ho : Hp) (G H : Hp) (σ : L2.St) (r : Res (List D)) (Q : List V → Hp → Prop) : Prop := match r with
  | .ok ds ρ => ∀ vs G' H', Z.R Ho G' ρ σ H' → Gr Ho G G' → RepL Z.X.K Z.X.mg G' ds vs → Q vs H'
  | .ex x ρ => Z.Ex x ρ
  | .no => False
def LR (Z : DC) (Ho : Hp) (G : Hp) (σ : L2.St) (r : Res Sl) (Q : VK) : Prop := match r with
  | .ok s ρ => ∀ v G' H', Z.R Ho G' (s :: ρ) (some v :: σ) H' → Gr Ho G G' → Q v H'
  | .ex x ρ => Z.Ex x ρ
  | .no => False
def DE (Z : DC) (m : Md) (e : Expr) (t : M D) : Prop := ∃ te, PE Z.X e te ∧ ∀ Ho, Same Z.Ho Ho → ∀ G ρ σ H Q, Z.R Ho G ρ σ H → LJ Z Ho m G H σ (t ρ) Q → te σ H Q
def DT (Z : DC) (p : Bool) (e : Expr) (t : M Bool) : Prop := ∃ te, PT Z.X e te ∧ ∀ Ho, Same Z.Ho Ho → ∀ G ρ σ H Q, Z.R Ho G ρ σ H → LT Z Ho p G H σ (t ρ) Q → te σ H Q
def DR (Z : DC) (e : Expr) (t : M Sl) : Prop := ∃ te, PE Z.X e te ∧ ∀ Ho, Same Z.Ho Ho → ∀ G ρ σ H Q, Z.R Ho G ρ σ H → LR Z Ho G σ (t ρ) Q → te σ H Q
def DA (Z : DC) (es : List Expr) (t : M (List D)) : Prop := ∃ te, PA Z.X es te ∧ ∀ Ho, Same Z.Ho Ho → ∀ G ρ σ H Q, Z.R Ho G ρ σ H → LA Z Ho G H σ (t ρ) Q → te σ H Q
section
variable {Z : DC} {Ho : Hp} {m m1 m2 m3 : Md} {p p1 p2 : Bool} {e a b c : Expr} {t ta tb tc : M D} {pos : Pos}
theorem LJ.imp {G G1 H H1 : Hp} {σ : L2.St} {r : Res D} {Q Q' : VK} (g : Gr Ho G G1) (s : m.p = true → Same H H1) (h : LJ Z Ho m G H σ r Q)
    (hq : ∀ d ρ, r = .ok d ρ → ∀ v G' H', Z.R Ho G' ρ σ H' → Gr Ho G1 G' → (m.p = true → Same H1 H') → Z.BR m.b G' H' d v → Q v H' → Q' v H') : LJ Z Ho m G1 H1 σ r Q' := by
  cases r with
  | ok d ρ => exact fun v G' H' x g' s' b => hq d ρ rfl v G' H' x g' s' b (h v G' H' x (g.trans g') (fun q => (s q).trans (s' q)) b)
  | ex x ρ => exact h
  | no => exact h
theorem DE.then {α : Type} {r : Res D} {u : D → M α} {L : Res α → Prop} {G H : Hp} {σ : L2.St} {Q : VK} (hex : ∀ x ρ, L (.ex x ρ) → Z.Ex x ρ) (hno : L .no → False)
    (h : L (r.bind u)) (hq : ∀ d ρ v G' H', Z.R Ho G' ρ σ H' → Gr Ho G G' → (m.p = true → Same H H') → Z.BR m.b G' H' d v → L (u d ρ) → Q v H') : LJ Z Ho m G H σ r Q := by
  cases r with
  | ok d ρ => exact fun v G' H' x g s b => hq d ρ v G' H' x g s b h
  | ex x ρ => exact hex x ρ h
  | no => exact hno h
theorem DT.then {α : Type} {r : Res Bool} {u : Bool → M α} {L : Res α → Prop} {G H : Hp} {σ : L2.St} {Q : Bool → Hp → Prop} (hex : ∀ x ρ, L (.ex x ρ) → Z.Ex x ρ) (hno : L .no → False)
    (h : L (r.bind u)) (hq : ∀ d ρ G' H', Z.R Ho G' ρ σ H' → Gr Ho G G' → (p = true → Same H H') → L (u d ρ) → Q d H') : LT Z Ho p G H σ r Q := by
  cases r with
  | ok d ρ => exact fun G' H' x g s => hq d ρ G' H' x g s h
  | ex x ρ => exact hex x ρ h
  | no => exact hno h
theorem DA.then {α : Type} {r : Res (List D)} {u : List D → M α} {L : Res α → Prop} {G H : Hp} {σ : L2.St} {Q : List V → Hp → Prop} (hex : ∀ x ρ, L (.ex x ρ) → Z.Ex x ρ) (hno : L .no → False)
    (h : L (r.bind u)) (hq : ∀ ds ρ vs G' H', Z.R Ho G' ρ σ H' → Gr Ho G G' → RepL Z.X.K Z.X.mg G' ds vs → L (u ds ρ) → Q vs H') : LA Z Ho G H σ r Q := by
  cases r with
  | ok d ρ => exact fun v G' H' x g b => hq d ρ v G' H' x g b h
  | ex x ρ => exact hex x ρ h
  | no => exact hno h
theorem DR.then {α : Type} {r : Res Sl} {u : Sl → M α} {L : Res α → Prop} {G : Hp} {σ : L2.St} {Q : VK} (hex : ∀ x ρ, L (.ex x ρ) → Z.Ex x ρ) (hno : L .no → False)
    (h : L (r.bind u)) (hq : ∀ s ρ v G' H', Z.R Ho G' (s :: ρ) (some v :: σ) H' → Gr Ho G G' → L (u s ρ) → Q v H') : LR Z Ho G σ r Q := by
  cases r with
  | ok d ρ => exact fun v G' H' x g => hq d ρ v G' H' x g h
  | ex x ρ => exact hex x ρ h
  | no => exact hno h
theorem DE.mono (h : DE Z m e t) (hp : m1.p = true → m.p = true) (hb : m.b = true → m1.b = true) : DE Z m1 e t := by
  obtain ⟨te, h1, h2⟩ := h
  refine ⟨te, h1, fun Ho hw G ρ σ H Q x q => h2 Ho hw G ρ σ H Q x ?_⟩
  cases e : t ρ with
  | ok d ρ' =>
    rw [e] at q
    refine fun v G' H' x g s br => q v G' H' x g (fun z => s (hp z)) ?_
    rcases br with br | ⟨z, br⟩
    · exact .inl br
    · exact .inr ⟨hb z, br⟩
  | ex x ρ' => rw [e] at q; exact q
  | no => rw [e] at q; exact q
theorem DT.mono {t : M Bool} (h : DT Z p e t) (hp : p1 = true → p = true) : DT Z p1 e t := by
  obtain ⟨te, h1, h2⟩ := h
  refine ⟨te, h1, fun Ho hw G ρ σ H Q x q => h2 Ho hw G ρ σ H Q x ?_⟩
  cases e : t ρ with
  | ok d ρ' => rw [e] at q; exact fun G' H' x g s => q G' H' x g (fun z => s (hp z))
  | ex x ρ' => rw [e] at q; exact q
  | no => rw [e] at q; exact q
def dVar (i : Nat) : M D := fun ρ => match ρ[i]? with
  | some (.sh d) => .ok d ρ
  | some (.ow _ d) => .ok d (ρ.set i (.sh d))
  | _ => .no
theorem de_var (i : Nat) {x : Str} (hN : Z.X.N[i]? = some x := by rfl) (hv : Vis Z.X.env.scope x := by first | exact Or.inl rfl | exact Or.inr (Or.inl rfl) | exact Or.inr (Or.inr rfl)) (hd : (x == ("__debug__" : Str)) = false := by decide)
    (hcd : (x == ("__classdict__" : Str)) = false := by decide) : DE Z ⟨true, false⟩ (.Name x pos) (dVar i) := by
  refine ⟨_, pe_var hN hv hd hcd, fun Ho hw G ρ σ H Q x q => ?_⟩
  unfold dVar at q
  cases e : ρ[i]? with
  | none => rw [e] at q; exact q.elim
  | some s =>
    rw [e] at q
    cases s with
    | no => exact q.elim
    | rs t R => exact q.elim
    | er x => exact q.elim
    | th x => exact q.elim
    | td x => exact q.elim
    | tb => exact q.elim
    | op y ds => exact q.elim
    | pn k => exact q.elim
    | sh d =>
      obtain ⟨v, h1, h2⟩ := x.sh e
      exact ⟨v, h1, q v G H x Gr.refl (fun _ => Same.refl _) (.inl h2)⟩
    | ow t d =>
      obtain ⟨G', g, x'⟩ := x.freeze e
      have e' : (ρ.set i (.sh d))[i]? = some (.sh d) := List.getElem?_set_self (List.getElem?_eq_some_iff.mp e).1
      obtain ⟨v, h1, h2⟩ := x'.sh e'
      exact ⟨v, h1, q v G' H x' g (fun _ => Same.refl _) (.inl h2)⟩
def dVarB (i : Nat) : M D := fun ρ => match ρ[i]? with
  | some (.sh d) => .ok d ρ
  | some (.ow _ d) => .ok d ρ
  | _ => .no
theorem de_varB (i : Nat) {x : Str} (hN : Z.X.N[i]? = some x := by rfl) (hv : Vis Z.X.env.scope x := by first | exact Or.inl rfl | exact Or.inr (Or.inl rfl) | exact Or.inr (Or.inr rfl)) (hd : (x == ("__debug__" : Str)) = false := by decide)
    (hcd : (x == ("__classdict__" : Str)) = false := by decide) : DE Z ⟨true, true⟩ (.Name x pos) (dVarB i) := by
  refine ⟨_, pe_var hN hv hd hcd, fun Ho hw G ρ σ H Q x q => ?_⟩
  unfold dVarB at q
  cases e : ρ[i]? with
  | none => rw [e] at q; exact q.elim
  | some s =>
    rw [e] at q
    cases s with
    | no => exact q.elim
    | rs t R => exact q.elim
    | er x => exact q.elim
    | th x => exact q.elim
    | td x => exact q.elim
    | tb => exact q.elim
    | op y ds => exact q.elim
    | pn k => exact q.elim
    | sh d =>
      obtain ⟨v, h1, h2⟩ := x.sh e
      exact ⟨v, h1, q v G H x Gr.refl (fun _ => Same.refl _) (.inl h2)⟩
    | ow t d =>
      obtain ⟨a, o, h1, h2, h3, _⟩ := x.mut e
      exact ⟨_, h1, q _ G H x Gr.refl (fun _ => Same.refl _) (.inr ⟨rfl, a, o, rfl, h2, h3⟩)⟩
theorem de_c {v : V} {d : D} (he : PE Z.X e (tC v)) (hr : ∀ G, Z.rep G d v) : DE Z ⟨true, false⟩ e (ret d) :=
  ⟨_, he, fun Ho hw G ρ σ H Q x q => q v G H x Gr.refl (fun _ => Same.refl _) (.inl (hr G))⟩
theorem de_int {i : Int} {j : Nat} : DE Z ⟨true, false⟩ (.Constant (.int i) j pos) (ret (.int i)) := de_c pe_int fun G => by unfold DC.rep Rep; rfl
theorem de_bl {i : Bool} {j : Nat} : DE Z ⟨true, false⟩ (.Constant (.bool i) j pos) (ret (.bl i)) := de_c pe_bl fun G => by unfold DC.rep Rep; rfl
theorem de_non {j : Nat} : DE Z ⟨true, false⟩ (.Constant .none j pos) (ret .non) := de_c pe_non fun G => by unfold DC.rep Rep; rfl
theorem de_str {i : Str} {j : Nat} (h : PyData.strOk i = true := by decide +kernel) : DE Z ⟨true, false⟩ (.Constant (.str i) j pos) (ret (.str i)) := de_c pe_str fun G => by unfold DC.rep Rep; exact ⟨rfl, h⟩
structure OpD (Z : DC) (r : R2) (f : D → D → Option D) : Prop where
  ok : ∀ {Ho G : Hp} {ρ : List Sl} {σ : L2.St} {H : Hp} {d e z : D} {x y : V} {Q : VK}, Z.R Ho G ρ σ H → Z.BR true G H d x → Z.BR true G H e y → f d e = some z →
  (∀ v G' H', Z.R Ho G' ρ σ H' → Gr Ho G G' → Same H H' → Z.rep G' z v → Q v H') → r x y H Q
def d2 (f : D → D → Option D) (ta tb : M D) : M D := bnd ta fun d => bnd tb fun e => lft (f d e)
theorem op2 {r : R2} {f : D → D → Option D} (hd : OpD Z r f) {tea teb : TE} (ha : ∀ Ho, Same Z.Ho Ho → ∀ G ρ σ H Q, Z.R Ho G ρ σ H → LJ Z Ho m1 G H σ (ta ρ) Q → tea σ H Q) (hb : ∀ Ho, Same Z.Ho Ho → ∀ G ρ σ H Q, Z.R Ho G ρ σ H → LJ Z Ho m2 G H σ (tb ρ) Q → teb σ H Q)
    (hm : (!m1.b || m2.p) = true) {Ho : Hp} (hw : Same Z.Ho Ho) {G : Hp} {ρ : List Sl} {σ : L2.St} {H : Hp} {Q : VK} (x : Z.R Ho G ρ σ H) (q : LJ Z Ho ⟨m1.p && m2.p, false⟩ G H σ (d2 f ta tb ρ) Q) : tOp r tea teb σ H Q := by
  refine ha Ho hw G ρ σ H _ x (DE.then (L := fun r => LJ Z Ho ⟨m1.p && m2.p, false⟩ G H σ r Q) (fun _ _ h => h) (fun h => h) q fun d ρ1 v G1 H1 x1 g1 s1 b1 q1 => ?_)
  refine hb Ho hw G1 ρ1 σ H1 _ x1 (DE.then (L := fun r => LJ Z Ho ⟨m1.p && m2.p, false⟩ G H σ r Q) (fun _ _ h => h) (fun h => h) q1 fun e ρ2 w G2 H2 x2 g2 s2 b2 q2 => ?_)
  unfold lft at q2
  cases ef : f d e with
  | none => rw [ef] at q2; exact q2.elim
  | some z =>
    rw [ef] at q2
    have bb : Z.BR m1.b G2 H2 d v := b1.go g2.1 fun hb => s2 (by rw [hb] at hm; simpa using hm)
    refine hd.ok x2 bb.up b2.up ef fun u G' H' x' g' s' r' => q2 u G' H' x' ((g1.trans g2).trans g') (fun hp => ?_) (.inl r')
    rw [Bool.and_eq_true] at hp
    exact ((s1 hp.1).trans (s2 hp.2)).trans s'
theorem de_bin {op : Operator} {r : R2} {f : D → D → Option D} (ho : OpR Z.X (binaryOp op) r) (hd : OpD Z r f) (ha : DE Z m1 a ta) (hb : DE Z m2 b tb) (hm : (!m1.b || m2.p) = true := by rfl) :
    DE Z ⟨m1.p && m2.p, false⟩ (.BinOp a op b pos) (d2 f ta tb) := by
  obtain ⟨tea, pa, sa⟩ := ha
  obtain ⟨teb, pb, sb⟩ := hb
  exact ⟨_, pe_op ho pa pb, fun Ho hw G ρ σ H Q x q => op2 hd sa sb hm hw x q⟩
theorem de_cmp {op : CmpOp} {r : R2} {f : D → D → Option D} (ho : OpR Z.X (compareOp op) r) (hd : OpD Z r f) (ha : DE Z m1 a ta) (hb : DE Z m2 b tb) (hm : (!m1.b || m2.p) = true := by rfl) (hx : behindInMarks op b = false := by first | rfl | exact nomark _) :
    DE Z ⟨m1.p && m2.p, false⟩ (.Compare a [op] [b] pos) (d2 f ta tb) := by
  obtain ⟨tea, pa, sa⟩ := ha
  obtain ⟨teb, pb, sb⟩ := hb
  exact ⟨_, pe_cmpR ho pa pb hx, fun Ho hw G ρ σ H Q x q => op2 hd sa sb hm hw x q⟩
def asB (d : D) : Option Bool := match d with
  | .bl c => some c
  | _ => none
theorem asB_some {d : D} {c : Bool} (h : asB d = some c) : d = .bl c := by
  cases d <;> first | (cases h; rfl) | cases h
def dB (t : M D) : M Bool := bnd t fun d => lft (asB d)
theorem tstB {te : TE} (ha : ∀ Ho, Same Z.Ho Ho → ∀ G ρ σ H Q, Z.R Ho G ρ σ H → LJ Z Ho m1 G H σ (ta ρ) Q → te σ H Q) {Ho : Hp} (hw : Same Z.Ho Ho) {G : Hp} {ρ : List Sl} {σ : L2.St} {H : Hp} {Q : Bool → Hp → Prop} (x : Z.R Ho G ρ σ H) (q : LT Z Ho m1.p G H σ (dB ta ρ) Q) :
    te σ H fun v H' => ∃ k, v = .bl k ∧ Q k H' := by
  refine ha Ho hw G ρ σ H _ x (DE.then (L := fun r => LT Z Ho m1.p G H σ r Q) (fun _ _ h => h) (fun h => h) q fun d ρ1 v G1 H1 x1 g1 s1 b1 q1 => ?_)
  unfold lft at q1
  cases ef : asB d with
  | none => rw [ef] at q1; exact q1.elim
  | some c =>
    rw [ef] at q1
    have := asB_some ef
    subst this
    have hv : v = .bl c := by
      rcases b1 with b1 | ⟨_, _, _, _, _, h⟩
      · unfold Rep at b1; exact b1
      · cases h
    exact ⟨c, hv, q1 G1 H1 x1 g1 s1⟩
theorem dt_cmp {op : CmpOp} {r : R2} {f : D → D → Option D} (ho : OpR Z.X (compareOp op) r) (hd : OpD Z r f) (ha : DE Z m1 a ta) (hb : DE Z m2 b tb) (hm : (!m1.b || m2.p) = true := by rfl) (hx : behindInMarks op b = false := by first | rfl | exact nomark _) :
    DT Z (m1.p && m2.p) (.Compare a [op] [b] pos) (dB (d2 f ta tb)) := by
  obtain ⟨tea, pa, sa⟩ := ha
  obtain ⟨teb, pb, sb⟩ := hb
  refine ⟨_, pt_cmpR ho pa pb hx, fun Ho hw G ρ σ H Q x q => ?_⟩
  exact tstB (m1 := ⟨m1.p && m2.p, false⟩) (fun Ho hw G ρ σ H Q x q => op2 hd sa sb hm hw x q) hw x q
theorem dt_val (ha : DE Z m1 e t) (he : ∀ whole, isTrue e Z.X.env whole = (do let v ← whole; standAt e.pos; holding [v] (truthy v)) := by intro _; rfl) : DT Z m1.p e (dB t) := by
  obtain ⟨tea, pa, sa⟩ := ha
  exact ⟨_, pt_val pa he, fun Ho hw G ρ σ H Q x q => tstB sa hw x q⟩
def dNotT (t : M Bool) : M Bool := bnd t fun c => ret (!c)
theorem dt_not {t : M Bool} (h : DT Z p e t) : DT Z p (.UnaryOp .Not e pos) (dNotT t) := by
  obtain ⟨te, pa, sa⟩ := h
  refine ⟨_, pt_not pa, fun Ho hw G ρ σ H Q x q => ?_⟩
  exact sa Ho hw G ρ σ H _ x (DT.then (L := fun r => LT Z Ho p G H σ r Q) (fun _ _ h => h) (fun h => h) q fun c ρ1 G1 H1 x1 g1 s1 q1 => q1 G1 H1 x1 g1 s1)
def dAndT (t u : M Bool) : M Bool := bnd t fun c => if c then u else ret false
def dOrT (t u : M Bool) : M Bool := bnd t fun c => if c then ret true else u
def DW (Z : DC) (p : Bool) (e : Expr) (t : M Bool) : Prop := ∃ te, PW Z.X e te ∧ ∀ Ho, Same Z.Ho Ho → ∀ G ρ σ H Q, Z.R Ho G ρ σ H → LT Z Ho p G H σ (t ρ) Q → te σ H Q
theorem DW.dt {t : M Bool} (h : DW Z p e t) : DT Z p e t := by
  obtain ⟨te, pa, sa⟩ := h
  exact ⟨te, pa.pt, sa⟩
theorem dw_and1 {t : M Bool} (h : DT Z p e t) : DW Z p (.BoolOp .And [e] pos) t := by
  obtain ⟨te, pa, sa⟩ := h
  exact ⟨te, pw_and1 pa, sa⟩
theorem dw_or1 {t : M Bool} (h : DT Z p e t) : DW Z p (.BoolOp .Or [e] pos) t := by
  obtain ⟨te, pa, sa⟩ := h
  exact ⟨te, pw_or1 pa, sa⟩
theorem LT.from {t : M Bool} {ρ : List Sl} {G G1 H H1 : Hp} {σ : L2.St} {Q : Bool → Hp → Prop} (g : Gr Ho G G1) (s : p1 = true → Same H H1) (q : LT Z Ho (p1 && p2) G H σ (t ρ) Q) : LT Z Ho p2 G1 H1 σ (t ρ) Q := by
  cases e : t ρ with
  | ok c ρ' =>
    rw [e] at q
    refine fun G' H' x g' s' => q G' H' x (g.trans g') fun hp => ?_
    rw [Bool.and_eq_true] at hp
    exact (s hp.1).trans (s' hp.2)
  | ex x ρ' => rw [e] at q; exact q
  | no => rw [e] at q; exact q
theorem dw_and {rest : List Expr} {t u : M Bool} (h : DT Z p1 a t) (h2 : DW Z p2 (.BoolOp .And (b :: rest) pos) u) : DW Z (p1 && p2) (.BoolOp .And (a :: b :: rest) pos) (dAndT t u) := by
  obtain ⟨te, pa, sa⟩ := h
  obtain ⟨ue, pb, sb⟩ := h2
  refine ⟨_, pw_and pa pb, fun Ho hw G ρ σ H Q x q => ?_⟩
  refine sa Ho hw G ρ σ H _ x (DT.then (L := fun r => LT Z Ho (p1 && p2) G H σ r Q) (fun _ _ h => h) (fun h => h) q fun c ρ1 G1 H1 x1 g1 s1 q1 => ?_)
  cases c with
  | true =>
    rw [if_pos rfl] at q1 ⊢
    exact sb Ho hw G1 ρ1 σ H1 Q x1 (LT.from g1 s1 q1)
  | false =>
    rw [if_neg Bool.false_ne_true] at q1 ⊢
    refine q1 G1 H1 x1 g1 fun hp => ?_
    rw [Bool.and_eq_true] at hp
    exact s1 hp.1
theorem dw_or {rest : List Expr} {t u : M Bool} (h : DT Z p1 a t) (h2 : DW Z p2 (.BoolOp .Or (b :: rest) pos) u) : DW Z (p1 && p2) (.BoolOp .Or (a :: b :: rest) pos) (dOrT t u) := by
  obtain ⟨te, pa, sa⟩ := h
  obtain ⟨ue, pb, sb⟩ := h2
  refine ⟨_, pw_or pa pb, fun Ho hw G ρ σ H Q x q => ?_⟩
  refine sa Ho hw G ρ σ H _ x (DT.then (L := fun r => LT Z Ho (p1 && p2) G H σ r Q) (fun _ _ h => h) (fun h => h) q fun c ρ1 G1 H1 x1 g1 s1 q1 => ?_)
  cases c with
  | true =>
    rw [if_pos rfl] at q1 ⊢
    refine q1 G1 H1 x1 g1 fun hp => ?_
    rw [Bool.and_eq_true] at hp
    exact s1 hp.1
  | false =>
    rw [if_neg Bool.false_ne_true] at q1 ⊢
    exact sb Ho hw G1 ρ1 σ H1 Q x1 (LT.from g1 s1 q1)
def dIf {α : Type} (t : M Bool) (ta tb : M α) : M α := bnd t fun c => if c then ta else tb
theorem LJ.from {ρ : List Sl} {G G1 H H1 : Hp} {σ : L2.St} {Q : VK} (g : Gr Ho G G1) (s : m.p = true → Same H H1) (q : LJ Z Ho m G H σ (t ρ) Q) (hp : m.p = true → m1.p = true) (hb : m1.b = true → m.b = true) : LJ Z Ho m1 G1 H1 σ (t ρ) Q := by
  cases e : t ρ with
  | ok c ρ' =>
    rw [e] at q
    refine fun v G' H' x g' s' br => q v G' H' x (g.trans g') (fun h => (s h).trans (s' (hp h))) ?_
    rcases br with br | ⟨z, br⟩
    · exact .inl br
    · exact .inr ⟨hb z, br⟩
  | ex x ρ' => rw [e] at q; exact q
  | no => rw [e] at q; exact q
theorem de_if {t : M Bool} (hc : DT Z p c t) (ha : DE Z m1 a ta) (hb : DE Z m2 b tb) : DE Z ⟨p && m1.p && m2.p, m1.b || m2.b⟩ (.IfExp c a b pos) (dIf t ta tb) := by
  obtain ⟨te, pc, sc⟩ := hc
  obtain ⟨tea, pa, sa⟩ := ha
  obtain ⟨teb, pb, sb⟩ := hb
  refine ⟨_, pe_ifExp pc pa pb, fun Ho hw G ρ σ H Q x q => ?_⟩
  refine sc Ho hw G ρ σ H _ x (DT.then (L := fun r => LJ Z Ho ⟨p && m1.p && m2.p, m1.b || m2.b⟩ G H σ r Q) (fun _ _ h => h) (fun h => h) q fun c ρ1 G1 H1 x1 g1 s1 q1 => ?_)
  have ss : (p && m1.p && m2.p) = true → Same H H1 := fun h => s1 (by rw [Bool.and_eq_true, Bool.and_eq_true] at h; exact h.1.1)
  cases c with
  | true =>
    rw [if_pos rfl] at q1 ⊢
    exact sa Ho hw G1 ρ1 σ H1 Q x1 (LJ.from g1 ss q1 (fun h => by simp only [Bool.and_eq_true] at h; exact h.1.2) (fun h => by simp [h]))
  | false =>
    rw [if_neg Bool.false_ne_true] at q1 ⊢
    exact sb Ho hw G1 ρ1 σ H1 Q x1 (LJ.from g1 ss q1 (fun h => by simp only [Bool.and_eq_true] at h; exact h.2) (fun h => by simp [h]))
def dNil : M (List D) := ret []
def dCons (t : M D) (u : M (List D)) : M (List D) := bnd t fun d => bnd u fun ds => ret (d :: ds)
theorem da_nil : DA Z [] dNil := ⟨_, pa_nil, fun Ho hw G ρ σ H Q x q => q [] G H x Gr.refl RepL.nil⟩
theorem LA.from {t : M (List D)} {ρ : List Sl} {G G1 H H1 : Hp} {σ : L2.St} {Q : List V → Hp → Prop} (g : Gr Ho G G1) (q : LA Z Ho G H σ (t ρ) Q) : LA Z Ho G1 H1 σ (t ρ) Q := by
  cases e : t ρ with
  | ok c ρ' => rw [e] at q; exact fun v G' H' x g' br => q v G' H' x (g.trans g') br
  | ex x ρ' => rw [e] at q; exact q
  | no => rw [e] at q; exact q
theorem da_cons {es : List Expr} {u : M (List D)} (h : DE Z m e t) (hr : DA Z es u) (hb : m.b = false := by rfl) (hs : starEach (e :: es) Z.X.env = (false, eval e Z.X.env) :: starEach es Z.X.env := by rfl) : DA Z (e :: es) (dCons t u) := by
  obtain ⟨te, pa, sa⟩ := h
  obtain ⟨tu, pr, sr⟩ := hr
  refine ⟨_, pa_cons pa pr hs, fun Ho hw G ρ σ H Q x q => ?_⟩
  refine sa Ho hw G ρ σ H _ x (DE.then (L := fun r => LA Z Ho G H σ r Q) (fun _ _ h => h) (fun h => h) q fun d ρ1 v G1 H1 x1 g1 s1 b1 q1 => ?_)
  refine sr Ho hw G1 ρ1 σ H1 _ x1 (DA.then (L := fun r => LA Z Ho G H σ r Q) (fun _ _ h => h) (fun h => h) q1 fun ds ρ2 vs G2 H2 x2 g2 b2 q2 => ?_)
  rw [hb] at b1
  exact q2 (v :: vs) G2 H2 x2 (g1.trans g2) (RepL.cons (Rep.mono g2.1 _ _ b1.rep) b2)
def dTup (u : M (List D)) : M D := bnd u fun ds => lft (if ds.length ≤ sizeLine then some (.tup ds) else none)
theorem de_tup {es : List Expr} {u : M (List D)} {x1} (h : DA Z es u) : DE Z ⟨false, false⟩ (.Tuple es x1 pos) (dTup u) := by
  obtain ⟨tu, pr, sr⟩ := h
  refine ⟨_, pe_tup pr, fun Ho hw G ρ σ H Q x q => ?_⟩
  refine sr Ho hw G ρ σ H _ x (DA.then (L := fun r => LJ Z Ho ⟨false, false⟩ G H σ r Q) (fun _ _ h => h) (fun h => h) q fun ds ρ1 vs G1 H1 x1 g1 b1 q1 => ?_)
  unfold lft at q1
  by_cases hz : ds.length ≤ sizeLine
  · simp only [if_pos hz] at q1
    refine ⟨by rw [b1.length]; exact hz, fun p hp => ?_⟩
    obtain ⟨x2, g2⟩ := x1.allocF (o := .tup vs) hp
    refine q1 _ _ _ x2 (g1.trans g2) (fun h => nomatch h) (.inl ?_)
    unfold Rep
    exact ⟨p, vs, rfl, SqT.of upd_same, RepL.mono g2.1 _ _ b1⟩
  · simp only [if_neg hz] at q1
    exact q1.elim
def dLst (u : M (List D)) : M Sl := bnd u fun ds => lft (if ds.length ≤ sizeLine then some (.ow none (.lst ds)) else none)
theorem dr_lst {es : List Expr} {u : M (List D)} (h : DA Z es u) : DR Z (.List es pos) (dLst u) := by
  obtain ⟨tu, pr, sr⟩ := h
  refine ⟨_, pe_lst pr, fun Ho hw G ρ σ H Q x q => ?_⟩
  refine sr Ho hw G ρ σ H _ x (DA.then (L := fun r => LR Z Ho G σ r Q) (fun _ _ h => h) (fun h => h) q fun ds ρ1 vs G1 H1 x1 g1 b1 q1 => ?_)
  unfold lft at q1
  by_cases hz : ds.length ≤ sizeLine
  · simp only [if_pos hz] at q1
    exact ⟨by rw [b1.length]; exact hz, fun p hp => q1 _ _ _ (x1.pushO (.lst b1) hp) g1⟩
  · simp only [if_neg hz] at q1
    exact q1.elim
def dSh (t : M D) : M Sl := bnd t fun d => ret (.sh d)
theorem DE.dr (h : DE Z m e t) (hb : m.b = false := by rfl) : DR Z e (dSh t) := by
  obtain ⟨te, pa, sa⟩ := h
  refine ⟨_, pa, fun Ho hw G ρ σ H Q x q => ?_⟩
  refine sa Ho hw G ρ σ H _ x (DE.then (L := fun r => LR Z Ho G σ r Q) (fun _ _ h => h) (fun h => h) q fun d ρ1 v G1 H1 x1 g1 s1 b1 q1 => ?_)
  rw [hb] at b1
  exact q1 v G1 H1 (x1.push b1.rep) g1
def Sl.d : Sl → Option D
  | .sh d => some d
  | .ow _ d => some d
  | _ => none
def dFz (t : M Sl) : M D := bnd t fun s => lft s.d
theorem DR.de {t : M Sl} (h : DR Z e t) : DE Z ⟨false, false⟩ e (dFz t) := by
  obtain ⟨te, pa, sa⟩ := h
  refine ⟨_, pa, fun Ho hw G ρ σ H Q x q => ?_⟩
  refine sa Ho hw G ρ σ H _ x (DR.then (L := fun r => LJ Z Ho ⟨false, false⟩ G H σ r Q) (fun _ _ h => h) (fun h => h) q fun s ρ1 v G1 H1 x1 g1 q1 => ?_)
  cases s with
  | no => exact q1.elim
  | rs t R => exact q1.elim
  | er x => exact q1.elim
  | th x => exact q1.elim
  | td x => exact q1.elim
  | tb => exact q1.elim
  | op y ds => exact q1.elim
  | pn k => exact q1.elim
  | sh d =>
    obtain ⟨v', h1, h2⟩ := x1.sh (i := 0) rfl
    cases h1
    exact q1 v G1 H1 x1.pop g1 (fun h => nomatch h) (.inl h2)
  | ow t d =>
    obtain ⟨G2, g2, x2⟩ := x1.freeze (i := 0) (t := t) (d := d) rfl
    obtain ⟨v', h1, h2⟩ := x2.sh (i := 0) rfl
    cases h1
    exact q1 v G2 H1 x2.pop (g1.trans g2) (fun h => nomatch h) (.inl h2)
end
end DS
set_option Elab.async false
set_option linter.all false
set_option maxRecDepth 100000
namespace DS
open PySem PySem.Spec PyProof.Rows L2
section
variable {K : PySem.W.Frag} {mg : Str → Option Value} {b : Bool} {G H : Hp} {v : V}
theorem BR.int {i : Int} (h : BR K mg b G H (.int i) v) : v = .int i := by
  rcases h with h | ⟨_, _, _, _, _, h⟩
  · unfold Rep at h; exact h
  · cases h
theorem BR.bl {i : Bool} (h : BR K mg b G H (.bl i) v) : v = .bl i := by
  rcases h with h | ⟨_, _, _, _, _, h⟩
  · unfold Rep at h; exact h
  · cases h
theorem BR.non (h : BR K mg b G H .non v) : v = .non := by
  rcases h with h | ⟨_, _, _, _, _, h⟩
  · unfold Rep at h; exact h
  · cases h
theorem BR.str {i : Str} (h : BR K mg b G H (.str i) v) : v = .str i ∧ PyData.strOk i = true := by
  rcases h with h | ⟨_, _, _, _, _, h⟩
  · unfold Rep at h; exact h
  · cases h
theorem BR.tup {ds : List D} (h : BR K mg b G H (.tup ds) v) : ∃ a vs, v = .ref a ∧ SqT K G a vs ∧ RepL K mg G ds vs := by
  rcases h with h | ⟨_, _, _, _, _, h⟩
  · unfold Rep at h; exact h
  · cases h
theorem BR.hup {ds : List D} (h : BR K mg b G H (.hup ds) v) : ∃ a vs, v = .ref a ∧ G a = some (.tup vs) ∧ RepL K mg G ds vs := by
  rcases h with h | ⟨_, _, _, _, _, h⟩
  · unfold Rep at h; exact h
  · cases h
theorem BR.lst {ds : List D} (e : Same G H) (h : BR K mg b G H (.lst ds) v) : ∃ a vs, v = .ref a ∧ H a = some (.lst vs) ∧ RepL K mg G ds vs := by
  rcases h with h | ⟨_, a, o, rfl, h1, h⟩
  · unfold Rep at h
    obtain ⟨a, vs, h1, h2, h3⟩ := h
    exact ⟨a, vs, h1, e _ _ h2, h3⟩
  · cases h with
    | lst h => exact ⟨a, _, rfl, h1, h⟩
theorem rep_int {i : Int} : Rep K mg G (.int i) (.int i) := by unfold Rep; rfl
theorem rep_bl {i : Bool} : Rep K mg G (.bl i) (.bl i) := by unfold Rep; rfl
theorem rep_non : Rep K mg G .non .non := by unfold Rep; rfl
theorem rep_str {i : Str} (h : PyData.strOk i = true) : Rep K mg G (.str i) (.str i) := by unfold Rep; exact ⟨rfl, h⟩
theorem strOk_append {x y : Str} (hx : PyData.strOk x = true) (hy : PyData.strOk y = true) : PyData.strOk (x ++ y) = true := by
  unfold PyData.strOk at *
  show (x.cps ++ y.cps).all _ = true
  rw [Array.all_append, hx, hy]
  rfl
end
section
variable {Z : DC}
def fOr (f f' : D → D → Option D) : D → D → Option D := fun d e => match f d e with | some z => some z | none => f' d e
theorem OpD.or {r r' : R2} {f f' : D → D → Option D} (h : OpD Z r f) (h' : OpD Z r' f') : OpD Z (fun x y H Q => r x y H Q ∨ r' x y H Q) (fOr f f') := by
  refine ⟨?_⟩
  intro Ho G ρ σ H d e z x y Q hR hx hy hf hq
  unfold fOr at hf
  cases q : f d e with
  | some z' => simp only [q] at hf; cases hf; exact .inl (h.ok hR hx hy q hq)
  | none => simp only [q] at hf; exact .inr (h'.ok hR hx hy hf hq)
def fI (g : Int → Int → Option Int) : D → D → Option D := fun d e => match d, e with
  | .int i, .int j => (g i j).map D.int
  | _, _ => none
theorem opd_I {C : Int → Int → Prop} {h : Int → Int → Int} {g : Int → Int → Option Int} (hg : ∀ i j z, g i j = some z → C i j ∧ h i j = z) : OpD Z (rI C fun i j => .int (h i j)) (fI g) := by
  refine ⟨?_⟩
  intro Ho G ρ σ H d e z x y Q hR hx hy hf hq
  unfold fI at hf
  split at hf <;> try (cases hf; done)
  rename_i i j
  cases q : g i j with
  | none => simp [q] at hf
  | some w =>
    simp [q] at hf
    subst hf
    obtain ⟨c, e⟩ := hg i j w q
    refine ⟨i, j, hx.int, hy.int, c, ?_⟩
    show Q (.int (h i j)) H
    rw [e]
    exact hq _ _ _ hR Gr.refl (Same.refl _) rep_int
theorem opd_I0 {h : Int → Int → Int} : OpD Z (rI0 fun i j => .int (h i j)) (fI fun i j => some (h i j)) := by
  refine ⟨?_⟩
  intro Ho G ρ σ H d e z x y Q hR hx hy hf hq
  unfold fI at hf
  split at hf <;> try (cases hf; done)
  rename_i i j
  cases hf
  exact ⟨i, j, hx.int, hy.int, hq _ _ _ hR Gr.refl (Same.refl _) rep_int⟩
def fB (g : Int → Int → Bool) : D → D → Option D := fun d e => match d, e with
  | .int i, .int j => some (.bl (g i j))
  | _, _ => none
theorem opd_B0 {h : Int → Int → Bool} : OpD Z (rI0 fun i j => .bl (h i j)) (fB h) := by
  refine ⟨?_⟩
  intro Ho G ρ σ H d e z x y Q hR hx hy hf hq
  unfold fB at hf
  split at hf <;> try (cases hf; done)
  rename_i i j
  cases hf
  exact ⟨i, j, hx.int, hy.int, hq _ _ _ hR Gr.refl (Same.refl _) rep_bl⟩
def fCatS : D → D → Option D := fun d e => match d, e with
  | .str x, .str y => if x.length + y.length ≤ sizeLine then some (.str (x ++ y)) else none
  | _, _ => none
theorem opd_catS : OpD Z (fun x y H Q => ∃ i j, x = .str i ∧ y = .str j ∧ i.length + j.length ≤ sizeLine ∧ Q (.str (i ++ j)) H) fCatS := by
  refine ⟨?_⟩
  intro Ho G ρ σ H d e z x y Q hR hx hy hf hq
  unfold fCatS at hf
  split at hf <;> try (cases hf; done)
  rename_i i j
  by_cases hz : i.length + j.length ≤ sizeLine
  · simp only [if_pos hz] at hf
    cases hf
    exact ⟨i, j, hx.str.1, hy.str.1, hz, hq _ _ _ hR Gr.refl (Same.refl _) (rep_str (strOk_append hx.str.2 hy.str.2))⟩
  · simp only [if_neg hz] at hf
    cases hf
def fCatT : D → D → Option D := fun d e => match d, e with
  | .tup x, .tup y => if x.length + y.length ≤ sizeLine then some (.tup (x ++ y)) else none
  | _, _ => none
theorem opd_catT : OpD Z (rCatA Z.X.K) fCatT := by
  refine ⟨?_⟩
  intro Ho G ρ σ H d e z x y Q hR hx hy hf hq
  unfold fCatT at hf
  split at hf <;> try (cases hf; done)
  rename_i i j
  by_cases hz : i.length + j.length ≤ sizeLine
  · simp only [if_pos hz] at hf
    cases hf
    obtain ⟨a, vs, rfl, h1, h2⟩ := hx.tup
    obtain ⟨b, ws, rfl, h3, h4⟩ := hy.tup
    have l1 := h2.length
    have l2 := h4.length
    refine ⟨a, b, vs, ws, rfl, rfl, Same.sqt hR.gh h1, Same.sqt hR.gh h3, by omega, fun e => ?_, fun _ e => ?_, fun _ _ p hp => ?_⟩
    · have : i = [] := List.length_eq_zero_iff.mp (by rw [← l1, e]; rfl)
      subst this
      refine hq _ _ _ hR Gr.refl (Same.refl _) ?_
      unfold DC.rep Rep
      exact ⟨b, ws, rfl, h3, h4⟩
    · have : j = [] := List.length_eq_zero_iff.mp (by rw [← l2, e]; rfl)
      subst this
      rw [List.append_nil] at hq
      refine hq _ _ _ hR Gr.refl (Same.refl _) ?_
      unfold DC.rep Rep
      exact ⟨a, vs, rfl, h1, h2⟩
    · obtain ⟨x2, g2⟩ := hR.allocF (o := .tup (vs ++ ws)) hp
      refine hq _ _ _ x2 g2 (same_upd hp) ?_
      unfold DC.rep Rep
      exact ⟨p, _, rfl, SqT.of upd_same, RepL.mono g2.1 _ _ (h2.append h4)⟩
  · simp only [if_neg hz] at hf
    cases hf
def fCatL : D → D → Option D := fun d e => match d, e with
  | .lst x, .lst y => if x.length + y.length ≤ sizeLine then some (.lst (x ++ y)) else none
  | _, _ => none
theorem opd_catL : OpD Z rCat fCatL := by
  refine ⟨?_⟩
  intro Ho G ρ σ H d e z x y Q hR hx hy hf hq
  unfold fCatL at hf
  split at hf <;> try (cases hf; done)
  rename_i i j
  by_cases hz : i.length + j.length ≤ sizeLine
  · simp only [if_pos hz] at hf
    cases hf
    obtain ⟨a, vs, rfl, h1, h2⟩ := hx.lst hR.gh
    obtain ⟨b, ws, rfl, h3, h4⟩ := hy.lst hR.gh
    have l1 := h2.length
    have l2 := h4.length
    refine ⟨a, b, vs, ws, rfl, rfl, h1, h3, by omega, fun p hp => ?_⟩
    obtain ⟨x2, g2⟩ := hR.allocF (o := .lst (vs ++ ws)) hp
    refine hq _ _ _ x2 g2 (same_upd hp) ?_
    unfold DC.rep Rep
    exact ⟨p, _, rfl, upd_same, RepL.mono g2.1 _ _ (h2.append h4)⟩
  · simp only [if_neg hz] at hf
    cases hf
def fAdd : D → D → Option D := fun d e => match d, e with
  | .int i, .int j => some (.int (i + j))
  | .str x, .str y => if x.length + y.length ≤ sizeLine then some (.str (x ++ y)) else none
  | .tup x, .tup y => if x.length + y.length ≤ sizeLine then some (.tup (x ++ y)) else none
  | .lst x, .lst y => if x.length + y.length ≤ sizeLine then some (.lst (x ++ y)) else none
  | _, _ => none
theorem OpD.congr {r : R2} {f g : D → D → Option D} (h : OpD Z r f) (e : ∀ d e z, g d e = some z → f d e = some z) : OpD Z r g := ⟨fun hR hx hy hf hq => h.ok hR hx hy (e _ _ _ hf) hq⟩
theorem de_add {m1 m2 : Md} {a b : Expr} {ta tb : M D} {pos : Pos} (ha : DE Z m1 a ta) (hb : DE Z m2 b tb) (hm : (!m1.b || m2.p) = true := by rfl) : DE Z ⟨m1.p && m2.p, false⟩ (.BinOp a .Add b pos) (d2 fAdd ta tb) := by
  refine de_bin ((op_add (X := Z.X)).or (op_add_str.or (op_catA.or op_cat))) (OpD.congr (opd_I0.or (opd_catS.or (opd_catT.or opd_catL))) fun d e z h => ?_) ha hb hm
  unfold fAdd at h
  split at h <;> first
    | (cases h; done)
    | exact h
    | (simp only [fOr, fI, fCatS, fCatT, fCatL]
       split at h
       · rename_i q
         simp only [if_pos q]
         exact h
       · cases h)
section
variable {m1 m2 : Md} {a b : Expr} {ta tb : M D} {pos : Pos}
def fSub : D → D → Option D := fI fun i j => some (i - j)
theorem de_sub (ha : DE Z m1 a ta) (hb : DE Z m2 b tb) (hm : (!m1.b || m2.p) = true := by rfl) : DE Z ⟨m1.p && m2.p, false⟩ (.BinOp a .Sub b pos) (d2 fSub ta tb) := de_bin op_sub opd_I0 ha hb hm
def small64 (i : Int) : Bool := decide (-(2 ^ 64) < i) && decide (i < 2 ^ 64)
theorem small64_of {i : Int} (h : small64 i = true) : -(2 ^ 64) < i ∧ i < 2 ^ 64 := by
  unfold small64 at h
  simpa using h
def fMulI : D → D → Option D := fI fun i j => if small64 i || small64 j then some (i * j) else none
theorem opd_mulI : OpD Z (rI CMul fun i j => .int (i * j)) fMulI := opd_I fun i j z h => by
  by_cases q : (small64 i || small64 j) = true
  · rw [if_pos q] at h
    cases h
    refine ⟨?_, rfl⟩
    rw [Bool.or_eq_true] at q
    rcases q with q | q
    · exact .inl (small64_of q)
    · exact .inr (small64_of q)
  · rw [if_neg q] at h; cases h
def fRep : D → D → Option D := fun d e => match d, e with
  | .lst xs, .int k => if small64 (2 * k + 1) && decide (xs.length * k.toNat ≤ sizeLine) then some (.lst (List.replicate k.toNat xs).flatten) else none
  | _, _ => none
theorem RepL.rep {K : PySem.W.Frag} {mg : Str → Option Value} {G : Hp} {ds : List D} {vs : List V} (h : RepL K mg G ds vs) : ∀ k : Nat, RepL K mg G (List.replicate k ds).flatten (List.replicate k vs).flatten
  | 0 => by simp [RepL.nil]
  | k + 1 => by
    rw [List.replicate_succ, List.replicate_succ, List.flatten_cons, List.flatten_cons]
    exact h.append (RepL.rep h k)
theorem opd_rep : OpD Z rRep fRep := by
  refine ⟨?_⟩
  intro Ho G ρ σ H d e z x y Q hR hx hy hf hq
  unfold fRep at hf
  split at hf <;> try (cases hf; done)
  rename_i xs k
  by_cases hz : (small64 (2 * k + 1) && decide (xs.length * k.toNat ≤ sizeLine)) = true
  · simp only [if_pos hz] at hf
    cases hf
    rw [Bool.and_eq_true] at hz
    have z1 := small64_of hz.1
    have z2 := of_decide_eq_true hz.2
    obtain ⟨a, vs, rfl, h1, h2⟩ := hx.lst hR.gh
    have l1 := h2.length
    refine ⟨a, k, vs, rfl, hy.int, h1, by omega, by omega, by rw [l1]; exact z2, fun p hp => ?_⟩
    obtain ⟨x2, g2⟩ := hR.allocF (o := .lst (List.replicate k.toNat vs).flatten) hp
    refine hq _ _ _ x2 g2 (same_upd hp) ?_
    unfold DC.rep Rep
    exact ⟨p, _, rfl, upd_same, RepL.mono g2.1 _ _ (h2.rep _)⟩
  · simp only [if_neg hz] at hf
    cases hf
def fMul : D → D → Option D := fOr fMulI fRep
theorem de_mul (ha : DE Z m1 a ta) (hb : DE Z m2 b tb) (hm : (!m1.b || m2.p) = true := by rfl) : DE Z ⟨m1.p && m2.p, false⟩ (.BinOp a .Mult b pos) (d2 fMul ta tb) := de_bin (op_mul.or op_rep) (opd_mulI.or opd_rep) ha hb hm
def fDiv : D → D → Option D := fI fun i j => if j ≠ 0 ∧ j.natAbs < 1073741824 then some (i.fdiv j) else none
theorem de_fdiv (ha : DE Z m1 a ta) (hb : DE Z m2 b tb) (hm : (!m1.b || m2.p) = true := by rfl) : DE Z ⟨m1.p && m2.p, false⟩ (.BinOp a .FloorDiv b pos) (d2 fDiv ta tb) :=
  de_bin op_fdivN (opd_I fun i j z h => by
    by_cases q : j ≠ 0 ∧ j.natAbs < 1073741824
    · rw [if_pos q] at h; cases h; exact ⟨q, rfl⟩
    · rw [if_neg q] at h; cases h) ha hb hm
def fMod : D → D → Option D := fI fun i j => if j ≠ 0 then some (i.fmod j) else none
theorem de_mod (ha : DE Z m1 a ta) (hb : DE Z m2 b tb) (hm : (!m1.b || m2.p) = true := by rfl) : DE Z ⟨m1.p && m2.p, false⟩ (.BinOp a .Mod b pos) (d2 fMod ta tb) :=
  de_bin op_modN (opd_I fun i j z h => by
    by_cases q : j ≠ 0
    · rw [if_pos q] at h; cases h; exact ⟨q, rfl⟩
    · rw [if_neg q] at h; cases h) ha hb hm
def fPow : D → D → Option D := fI fun i j => if 0 ≤ j ∧ j ≤ 1000000 ∧ i.natAbs < 2 ^ 64 then some (i ^ j.toNat) else none
theorem de_pow (ha : DE Z m1 a ta) (hb : DE Z m2 b tb) (hm : (!m1.b || m2.p) = true := by rfl) : DE Z ⟨m1.p && m2.p, false⟩ (.BinOp a .Pow b pos) (d2 fPow ta tb) :=
  de_bin op_pow (opd_I fun i j z h => by
    by_cases q : 0 ≤ j ∧ j ≤ 1000000 ∧ i.natAbs < 2 ^ 64
    · rw [if_pos q] at h; cases h; exact ⟨q, rfl⟩
    · rw [if_neg q] at h; cases h) ha hb hm
def fNeg : D → Option D
  | .int i => some (.int (-i))
  | _ => none
def d1 (f : D → Option D) (ta : M D) : M D := bnd ta fun d => lft (f d)
theorem de_neg (ha : DE Z m1 a ta) : DE Z ⟨m1.p, false⟩ (.UnaryOp .USub a pos) (d1 fNeg ta) := by
  obtain ⟨tea, pa, sa⟩ := ha
  refine ⟨_, pe_un un_neg pa, fun Ho hw G ρ σ H Q x q => ?_⟩
  refine sa Ho hw G ρ σ H _ x (DE.then (L := fun r => LJ Z Ho ⟨m1.p, false⟩ G H σ r Q) (fun _ _ h => h) (fun h => h) q fun d ρ1 v G1 H1 x1 g1 s1 b1 q1 => ?_)
  cases d <;> try (exact q1.elim)
  exact ⟨_, b1.int, q1 _ _ _ x1 g1 s1 (.inl rep_int)⟩
end
mutual
def D.pur : D → Bool
  | .non => true
  | .bl _ => true
  | .int _ => true
  | .str _ => true
  | .tup ds => purL ds
  | .lst ds => purL ds
  | .hup ds => purL ds
  | _ => false
def purL : List D → Bool
  | [] => true
  | d :: ds => d.pur && purL ds
end
mutual
def D.py : D → PyData
  | .non => .none
  | .bl b => .bool b
  | .int i => .int i
  | .str x => .str x
  | .tup ds => .tuple (pyL ds)
  | .lst ds => .list (pyL ds)
  | .hup ds => .tuple (pyL ds)
  | _ => .none
def pyL : List D → List PyData
  | [] => []
  | d :: ds => d.py :: pyL ds
end
section
variable {K : PySem.W.Frag} {mg : Str → Option Value} {H : Hp}
mutual
theorem Rep.dp : ∀ (d : D) (v : V), d.pur = true → Rep K mg H d v → Dp K H v d.py
  | .non, v, _, h => by unfold Rep at h; subst h; unfold D.py; exact .non
  | .bl b, v, _, h => by unfold Rep at h; subst h; unfold D.py; exact .bl b
  | .int b, v, _, h => by unfold Rep at h; subst h; unfold D.py; exact .int b
  | .str b, v, _, h => by unfold Rep at h; rw [h.1]; unfold D.py; exact .str b
  | .tup ds, v, p, h => by
    unfold Rep at h
    unfold D.pur at p
    obtain ⟨a, vs, rfl, h1, h2⟩ := h
    unfold D.py
    exact .tup h1 (RepL.dp ds vs p h2)
  | .lst ds, v, p, h => by
    unfold Rep at h
    unfold D.pur at p
    obtain ⟨a, vs, rfl, h1, h2⟩ := h
    unfold D.py
    exact .lst (SqL.of h1) (RepL.dp ds vs p h2)
  | .dct _, v, p, h => by unfold D.pur at p; cases p
  | .obj _ _, v, p, h => by unfold D.pur at p; cases p
  | .exc _ _, v, p, h => by unfold D.pur at p; cases p
  | .glo _, v, p, h => by unfold D.pur at p; cases p
  | .scr _, v, p, h => by unfold D.pur at p; cases p
  | .hup ds, v, p, h => by
    unfold Rep at h
    unfold D.pur at p
    obtain ⟨a, vs, rfl, h1, h2⟩ := h
    unfold D.py
    exact .tup (SqT.of h1) (RepL.dp ds vs p h2)
  | .dcu _, v, p, h => by unfold D.pur at p; cases p
  | .ol _, v, p, h => by unfold D.pur at p; cases p
  | .obo _ _, v, p, h => by unfold D.pur at p; cases p
  | .dcl _, v, p, h => by unfold D.pur at p; cases p
  | .ty _, v, p, h => by unfold D.pur at p; cases p
theorem RepL.dp : ∀ (ds : List D) (vs : List V), purL ds = true → RepL K mg H ds vs → DpAll K H vs (pyL ds)
  | [], vs, _, h => by unfold RepL at h; subst h; unfold pyL; exact .nil
  | d :: ds, vs, p, h => by
    unfold RepL at h
    unfold purL at p
    rw [Bool.and_eq_true] at p
    obtain ⟨v, vs', rfl, h2, h3⟩ := h
    unfold pyL
    exact .cons (Rep.dp d v p.1 h2) (RepL.dp ds vs' p.2 h3)
end
mutual
theorem Rep.lay : ∀ (d : D) (v : V), Rep K mg H d v → d.pur = true → d.py.canLay0 = true
  | .non, v, _, _ => by simp [D.py, PyData.canLay0]
  | .bl b, v, _, _ => by simp [D.py, PyData.canLay0]
  | .int b, v, _, _ => by simp [D.py, PyData.canLay0]
  | .str b, v, h, _ => by unfold Rep at h; simp [D.py, PyData.canLay0, h.2]
  | .tup ds, v, h, p => by
    unfold Rep at h
    unfold D.pur at p
    obtain ⟨a, vs, rfl, h1, h2⟩ := h
    unfold D.py PyData.canLay0
    exact RepL.lay ds vs h2 p
  | .lst ds, v, h, p => by
    unfold Rep at h
    unfold D.pur at p
    obtain ⟨a, vs, rfl, h1, h2⟩ := h
    unfold D.py PyData.canLay0
    exact RepL.lay ds vs h2 p
  | .dct _, v, h, p => by unfold D.pur at p; cases p
  | .obj _ _, v, h, p => by unfold D.pur at p; cases p
  | .exc _ _, v, h, p => by unfold D.pur at p; cases p
  | .glo _, v, h, p => by unfold D.pur at p; cases p
  | .scr _, v, h, p => by unfold D.pur at p; cases p
  | .hup ds, v, h, p => by
    unfold Rep at h
    unfold D.pur at p
    obtain ⟨a, vs, rfl, h1, h2⟩ := h
    unfold D.py PyData.canLay0
    exact RepL.lay ds vs h2 p
  | .dcu _, v, h, p => by unfold D.pur at p; cases p
  | .ol _, v, h, p => by unfold D.pur at p; cases p
  | .obo _ _, v, h, p => by unfold D.pur at p; cases p
  | .dcl _, v, h, p => by unfold D.pur at p; cases p
  | .ty _, v, h, p => by unfold D.pur at p; cases p
theorem RepL.lay : ∀ (ds : List D) (vs : List V), RepL K mg H ds vs → purL ds = true → PyData.canLayAll0 (pyL ds) = true
  | [], vs, _, _ => by simp [pyL, PyData.canLayAll0]
  | d :: ds, vs, h, p => by
    unfold RepL at h
    unfold purL at p
    rw [Bool.and_eq_true] at p
    obtain ⟨v, vs', rfl, h2, h3⟩ := h
    unfold pyL PyData.canLayAll0
    rw [Rep.lay d v h2 p.1, RepL.lay ds vs' h3 p.2]
    rfl
end
end
mutual
def D.dep : D → Nat
  | .tup ds => depL ds + 1
  | .hup ds => depL ds + 1
  | .lst ds => depL ds + 1
  | _ => 0
def depL : List D → Nat
  | [] => 0
  | d :: ds => max d.dep (depL ds)
end
mutual
theorem D.py_depth : ∀ d : D, d.py.depth = d.dep
  | .non => by simp [D.py, D.dep, PyData.depth]
  | .bl _ => by simp [D.py, D.dep, PyData.depth]
  | .int _ => by simp [D.py, D.dep, PyData.depth]
  | .str _ => by simp [D.py, D.dep, PyData.depth]
  | .tup ds => by unfold D.py D.dep PyData.depth; rw [pyL_depth]
  | .lst ds => by unfold D.py D.dep PyData.depth; rw [pyL_depth]
  | .dct _ => by simp [D.py, D.dep, PyData.depth]
  | .obj _ _ => by simp [D.py, D.dep, PyData.depth]
  | .exc _ _ => by simp [D.py, D.dep, PyData.depth]
  | .glo _ => by simp [D.py, D.dep, PyData.depth]
  | .scr _ => by simp [D.py, D.dep, PyData.depth]
  | .hup ds => by unfold D.py D.dep PyData.depth; rw [pyL_depth]
  | .dcu _ => by simp [D.py, D.dep, PyData.depth]
  | .ol _ => by simp [D.py, D.dep, PyData.depth]
  | .obo _ _ => by simp [D.py, D.dep, PyData.depth]
  | .dcl _ => by simp [D.py, D.dep, PyData.depth]
  | .ty _ => by simp [D.py, D.dep, PyData.depth]
theorem pyL_depth : ∀ ds : List D, PyData.depthAll (pyL ds) = depL ds
  | [] => by simp [pyL, depL, PyData.depthAll]
  | d :: ds => by unfold pyL depL PyData.depthAll; rw [D.py_depth, pyL_depth]
end
def D.flat (d : D) : Bool := d.pur && decide (d.dep ≤ 64)
def D.eqv (d e : D) : Bool := PyData.eqv d.py e.py
theorem shaped_of {K : PySem.W.Frag} {mg : Str → Option Value} {H : Hp} {d : D} {v : V} (h : Rep K mg H d v) (f : d.flat = true) : Dp K H v d.py ∧ SeqAt.shaped d.py = true := by
  unfold D.flat at f
  rw [Bool.and_eq_true] at f
  refine ⟨Rep.dp d v f.1 h, ?_⟩
  unfold SeqAt.shaped
  rw [Rep.lay d v h f.1, D.py_depth]
  exact f.2
def fEq : D → D → Option D := fun d e => if d.flat && e.flat then some (.bl (d.eqv e)) else none
def fNe : D → D → Option D := fun d e => if d.flat && e.flat then some (.bl (!d.eqv e)) else none
theorem opd_eq : OpD Z (rEqD Z.X.K) fEq := by
  refine ⟨?_⟩
  intro Ho G ρ σ H d e z x y Q hR hx hy hf hq
  unfold fEq at hf
  by_cases q : (d.flat && e.flat) = true
  · rw [if_pos q] at hf
    cases hf
    rw [Bool.and_eq_true] at q
    obtain ⟨h1, h2⟩ := shaped_of (hx.inH hR.gh) q.1
    obtain ⟨h3, h4⟩ := shaped_of (hy.inH hR.gh) q.2
    exact ⟨_, _, h1, h3, h2, h4, hq _ _ _ hR Gr.refl (Same.refl _) rep_bl⟩
  · rw [if_neg q] at hf; cases hf
theorem opd_ne : OpD Z (rNeD Z.X.K) fNe := by
  refine ⟨?_⟩
  intro Ho G ρ σ H d e z x y Q hR hx hy hf hq
  unfold fNe at hf
  by_cases q : (d.flat && e.flat) = true
  · rw [if_pos q] at hf
    cases hf
    rw [Bool.and_eq_true] at q
    obtain ⟨h1, h2⟩ := shaped_of (hx.inH hR.gh) q.1
    obtain ⟨h3, h4⟩ := shaped_of (hy.inH hR.gh) q.2
    exact ⟨_, _, h1, h3, h2, h4, hq _ _ _ hR Gr.refl (Same.refl _) rep_bl⟩
  · rw [if_neg q] at hf; cases hf
def sLt (x y : Str) : Bool := decide (x.cps.toList < y.cps.toList)
def fLt : D → D → Option D
  | .int i, .int j => some (.bl (decide (i < j)))
  | .str x, .str y => some (.bl (sLt x y))
  | _, _ => none
def fGt : D → D → Option D
  | .int i, .int j => some (.bl (decide (j < i)))
  | .str x, .str y => some (.bl (sLt y x))
  | _, _ => none
def fLe : D → D → Option D
  | .int i, .int j => some (.bl (decide (i ≤ j)))
  | .str x, .str y => some (.bl (!sLt y x))
  | _, _ => none
def fGe : D → D → Option D
  | .int i, .int j => some (.bl (decide (j ≤ i)))
  | .str x, .str y => some (.bl (!sLt x y))
  | _, _ => none
def fSS (g : Str → Str → Bool) : D → D → Option D
  | .str x, .str y => some (.bl (g x y))
  | _, _ => none
theorem opd_SS {g : Str → Str → Bool} : OpD Z (fun x y H Q => ∃ i j, x = .str i ∧ y = .str j ∧ Q (.bl (g i j)) H) (fSS g) := by
  refine ⟨?_⟩
  intro Ho G ρ σ H d e z x y Q hR hx hy hf hq
  unfold fSS at hf
  split at hf <;> try (cases hf; done)
  rename_i i j
  cases hf
  exact ⟨i, j, hx.str.1, hy.str.1, hq _ _ _ hR Gr.refl (Same.refl _) rep_bl⟩
theorem opd_lt : OpD Z (fun x y H Q => rI0 (fun i j => .bl (decide (i < j))) x y H Q ∨ ∃ i j, x = .str i ∧ y = .str j ∧ Q (.bl (decide (i.cps.toList < j.cps.toList))) H) fLt :=
  OpD.congr (opd_B0.or (opd_SS (g := sLt))) fun d e z h => by unfold fLt at h; split at h <;> first | (cases h; done) | exact h
theorem opd_gt : OpD Z (fun x y H Q => rI0 (fun i j => .bl (decide (j < i))) x y H Q ∨ ∃ i j, x = .str i ∧ y = .str j ∧ Q (.bl (decide (j.cps.toList < i.cps.toList))) H) fGt :=
  OpD.congr (opd_B0.or (opd_SS (g := fun x y => sLt y x))) fun d e z h => by unfold fGt at h; split at h <;> first | (cases h; done) | exact h
theorem opd_le : OpD Z (fun x y H Q => rI0 (fun i j => .bl (decide (i ≤ j))) x y H Q ∨ ∃ i j, x = .str i ∧ y = .str j ∧ Q (.bl (!decide (j.cps.toList < i.cps.toList))) H) fLe :=
  OpD.congr (opd_B0.or (opd_SS (g := fun x y => !sLt y x))) fun d e z h => by unfold fLe at h; split at h <;> first | (cases h; done) | exact h
theorem opd_ge : OpD Z (fun x y H Q => rI0 (fun i j => .bl (decide (j ≤ i))) x y H Q ∨ ∃ i j, x = .str i ∧ y = .str j ∧ Q (.bl (!decide (i.cps.toList < j.cps.toList))) H) fGe :=
  OpD.congr (opd_B0.or (opd_SS (g := fun x y => !sLt x y))) fun d e z h => by unfold fGe at h; split at h <;> first | (cases h; done) | exact h
def D.isN : D → Bool
  | .non => true
  | _ => false
def fIsN : D → D → Option D := fun d e => match e with
  | .non => some (.bl d.isN)
  | _ => none
def fNotN : D → D → Option D := fun d e => match e with
  | .non => some (.bl (!d.isN))
  | _ => none
theorem BR.isN {K : PySem.W.Frag} {mg : Str → Option Value} {b : Bool} {G H : Hp} {d : D} {v : V} (h : BR K mg b G H d v) : decide (v = .non) = d.isN := by
  rcases h with h | ⟨_, a, o, rfl, _, h⟩
  · cases d <;> (unfold Rep at h) <;> first
      | (subst h; rfl)
      | (rw [h.1]; rfl)
      | (obtain ⟨a, _, h, _⟩ := h; rw [h]; rfl)
      | (obtain ⟨a, h, _⟩ := h; rw [h]; rfl)
      | (obtain ⟨a, _, _, _, h, _⟩ := h; rw [h]; rfl)
      | exact h.elim
  · cases h <;> rfl
theorem opd_isN : OpD Z (fun x y H Q => y = .non ∧ Q (.bl (decide (x = .non))) H) fIsN := by
  refine ⟨?_⟩
  intro Ho G ρ σ H d e z x y Q hR hx hy hf hq
  cases e <;> try (cases hf; done)
  cases hf
  exact ⟨hy.non, by rw [hx.isN]; exact hq _ _ _ hR Gr.refl (Same.refl _) rep_bl⟩
theorem opd_notN : OpD Z (fun x y H Q => y = .non ∧ Q (.bl (!decide (x = .non))) H) fNotN := by
  refine ⟨?_⟩
  intro Ho G ρ σ H d e z x y Q hR hx hy hf hq
  cases e <;> try (cases hf; done)
  cases hf
  exact ⟨hy.non, by rw [hx.isN]; exact hq _ _ _ hR Gr.refl (Same.refl _) rep_bl⟩
def sIn (x y : Str) : Bool := match x.cps.toList with
  | [c] => decide (c ∈ y.cps.toList)
  | _ => !(Builtin.Str.occurrences y x 0 y.length 1).isEmpty
theorem DC.hu65 (Z : DC) : Z.X.A.units + 65 < cLine := by have := Z.un; omega
def rInT (K : PySem.W.Frag) : R2 := fun x y H Q => ∃ d ds, Dp K H x d ∧ Dp K H y (.tuple ds) ∧ SeqAt.shaped d = true ∧ SeqAt.shaped (.tuple ds) = true ∧ Q (.bl (ds.any fun z => PyData.eqv z d)) H
def rNotInT (K : PySem.W.Frag) : R2 := fun x y H Q => ∃ d ds, Dp K H x d ∧ Dp K H y (.tuple ds) ∧ SeqAt.shaped d = true ∧ SeqAt.shaped (.tuple ds) = true ∧ Q (.bl (!ds.any fun z => PyData.eqv z d)) H
theorem op_inT {X : Cx} (hu : X.A.units + 65 < cLine) : OpR X (compareOp .In) (rInT X.K) := by
  intro pins s σ H x y v u Q I rx ry h
  obtain ⟨d, ds, hd, he, sd, se, q⟩ := h
  obtain ⟨as, r1⟩ := Dp.reads I d x v hd rx
  obtain ⟨bs, r2⟩ := Dp.reads I (.tuple ds) y u he ry
  exact SeqAt.in_tuple_reads r2 r1 (by have := SeqAt.canLay_of_shaped se; simpa [PyData.canLay0] using this) (SeqAt.canLay_of_shaped sd) (PyProof.Rows.room_in_shaped sd hu) ⟨.bl _, H, I, rfl, q⟩
theorem op_notInT {X : Cx} (hu : X.A.units + 65 < cLine) : OpR X (compareOp .NotIn) (rNotInT X.K) := by
  intro pins s σ H x y v u Q I rx ry h
  obtain ⟨d, ds, hd, he, sd, se, q⟩ := h
  obtain ⟨as, r1⟩ := Dp.reads I d x v hd rx
  obtain ⟨bs, r2⟩ := Dp.reads I (.tuple ds) y u he ry
  exact SeqAt.notIn_tuple_reads r2 r1 (by have := SeqAt.canLay_of_shaped se; simpa [PyData.canLay0] using this) (SeqAt.canLay_of_shaped sd) (PyProof.Rows.room_in_shaped sd hu) ⟨.bl _, H, I, rfl, q⟩
theorem any_py (d : D) : ∀ ds : List D, ((pyL ds).any fun z => PyData.eqv z d.py) = ds.any fun z => z.eqv d
  | [] => by simp [pyL]
  | e :: ds => by unfold pyL; rw [List.any_cons, List.any_cons, any_py d ds]; rfl
def fInS : D → D → Option D := fSS sIn
theorem opd_inS : OpD Z (fun x y H Q => (∃ (c : Nat) (z : Str), x = .str ⟨#[c]⟩ ∧ y = .str z ∧ Q (.bl (decide (c ∈ z.cps.toList))) H) ∨ ∃ i j, x = .str i ∧ y = .str j ∧ Q (.bl (!(Builtin.Str.occurrences j i 0 j.length 1).isEmpty)) H) fInS := by
  refine ⟨?_⟩
  intro Ho G ρ σ H d e z x y Q hR hx hy hf hq
  unfold fInS fSS at hf
  split at hf <;> try (cases hf; done)
  rename_i i j
  cases hf
  have q := hq _ _ _ hR Gr.refl (Same.refl _) rep_bl
  unfold sIn at q
  split at q
  · rename_i c hc
    refine .inl ⟨c, j, ?_, hy.str.1, q⟩
    rw [hx.str.1]
    obtain ⟨⟨l⟩⟩ := i
    simp only at hc
    subst hc
    rfl
  · exact .inr ⟨i, j, hx.str.1, hy.str.1, q⟩
theorem opd_notInS : OpD Z (fun x y H Q => (∃ (c : Nat) (z : Str), x = .str ⟨#[c]⟩ ∧ y = .str z ∧ Q (.bl (!decide (c ∈ z.cps.toList))) H) ∨ ∃ i j, x = .str i ∧ y = .str j ∧ Q (.bl (!(!(Builtin.Str.occurrences j i 0 j.length 1).isEmpty))) H) (fSS fun x y => !sIn x y) := by
  refine ⟨?_⟩
  intro Ho G ρ σ H d e z x y Q hR hx hy hf hq
  unfold fSS at hf
  split at hf <;> try (cases hf; done)
  rename_i i j
  cases hf
  have q : Q (.bl (!sIn i j)) H := hq _ _ _ hR Gr.refl (Same.refl _) rep_bl
  unfold sIn at q
  split at q
  · rename_i c hc
    refine .inl ⟨c, j, ?_, hy.str.1, q⟩
    rw [hx.str.1]
    obtain ⟨⟨l⟩⟩ := i
    simp only at hc
    subst hc
    rfl
  · exact .inr ⟨i, j, hx.str.1, hy.str.1, q⟩
def fInT (neg : Bool) : D → D → Option D := fun d e => match e with
  | .tup ds => if d.flat && (D.tup ds).flat then some (.bl (if neg then !ds.any fun z => z.eqv d else ds.any fun z => z.eqv d)) else none
  | _ => none
def fInL (neg : Bool) : D → D → Option D := fun d e => match e with
  | .lst ds => if d.flat && (D.lst ds).flat then some (.bl (if neg then !ds.any fun z => z.eqv d else ds.any fun z => z.eqv d)) else none
  | _ => none
theorem opd_inT : OpD Z (rInT Z.X.K) (fInT false) := by
  refine ⟨?_⟩
  intro Ho G ρ σ H d e z x y Q hR hx hy hf hq
  cases e <;> try (cases hf; done)
  rename_i ds
  unfold fInT at hf
  by_cases q : (d.flat && (D.tup ds).flat) = true
  · simp only [if_pos q] at hf
    cases hf
    rw [Bool.and_eq_true] at q
    obtain ⟨h1, h2⟩ := shaped_of (hx.inH hR.gh) q.1
    obtain ⟨h3, h4⟩ := shaped_of (hy.inH hR.gh) q.2
    unfold D.py at h3 h4
    exact ⟨_, _, h1, h3, h2, h4, by rw [any_py]; exact hq _ _ _ hR Gr.refl (Same.refl _) rep_bl⟩
  · simp only [if_neg q] at hf; cases hf
theorem opd_notInT : OpD Z (rNotInT Z.X.K) (fInT true) := by
  refine ⟨?_⟩
  intro Ho G ρ σ H d e z x y Q hR hx hy hf hq
  cases e <;> try (cases hf; done)
  rename_i ds
  unfold fInT at hf
  by_cases q : (d.flat && (D.tup ds).flat) = true
  · simp only [if_pos q] at hf
    cases hf
    rw [Bool.and_eq_true] at q
    obtain ⟨h1, h2⟩ := shaped_of (hx.inH hR.gh) q.1
    obtain ⟨h3, h4⟩ := shaped_of (hy.inH hR.gh) q.2
    unfold D.py at h3 h4
    exact ⟨_, _, h1, h3, h2, h4, by rw [any_py]; exact hq _ _ _ hR Gr.refl (Same.refl _) rep_bl⟩
  · simp only [if_neg q] at hf; cases hf
theorem opd_inL : OpD Z (rInD Z.X.K) (fInL false) := by
  refine ⟨?_⟩
  intro Ho G ρ σ H d e z x y Q hR hx hy hf hq
  cases e <;> try (cases hf; done)
  rename_i ds
  unfold fInL at hf
  by_cases q : (d.flat && (D.lst ds).flat) = true
  · simp only [if_pos q] at hf
    cases hf
    rw [Bool.and_eq_true] at q
    obtain ⟨h1, h2⟩ := shaped_of (hx.inH hR.gh) q.1
    obtain ⟨h3, h4⟩ := shaped_of (hy.inH hR.gh) q.2
    unfold D.py at h3 h4
    exact ⟨_, _, h1, h3, h2, h4, by rw [any_py]; exact hq _ _ _ hR Gr.refl (Same.refl _) rep_bl⟩
  · simp only [if_neg q] at hf; cases hf
theorem opd_notInL : OpD Z (rNotInD Z.X.K) (fInL true) := by
  refine ⟨?_⟩
  intro Ho G ρ σ H d e z x y Q hR hx hy hf hq
  cases e <;> try (cases hf; done)
  rename_i ds
  unfold fInL at hf
  by_cases q : (d.flat && (D.lst ds).flat) = true
  · simp only [if_pos q] at hf
    cases hf
    rw [Bool.and_eq_true] at q
    obtain ⟨h1, h2⟩ := shaped_of (hx.inH hR.gh) q.1
    obtain ⟨h3, h4⟩ := shaped_of (hy.inH hR.gh) q.2
    unfold D.py at h3 h4
    exact ⟨_, _, h1, h3, h2, h4, by rw [any_py]; exact hq _ _ _ hR Gr.refl (Same.refl _) rep_bl⟩
  · simp only [if_neg q] at hf; cases hf
def rIn' (Z : DC) : R2 := fun x y H Q => ((∃ (c : Nat) (z : Str), x = .str ⟨#[c]⟩ ∧ y = .str z ∧ Q (.bl (decide (c ∈ z.cps.toList))) H) ∨ ∃ i j, x = .str i ∧ y = .str j ∧ Q (.bl (!(Builtin.Str.occurrences j i 0 j.length 1).isEmpty)) H) ∨ rInT Z.X.K x y H Q ∨ rInD Z.X.K x y H Q
def rNotIn' (Z : DC) : R2 := fun x y H Q => ((∃ (c : Nat) (z : Str), x = .str ⟨#[c]⟩ ∧ y = .str z ∧ Q (.bl (!decide (c ∈ z.cps.toList))) H) ∨ ∃ i j, x = .str i ∧ y = .str j ∧ Q (.bl (!(!(Builtin.Str.occurrences j i 0 j.length 1).isEmpty))) H) ∨ rNotInT Z.X.K x y H Q ∨ rNotInD Z.X.K x y H Q
def fIn1 : D → D → Option D := fun d e => match e with
  | .str y => match d with
    | .str x => some (.bl (sIn x y))
    | _ => none
  | .tup ds => if d.flat && (D.tup ds).flat then some (.bl (ds.any fun z => z.eqv d)) else none
  | .lst ds => if d.flat && (D.lst ds).flat then some (.bl (ds.any fun z => z.eqv d)) else none
  | _ => none
def fNotIn1 : D → D → Option D := fun d e => match e with
  | .str y => match d with
    | .str x => some (.bl (!sIn x y))
    | _ => none
  | .tup ds => if d.flat && (D.tup ds).flat then some (.bl (!ds.any fun z => z.eqv d)) else none
  | .lst ds => if d.flat && (D.lst ds).flat then some (.bl (!ds.any fun z => z.eqv d)) else none
  | _ => none
theorem or_in : OpR Z.X (compareOp .In) (rIn' Z) := (op_in_sign.or op_in_str).or ((op_inT Z.hu65).or (op_inD Z.hu65))
theorem or_notIn : OpR Z.X (compareOp .NotIn) (rNotIn' Z) := (op_notIn_sign.or op_notin_str).or ((op_notInT Z.hu65).or (op_notInD Z.hu65))
theorem opd_in : OpD Z (rIn' Z) fIn1 := OpD.congr (opd_inS.or (opd_inT.or opd_inL)) fun d e z h => by
  cases e <;> cases d <;> first
    | (cases h; done)
    | exact h
    | (simp only [fIn1] at h
       simp only [fOr, fInS, fSS, fInT, fInL]
       split at h
       · rename_i q
         simp only [if_pos q]
         first | exact h | (simp; exact h) | simpa using h
       · cases h)
theorem opd_notIn : OpD Z (rNotIn' Z) fNotIn1 := OpD.congr (opd_notInS.or (opd_notInT.or opd_notInL)) fun d e z h => by
  cases e <;> cases d <;> first
    | (cases h; done)
    | exact h
    | (simp only [fNotIn1] at h
       simp only [fOr, fSS, fInT, fInL]
       split at h
       · rename_i q
         simp only [if_pos q]
         first | exact h | (simp; exact h) | simpa using h
       · cases h)
structure Cm (Z : DC) (op : CmpOp) (f : D → D → Option D) : Prop where
  ok : ∃ r, OpR Z.X (compareOp op) r ∧ OpD Z r f
theorem cEq : Cm Z .Eq fEq := ⟨_, op_eqD Z.units, opd_eq⟩
theorem cNe : Cm Z .NotEq fNe := ⟨_, op_neD Z.units, opd_ne⟩
theorem cLt : Cm Z .Lt fLt := ⟨_, op_lt.or op_lt_str, opd_lt⟩
theorem cGt : Cm Z .Gt fGt := ⟨_, op_gt.or op_gt_str, opd_gt⟩
theorem cLe : Cm Z .LtE fLe := ⟨_, op_le.or op_le_str, opd_le⟩
theorem cGe : Cm Z .GtE fGe := ⟨_, op_ge.or op_ge_str, opd_ge⟩
theorem cIn : Cm Z .In fIn1 := ⟨_, or_in, opd_in⟩
theorem cNotIn : Cm Z .NotIn fNotIn1 := ⟨_, or_notIn, opd_notIn⟩
theorem cIsN : Cm Z .Is fIsN := ⟨_, op_isN, opd_isN⟩
theorem cNotN : Cm Z .IsNot fNotN := ⟨_, op_notN, opd_notN⟩
section
variable {m1 m2 m3 : Md} {a b c : Expr} {ta tb tc : M D} {pos : Pos} {op op' : CmpOp} {f f' : D → D → Option D}
theorem de_c1 (h : Cm Z op f) (ha : DE Z m1 a ta) (hb : DE Z m2 b tb) (hm : (!m1.b || m2.p) = true := by rfl) (hx : behindInMarks op b = false := by first | rfl | exact nomark _) : DE Z ⟨m1.p && m2.p, false⟩ (.Compare a [op] [b] pos) (d2 f ta tb) := by
  obtain ⟨r, h1, h2⟩ := h.ok
  exact de_cmp h1 h2 ha hb hm hx
theorem dt_c1 (h : Cm Z op f) (ha : DE Z m1 a ta) (hb : DE Z m2 b tb) (hm : (!m1.b || m2.p) = true := by rfl) (hx : behindInMarks op b = false := by first | rfl | exact nomark _) : DT Z (m1.p && m2.p) (.Compare a [op] [b] pos) (dB (d2 f ta tb)) := by
  obtain ⟨r, h1, h2⟩ := h.ok
  exact dt_cmp h1 h2 ha hb hm hx
def dCh (f f' : D → D → Option D) (ta tb tc : M D) : M D := bnd ta fun d => bnd tb fun e => bnd (lft ((f d e).bind asB)) fun k => if k then bnd tc fun g => lft (f' e g) else ret (.bl false)
end
end
end DS
set_option Elab.async false
set_option linter.all false
set_option maxRecDepth 100000
namespace DS
open PySem PySem.Spec PyProof.Rows L2
section
variable {K : PySem.W.Frag} {mg : Str → Option Value} {G : Hp}
theorem RepL.atI {ds : List D} {vs : List V} {i : Int} {d : D} (h : RepL K mg G ds vs) (e : L2.atI ds i = some d) : ∃ v, L2.atI vs i = some v ∧ Rep K mg G d v := by
  unfold L2.atI at e ⊢
  rw [h.length]
  cases q : ixN ds.length i with
  | none => rw [q] at e; cases e
  | some j =>
    rw [q] at e
    exact h.get (i := j) e
end
section
variable {Z : DC} {Ho : Hp} {m m1 m2 m3 : Md} {p : Bool} {a b c e : Expr} {t ta tb tc : M D} {pos p2 : Pos}
def fIx : D → D → Option D := fun d e => match d, e with
  | .lst ds, .int i => atI ds i
  | .tup ds, .int i => atI ds i
  | .hup ds, .int i => atI ds i
  | .str x, .int i => if x.length ≤ sizeLine then (atI x.cps.toList i).map fun c => .str ⟨#[c]⟩ else none
  | _, _ => none
theorem atI_mem {α : Type} {xs : List α} {i : Int} {v : α} (h : atI xs i = some v) : v ∈ xs := by
  obtain ⟨j, _, h2, _⟩ := atI_get h
  exact List.mem_of_getElem? h2
theorem strOk_one {x : Str} {c : Nat} (h : PyData.strOk x = true) (hc : c ∈ x.cps.toList) : PyData.strOk ⟨#[c]⟩ = true := by
  unfold PyData.strOk at h ⊢
  have q := (Array.all_eq_true_iff_forall_mem.mp h) c (by simpa using hc)
  simpa using q
theorem opd_ix : OpD Z (rIx Z.X.K) fIx := by
  refine ⟨?_⟩
  intro Ho G ρ σ H d e z x y Q hR hx hy hf hq
  unfold fIx at hf
  split at hf <;> try (cases hf; done)
  · obtain ⟨a, vs, rfl, h1, h2⟩ := hx.lst hR.gh
    obtain ⟨v, h3, h4⟩ := h2.atI hf
    exact .inl ⟨a, vs, _, v, rfl, hy.int, SqL.of h1, h3, hq _ _ _ hR Gr.refl (Same.refl _) h4⟩
  · obtain ⟨a, vs, rfl, h1, h2⟩ := hx.tup
    obtain ⟨v, h3, h4⟩ := h2.atI hf
    exact .inr (.inl ⟨a, vs, _, v, rfl, hy.int, Same.sqt hR.gh h1, h3, hq _ _ _ hR Gr.refl (Same.refl _) h4⟩)
  · obtain ⟨a, vs, rfl, h1, h2⟩ := hx.hup
    obtain ⟨v, h3, h4⟩ := h2.atI hf
    exact .inr (.inl ⟨a, vs, _, v, rfl, hy.int, Same.sqt hR.gh (SqT.of h1), h3, hq _ _ _ hR Gr.refl (Same.refl _) h4⟩)
  · rename_i s i
    by_cases hz : s.length ≤ sizeLine
    · simp only [if_pos hz] at hf
      cases q : atI s.cps.toList i with
      | none => rw [q] at hf; cases hf
      | some c =>
        rw [q] at hf
        cases hf
        exact .inr (.inr ⟨s, i, c, hx.str.1, hy.int, hz, q, hq _ _ _ hR Gr.refl (Same.refl _) (rep_str (strOk_one hx.str.2 (atI_mem q)))⟩)
    · simp only [if_neg hz] at hf; cases hf
theorem de_ix (ha : DE Z m1 a ta) (hb : DE Z m2 b tb) (hm : (!m1.b || m2.p) = true := by rfl) (hs : PlainIx b := by exact fun _ _ => rfl) : DE Z ⟨m1.p && m2.p, false⟩ (.Subscript a b pos) (d2 fIx ta tb) := by
  obtain ⟨tea, pa, sa⟩ := ha
  obtain ⟨teb, pb, sb⟩ := hb
  exact ⟨_, pe_ix ix_seq pa pb hs, fun Ho hw G ρ σ H Q x q => op2 opd_ix sa sb hm hw x q⟩
def cut {α : Type} (xs : List α) (lo hi : Option Int) : List α := (xs.drop (HT.sIx xs.length 0 lo)).take (HT.sIx xs.length xs.length hi - HT.sIx xs.length 0 lo)
def fSl : D → Option Int → Option Int → Option D := fun d lo hi => match d with
  | .lst ds => some (.lst (cut ds lo hi))
  | .tup ds => some (.tup (cut ds lo hi))
  | .str x => if x.length ≤ sizeLine then some (.str (cutS x lo hi)) else none
  | _ => none
def asI : D → Option Int
  | .int i => some i
  | _ => none
def LO (Z : DC) (Ho : Hp) (p : Bool) (G H : Hp) (σ : L2.St) (r : Res (Option Int)) (Q : Option Int → Hp → Prop) : Prop := match r with
  | .ok c ρ => ∀ G' H', Z.R Ho G' ρ σ H' → Gr Ho G G' → (p = true → Same H H') → Q c H'
  | .ex x ρ => Z.Ex x ρ
  | .no => False
def DO (Z : DC) (p : Bool) (e : Option Expr) (t : M (Option Int)) : Prop := ∃ te, PO Z.X e te ∧ ∀ Ho, Same Z.Ho Ho → ∀ G ρ σ H (Q : Option Int → Hp → Prop), Z.R Ho G ρ σ H → LO Z Ho p G H σ (t ρ) Q → te σ H Q
theorem do_none : DO Z true none (ret none) := ⟨_, po_none, fun Ho hw G ρ σ H Q x q => q G H x Gr.refl fun _ => Same.refl _⟩
def dPart (t : M D) : M (Option Int) := bnd t fun d => bnd (lft (asI d)) fun i => ret (some i)
theorem do_some (ha : DE Z m1 a ta) : DO Z m1.p (some a) (dPart ta) := by
  obtain ⟨tea, pa, sa⟩ := ha
  refine ⟨_, po_some pa, fun Ho hw G ρ σ H Q x q => ?_⟩
  refine sa Ho hw G ρ σ H _ x (DE.then (L := fun r => LO Z Ho m1.p G H σ r Q) (fun _ _ h => h) (fun h => h) q fun d ρ1 v G1 H1 x1 g1 s1 b1 q1 => ?_)
  cases d <;> try (exact q1.elim)
  exact ⟨_, b1.int, q1 G1 H1 x1 g1 s1⟩
def dSl (ta : M D) (tl th : M (Option Int)) : M D := bnd ta fun d => bnd tl fun l => bnd th fun h => lft (fSl d l h)
theorem cutV_eq (xs : List V) (lo hi : Option Int) : cutV xs lo hi = cut xs lo hi := rfl
theorem RepL.cut {K : PySem.W.Frag} {mg : Str → Option Value} {G : Hp} {ds : List D} {vs : List V} (h : RepL K mg G ds vs) (lo hi : Option Int) : RepL K mg G (DS.cut ds lo hi) (DS.cut vs lo hi) := by
  unfold DS.cut
  rw [h.length]
  exact (h.drop _).take _
theorem cut_whole {α : Type} {xs : List α} {lo hi : Option Int} (h : HT.sIx xs.length 0 lo = 0 ∧ HT.sIx xs.length xs.length hi = xs.length) : cut xs lo hi = xs := by
  unfold cut
  rw [h.1, h.2]
  simp
theorem strOk_cut {x : Str} {lo hi : Option Int} (h : PyData.strOk x = true) : PyData.strOk (cutS x lo hi) = true := by
  unfold PyData.strOk at h ⊢
  have q := Array.all_eq_true_iff_forall_mem.mp h
  refine Array.all_eq_true_iff_forall_mem.mpr fun c hc => q c ?_
  unfold cutS at hc
  have : c ∈ (x.cps.toList.drop (HT.sIx x.length 0 lo)).take (HT.sIx x.length x.length hi - HT.sIx x.length 0 lo) := by simpa using hc
  have := List.mem_of_mem_drop (List.mem_of_mem_take this)
  simpa using this
theorem LO.then {α : Type} {p : Bool} {r : Res (Option Int)} {u : Option Int → M α} {L : Res α → Prop} {G H : Hp} {σ : L2.St} {Q : Option Int → Hp → Prop} (hex : ∀ x ρ, L (.ex x ρ) → Z.Ex x ρ) (hno : L .no → False)
    (h : L (r.bind u)) (hq : ∀ d ρ G' H', Z.R Ho G' ρ σ H' → Gr Ho G G' → (p = true → Same H H') → L (u d ρ) → Q d H') :
    LO Z Ho p G H σ r Q := by
  cases r with
  | ok d ρ => exact fun G' H' x g s => hq d ρ G' H' x g s h
  | ex x ρ => exact hex x ρ h
  | no => exact hno h
theorem de_sl {lo hi : Option Expr} {tl th : M (Option Int)} {pl ph : Bool} (ha : DE Z m1 a ta) (hl : DO Z pl lo tl) (hh : DO Z ph hi th) (hm : (!m1.b || (pl && ph)) = true := by rfl) :
    DE Z ⟨m1.p && pl && ph, false⟩ (.Subscript a (.Slice lo hi none p2) pos) (dSl ta tl th) := by
  obtain ⟨tea, pa, sa⟩ := ha
  obtain ⟨tel, pl', sl⟩ := hl
  obtain ⟨teh, ph', sh⟩ := hh
  refine ⟨_, pe_slice (sl_list.or (sl_tupA.or sl_str)) pa pl' ph', fun Ho hw G ρ σ H Q x q => ?_⟩
  refine sa Ho hw G ρ σ H _ x (DE.then (L := fun r => LJ Z Ho ⟨m1.p && pl && ph, false⟩ G H σ r Q) (fun _ _ h => h) (fun h => h) q fun d ρ1 v G1 H1 x1 g1 s1 b1 q1 => ?_)
  refine sl Ho hw G1 ρ1 σ H1 _ x1 (LO.then (p := pl) (L := fun r => LJ Z Ho ⟨m1.p && pl && ph, false⟩ G H σ r Q) (fun _ _ h => h) (fun h => h) q1 fun l ρ2 G2 H2 x2 g2 s2 q2 => ?_)
  refine sh Ho hw G2 ρ2 σ H2 _ x2 (LO.then (p := ph) (L := fun r => LJ Z Ho ⟨m1.p && pl && ph, false⟩ G H σ r Q) (fun _ _ h => h) (fun h => h) q2 fun h ρ3 G3 H3 x3 g3 s3 q3 => ?_)
  have bb : Z.BR m1.b G3 H3 d v := (b1.go g2.1 fun hb => s2 (by rw [hb] at hm; simp only [Bool.not_true, Bool.false_or, Bool.and_eq_true] at hm; exact hm.1)).go g3.1 fun hb => s3 (by rw [hb] at hm; simp only [Bool.not_true, Bool.false_or, Bool.and_eq_true] at hm; exact hm.2)
  have ss : (m1.p && pl && ph) = true → Same H H3 := fun hp => by
    simp only [Bool.and_eq_true] at hp
    exact ((s1 hp.1.1).trans (s2 hp.1.2)).trans (s3 hp.2)
  have gg := (g1.trans g2).trans g3
  cases d <;> try (exact q3.elim)
  · rename_i z
    by_cases hz : z.length ≤ sizeLine
    · simp only [lft, fSl, if_pos hz] at q3
      exact .inr (.inr ⟨z, bb.str.1, hz, q3 _ _ _ x3 gg ss (.inl (rep_str (strOk_cut bb.str.2)))⟩)
    · simp only [lft, fSl, if_neg hz] at q3
      exact q3.elim
  · rename_i ds
    obtain ⟨a, vs, rfl, h1, h2⟩ := bb.tup
    refine .inr (.inl ⟨a, vs, rfl, Same.sqt x3.gh h1, fun hw => ?_, fun hw p hp => ?_⟩)
    · have hw' : HT.sIx ds.length 0 l = 0 ∧ HT.sIx ds.length ds.length h = ds.length := by rw [← h2.length]; exact hw
      refine q3 _ _ _ x3 gg ss (.inl ?_)
      unfold Rep
      exact ⟨a, vs, rfl, h1, by rw [cut_whole hw']; exact h2⟩
    · obtain ⟨x4, g4⟩ := x3.allocF (o := .tup (cutV vs l h)) hp
      refine q3 _ _ _ x4 (gg.trans g4) (fun hp' => (ss hp').trans (same_upd hp)) (.inl ?_)
      unfold Rep
      exact ⟨p, _, rfl, SqT.of upd_same, by rw [cutV_eq]; exact RepL.mono g4.1 _ _ (h2.cut _ _)⟩
  · rename_i ds
    obtain ⟨a, vs, rfl, h1, h2⟩ := bb.lst x3.gh
    refine .inl ⟨a, vs, rfl, SqL.of h1, fun p hp => ?_⟩
    obtain ⟨x4, g4⟩ := x3.allocF (o := .lst (cutV vs l h)) hp
    refine q3 _ _ _ x4 (gg.trans g4) (fun hp' => (ss hp').trans (same_upd hp)) (.inl ?_)
    unfold Rep
    exact ⟨p, _, rfl, upd_same, by rw [cutV_eq]; exact RepL.mono g4.1 _ _ (h2.cut _ _)⟩
structure ClD (Z : DC) (r : List V → Hp → VK → Prop) (f : D → Option D) : Prop where
  ok : ∀ {Ho G : Hp} {ρ : List Sl} {σ : L2.St} {H : Hp} {d z : D} {x : V} {Q : VK}, Z.R Ho G ρ σ H → Z.BR true G H d x → f d = some z →
    (∀ v G' H', Z.R Ho G' ρ σ H' → Gr Ho G G' → Same H H' → Z.rep G' z v → Q v H') → r [x] H Q
theorem ClD.congr {r : List V → Hp → VK → Prop} {f g : D → Option D} (h : ClD Z r f) (e : ∀ d z, g d = some z → f d = some z) : ClD Z r g := ⟨fun hR hx hf hq => h.ok hR hx (e _ _ hf) hq⟩
def fOr1 (f f' : D → Option D) : D → Option D := fun d => match f d with | some z => some z | none => f' d
theorem ClD.or {r r' : List V → Hp → VK → Prop} {f f' : D → Option D} (h : ClD Z r f) (h' : ClD Z r' f') : ClD Z (fun xs H Q => r xs H Q ∨ r' xs H Q) (fOr1 f f') := by
  refine ⟨?_⟩
  intro Ho G ρ σ H d z x Q hR hx hf hq
  unfold fOr1 at hf
  cases q : f d with
  | some z' => simp only [q] at hf; cases hf; exact .inl (h.ok hR hx q hq)
  | none => simp only [q] at hf; exact .inr (h'.ok hR hx hf hq)
theorem cl1 {r : List V → Hp → VK → Prop} {f : D → Option D} (hf : ClD Z r f) {tea : TE} (sa : ∀ Ho, Same Z.Ho Ho → ∀ G ρ σ H Q, Z.R Ho G ρ σ H → LJ Z Ho m1 G H σ (ta ρ) Q → tea σ H Q) {Ho : Hp} (hw : Same Z.Ho Ho) {G : Hp} {ρ : List Sl} {σ : L2.St} {H : Hp} {Q : VK} (x : Z.R Ho G ρ σ H)
    (q : LJ Z Ho ⟨m1.p, false⟩ G H σ (d1 f ta ρ) Q) : tCB r (tCons tea tNil) σ H Q := by
  refine sa Ho hw G ρ σ H _ x (DE.then (L := fun r => LJ Z Ho ⟨m1.p, false⟩ G H σ r Q) (fun _ _ h => h) (fun h => h) q fun d ρ1 v G1 H1 x1 g1 s1 b1 q1 => ?_)
  unfold lft at q1
  cases ef : f d with
  | none => rw [ef] at q1; exact q1.elim
  | some z =>
    rw [ef] at q1
    exact hf.ok x1 b1.up ef fun u G' H' x' g' s' r' => q1 u G' H' x' (g1.trans g') (fun hp => (s1 hp).trans s') (.inl r')
theorem de_blt1 {x : Str} {id : String} {r : List V → Hp → VK → Prop} {f : D → Option D} (hc : CallR Z.X (.builtin id) r) (hf : ClD Z r f) (hv : bootBuiltins x = some (.builtin id)) (hm : Z.X.mg x = none) (ha : DE Z m1 a ta) (hg : Gl Z.X x := by rfl)
    (hn : x ≠ "__name__" := by decide) (hdb : (x == ("__debug__" : Str)) = false := by decide) (he : starEach (a :: []) Z.X.env = (false, eval a Z.X.env) :: starEach [] Z.X.env := by rfl) (hpl : (backTo pos (starEach [] Z.X.env)).any (·.1) = false := by rfl) :
    DE Z ⟨m1.p, false⟩ (.Call (.Name x p2) [a] [] pos) (d1 f ta) := by
  obtain ⟨tea, pa, sa⟩ := ha
  exact ⟨_, pe_callB hc hg hm hv (pa_cons pa pa_nil he) hn hdb he hpl, fun Ho hw G ρ σ H Q x q => cl1 hf sa hw x q⟩
theorem de_typ1 {x : Str} {id : String} {r : List V → Hp → VK → Prop} {f : D → Option D} (hc : CallR Z.X (.type id) r) (hf : ClD Z r f) (hv : bootBuiltins x = some (.type id)) (hm : Z.X.mg x = none) (ha : DE Z m1 a ta) (hg : Gl Z.X x := by rfl)
    (hn : x ≠ "__name__" := by decide) (hdb : (x == ("__debug__" : Str)) = false := by decide) (he : starEach (a :: []) Z.X.env = (false, eval a Z.X.env) :: starEach [] Z.X.env := by rfl) (hpl : (backTo pos (starEach [] Z.X.env)).any (·.1) = false := by rfl) :
    DE Z ⟨m1.p, false⟩ (.Call (.Name x p2) [a] [] pos) (d1 f ta) := by
  obtain ⟨tea, pa, sa⟩ := ha
  exact ⟨_, pe_callTy hc hg hm hv (pa_cons pa pa_nil he) hn hdb he hpl, fun Ho hw G ρ σ H Q x q => cl1 hf sa hw x q⟩
def fLen : D → Option D
  | .str x => if x.length ≤ sizeLine then some (.int x.length) else none
  | .lst ds => some (.int ds.length)
  | .tup ds => some (.int ds.length)
  | .dct kvs => some (.int kvs.length)
  | .scr ns => some (.int ns.length)
  | _ => none
theorem RepK.length {K : PySem.W.Frag} {mg : Str → Option Value} {G : Hp} : ∀ {ds : List (D × D)} {vs : List (Key × V)}, RepK K mg G ds vs → vs.length = ds.length
  | [], vs, h => by unfold RepK at h; subst h; rfl
  | (k, d) :: ds, vs, h => by
    unfold RepK at h
    obtain ⟨kk, v, vs', rfl, _, _, h3⟩ := h
    simp [RepK.length h3]
theorem BR.dct {K : PySem.W.Frag} {mg : Str → Option Value} {b : Bool} {G H : Hp} {kvs : List (D × D)} {v : V} (e : Same G H) (h : BR K mg b G H (.dct kvs) v) : ∃ a ws, v = .ref a ∧ H a = some (.dK ws) ∧ RepK K mg G kvs ws := by
  rcases h with h | ⟨_, a, o, rfl, h1, h⟩
  · unfold Rep at h
    obtain ⟨a, vs, h1, h2, h3⟩ := h
    exact ⟨a, vs, h1, e _ _ h2, h3⟩
  · cases h with
    | dct h => exact ⟨a, _, rfl, h1, h⟩
theorem BR.scr {K : PySem.W.Frag} {mg : Str → Option Value} {b : Bool} {G H : Hp} {ns : List Int} {v : V} (h : BR K mg b G H (.scr ns) v) : ∃ a, v = .ref a ∧ SqL K G a (ns.map V.int) := by
  rcases h with h | ⟨_, a, o, rfl, h1, h⟩
  · unfold Rep at h; exact h
  · cases h
theorem cld_len : ClD Z (fun xs H Q => (∃ x n, xs = [x] ∧ LenV Z.X.K x H n ∧ Q (.int n) H) ∨ ∃ a kvs, xs = [V.ref a] ∧ H a = some (.dK kvs) ∧ Q (.int kvs.length) H) fLen := by
  refine ⟨?_⟩
  intro Ho G ρ σ H d z x Q hR hx hf hq
  cases d <;> try (cases hf; done)
  · rename_i s
    unfold fLen at hf
    by_cases hz : s.length ≤ sizeLine
    · simp only [if_pos hz] at hf
      cases hf
      rw [hx.str.1]
      exact .inl ⟨_, _, rfl, ⟨hz, rfl⟩, hq _ _ _ hR Gr.refl (Same.refl _) rep_int⟩
    · simp only [if_neg hz] at hf; cases hf
  · cases hf
    obtain ⟨a, vs, rfl, h1, h2⟩ := hx.tup
    exact .inl ⟨_, _, rfl, .inr ⟨vs, Same.sqt hR.gh h1, rfl⟩, by rw [h2.length]; exact hq _ _ _ hR Gr.refl (Same.refl _) rep_int⟩
  · cases hf
    obtain ⟨a, vs, rfl, h1, h2⟩ := hx.lst hR.gh
    exact .inl ⟨_, _, rfl, .inl ⟨vs, SqL.of h1, rfl⟩, by rw [h2.length]; exact hq _ _ _ hR Gr.refl (Same.refl _) rep_int⟩
  · cases hf
    obtain ⟨a, vs, rfl, h1, h2⟩ := hx.dct hR.gh
    exact .inr ⟨a, vs, rfl, h1, by rw [h2.length]; exact hq _ _ _ hR Gr.refl (Same.refl _) rep_int⟩
  · cases hf
    rename_i ns
    obtain ⟨a, rfl, h1⟩ := hx.scr
    exact .inl ⟨_, _, rfl, .inl ⟨_, Same.seq hR.gh h1, rfl⟩, by rw [List.length_map]; exact hq _ _ _ hR Gr.refl (Same.refl _) rep_int⟩
theorem CallR.or' {X : Cx} {f : Value} {r r' : List V → Hp → VK → Prop} (h : CallR X f r) (h' : CallR X f r') : CallR X f (fun xs H Q => r xs H Q ∨ r' xs H Q) := by
  intro pins s σ H xs us Q I rs q
  rcases q with q | q
  · exact h pins s σ H xs us Q I rs q
  · exact h' pins s σ H xs us Q I rs q
theorem de_len (hm : Z.X.mg "len" = none) (ha : DE Z m1 a ta) (hg : Gl Z.X "len" := by rfl) (he : starEach (a :: []) Z.X.env = (false, eval a Z.X.env) :: starEach [] Z.X.env := by rfl) :
    DE Z ⟨m1.p, false⟩ (.Call (.Name "len" p2) [a] [] pos) (d1 fLen ta) := de_blt1 (CallR.or' call_len call_lenD) cld_len PySem.boot_len hm ha hg (he := he)
def fInt : D → Option D
  | .int i => some (.int i)
  | .bl k => some (.int (if k then 1 else 0))
  | _ => none
theorem cld_int : ClD Z (fun xs H Q => (∃ i, xs = [.int i] ∧ Q (.int i) H) ∨ ∃ k, xs = [.bl k] ∧ Q (.int (if k then 1 else 0)) H) fInt := by
  refine ⟨?_⟩
  intro Ho G ρ σ H d z x Q hR hx hf hq
  cases d <;> try (cases hf; done)
  · cases hf
    rename_i k
    have q := hq _ _ _ hR Gr.refl (Same.refl _) rep_int
    exact .inr ⟨k, by rw [hx.bl], q⟩
  · cases hf
    exact .inl ⟨_, by rw [hx.int], hq _ _ _ hR Gr.refl (Same.refl _) rep_int⟩
theorem de_intof (hm : Z.X.mg "int" = none) (ha : DE Z m1 a ta) (hg : Gl Z.X "int" := by rfl) (he : starEach (a :: []) Z.X.env = (false, eval a Z.X.env) :: starEach [] Z.X.env := by rfl) :
    DE Z ⟨m1.p, false⟩ (.Call (.Name "int" p2) [a] [] pos) (d1 fInt ta) := de_typ1 call_int1 cld_int (by decide +kernel) hm ha hg (he := he)
def fAbs : D → Option D
  | .int i => some (.int (if i < 0 then -i else i))
  | _ => none
theorem cld_abs : ClD Z (fun xs H Q => ∃ i, xs = [.int i] ∧ Q (.int (if i < 0 then -i else i)) H) fAbs := by
  refine ⟨?_⟩
  intro Ho G ρ σ H d z x Q hR hx hf hq
  cases d <;> try (cases hf; done)
  cases hf
  exact ⟨_, by rw [hx.int], hq _ _ _ hR Gr.refl (Same.refl _) rep_int⟩
theorem de_abs (hm : Z.X.mg "abs" = none) (ha : DE Z m1 a ta) (hg : Gl Z.X "abs" := by rfl) (he : starEach (a :: []) Z.X.env = (false, eval a Z.X.env) :: starEach [] Z.X.env := by rfl) :
    DE Z ⟨m1.p, false⟩ (.Call (.Name "abs" p2) [a] [] pos) (d1 fAbs ta) := de_blt1 call_abs cld_abs (by decide +kernel) hm ha hg (he := he)
def fTupOf : D → Option D
  | .lst ds => some (.tup ds)
  | .tup ds => some (.tup ds)
  | _ => none
theorem cld_tupof : ClD Z (fun xs H Q => ∃ p ys, xs = [.ref p] ∧ ((SqL Z.X.K H p ys ∧ ∀ l, H l = none → Q (.ref l) (upd H l (.tup ys))) ∨ (SqT Z.X.K H p ys ∧ Q (.ref p) H))) fTupOf := by
  refine ⟨?_⟩
  intro Ho G ρ σ H d z x Q hR hx hf hq
  cases d <;> try (cases hf; done)
  · cases hf
    obtain ⟨a, vs, rfl, h1, h2⟩ := hx.tup
    refine ⟨a, vs, rfl, .inr ⟨Same.sqt hR.gh h1, hq _ _ _ hR Gr.refl (Same.refl _) ?_⟩⟩
    unfold DC.rep Rep
    exact ⟨a, vs, rfl, h1, h2⟩
  · cases hf
    obtain ⟨a, vs, rfl, h1, h2⟩ := hx.lst hR.gh
    refine ⟨a, vs, rfl, .inl ⟨SqL.of h1, fun p hp => ?_⟩⟩
    obtain ⟨x4, g4⟩ := hR.allocF (o := .tup vs) hp
    refine hq _ _ _ x4 g4 (same_upd hp) ?_
    unfold DC.rep Rep
    exact ⟨p, _, rfl, SqT.of upd_same, RepL.mono g4.1 _ _ h2⟩
theorem de_tupof (hm : Z.X.mg "tuple" = none) (ha : DE Z m1 a ta) (hg : Gl Z.X "tuple" := by rfl) (he : starEach (a :: []) Z.X.env = (false, eval a Z.X.env) :: starEach [] Z.X.env := by rfl) :
    DE Z ⟨m1.p, false⟩ (.Call (.Name "tuple" p2) [a] [] pos) (d1 fTupOf ta) := de_typ1 call_tuple_of cld_tupof (by decide +kernel) hm ha hg (he := he)
def fLstOf : D → Option D
  | .lst ds => some (.lst ds)
  | .tup ds => some (.lst ds)
  | _ => none
theorem cld_lstof : ClD Z (fun xs H Q => ∃ p ys, xs = [.ref p] ∧ (SqL Z.X.K H p ys ∨ SqT Z.X.K H p ys) ∧ ∀ l, H l = none → Q (.ref l) (upd H l (.lst ys))) fLstOf := by
  refine ⟨?_⟩
  intro Ho G ρ σ H d z x Q hR hx hf hq
  cases d <;> try (cases hf; done)
  · cases hf
    obtain ⟨a, vs, rfl, h1, h2⟩ := hx.tup
    refine ⟨a, vs, rfl, .inr (Same.sqt hR.gh h1), fun p hp => ?_⟩
    obtain ⟨x4, g4⟩ := hR.allocF (o := .lst vs) hp
    refine hq _ _ _ x4 g4 (same_upd hp) ?_
    unfold DC.rep Rep
    exact ⟨p, _, rfl, upd_same, RepL.mono g4.1 _ _ h2⟩
  · cases hf
    obtain ⟨a, vs, rfl, h1, h2⟩ := hx.lst hR.gh
    refine ⟨a, vs, rfl, .inl (SqL.of h1), fun p hp => ?_⟩
    obtain ⟨x4, g4⟩ := hR.allocF (o := .lst vs) hp
    refine hq _ _ _ x4 g4 (same_upd hp) ?_
    unfold DC.rep Rep
    exact ⟨p, _, rfl, upd_same, RepL.mono g4.1 _ _ h2⟩
end
end DS
set_option Elab.async false
set_option linter.all false
set_option maxRecDepth 100000
namespace DS
open PySem PySem.Spec PyProof.Rows L2
section
variable {K : PySem.W.Frag} {mg : Str → Option Value} {τ : Tau} {Ho G : Hp} {ρ : List Sl} {σ : L2.St} {H : Hp}
theorem RS.garb (x : RS K mg τ Ho G ρ σ H) {p : Addr} {o : HO} (h : H p = none) : RS K mg τ Ho G ρ σ (upd H p o) := by
  obtain ⟨O, x⟩ := x
  have op : ∀ i, O p ≠ some i := fun i e => (x.oh p i e).2.2 h
  refine ⟨O, x.gh.trans (same_upd h), fun a i e => ?_, x.out.trans (same_upd h), x.len, fun i s e => ?_⟩
  · have q : a ≠ p := by rintro rfl; exact op i e
    rw [upd_ne q]
    exact x.oh a i e
  · have z : own O i (upd H p o) = own O i H := by
      funext a
      unfold own
      by_cases q : O a = some i
      · rw [if_pos q, if_pos q, upd_ne]
        rintro rfl; exact op i q
      · rw [if_neg q, if_neg q]
    rw [z]
    exact x.sl i s e
theorem RS.lend {s : Sl} {v : Option V} (x : RS K mg τ Ho G (s :: ρ) (v :: σ) H) : ∃ Ho', Same Ho Ho' ∧ RS K mg τ Ho' G ρ σ H ∧
    ∀ G' ρ' σ' H', Gr Ho' G G' → RS K mg τ Ho' G' ρ' σ' H' → RS K mg τ Ho G' (s :: ρ') (v :: σ') H' := by
  obtain ⟨O, x, kt⟩ := x.pruned
  obtain ⟨Ho', eHo⟩ : ∃ Ho' : Hp, Ho' = fun a => if O a = some 0 then H a else Ho a := ⟨_, rfl⟩
  have h0 : ∀ a, O a = some 0 → Ho' a = H a := fun a e => by rw [eHo]; simp only [if_pos e]
  have h1 : ∀ a, O a ≠ some 0 → Ho' a = Ho a := fun a e => by rw [eHo]; simp only [if_neg e]
  have c0 : ∀ a, O a = some 0 → ∀ o, H a = some o → cl Ho' a = some o := fun a e o q => cl_at (by rw [h0 a e]; exact q) (kt a 0 e o q)
  have c1 : ∀ a, O a ≠ some 0 → cl Ho' a = cl Ho a := fun a e => cl_eq (h1 a e)
  have s1 : Same Ho Ho' := fun a o e => by
    by_cases q : O a = some 0
    · rw [x.ho q (kt a 0 q)] at e; cases e
    · rw [h1 a q]; exact e
  have s2 : Same Ho' H := fun a o e => by
    by_cases q : O a = some 0
    · rw [h0 a q] at e; exact e
    · rw [h1 a q] at e; exact x.out _ _ e
  refine ⟨Ho', s1, ⟨popO O, x.gh, fun a i e => ?_, s2, by simpa using x.len, fun i t e => ?_⟩, fun G' ρ' σ' H' g y => ?_⟩
  · have e' := popO_some.mp e
    obtain ⟨z1, z2, z3⟩ := x.oh a _ e'
    exact ⟨z1, by rw [c1 a (by rw [e']; simp)]; exact z2, z3⟩
  · rw [own_of fun a => popO_some]
    simpa using x.sl (i + 1) t (by simpa using e)
  · obtain ⟨O2, y⟩ := y
    have no2 : ∀ a i, O a = some 0 → O2 a ≠ some i := fun a i e q => by
      have z := (y.oh a i q).2.1
      cases w : H a with
      | none => exact (x.oh a 0 e).2.2 w
      | some o => rw [c0 a e o w] at z; cases z
    have none2 : ∀ a, O a = some 0 → O2 a = none := fun a e => by
      cases q : O2 a with
      | none => rfl
      | some i => exact absurd q (no2 a i e)
    have keep : ∀ a, O a = some 0 → H' a = H a := fun a e => by
      cases q : H a with
      | none => exact absurd q (x.oh a 0 e).2.2
      | some o => exact y.out a o (by rw [h0 a e]; exact q)
    refine ⟨fun a => if O a = some 0 then some 0 else shO O2 a, y.gh, fun a i e => ?_, s1.trans y.out, by simp [y.len], fun i t e => ?_⟩
    · by_cases q : O a = some 0
      · obtain ⟨z1, z2, z3⟩ := x.oh a 0 q
        refine ⟨?_, z2, by rw [keep a q]; exact z3⟩
        cases w : H a with
        | none => exact absurd w z3
        | some o => rw [g.2 a o (c0 a q o w)]; exact z1
      · simp only [if_neg q] at e
        cases i with
        | zero => exact absurd e shO_zero
        | succ i =>
          obtain ⟨z1, z2, z3⟩ := y.oh a i (shO_some.mp e)
          exact ⟨z1, by rw [c1 a q] at z2; exact z2, z3⟩
    · cases i with
      | zero =>
        have z : own (fun a => if O a = some 0 then some 0 else shO O2 a) 0 H' = own O 0 H := by
          funext a
          unfold own
          by_cases q : O a = some 0
          · rw [if_pos (if_pos q), if_pos q, keep a q]
          · rw [if_neg (by simp only [if_neg q]; exact shO_zero), if_neg q]
        rw [z]
        have := x.sl 0 t (by simpa using e)
        simpa using this.mono g.1
      | succ i =>
        have z : own (fun a => if O a = some 0 then some 0 else shO O2 a) (i + 1) H' = own O2 i H' := by
          refine own_of fun a => ?_
          by_cases q : O a = some 0
          · simp [q, none2 a q]
          · simp only [if_neg q]; exact shO_some
        rw [z]
        simpa using y.sl i t (by simpa using e)
end
section
variable {Z : DC} {Ho G : Hp} {ρ : List Sl} {σ : L2.St} {H : Hp}
theorem DC.R.garb (x : Z.R Ho G ρ σ H) {p : Addr} {o : HO} (h : H p = none) : Z.R Ho G ρ σ (upd H p o) := x.to (x.rs.garb h) Gr.refl
theorem DC.R.lend {s : Sl} {v : Option V} (x : Z.R Ho G (s :: ρ) (v :: σ) H) : ∃ Ho', Same Ho Ho' ∧ Z.R Ho' G ρ σ H ∧ ∀ G' ρ' σ' H', Gr Ho' G G' → Z.R Ho' G' ρ' σ' H' → Z.R Ho G' (s :: ρ') (v :: σ') H' := by
  obtain ⟨Ho', h1, h2, h3⟩ := x.rs.lend
  exact ⟨Ho', h1, ⟨h2, x.ho.trans h1, x.g0⟩, fun G' ρ' σ' H' g y => x.to (h3 G' ρ' σ' H' g y.rs) (g.anti h1)⟩
end
def LS (Z : DC) (Ho : Hp) (G : Hp) (σ : L2.St) (r : Res (List Sl)) (Q : List V → Hp → Prop) : Prop := match r with
  | .ok ss ρ => ∀ vs G' H', vs.length = ss.length → Z.R Ho G' (ss ++ ρ) (vs.map some ++ σ) H' → Gr Ho G G' → Q vs H'
  | .ex x ρ => Z.Ex x ρ
  | .no => False
def DRs (Z : DC) (es : List Expr) (t : M (List Sl)) : Prop := ∃ te, PA Z.X es te ∧ ∀ Ho, Same Z.Ho Ho → ∀ G ρ σ H Q, Z.R Ho G ρ σ H → LS Z Ho G σ (t ρ) Q → te σ H Q
section
variable {Z : DC} {Ho : Hp} {e : Expr} {es : List Expr}
theorem LS.then {α : Type} {r : Res (List Sl)} {u : List Sl → M α} {L : Res α → Prop} {G : Hp} {σ : L2.St} {Q : List V → Hp → Prop} (hex : ∀ x ρ, L (.ex x ρ) → Z.Ex x ρ) (hno : L .no → False)
    (h : L (r.bind u)) (hq : ∀ ss ρ vs G' H', vs.length = ss.length → Z.R Ho G' (ss ++ ρ) (vs.map some ++ σ) H' → Gr Ho G G' → L (u ss ρ) → Q vs H') : LS Z Ho G σ r Q := by
  cases r with
  | ok d ρ => exact fun v G' H' l x g => hq d ρ v G' H' l x g h
  | ex x ρ => exact hex x ρ h
  | no => exact hno h
theorem drs_nil : DRs Z [] (ret []) := ⟨_, pa_nil, fun Ho hw G ρ σ H Q x q => q [] G H rfl x Gr.refl⟩
def sCons (t : M Sl) (u : M (List Sl)) : M (List Sl) := bnd t fun s => bnd u fun ss => ret (s :: ss)
theorem drs_cons {t : M Sl} {u : M (List Sl)} (h : DR Z e t) (hr : DRs Z es u) (hs : starEach (e :: es) Z.X.env = (false, eval e Z.X.env) :: starEach es Z.X.env := by rfl) : DRs Z (e :: es) (sCons t u) := by
  obtain ⟨te, pa, sa⟩ := h
  obtain ⟨tu, pr, sr⟩ := hr
  refine ⟨_, pa_cons pa pr hs, fun Ho hw G ρ σ H Q x q => ?_⟩
  refine sa Ho hw G ρ σ H _ x (DR.then (L := fun r => LS Z Ho G σ r Q) (fun _ _ h => h) (fun h => h) q fun s ρ1 v G1 H1 x1 g1 q1 => ?_)
  obtain ⟨Ho', hh, x2, back⟩ := x1.lend
  refine sr Ho' (hw.trans hh) G1 ρ1 σ H1 _ x2 (LS.then (L := fun r => LS Z Ho G σ r Q) (fun _ _ h => h) (fun h => h) q1 fun ss ρ2 vs G2 H2 l x3 g2 q2 => ?_)
  exact q2 (v :: vs) G2 H2 (by simp [l]) (back _ _ _ _ g2 x3) (g1.trans (g2.anti hh))
end
inductive SR where
  | nx (ρ : List Sl)
  | rt (r : Sl) (ρ : List Sl)
  | bk (ρ : List Sl)
  | ct (ρ : List Sl)
  | ex (x : Exn) (ρ : List Sl)
  | no
abbrev MS := List Sl → SR
def Res.andS {α : Type} (r : Res α) (u : α → MS) : SR := match r with
  | .ok a ρ => u a ρ
  | .ex x ρ => .ex x ρ
  | .no => .no
def LX (Z : DC) (Ho : Hp) (G : Hp) (r : SR) (E : Ends) : Prop := match r with
  | .nx ρ => ∀ σ G' H, Z.R Ho G' ρ σ H → Gr Ho G G' → E.nx σ H
  | .rt s ρ => ∀ v σ G' H, Z.R Ho G' (s :: ρ) (some v :: σ) H → Gr Ho G G' → E.rt v H
  | .bk ρ => ∀ σ G' H, Z.R Ho G' ρ σ H → Gr Ho G G' → E.bk σ H
  | .ct ρ => ∀ σ G' H, Z.R Ho G' ρ σ H → Gr Ho G G' → E.ct σ H
  | .ex x ρ => Z.Ex x ρ
  | .no => False
def DSt (Z : DC) (st : Stmt) (t : MS) : Prop := ∃ ts, PS Z.X st ts ∧ ∀ Ho, Same Z.Ho Ho → ∀ G ρ σ H E, Z.R Ho G ρ σ H → LX Z Ho G (t ρ) E → ts E σ H
def DSs (Z : DC) (sts : List Stmt) (t : MS) : Prop := ∃ ts, PSs Z.X sts ts ∧ ∀ Ho, Same Z.Ho Ho → ∀ G ρ σ H E, Z.R Ho G ρ σ H → LX Z Ho G (t ρ) E → ts E σ H
section
variable {Z : DC} {Ho : Hp} {m m1 m2 : Md} {p : Bool} {e a b : Expr} {es : List Expr} {t : M D} {pos pos' p2 : Pos} {st : Stmt} {sts : List Stmt} {u w : MS}
theorem LX.from {r : SR} {G G1 : Hp} {E : Ends} (g : Gr Ho G G1) (q : LX Z Ho G r E) : LX Z Ho G1 r E := by
  cases r with
  | nx ρ => exact fun σ G' H x g' => q σ G' H x (g.trans g')
  | rt s ρ => exact fun v σ G' H x g' => q v σ G' H x (g.trans g')
  | bk ρ => exact fun σ G' H x g' => q σ G' H x (g.trans g')
  | ct ρ => exact fun σ G' H x g' => q σ G' H x (g.trans g')
  | ex x ρ => exact q
  | no => exact q
theorem DE.thenS {r : Res D} {u : D → MS} {G H : Hp} {σ : L2.St} {Q : VK} {E : Ends} (h : LX Z Ho G (r.andS u) E)
    (hq : ∀ d ρ v G' H', Z.R Ho G' ρ σ H' → Gr Ho G G' → (m.p = true → Same H H') → Z.BR m.b G' H' d v → LX Z Ho G (u d ρ) E → Q v H') : LJ Z Ho m G H σ r Q := by
  cases r with
  | ok d ρ => exact fun v G' H' x g s b => hq d ρ v G' H' x g s b h
  | ex x ρ => exact h
  | no => exact h
theorem DT.thenS {r : Res Bool} {u : Bool → MS} {G H : Hp} {σ : L2.St} {Q : Bool → Hp → Prop} {E : Ends} (h : LX Z Ho G (r.andS u) E)
    (hq : ∀ d ρ G' H', Z.R Ho G' ρ σ H' → Gr Ho G G' → (p = true → Same H H') → LX Z Ho G (u d ρ) E → Q d H') : LT Z Ho p G H σ r Q := by
  cases r with
  | ok d ρ => exact fun G' H' x g s => hq d ρ G' H' x g s h
  | ex x ρ => exact h
  | no => exact h
theorem DR.thenS {r : Res Sl} {u : Sl → MS} {G : Hp} {σ : L2.St} {Q : VK} {E : Ends} (h : LX Z Ho G (r.andS u) E)
    (hq : ∀ s ρ v G' H', Z.R Ho G' (s :: ρ) (some v :: σ) H' → Gr Ho G G' → LX Z Ho G (u s ρ) E → Q v H') : LR Z Ho G σ r Q := by
  cases r with
  | ok d ρ => exact fun v G' H' x g => hq d ρ v G' H' x g h
  | ex x ρ => exact h
  | no => exact h
theorem DA.thenS {r : Res (List D)} {u : List D → MS} {G H : Hp} {σ : L2.St} {Q : List V → Hp → Prop} {E : Ends} (h : LX Z Ho G (r.andS u) E)
    (hq : ∀ ds ρ vs G' H', Z.R Ho G' ρ σ H' → Gr Ho G G' → RepL Z.X.K Z.X.mg G' ds vs → LX Z Ho G (u ds ρ) E → Q vs H') : LA Z Ho G H σ r Q := by
  cases r with
  | ok d ρ => exact fun v G' H' x g b => hq d ρ v G' H' x g b h
  | ex x ρ => exact h
  | no => exact h
theorem LS.thenS {r : Res (List Sl)} {u : List Sl → MS} {G : Hp} {σ : L2.St} {Q : List V → Hp → Prop} {E : Ends} (h : LX Z Ho G (r.andS u) E)
    (hq : ∀ ss ρ vs G' H', vs.length = ss.length → Z.R Ho G' (ss ++ ρ) (vs.map some ++ σ) H' → Gr Ho G G' → LX Z Ho G (u ss ρ) E → Q vs H') : LS Z Ho G σ r Q := by
  cases r with
  | ok d ρ => exact fun v G' H' l x g => hq d ρ v G' H' l x g h
  | ex x ρ => exact h
  | no => exact h
def sNil : MS := .nx
def sSeq (u w : MS) : MS := fun ρ => match u ρ with
  | .nx ρ' => w ρ'
  | r => r
theorem dss_nil : DSs Z [] sNil := ⟨_, pss_nil, fun Ho hw G ρ σ H E x q => q σ G H x Gr.refl⟩
theorem dss_one (h : DSt Z st u) : DSs Z [st] u := by
  obtain ⟨ts, ps, ss⟩ := h
  exact ⟨_, pss_one ps, ss⟩
theorem dss_cons (h : DSt Z st u) (hr : DSs Z sts w) : DSs Z (st :: sts) (sSeq u w) := by
  obtain ⟨ts, ps, ss⟩ := h
  obtain ⟨tr, pr, sr⟩ := hr
  refine ⟨_, pss_cons ps pr, fun Ho hw G ρ σ H E x q => ?_⟩
  refine ss Ho hw G ρ σ H _ x ?_
  unfold sSeq at q
  cases ev : u ρ with
  | nx ρ' =>
    rw [ev] at q
    exact fun σ' G' H' x' g' => sr Ho hw G' ρ' σ' H' E x' (LX.from g' q)
  | rt s ρ' => rw [ev] at q; exact q
  | bk ρ' => rw [ev] at q; exact q
  | ct ρ' => rw [ev] at q; exact q
  | ex y ρ' => rw [ev] at q; exact q
  | no => rw [ev] at q; exact q
def sRet (t : M Sl) : MS := fun ρ => (t ρ).andS .rt
theorem st_ret {t : M Sl} (h : DR Z e t) : DSt Z (.Return (some e) pos) (sRet t) := by
  obtain ⟨te, pa, sa⟩ := h
  refine ⟨_, ps_ret pa, fun Ho hw G ρ σ H E x q => ?_⟩
  exact sa Ho hw G ρ σ H _ x (DR.thenS q fun s ρ1 v G1 H1 x1 g1 q1 => q1 v σ G1 H1 x1 g1)
def dMove (i : Nat) : M Sl := fun ρ => match ρ[i]? with
  | some (.sh d) => .ok (.sh d) ρ
  | some (.ow t d) => .ok (.ow t d) (ρ.set i .no)
  | _ => .no
theorem RS.move {K : PySem.W.Frag} {mg : Str → Option Value} {τ : Tau} {Ho G : Hp} {ρ : List Sl} {σ : L2.St} {H : Hp} (x : RS K mg τ Ho G ρ σ H) {i : Nat} {s : Sl} {v : V} (e : ρ[i]? = some s) (hv : σ[i]? = some (some v)) :
    RS K mg τ Ho G (s :: ρ.set i .no) (some v :: σ) H := by
  obtain ⟨O, x⟩ := x
  refine ⟨fun a => match O a with | some j => if j = i then some 0 else some (j + 1) | none => none, x.gh, fun a j q => ?_, x.out, by simp [x.len], fun j t q => ?_⟩
  · cases h : O a with
    | none => simp only [h] at q; cases q
    | some k => exact x.oh a k h
  · cases j with
    | zero =>
      simp only [List.getElem?_cons_zero, Option.some.injEq] at q
      subst q
      rw [own_of (O := O) (i := i)]
      · have := x.sl i _ e
        rw [hv] at this
        simpa using this
      · intro a
        cases h : O a with
        | none => simp [h]
        | some k =>
          by_cases w : k = i
          · simp [h, w]
          · simp [h, w]
    | succ j =>
      simp only [List.getElem?_cons_succ] at q ⊢
      by_cases w : j = i
      · subst w
        rw [List.getElem?_set_self (List.getElem?_eq_some_iff.mp e).1] at q
        cases q
        trivial
      · rw [List.getElem?_set_ne (Ne.symm w)] at q
        rw [own_of (O := O) (i := j)]
        · exact x.sl j _ q
        · intro a
          cases h : O a with
          | none => simp [h]
          | some k =>
            by_cases w2 : k = i
            · subst w2; simp [h]; exact fun z => w z.symm
            · simp [h, w2]
theorem dr_move (i : Nat) {x : Str} (hN : Z.X.N[i]? = some x := by rfl) (hv : Vis Z.X.env.scope x := by first | exact Or.inl rfl | exact Or.inr (Or.inl rfl) | exact Or.inr (Or.inr rfl)) (hd : (x == ("__debug__" : Str)) = false := by decide)
    (hcd : (x == ("__classdict__" : Str)) = false := by decide) : DR Z (.Name x pos) (dMove i) := by
  refine ⟨_, pe_var hN hv hd hcd, fun Ho hw G ρ σ H Q x q => ?_⟩
  unfold dMove at q
  cases e : ρ[i]? with
  | none => rw [e] at q; exact q.elim
  | some s =>
    rw [e] at q
    cases s with
    | no => exact q.elim
    | rs t R => exact q.elim
    | er x => exact q.elim
    | th x => exact q.elim
    | td x => exact q.elim
    | tb => exact q.elim
    | op y ds => exact q.elim
    | pn k => exact q.elim
    | sh d =>
      obtain ⟨v, h1, h2⟩ := x.sh e
      exact ⟨v, h1, q v G H (x.push h2) Gr.refl⟩
    | ow t d =>
      obtain ⟨a, o, h1, h2, h3, _⟩ := x.mut e
      exact ⟨_, h1, q _ G H (x.to (x.rs.move e h1) Gr.refl) Gr.refl⟩
def sSet (i : Nat) (t : M Sl) : MS := fun ρ => (t ρ).andS fun s ρ => .nx (ρ.set i s)
theorem st_set {t : M Sl} (i : Nat) {x : Str} (h : DR Z e t) (hN : Z.X.N.Nodup) (hi : Z.X.N[i]? = some x := by rfl) (hx : Loc Z.X.env.scope x := by first | exact Or.inl rfl | exact Or.inr rfl)
    (hs : swapsWith e (some (.Name x pos')) pos.line Z.X.env = pure false := by rfl) (hf : Z.X.fn x = true ∨ Z.X.env.scope.names.lookup x = some .local := by first | exact .inl rfl | exact .inr rfl) :
    DSt Z (.Assign [.Name x pos'] e pos) (sSet i t) := by
  obtain ⟨te, pa, sa⟩ := h
  refine ⟨_, ps_set hN hi hx pa hs hf, fun Ho hw G ρ σ H E x q => ?_⟩
  exact sa Ho hw G ρ σ H _ x (DR.thenS q fun s ρ1 v G1 H1 x1 g1 q1 => q1 _ G1 H1 (x1.assign i) g1)
def sDrop (t : M D) : MS := fun ρ => (t ρ).andS fun _ => .nx
theorem st_expr (h : DE Z m e t) (hs : swapsWith e none pos.line Z.X.env = pure false := by rfl) : DSt Z (.Expr e pos) (sDrop t) := by
  obtain ⟨te, pa, sa⟩ := h
  refine ⟨_, ps_expr pa hs, fun Ho hw G ρ σ H E x q => ?_⟩
  exact sa Ho hw G ρ σ H _ x (DE.thenS q fun d ρ1 v G1 H1 x1 g1 s1 b1 q1 => q1 σ G1 H1 x1 g1)
def sIf (t : M Bool) (u w : MS) : MS := fun ρ => (t ρ).andS fun c => if c then u else w
theorem st_if {t : M Bool} {aa bb : List Stmt} (h : DT Z p e t) (ha : DSs Z aa u) (hb : DSs Z bb w) : DSt Z (.If e aa bb pos) (sIf t u w) := by
  obtain ⟨te, pc, sc⟩ := h
  obtain ⟨tu, pu, su⟩ := ha
  obtain ⟨tw, pw, sw⟩ := hb
  refine ⟨_, ps_if pc pu pw, fun Ho hw G ρ σ H E x q => ?_⟩
  refine sc Ho hw G ρ σ H _ x (DT.thenS q fun c ρ1 G1 H1 x1 g1 s1 q1 => ?_)
  cases c with
  | true => rw [if_pos rfl] at q1 ⊢; exact su Ho hw G1 ρ1 σ H1 E x1 (LX.from g1 q1)
  | false => rw [if_neg Bool.false_ne_true] at q1 ⊢; exact sw Ho hw G1 ρ1 σ H1 E x1 (LX.from g1 q1)
def sPar2 (i j : Nat) (t : M (List Sl)) : MS := fun ρ => (t ρ).andS fun ss ρ => match ss with
  | [s1, s2] => .nx ((ρ.set i s1).set j s2)
  | _ => .no
theorem two_some {α : Type} {vs : List α} (h : vs.length = 2) : ∃ a b, vs = [a, b] := by
  match vs, h with
  | [a, b], _ => exact ⟨a, b, rfl⟩
theorem DC.R.front2 {G H : Hp} {ρ : List Sl} {σ : L2.St} {s1 s2 : Sl} {v1 v2 : V} (x : Z.R Ho G (s1 :: s2 :: ρ) (some v1 :: some v2 :: σ) H) (i j : Nat) : Z.R Ho G ((ρ.set i s1).set j s2) ((σ.set i (some v1)).set j (some v2)) H := by
  have y := x.assign (i + 1)
  simp only [List.set_cons_succ] at y
  exact y.assign j
theorem st_par2 {t : M (List Sl)} (i j : Nat) {x y : Str} {px py pt : Pos} {kt k2 pt2} (h : DRs Z [a, b] t) (hN : Z.X.N.Nodup) (hi : Z.X.N[i]? = some x := by rfl) (hj : Z.X.N[j]? = some y := by rfl) (hij : i ≠ j := by decide)
    (hx : Z.X.env.scope.names.lookup x = some .local := by rfl) (hy : Z.X.env.scope.names.lookup y = some .local := by rfl)
    (hw : swappedStores [.Tuple [.Name x px, .Name y py] kt pt] (.Tuple [a, b] k2 pt2) Z.X.env = pure (some [x, y]) := by rfl)
    (hs : swapsWithSole [.Tuple [.Name x px, .Name y py] kt pt] (.Tuple [a, b] k2 pt2) pos.line Z.X.env = pure false := by rfl) (hh : Z.hot = false := by rfl) :
    DSt Z (.Assign [.Tuple [.Name x px, .Name y py] kt pt] (.Tuple [a, b] k2 pt2) pos) (sPar2 i j t) := by
  obtain ⟨te, pa, sa⟩ := h
  refine ⟨_, ps_par (Z.calm hh) hN hi hj hij hx hy pa hw hs, fun Ho hw G ρ σ H E x q => ?_⟩
  refine sa Ho hw G ρ σ H _ x (LS.thenS q fun ss ρ1 vs G1 H1 l x1 g1 q1 => ?_)
  match ss, q1 with
  | [s1, s2], q1 =>
    obtain ⟨v1, v2, rfl⟩ := two_some l
    exact ⟨v1, v2, rfl, q1 _ G1 H1 (x1.front2 i j) g1⟩
def sPar3 (i j k : Nat) (t : M (List Sl)) : MS := fun ρ => (t ρ).andS fun ss ρ => match ss with
  | [s1, s2, s3] => .nx (((ρ.set i s1).set j s2).set k s3)
  | _ => .no
def setAll : List Nat → List Sl → List Sl → List Sl
  | i :: is, s :: ss, ρ => setAll is ss (ρ.set i s)
  | _, _, ρ => ρ
inductive GNs (Z : DC) : List Expr → List Nat → Prop
  | nil : GNs Z [] []
  | cons {i : Nat} {x : Str} {pos : Pos} {es : List Expr} {is : List Nat} : PG Z.X (.Name x pos) (gName i) → GNs Z es is → GNs Z (.Name x pos :: es) (i :: is)
def gNames : List Nat → TGs
  | [] => gNil
  | i :: is => gCons (gName i) (gNames is)
def DG (Z : DC) (tg : Expr) (g : D → List Sl → Option (List Sl)) : Prop := ∃ tgt, PG Z.X tg tgt ∧ ∀ Ho G ρ σ H v d Q, Z.R Ho G ρ σ H → Z.rep G d v → (∃ ρ', g d ρ = some ρ' ∧ ∀ σ', Z.R Ho G ρ' σ' H → Q σ' H) → tgt v σ H Q
def DGs (Z : DC) (tgs : List Expr) (g : List D → List Sl → Option (List Sl)) : Prop := ∃ tgt, PGs Z.X tgs tgt ∧ ∀ Ho G ρ σ H vs ds Q, Z.R Ho G ρ σ H → RepL Z.X.K Z.X.mg G ds vs → (∃ ρ', g ds ρ = some ρ' ∧ ∀ σ', Z.R Ho G ρ' σ' H → Q σ' H) → tgt vs σ H Q
def gN (i : Nat) : D → List Sl → Option (List Sl) := fun d ρ => some (ρ.set i (.sh d))
theorem dg_name (i : Nat) {x : Str} (hN : Z.X.N.Nodup) (hi : Z.X.N[i]? = some x := by rfl) (hx : Loc Z.X.env.scope x := by first | exact Or.inl rfl | exact Or.inr rfl) (hf : Z.X.fn x = true ∨ Z.X.env.scope.names.lookup x = some .local := by first | exact .inl rfl | exact .inr rfl) :
    DG Z (.Name x pos) (gN i) := by
  refine ⟨_, pg_name hN hi hx hf, fun Ho G ρ σ H v d Q x r h => ?_⟩
  obtain ⟨ρ', e, q⟩ := h
  cases e
  exact q _ ((x.push r).assign i)
def gsNil : List D → List Sl → Option (List Sl) := fun ds ρ => match ds with
  | [] => some ρ
  | _ => none
def gsCons (g : D → List Sl → Option (List Sl)) (gs : List D → List Sl → Option (List Sl)) : List D → List Sl → Option (List Sl) := fun ds ρ => match ds with
  | d :: ds => (g d ρ).bind (gs ds)
  | _ => none
theorem dgs_nil : DGs Z [] gsNil := by
  refine ⟨_, pgs_nil, fun Ho G ρ σ H vs ds Q x r h => ?_⟩
  obtain ⟨ρ', e, q⟩ := h
  cases ds with
  | nil =>
    cases e
    unfold RepL at r
    exact ⟨r, q σ x⟩
  | cons d ds => cases e
theorem dgs_cons {g : D → List Sl → Option (List Sl)} {gs : List D → List Sl → Option (List Sl)} (h1 : DG Z e g) (h2 : DGs Z es gs)
    (hst : (assignEach (e :: es) Z.X.env).map (·.2) = assign e Z.X.env :: (assignEach es Z.X.env).map (·.2) := by rfl) : DGs Z (e :: es) (gsCons g gs) := by
  obtain ⟨t1, p1, s1⟩ := h1
  obtain ⟨t2, p2, s2⟩ := h2
  refine ⟨_, pgs_cons p1 p2 hst, fun Ho G ρ σ H vs ds Q x r h => ?_⟩
  obtain ⟨ρ', e, q⟩ := h
  cases ds with
  | nil => cases e
  | cons d ds =>
    unfold RepL at r
    obtain ⟨v, vs', rfl, h2, h3⟩ := r
    simp only [gsCons, Option.bind_eq_some_iff] at e
    obtain ⟨ρ1, e1, e2⟩ := e
    refine ⟨v, vs', rfl, s1 Ho G ρ σ H v d _ x h2 ⟨ρ1, e1, fun σ1 x1 => ?_⟩⟩
    exact s2 Ho G ρ1 σ1 H vs' ds Q x1 h3 ⟨ρ', e2, q⟩
def gTp (n : Nat) (gs : List D → List Sl → Option (List Sl)) : D → List Sl → Option (List Sl) := fun d ρ => match d with
  | .tup ds => if ds.length = n then gs ds ρ else none
  | .hup ds => if ds.length = n then gs ds ρ else none
  | _ => none
theorem dg_tup {gs : List D → List Sl → Option (List Sl)} {k : Nat} (n : Nat) (h : DGs Z es gs) (hn : (assignEach es Z.X.env).length = n := by rfl) (hst : (assignEach es Z.X.env).findIdx? (·.1) = none := by rfl) (hh : Z.hot = false := by rfl) : DG Z (.Tuple es k pos) (gTp n gs) := by
  obtain ⟨t1, p1, s1⟩ := h
  refine ⟨_, pg_tup (Z.calm hh) p1 hn hst, fun Ho G ρ σ H v d Q x r h => ?_⟩
  obtain ⟨ρ', e, q⟩ := h
  cases d <;> try (cases e; done)
  · rename_i ds
    simp only [gTp] at e
    by_cases hl : ds.length = n
    · rw [if_pos hl] at e
      unfold DC.rep Rep at r
      obtain ⟨a, vs, rfl, h1, h2⟩ := r
      exact ⟨a, vs, rfl, Same.sqt x.gh h1, by rw [h2.length]; exact hl, s1 Ho G ρ σ H vs ds _ x h2 ⟨ρ', e, q⟩⟩
    · rw [if_neg hl] at e; cases e
  · rename_i ds
    simp only [gTp] at e
    by_cases hl : ds.length = n
    · rw [if_pos hl] at e
      unfold DC.rep Rep at r
      obtain ⟨a, vs, rfl, h1, h2⟩ := r
      exact ⟨a, vs, rfl, Same.sqt x.gh (SqT.of h1), by rw [h2.length]; exact hl, s1 Ho G ρ σ H vs ds _ x h2 ⟨ρ', e, q⟩⟩
    · rw [if_neg hl] at e; cases e
def sAsg (t : M D) (g : D → List Sl → Option (List Sl)) : MS := fun ρ => (t ρ).andS fun d ρ => match g d ρ with
  | some ρ' => .nx ρ'
  | none => .no
def sParN (is : List Nat) (t : M (List Sl)) : MS := fun ρ => (t ρ).andS fun ss ρ => if ss.length = is.length ∧ ss.length ≤ sizeLine then .nx (setAll is ss ρ) else .no
def DGn (Z : DC) (tgs : List Expr) (is : List Nat) : Prop := PGs Z.X tgs (gNames is)
theorem dgn_nil : DGn Z [] [] := pgs_nil
theorem dgn_cons (i : Nat) {x : Str} {is : List Nat} (h2 : DGn Z es is) (hN : Z.X.N.Nodup) (hi : Z.X.N[i]? = some x := by rfl) (hx : Loc Z.X.env.scope x := by first | exact Or.inl rfl | exact Or.inr rfl) (hf : Z.X.fn x = true ∨ Z.X.env.scope.names.lookup x = some .local := by first | exact .inl rfl | exact .inr rfl)
    (hst : (assignEach (.Name x pos :: es) Z.X.env).map (·.2) = assign (.Name x pos) Z.X.env :: (assignEach es Z.X.env).map (·.2) := by rfl) : DGn Z (.Name x pos :: es) (i :: is) := pgs_cons (pg_name hN hi hx hf) h2 hst
theorem names_run : ∀ {is : List Nat} {ss : List Sl} {vs : List V} {ρ : List Sl} {σ : L2.St} {G H : Hp} {Q : L2.St → Hp → Prop}, vs.length = ss.length → ss.length = is.length → Z.R Ho G (ss ++ ρ) (vs.map some ++ σ) H →
    (∀ σ', Z.R Ho G (setAll is ss ρ) σ' H → Q σ' H) → gNames is vs σ H Q
  | [], [], [], ρ, σ, G, H, Q, _, _, x, q => ⟨rfl, q σ x⟩
  | i :: is, s :: ss, v :: vs, ρ, σ, G, H, Q, l, l2, x, q => by
    refine ⟨v, vs, rfl, ?_⟩
    have y : Z.R Ho G (ss ++ ρ.set i s) (vs.map some ++ σ.set i (some v)) H := by
      have z : Z.R Ho G ((ss ++ ρ).set (ss.length + i) s) ((vs.map some ++ σ).set (ss.length + i) (some v)) H := x.assign (ss.length + i)
      rw [List.set_append_right _ _ (by omega)] at z
      have lv : (vs.map some).length = ss.length := by simpa using l
      rw [List.set_append_right _ _ (by rw [lv]; omega), lv] at z
      simpa using z
    exact names_run (by simpa using l) (by simpa using l2) y q
  | [], [], _ :: _, _, _, _, _, _, l, _, _, _ => by simp at l
  | [], _ :: _, _, _, _, _, _, _, _, l, _, _ => by simp at l
  | _ :: _, [], _, _, _, _, _, _, _, l, _, _ => by simp at l
  | _ :: _, _ :: _, [], _, _, _, _, _, l, _, _, _ => by simp at l
theorem st_parN {tgs : List Expr} {kt k2 : Nat} {pt pt2 : Pos} {t : M (List Sl)} (is : List Nat) (h : DRs Z es t) (hg : DGn Z tgs is) (hs : swapsWithSole [.Tuple tgs kt pt] (.Tuple es k2 pt2) pos.line Z.X.env = pure false := by rfl)
    (hw : swappedStores [.Tuple tgs kt pt] (.Tuple es k2 pt2) Z.X.env = pure none := by rfl) (h1 : (assignEach [.Tuple tgs kt pt] Z.X.env).map (·.2) = [assign (.Tuple tgs kt pt) Z.X.env] := by rfl)
    (hn : (assignEach tgs Z.X.env).length = is.length := by rfl) (hst : (assignEach tgs Z.X.env).findIdx? (·.1) = none := by rfl) (hh : Z.hot = false := by rfl) :
    DSt Z (.Assign [.Tuple tgs kt pt] (.Tuple es k2 pt2) pos) (sParN is t) := by
  obtain ⟨te, pa, sa⟩ := h
  refine ⟨_, ps_asg (pe_tup pa) (pg_tup (Z.calm hh) hg hn hst) hs hw h1, fun Ho hw G ρ σ H E x q => ?_⟩
  refine sa Ho hw G ρ σ H _ x (LS.thenS q fun ss ρ1 vs G1 H1 l x1 g1 q1 => ?_)
  by_cases hl : ss.length = is.length ∧ ss.length ≤ sizeLine
  · simp only [if_pos hl] at q1
    refine ⟨by rw [l]; exact hl.2, fun p hp => ⟨p, vs, rfl, SqT.of upd_same, by rw [l]; exact hl.1, ?_⟩⟩
    exact names_run l hl.1 (x1.garb (o := .tup vs) hp) fun σ' x' => q1 σ' G1 _ x' g1
  · simp only [if_neg hl] at q1; exact q1.elim
def sApp (i : Nat) (t : M D) : MS := fun ρ => (t ρ).andS fun d ρ => match ρ[i]? with
  | some (.ow t (.lst ds)) => if ds.length < sizeLine then .nx (ρ.set i (.ow t (.lst (ds ++ [d])))) else .no
  | _ => .no
def isL : Option Sl → Bool
  | some (.ow _ (.lst _)) => true
  | _ => false
def sAppG (i : Nat) (t : M D) : MS := fun ρ => if isL ρ[i]? then sApp i t ρ else .no
theorem isL_some {o : Option Sl} (h : isL o = true) : ∃ t ds, o = some (.ow t (.lst ds)) := by
  match o, h with
  | some (.ow t (.lst ds)), _ => exact ⟨t, ds, rfl⟩
theorem DC.R.ownL {G H : Hp} {ρ : List Sl} {σ : L2.St} (x : Z.R Ho G ρ σ H) {i : Nat} {t : Option Nat} {ds : List D} (e : ρ[i]? = some (.ow t (.lst ds))) : ∃ a vs, σ[i]? = some (some (.ref a)) ∧ H a = some (.lst vs) ∧ RepL Z.X.K Z.X.mg G ds vs ∧
    ∀ vs' ds', RepL Z.X.K Z.X.mg G ds' vs' → Z.R Ho G (ρ.set i (.ow t (.lst ds'))) σ (upd H a (.lst vs')) := by
  obtain ⟨a, o, h1, h2, h3, h4⟩ := x.mut e
  cases h3 with
  | lst h3 => exact ⟨a, _, h1, h2, h3, fun vs' ds' r => h4 _ _ (.lst r)⟩
theorem st_app {x : Str} {px apos : Pos} (i : Nat) (h : DE Z m e t) (hb : m.b = false := by rfl) (hN : Z.X.N[i]? = some x := by rfl) (hv : Vis Z.X.env.scope x := by first | exact Or.inl rfl | exact Or.inr (Or.inl rfl) | exact Or.inr (Or.inr rfl))
    (hd : (x == ("__debug__" : Str)) = false := by decide) (hcd : (x == ("__classdict__" : Str)) = false := by decide)
    (hbase : attributeBase (.Name x px) "append" Z.X.env (eval (.Name x px) Z.X.env) = eval (.Name x px) Z.X.env := by rfl)
    (hfew : ((backTo pos (starEach (e :: []) Z.X.env)).all (fun x => !x.1) && (backToKw pos (keywordEach [] Z.X.env)).all (fun x => x.1.isSome)
      && decide ((e :: ([] : List Expr)).length + ([] : List Keyword).length + (if ([] : List Keyword).isEmpty then 0 else 1) < 30)) = true := by rfl)
    (hline : (apos.endLine == pos.line) = true := by rfl) (hs : starEach (e :: []) Z.X.env = (false, eval e Z.X.env) :: starEach [] Z.X.env := by rfl) (hplain : (backTo pos (starEach [] Z.X.env)).any (·.1) = false := by rfl)
    (hsw : swapsWith (.Call (.Attribute (.Name x px) "append" apos) [e] [] pos) none pos'.line Z.X.env = pure false := by rfl) :
    DSt Z (.Expr (.Call (.Attribute (.Name x px) "append" apos) [e] [] pos) pos') (sAppG i t) := by
  obtain ⟨te, pa, sa⟩ := h
  refine ⟨_, ps_expr (pe_bm PySem.F.plainAttrs_list PySem.F.slot_list_append PySem.F.type_list_append mt_append (pe_var hN hv hd hcd) (pa_cons pa pa_nil hs) hbase hfew hline hs hplain) hsw, fun Ho hw G ρ σ H E x q => ?_⟩
  unfold sAppG at q
  by_cases hi : isL ρ[i]? = true
  · rw [if_pos hi] at q
    obtain ⟨t0, ds0, e0⟩ := isL_some hi
    obtain ⟨a, vs0, h1, h2, _, _⟩ := x.ownL e0
    refine ⟨.ref a, h1, .inl ⟨rfl, vs0, SqL.of h2⟩, ?_⟩
    refine sa Ho hw G ρ σ H _ x (DE.thenS q fun d ρ1 v G1 H1 x1 g1 s1 b1 q1 => ?_)
    rw [hb] at b1
    cases e1 : ρ1[i]? with
    | none => simp only [e1] at q1; exact q1.elim
    | some s =>
      cases s <;> try (simp only [e1] at q1; exact q1.elim)
      rename_i t1 dd
      cases dd <;> try (simp only [e1] at q1; exact q1.elim)
      rename_i ds
      simp only [e1] at q1
      by_cases hz : ds.length < sizeLine
      · rw [if_pos hz] at q1
        obtain ⟨a', vs, h1', h2', h3', h4'⟩ := x1.ownL e1
        rw [h1] at h1'
        cases h1'
        exact ⟨a, vs, v, rfl, rfl, h2', by rw [h3'.length]; exact hz, q1 σ G1 _ (h4' _ _ (h3'.append (RepL.one b1.rep))) g1⟩
      · rw [if_neg hz] at q1; exact q1.elim
  · rw [if_neg hi] at q; exact q.elim
def drops (kl : List Nat) (ρ : List Sl) : List Sl := kl.foldl (fun ρ i => ρ.set i .no) ρ
theorem DC.R.drops {G H : Hp} {σ : L2.St} (kl : List Nat) : ∀ {ρ : List Sl}, Z.R Ho G ρ σ H → Z.R Ho G (DS.drops kl ρ) σ H := by
  induction kl with
  | nil => exact fun x => x
  | cons i kl ih => exact fun {ρ} x => ih (x.forget i)
structure ItOk (Z : DC) (Ho : Hp) (J : It) (ds : List D) (G1 : Hp) : Prop where
  go : ∀ i H, i < ds.length → Same G1 H → J.go i H
  stop : ∀ H, Same G1 H → J.stop ds.length H
  yld : ∀ {Hb : Hp} (i : Nat) (d : D) (G : Hp) (ρ : List Sl) (σ : L2.St) (H : Hp) (x : V) (H' : Hp), ds[i]? = some d → Z.R Hb G ρ σ H → Same G1 G → J.yld i H x H' → ∃ G', Z.R Hb G' ρ σ H' ∧ Gr Hb G G' ∧ Z.rep G' d x
def LI (Z : DC) (Ho : Hp) (G : Hp) (σ : L2.St) (r : Res (List D)) (Q : It → Hp → Prop) : Prop := match r with
  | .ok ds ρ => ∀ J G' H', Z.R Ho G' ρ σ H' → Gr Ho G G' → ItOk Z Ho J ds G' → Q J H'
  | .ex x ρ => Z.Ex x ρ
  | .no => False
def DI (Z : DC) (tg iter : Expr) (t : M (List D)) : Prop := ∃ wi, PI Z.X tg iter wi ∧ ∀ Ho, Same Z.Ho Ho → ∀ G ρ σ H Q, Z.R Ho G ρ σ H → LI Z Ho G σ (t ρ) Q → wi σ H Q
theorem LI.thenS {r : Res (List D)} {u : List D → MS} {G : Hp} {σ : L2.St} {Q : It → Hp → Prop} {E : Ends} (h : LX Z Ho G (r.andS u) E)
    (hq : ∀ ds ρ J G' H', Z.R Ho G' ρ σ H' → Gr Ho G G' → ItOk Z Ho J ds G' → LX Z Ho G (u ds ρ) E → Q J H') : LI Z Ho G σ r Q := by
  cases r with
  | ok d ρ => exact fun J G' H' x g i => hq d ρ J G' H' x g i h
  | ex x ρ => exact h
  | no => exact h
def sEach (g : D → List Sl → Option (List Sl)) (b : MS) (kl : List Nat) : List D → MS
  | [], ρ => .nx (drops kl ρ)
  | d :: ds, ρ => match g d ρ with
    | none => .no
    | some ρ1 => match b ρ1 with
      | .nx ρ2 => sEach g b kl ds (drops kl ρ2)
      | .ct ρ2 => sEach g b kl ds (drops kl ρ2)
      | .bk ρ2 => .nx (drops kl ρ2)
      | r => r
def sFor (t : M (List D)) (g : D → List Sl → Option (List Sl)) (b : MS) (kl : List Nat) : MS := fun ρ => (t ρ).andS fun ds => sEach g b kl ds
theorem st_for {tg iter : Expr} {body : List Stmt} {t : M (List D)} {g : D → List Sl → Option (List Sl)} (kl : List Nat) (hp : PassesOwn (model Z.X.prog Z.X.w) Z.X.A Z.X.env Z.X.xe) (hi : DI Z tg iter t) (hg : DG Z tg g) (hb : DSs Z body u) (hs : ∀ x, foldedSetIterable iter Z.X.env x = pure x := by intro _; rfl) (hh : Z.hot = false := by rfl) :
    DSt Z (.For tg iter body [] pos) (sFor t g u kl) := by
  obtain ⟨wi, pi, si⟩ := hi
  obtain ⟨tgt, pg, sg⟩ := hg
  obtain ⟨tb, pb, sb⟩ := hb
  refine ⟨_, ps_for hp (Z.calm hh) pi pg pb hs, fun Ho hw G ρ σ H E x q => ?_⟩
  refine si Ho hw G ρ σ H _ x (LI.thenS q fun ds ρ1 J G1 H1 x1 g1 it q1 => ?_)
  refine ⟨fun i m σ H => m = ds.length - i ∧ i ≤ ds.length ∧ ∃ G' ρ', Z.R Ho G' ρ' σ H ∧ Gr Ho G1 G' ∧ LX Z Ho G (sEach g u kl (ds.drop i) ρ') E, ⟨ds.length, by simp, Nat.zero_le _, G1, ρ1, x1, Gr.refl, q1⟩, ?_⟩
  rintro i m σ2 H2 ⟨rfl, hi, G2, ρ2, x2, g2, q2⟩
  by_cases hlt : i < ds.length
  · refine .inr ⟨it.go i H2 hlt (g2.1.trans x2.gh), fun σ' H' => ∃ G' ρ', Z.R Ho G' ρ' σ' H' ∧ Gr Ho G1 G' ∧ LX Z Ho G (sEach g u kl (ds.drop (i + 1)) ρ') E, fun σ' H' h => ⟨ds.length - (i + 1), by omega, rfl, hlt, h⟩, fun v H' y => ?_⟩
    have hd : ds[i]? = some ds[i] := by simp [hlt]
    rw [List.drop_eq_getElem_cons hlt] at q2
    obtain ⟨G3, x3, g3, r3⟩ := it.yld i _ G2 ρ2 σ2 H2 v H' hd x2 g2.1 y
    cases eg : g ds[i] ρ2 with
    | none => simp only [sEach, eg] at q2; exact q2.elim
    | some ρ4 =>
      simp only [sEach, eg] at q2
      refine sg Ho G3 ρ2 σ2 H' v _ _ x3 r3 ⟨ρ4, eg, fun σ4 x4 => ?_⟩
      refine sb Ho hw G3 ρ4 σ4 H' _ x4 ?_
      cases eb : u ρ4 with
      | nx ρ5 =>
        rw [eb] at q2
        exact fun σ5 G5 H5 x5 g5 => ⟨G5, _, x5.drops kl, (g2.trans g3).trans g5, q2⟩
      | ct ρ5 =>
        rw [eb] at q2
        exact fun σ5 G5 H5 x5 g5 => ⟨G5, _, x5.drops kl, (g2.trans g3).trans g5, q2⟩
      | bk ρ5 =>
        rw [eb] at q2
        exact fun σ5 G5 H5 x5 g5 => q2 σ5 G5 H5 (x5.drops kl) (((g1.trans g2).trans g3).trans g5)
      | rt s ρ5 =>
        rw [eb] at q2
        exact fun v5 σ5 G5 H5 x5 g5 => q2 v5 σ5 G5 H5 x5 (((g1.trans g2).trans g3).trans g5)
      | ex y ρ5 => rw [eb] at q2; exact q2
      | no => rw [eb] at q2; exact q2
  · have e : i = ds.length := by omega
    subst e
    refine .inl ⟨it.stop H2 (g2.1.trans x2.gh), ?_⟩
    rw [List.drop_length] at q2
    exact q2 σ2 G2 H2 (x2.drops kl) (g1.trans g2)
def wN (c : M Bool) (b : MS) (kl : List Nat) : Nat → MS
  | 0, _ => .no
  | n + 1, ρ => match c ρ with
    | .ok true ρ1 => match b ρ1 with
      | .nx ρ2 => wN c b kl n (drops kl ρ2)
      | .ct ρ2 => wN c b kl n (drops kl ρ2)
      | .bk ρ2 => .nx (drops kl ρ2)
      | r => r
    | .ok false ρ1 => .nx (drops kl ρ1)
    | .ex x ρ1 => .ex x ρ1
    | .no => .no
theorem wN_mono {c : M Bool} {b : MS} {kl : List Nat} : ∀ {n k : Nat} {ρ : List Sl}, n ≤ k → wN c b kl n ρ ≠ .no → wN c b kl k ρ = wN c b kl n ρ
  | 0, _, _, _, h => absurd rfl h
  | n + 1, 0, _, l, _ => absurd l (Nat.not_succ_le_zero n)
  | n + 1, k + 1, ρ, l, h => by
    unfold wN at h ⊢
    cases ec : c ρ with
    | ok t ρ1 =>
      rw [ec] at h
      cases t with
      | false => rfl
      | true =>
        simp only at h ⊢
        cases eb : b ρ1 with
        | nx ρ2 => rw [eb] at h; exact wN_mono (Nat.le_of_succ_le_succ l) h
        | ct ρ2 => rw [eb] at h; exact wN_mono (Nat.le_of_succ_le_succ l) h
        | _ => rfl
    | ex x ρ1 => rfl
    | no => rfl
open Classical in
noncomputable def sWhile (c : M Bool) (b : MS) (kl : List Nat) : MS := fun ρ => if h : ∃ n, wN c b kl n ρ ≠ .no then wN c b kl (Classical.choose h) ρ else .no
theorem sWhile_of {c : M Bool} {b : MS} {kl : List Nat} {n : Nat} {ρ : List Sl} (h : wN c b kl n ρ ≠ .no) : sWhile c b kl ρ = wN c b kl n ρ := by
  unfold sWhile
  have hx : ∃ n, wN c b kl n ρ ≠ .no := ⟨n, h⟩
  rw [dif_pos hx]
  rcases Nat.le_total n (Classical.choose hx) with l | l
  · exact wN_mono l h
  · exact (wN_mono l (Classical.choose_spec hx)).symm
theorem st_while {t : M Bool} {body : List Stmt} (kl : List Nat) (hp : PassesOwn (model Z.X.prog Z.X.w) Z.X.A Z.X.env Z.X.xe) (h : DT Z p e t) (hb : DSs Z body u) : DSt Z (.While e body [] pos) (sWhile t u kl) := by
  obtain ⟨te, pc, sc⟩ := h
  obtain ⟨tb, pb, sb⟩ := hb
  refine ⟨_, ps_while hp pc pb, fun Ho hw G ρ σ H E x q => ?_⟩
  unfold sWhile at q
  split at q
  · rename_i hx
    refine ⟨fun m σ H => ∃ G' ρ', Z.R Ho G' ρ' σ H ∧ Gr Ho G G' ∧ LX Z Ho G (wN t u kl m ρ') E, ⟨_, G, ρ, x, Gr.refl, q⟩, ?_⟩
    rintro m σ2 H2 ⟨G2, ρ2, x2, g2, q2⟩
    cases m with
    | zero => exact q2.elim
    | succ m =>
      unfold wN at q2
      refine sc Ho hw G2 ρ2 σ2 H2 _ x2 ?_
      cases ec : t ρ2 with
      | ex y ρ3 => rw [ec] at q2; exact q2
      | no => rw [ec] at q2; exact q2
      | ok c ρ3 =>
        rw [ec] at q2
        intro G3 H3 x3 g3 _
        cases c with
        | false =>
          rw [if_neg Bool.false_ne_true]
          exact q2 σ2 G3 H3 (x3.drops kl) (g2.trans g3)
        | true =>
          rw [if_pos rfl]
          refine ⟨fun σ' H' => ∃ G' ρ', Z.R Ho G' ρ' σ' H' ∧ Gr Ho G G' ∧ LX Z Ho G (wN t u kl m ρ') E, fun σ' H' h => ⟨m, Nat.lt_succ_self m, h⟩, ?_⟩
          refine sb Ho hw G3 ρ3 σ2 H3 _ x3 ?_
          simp only at q2
          cases eb : u ρ3 with
          | nx ρ5 =>
            rw [eb] at q2
            exact fun σ5 G5 H5 x5 g5 => ⟨G5, _, x5.drops kl, (g2.trans g3).trans g5, q2⟩
          | ct ρ5 =>
            rw [eb] at q2
            exact fun σ5 G5 H5 x5 g5 => ⟨G5, _, x5.drops kl, (g2.trans g3).trans g5, q2⟩
          | bk ρ5 =>
            rw [eb] at q2
            exact fun σ5 G5 H5 x5 g5 => q2 σ5 G5 H5 (x5.drops kl) ((g2.trans g3).trans g5)
          | rt s ρ5 =>
            rw [eb] at q2
            exact fun v5 σ5 G5 H5 x5 g5 => q2 v5 σ5 G5 H5 x5 ((g2.trans g3).trans g5)
          | ex y ρ5 => rw [eb] at q2; exact q2
          | no => rw [eb] at q2; exact q2
  · exact q.elim
end
end DS
set_option Elab.async false
set_option linter.all false
set_option maxRecDepth 100000
set_option maxHeartbeats 1000000
namespace DS
open PySem PySem.Spec PyProof.Rows L2
theorem meets_enumerate_new1 {v : Value} {o : Obj} {H : Heap → Prop} (B : Begins v o H) :
    Meets (Builtin.«enumerate.__new__» ⟨[.type "enumerate", v], []⟩) (fun _ R s => H s.heap ∧
      R (.ok (.ret (.ref (s.heap.push o).objs.size))) { s with heap := (s.heap.push o).push { cls := .type "enumerate", data := .fields #[.none, .bool false, .ref s.heap.objs.size, rawInt 0, .none, .none] } }) :=
  .of_wp fun prog w A R s h => by
    obtain ⟨hp, g, d, tk, os⟩ := s; obtain ⟨h1, h⟩ := h
    have hsub := sub_enumerate
    have q1 : ∀ {A' : Around} {E : Value → Shared → Prop} {Q : Value → Shared → Prop}, Q (.ref hp.objs.size) ⟨hp.push o, g, d, tk, os⟩ → wpAny (model prog w) A' (pyIter v) Q E ⟨hp, g, d, tk, os⟩ :=
      fun q => B.iter prog w _ _ ⟨hp, g, d, tk, os⟩ _ h1 q
    wp_walk using q1
    refine wpAny_stack_any fun st => wpAny_pure ?_
    split
    · rename_i c _ _ _ _ _
      cases (c == Value.type "enumerate")
      · wp_walk using q1
        exact ⟨_, rfl, h⟩
      · wp_walk using q1
        exact ⟨_, rfl, h⟩
    · wp_walk using q1
      exact ⟨_, rfl, h⟩
theorem enum_begins1 {prog : Program} {w : World} {A : Around} {E : Value → Shared → Prop} {s : Shared} {v : Value} {o : Obj} {H : Heap → Prop} {Q : Value → Shared → Prop} (B : Begins v o H) (h1 : H s.heap)
    (h : ∀ h', IsEnum h' (s.heap.objs.size + 1) s.heap.objs.size 0 .none → h'.get? s.heap.objs.size = some o → h'.objs.size = s.heap.objs.size + 2 →
      (∀ b o, s.heap.get? b = some o → h'.get? b = some o) → Q (.ref (s.heap.objs.size + 1)) { s with heap := h' }) :
    wpAny (model prog w) A (call (.type "enumerate") [v]) Q E s := by
  refine callType_new F.called_enumerate (by decide) (F.typeCall_enumerate_1 _) (F.newCall_enumerate_1 _) (fun obj => F.args_object_init_2 obj _) F.entry_enumerate_new
    (meets_enumerate_new1 B) ⟨h1, ?_⟩
  have hz : (s.heap.push o).objs.size = s.heap.objs.size + 1 := Heap.size_push ..
  show _ ∧ _
  rw [hz]
  have he : IsEnum ((s.heap.push o).push { cls := .type "enumerate", data := .fields #[.none, .bool false, .ref s.heap.objs.size, rawInt 0, .none, .none] }) (s.heap.objs.size + 1) s.heap.objs.size 0 .none := by
    have := Heap.get?_push_size (s.heap.push o) (o := { cls := .type "enumerate", data := .fields #[.none, .bool false, .ref s.heap.objs.size, rawInt 0, .none, .none] }) rfl
    rw [hz] at this; exact this
  refine ⟨⟨_, he, rfl⟩, h _ he (Heap.get?_push_of_some _ (Heap.get?_push_size _ B.free)) (by rw [Heap.size_push, hz]) fun b o x => Heap.get?_push_of_some _ (Heap.get?_push_of_some _ x)⟩
def Iten (xs : List V) (src : Hp → Prop) : It :=
  ⟨fun i H => i < xs.length ∧ src H, fun i H v H' => ∃ T x, v = .ref T ∧ H T = none ∧ H' = upd H T (.tup [.int (i : Nat), x]) ∧ xs[i]? = some x, fun i H => i = xs.length ∧ src H⟩
theorem turn_enumG {P : Program} {w : World} {K : PySem.W.Frag} {elts : List Expr} {kk : Nat} {tpos : Pos} (xs : List V) (src : Hp → Prop) (e it : Addr) (hne : e ≠ it) (st : Nat → Heap → Prop)
    (live : ∀ i h, st i h → ∃ o, h.get? it = some o ∧ ∀ v, o.data ≠ .cell v) (keep : ∀ i h h', st i h → (∀ o, h.get? it = some o → h'.get? it = some o) → st i h')
    (dr : ∀ (X : Cx), X.prog = P → X.w = w → X.K = K → X.A.handled = none → ∀ (i : Nat) (pins : List (Addr × Obj)) (s : Shared) (σ : L2.St) (H : Hp), Inv X pins σ H s → (∃ old, IsEnum s.heap e it ((i : Nat) : Int) old) → src H → st i s.heap →
      ∃ (fp : List Addr) (P' : Nat → Value → Prop) (St : Nat → Heap → Prop), Draws P w X.A.in1 it fp xs.length P' St ∧ St i s.heap ∧ e ∉ fp ∧ (∀ i u, P' i u → ∃ x, xs[i]? = some x ∧ RelV x u) ∧ ∀ j h, St j h → st j h) :
    Turn P w K (.Tuple elts kk tpos) (Iten xs src) [e, it] e (fun i h => (∃ old, IsEnum h e it ((i : Nat) : Int) old) ∧ st i h) where
  mem := by simp
  obj := fun i h t b hb => by
    obtain ⟨⟨old, he⟩, hs⟩ := t
    have e' : b = e ∨ b = it := by simpa using hb
    rcases e' with z | z
    · rw [z]; exact ⟨_, he, fun v q => nomatch q⟩
    · rw [z]; exact live i h hs
  keep := fun i h h' t k => let ⟨⟨old, he⟩, hi⟩ := t; ⟨⟨old, k e (by simp) _ he⟩, keep i h h' hi fun o q => k it (by simp) o q⟩
  item := by
    intro X hP hw hK hc i pins s σ H E I hf t hg
    obtain ⟨⟨old, he⟩, hs⟩ := t
    obtain ⟨hlt, hsrc⟩ := hg
    obtain ⟨fp, P', St, D, hSt, hef, hP', hst⟩ := dr X hP hw hK (I.ok.hd hc) i pins s σ H I ⟨old, he⟩ hsrc hs
    subst hP hw hK
    have hel : e < s.heap.objs.size := Heap.lt_size he
    have hil : it < s.heap.objs.size := by obtain ⟨_, q, _⟩ := live i _ hs; exact Heap.lt_size q
    refine wpAny_pyNext_enum_itemD D he hSt hlt hne hef fun u h' tk hp ho hit' hT hsz hk => ?_
    obtain ⟨x, hx, ru⟩ := hP' i u hp
    refine ⟨_, rfl, wpAny_letOwnedTupleGo_enum (s := { s with heap := h', toks := tk + 1 }) ho fun h'' he' sb => ?_⟩
    have hT2 : h''.get? s.heap.objs.size = some { cls := .type "tuple", data := .seq #[.int i tk, u] } := (sb.2 _ (Nat.ne_of_gt hel)).trans hT
    have new : ObjOk X.prog X.w (upd H s.heap.objs.size (.tup [.int (i : Nat), x])) h'' s.heap.objs.size (.tup [.int (i : Nat), x]) :=
      ⟨by show 2 ≤ sizeLine; decide, [.int i tk, u], .cons ⟨_, rfl⟩ (.cons ru .nil), ⟨_, hT2, rfl, _, rfl⟩⟩
    have I1 : Inv X pins σ (upd H s.heap.objs.size (.tup [.int (i : Nat), x])) { s with heap := h'', toks := tk + 1 } :=
      I.turnedNew (ch := [e, it]) (fun b ob hb q => (sb.2 b (fun z => hb (by simp [z]))).trans (hk b ob (fun z => hb (by simp [z])) (fun z => hb (by simp [z])) q)) hf (Nat.le_refl _) new
    refine ⟨.ref s.heap.objs.size, _, I1, rfl, ⟨_, x, rfl, I.hok.fresh (Nat.le_refl _), rfl, hx⟩, ⟨⟨u, ?_⟩, keep _ _ _ (hst _ _ hit') fun o q => (sb.2 it (Ne.symm hne)).trans q⟩, fun b hb => ?_⟩
    · have e1 : ((i + 1 : Nat) : Int) = (i : Int) + 1 := by omega
      rw [e1]; exact he'
    · have hb' : b < s.heap.objs.size := by
        have e' : b = e ∨ b = it := by simpa using hb
        rcases e' with z | z
        · rw [z]; exact hel
        · rw [z]; exact hil
      rw [upd_ne (Nat.ne_of_lt hb')]
      exact (hf b hb).1
  done := by
    intro X hP hw hK hc i pins s σ H E I hf t hg
    obtain ⟨⟨old, he⟩, hs⟩ := t
    obtain ⟨hn, hsrc⟩ := hg
    obtain ⟨fp, P', St, D, hSt, hef, hP', hst⟩ := dr X hP hw hK (I.ok.hd hc) i pins s σ H I ⟨old, he⟩ hsrc hs
    subst hP hw hK
    subst hn
    obtain ⟨f0, f1, f2, f3, f4, f5⟩ := hf it (by simp)
    exact wpAny_pyNext_enum_endD D he hSt fun h' eb => ⟨rfl, I.turned (t' := s.toks) (fun b o hb q => eb b o hb q) f0 f1 f3 f4 f5⟩
  self := fun A i s Q E t h => let ⟨⟨_, he⟩, _⟩ := t; wpAny_pyIter_enum he h
theorem valsGetV : ∀ {xs : List V} {us : List Value} {i : Nat} {u : Value}, Vals xs us → us[i]? = some u → ∃ x, xs[i]? = some x ∧ RelV x u
  | _, _, _, _, .nil, e => by simp at e
  | _, _, 0, _, .cons r _, e => by simp at e; subst e; exact ⟨_, rfl, r⟩
  | _, _, i + 1, x, .cons _ t, e => by
    obtain ⟨u, h1, h2⟩ := valsGetV (i := i) t (by simpa using e)
    exact ⟨u, by simpa using h1, h2⟩
def signs (x : Str) : List Str := x.cps.toList.map fun c => ⟨#[c]⟩
theorem signs_get {x : Str} {i : Nat} : (signs x)[i]? = x.cps[i]?.map fun c => (⟨#[c]⟩ : Str) := by
  unfold signs
  rw [List.getElem?_map, Array.getElem?_toList]
theorem signs_length {x : Str} : (signs x).length = x.cps.size := by unfold signs; simp
def EnSrc (K : PySem.W.Frag) (v : V) (H : Hp) (xs : List V) (src : Hp → Prop) : Prop :=
  (∃ a, v = .ref a ∧ src = (fun H => SqL K H a xs) ∧ SqL K H a xs) ∨ (∃ a, v = .ref a ∧ src = (fun H => SqT K H a xs) ∧ SqT K H a xs) ∨ ∃ z : Str, v = .str z ∧ src = (fun _ => True) ∧ xs = (signs z).map V.str
def iEnumG (K : PySem.W.Frag) (te : TE) : TI := fun σ H R => te σ H fun v H1 => ∃ xs src, EnSrc K v H1 xs src ∧ R (Iten xs src) H1
theorem pi_enumG {X : Cx} {e : Expr} {te : TE} {p pos tpos : Pos} {elts : List Expr} {kk : Nat} (hg : Gl X "enumerate") (hm : X.mg "enumerate" = none) (ha : PE X e te) (hs : starEach [e] X.env = (false, eval e X.env) :: starEach [] X.env := by rfl) :
    PI X (.Tuple elts kk tpos) (.Call (.Name "enumerate" p) [e] [] pos) (iEnumG X.K te) := by
  refine ⟨fun pins s σ H R I h => ?_⟩
  have ha2 : PA X [e] (tCons te tNil) := pa_cons ha pa_nil hs
  refine Call_ (ld_blt I hg hm boot_enumerate (PyProof.Rows.callWith_type1 (thn (ha2.run pos pins s σ H (fun vs H1 => match vs with
    | [v] => ∃ xs src, EnSrc X.K v H1 xs src ∧ R (Iten xs src) H1
    | _ => False) I h) fun us s1 ⟨vs, H1, I1, r1, q1⟩ => ?_) hs rfl))
  match vs, r1, q1 with
  | [v], r1, q1 =>
    obtain ⟨xs, src, hsrc, q⟩ := q1
    cases r1 with
    | cons r rr =>
      cases rr
      have fpok : ∀ (h' : Heap) (hk : ∀ b o, s1.heap.get? b = some o → h'.get? b = some o), ∀ b ∈ [s1.heap.objs.size + 1, s1.heap.objs.size], FpOk X pins H1 b := fun h' hk b hb => by
        have e' : b = s1.heap.objs.size + 1 ∨ b = s1.heap.objs.size := by simpa using hb
        have hle : s1.heap.objs.size ≤ b := by
          rcases e' with z | z
          · rw [z]; exact Nat.le_add_right _ _
          · rw [z]; exact Nat.le_refl _
        exact I1.fpOk hle (I1.hok.fresh hle)
      rcases hsrc with ⟨a, rfl, rfl, hq⟩ | ⟨a, rfl, rfl, hq⟩ | ⟨z, rfl, rfl, rfl⟩
      · cases r
        obtain ⟨its, rv, p', hz⟩ := I1.list hq
        refine enum_begins1 (begins_list a its.toArray) p'.isList fun h' he hit hsz hk => wpAny_pyIter_enum he ?_
        have I2 : Inv X pins σ H1 { s1 with heap := h' } := I1.kept (t' := s1.toks) hk
        refine ⟨s1.heap.objs.size + 1, [s1.heap.objs.size + 1, s1.heap.objs.size], _, _, H1, rfl, I2, turn_enumG xs _ (s1.heap.objs.size + 1) s1.heap.objs.size (Nat.succ_ne_self _) (fun i h => h.IsListIter s1.heap.objs.size a i)
          (fun i h t => by obtain ⟨o, ho, hc, hd⟩ := t; exact ⟨o, ho, fun v q => by rw [hd] at q; cases q⟩) (fun i h h' t k => t.at fun o q => k o q) (fun X' hP hw hK hh i pins' s' σ' H' I' hen hsrc ht => ?_), ⟨⟨.none, he⟩, ⟨_, hit, rfl, rfl⟩⟩, fpok h' hk, q⟩
        rw [← hK] at hsrc
        obtain ⟨its', rv', p2, hz'⟩ := I'.list hsrc
        have hl := rv'.length
        obtain ⟨o', n', ho', hc', _⟩ := id p2
        have hne : a ≠ s1.heap.objs.size := fun z => by
          obtain ⟨o, ho, hc, _⟩ := ht
          rw [z, ho] at ho'
          cases ho'
          rw [hc] at hc'
          exact absurd hc' (by decide)
        have hne2 : s1.heap.objs.size + 1 ≠ a := fun z => by
          obtain ⟨old, ho⟩ := hen
          rw [← z, ho] at ho'
          cases ho'
          exact absurd (show Value.type "enumerate" = Value.type _ from hc') (by decide)
        have D := Draws.list (prog := X.prog) (w := X.w) (A := X'.A.in1) hh s1.heap.objs.size a hne its'.toArray
        rw [show its'.toArray.size = xs.length from by rw [List.size_toArray, hl]] at D
        refine ⟨_, _, _, D, ⟨ht, p2.isList⟩, ?_, fun j u hu => valsGetV rv' (by simpa using hu), fun j h t => t.1⟩
        intro hm
        have e' : s1.heap.objs.size + 1 = s1.heap.objs.size ∨ s1.heap.objs.size + 1 = a := by simpa using hm
        rcases e' with z | z
        · exact Nat.succ_ne_self _ z
        · exact hne2 z
      · cases r
        obtain ⟨its, rv, p', hz⟩ := I1.tuple hq
        refine enum_begins1 (begins_tuple a its.toArray) p' fun h' he hit hsz hk => wpAny_pyIter_enum he ?_
        have I2 : Inv X pins σ H1 { s1 with heap := h' } := I1.kept (t' := s1.toks) hk
        refine ⟨s1.heap.objs.size + 1, [s1.heap.objs.size + 1, s1.heap.objs.size], _, _, H1, rfl, I2, turn_enumG xs _ (s1.heap.objs.size + 1) s1.heap.objs.size (Nat.succ_ne_self _) (fun i h => h.IsTupleIter s1.heap.objs.size a i)
          (fun i h t => by obtain ⟨o, ho, hc, hd⟩ := t; exact ⟨o, ho, fun v q => by rw [hd] at q; cases q⟩) (fun i h h' t k => t.at fun o q => k o q) (fun X' hP hw hK hh i pins' s' σ' H' I' hen hsrc ht => ?_), ⟨⟨.none, he⟩, ⟨_, hit, rfl, rfl⟩⟩, fpok h' hk, q⟩
        rw [← hK] at hsrc
        obtain ⟨its', rv', p2, hz'⟩ := I'.tuple hsrc
        have hl := rv'.length
        obtain ⟨o', ho', hc', _⟩ := id p2
        have hne : a ≠ s1.heap.objs.size := fun z => by
          obtain ⟨o, ho, hc, _⟩ := ht
          rw [z, ho] at ho'
          cases ho'
          rw [hc] at hc'
          exact absurd hc' (by decide)
        have hne2 : s1.heap.objs.size + 1 ≠ a := fun z => by
          obtain ⟨old, ho⟩ := hen
          rw [← z, ho] at ho'
          cases ho'
          exact absurd (show Value.type "enumerate" = Value.type _ from hc') (by decide)
        have D := Draws.tuple (prog := X.prog) (w := X.w) (A := X'.A.in1) hh s1.heap.objs.size a hne its'.toArray
        rw [show its'.toArray.size = xs.length from by rw [List.size_toArray, hl]] at D
        refine ⟨_, _, _, D, ⟨ht, p2⟩, ?_, fun j u hu => valsGetV rv' (by simpa using hu), fun j h t => t.1⟩
        intro hm
        have e' : s1.heap.objs.size + 1 = s1.heap.objs.size ∨ s1.heap.objs.size + 1 = a := by simpa using hm
        rcases e' with z | z
        · exact Nat.succ_ne_self _ z
        · exact hne2 z
      · obtain ⟨t, rfl⟩ := r
        refine enum_begins1 (begins_text z t) trivial fun h' he hit hsz hk => wpAny_pyIter_enum he ?_
        have I2 : Inv X pins σ H1 { s1 with heap := h' } := I1.kept (t' := s1.toks) hk
        refine ⟨s1.heap.objs.size + 1, [s1.heap.objs.size + 1, s1.heap.objs.size], _, _, H1, rfl, I2, turn_enumG _ _ (s1.heap.objs.size + 1) s1.heap.objs.size (Nat.succ_ne_self _) (fun i h => h.IsStrIter s1.heap.objs.size (strIterType z) z t i)
          (fun i h t => by obtain ⟨o, ho, hc, hd⟩ := t; exact ⟨o, ho, fun v q => by rw [hd] at q; cases q⟩) (fun i h h' t k => by obtain ⟨o, ho, r⟩ := t; exact ⟨o, k o ho, r⟩) (fun X' hP hw hK hh i pins' s' σ' H' I' hen hsrc ht => ?_), ⟨⟨.none, he⟩, ⟨_, hit, rfl, rfl⟩⟩, fpok h' hk, q⟩
        have D := Draws.text (prog := X.prog) (w := X.w) (A := X'.A.in1) hh s1.heap.objs.size z t
        rw [← signs_length, ← List.length_map (f := V.str)] at D
        refine ⟨_, _, _, D, ht, by simp, fun j u hu => ?_, fun j h t => t⟩
        obtain ⟨c, tk, h1, rfl⟩ := hu
        exact ⟨.str ⟨#[c]⟩, by rw [List.getElem?_map, signs_get, h1]; rfl, tk, rfl⟩
end DS
set_option Elab.async false
set_option linter.all false
set_option maxRecDepth 100000
namespace DS
open PySem PySem.Spec PyProof.Rows L2
def D.items : D → Option (List D)
  | .lst ds => some ds
  | .tup ds => some ds
  | .str x => some ((signs x).map D.str)
  | .scr ns => some (ns.map D.int)
  | _ => none
theorem strOk_sign {x : Str} (h : PyData.strOk x = true) {i : Nat} {c : Nat} (e : x.cps[i]? = some c) : PyData.strOk ⟨#[c]⟩ = true := by
  unfold PyData.strOk at *
  have hm : c ∈ x.cps := Array.mem_of_getElem? e
  have := (Array.all_eq_true_iff_forall_mem.mp h) c hm
  simpa using this
theorem rep_signs {K : PySem.W.Frag} {mg : Str → Option Value} {G : Hp} {x : Str} (h : PyData.strOk x = true) : RepL K mg G ((signs x).map D.str) ((signs x).map V.str) := by
  have : ∀ l : List Str, (∀ y ∈ l, PyData.strOk y = true) → RepL K mg G (l.map D.str) (l.map V.str) := by
    intro l
    induction l with
    | nil => intro _; exact RepL.nil
    | cons y l ih => intro h; exact RepL.cons (rep_str (h y List.mem_cons_self)) (ih fun z hz => h z (List.mem_cons_of_mem _ hz))
  refine this _ fun y hy => ?_
  obtain ⟨i, hi⟩ := List.getElem?_of_mem hy
  rw [signs_get] at hi
  cases q : x.cps[i]? with
  | none => rw [q] at hi; cases hi
  | some c => rw [q] at hi; cases hi; exact strOk_sign h q
def iAny (K : PySem.W.Frag) (te : TE) : TI := fun σ H R => te σ H fun v H1 => (∃ a xs, v = .ref a ∧ SqL K H1 a xs ∧ R (Itl K a) H1) ∨ (∃ a xs, v = .ref a ∧ SqT K H1 a xs ∧ R (Itt K a) H1) ∨ (∃ x, v = .str x ∧ R (Its x) H1)
theorem pi_any {X : Cx} {tg e : Expr} {te : TE} (he : PE X e te) : PI X tg e (iAny X.K te) := by
  refine ⟨fun pins s σ H R I h => ?_⟩
  refine thn (he.run pins s σ H _ I h) fun v s1 ⟨y, H1, I1, r1, q1⟩ => ?_
  rcases q1 with ⟨a, xs, rfl, hq, q⟩ | ⟨a, xs, rfl, hq, q⟩ | ⟨x, rfl, q⟩
  · cases r1
    obtain ⟨its, rv, p, hz⟩ := I1.list hq
    refine wpAny_pyIter_list p.isList ?_
    refine ⟨s1.heap.objs.size, [s1.heap.objs.size], _, _, H1, rfl, I1.kept (t' := s1.toks) fun b o e => Heap.get?_push_of_some _ e, turn_list a _, ⟨_, Heap.get?_push_size _ rfl, rfl, rfl⟩, fun b hb => ?_, q⟩
    have e : b = s1.heap.objs.size := by simpa using hb
    subst e
    exact I1.fpOk (Nat.le_refl _) (I1.hok.fresh (Nat.le_refl _))
  · cases r1
    obtain ⟨its, rv, p, hz⟩ := I1.tuple hq
    refine wpAny_pyIter_tuple (show s1.heap.IsTuple a its.toArray from p) ?_
    refine ⟨s1.heap.objs.size, [s1.heap.objs.size], _, _, H1, rfl, I1.kept (t' := s1.toks) fun b o e => Heap.get?_push_of_some _ e, turn_tuple a _, ⟨_, Heap.get?_push_size _ rfl, rfl, rfl⟩, fun b hb => ?_, q⟩
    have e : b = s1.heap.objs.size := by simpa using hb
    subst e
    exact I1.fpOk (Nat.le_refl _) (I1.hok.fresh (Nat.le_refl _))
  · obtain ⟨t, rfl⟩ := r1
    cases ha : x.cps.all (· < 128)
    · exact wpAny_pyIter_wide ha (pi_one (tk := s1.toks) I1 _ (turn_str _ x t "str_iterator" (.inr rfl)) ⟨_, Heap.get?_push_size _ rfl, rfl, rfl⟩ q)
    · exact wpAny_pyIter_ascii ha (pi_one (tk := s1.toks) I1 _ (turn_str _ x t "str_ascii_iterator" (.inl rfl)) ⟨_, Heap.get?_push_size _ rfl, rfl, rfl⟩ q)
section
variable {Z : DC} {Ho : Hp} {m : Md} {e e2 tg : Expr} {t : M D}
theorem DA.thenI {r : Res (List D)} {u : List D → M (List D)} {G H : Hp} {σ : L2.St} {Q : List V → Hp → Prop} {R : It → Hp → Prop} (h : LI Z Ho G σ (r.bind u) R)
    (hq : ∀ ds ρ vs G' H', Z.R Ho G' ρ σ H' → Gr Ho G G' → RepL Z.X.K Z.X.mg G' ds vs → LI Z Ho G σ (u ds ρ) R → Q vs H') : LA Z Ho G H σ r Q := by
  cases r with
  | ok d ρ => exact fun v G' H' x g b => hq d ρ v G' H' x g b h
  | ex x ρ => exact h
  | no => exact h
theorem DE.thenI {r : Res D} {u : D → M (List D)} {G H : Hp} {σ : L2.St} {Q : VK} {R : It → Hp → Prop} (h : LI Z Ho G σ (r.bind u) R)
    (hq : ∀ d ρ v G' H', Z.R Ho G' ρ σ H' → Gr Ho G G' → Z.BR m.b G' H' d v → LI Z Ho G σ (u d ρ) R → Q v H') : LJ Z Ho m G H σ r Q := by
  cases r with
  | ok d ρ => exact fun v G' H' x g s b => hq d ρ v G' H' x g b h
  | ex x ρ => exact h
  | no => exact h
theorem it_list {a : Addr} {xs : List V} {ds : List D} {G1 : Hp} (hq : SqL Z.X.K G1 a xs) (hr : RepL Z.X.K Z.X.mg G1 ds xs) : ItOk Z Ho (Itl Z.X.K a) ds G1 where
  go := fun i H hi s => walk_list.goes i H (by rw [hr.length]; exact hi) (Same.seq s hq)
  stop := fun H s => by rw [← hr.length]; exact walk_list.stops H (Same.seq s hq)
  yld := fun i d G ρ σ H x H' hd R s y => by
    have hi : i < xs.length := by rw [hr.length]; exact (List.getElem?_eq_some_iff.mp hd).1
    obtain ⟨rfl, e⟩ := walk_list.yields i H x H' hi (Same.seq (s.trans R.gh) hq) y
    obtain ⟨v, h1, h2⟩ := hr.get hd
    rw [e] at h1; cases h1
    exact ⟨G, R, Gr.refl, Rep.mono s _ _ h2⟩
theorem it_tup {a : Addr} {xs : List V} {ds : List D} {G1 : Hp} (hq : SqT Z.X.K G1 a xs) (hr : RepL Z.X.K Z.X.mg G1 ds xs) : ItOk Z Ho (Itt Z.X.K a) ds G1 where
  go := fun i H hi s => walk_tup.goes i H (by rw [hr.length]; exact hi) (Same.sqt s hq)
  stop := fun H s => by rw [← hr.length]; exact walk_tup.stops H (Same.sqt s hq)
  yld := fun i d G ρ σ H x H' hd R s y => by
    have hi : i < xs.length := by rw [hr.length]; exact (List.getElem?_eq_some_iff.mp hd).1
    obtain ⟨rfl, e⟩ := walk_tup.yields i H x H' hi (Same.sqt (s.trans R.gh) hq) y
    obtain ⟨v, h1, h2⟩ := hr.get hd
    rw [e] at h1; cases h1
    exact ⟨G, R, Gr.refl, Rep.mono s _ _ h2⟩
theorem it_str {z : Str} {G1 : Hp} (hz : PyData.strOk z = true) : ItOk Z Ho (Its z) ((signs z).map D.str) G1 where
  go := fun i H hi s => walk_str.goes i H (by simpa [signs_length] using hi) trivial
  stop := fun H s => by rw [List.length_map, signs_length]; exact walk_str.stops H trivial
  yld := fun i d G ρ σ H x H' hd R s y => by
    have hi : i < z.cps.size := by have := (List.getElem?_eq_some_iff.mp hd).1; simpa [signs_length] using this
    obtain ⟨rfl, c, e, rfl⟩ := walk_str.yields i H x H' hi trivial y
    rw [List.getElem?_map, signs_get, e] at hd
    cases hd
    exact ⟨G, R, Gr.refl, rep_str (strOk_sign hz e)⟩
theorem it_range {lo : Int} {n : Nat} {G1 : Hp} : ItOk Z Ho (Itr lo n) ((List.range n).map fun i => D.int (lo + (i : Nat))) G1 where
  go := fun i H hi s => walk_range.goes i H (by simpa using hi) trivial
  stop := fun H s => by rw [List.length_map, List.length_range]; exact walk_range.stops H trivial
  yld := fun i d G ρ σ H x H' hd R s y => by
    have hi : i < n := by have := (List.getElem?_eq_some_iff.mp hd).1; simpa using this
    obtain ⟨rfl, rfl⟩ := walk_range.yields i H x H' hi trivial y
    rw [List.getElem?_map, List.getElem?_range hi] at hd
    cases hd
    exact ⟨G, R, Gr.refl, rep_int⟩
def lItems (t : M D) : M (List D) := bnd t fun d => lft d.items
theorem di_any (h : DE Z m e t) (hb : m.b = false := by rfl) : DI Z tg e (lItems t) := by
  obtain ⟨te, pa, sa⟩ := h
  refine ⟨_, pi_any pa, fun Ho hw G ρ σ H R x q => ?_⟩
  refine sa Ho hw G ρ σ H _ x (DE.thenI q fun d ρ1 v G1 H1 x1 g1 b1 q1 => ?_)
  rw [hb] at b1
  replace b1 := b1.rep
  cases d <;> try (exact q1.elim)
  · rename_i z
    unfold Rep at b1
    obtain ⟨rfl, hz⟩ := b1
    exact .inr (.inr ⟨z, rfl, q1 _ G1 H1 x1 g1 (it_str hz)⟩)
  · unfold Rep at b1
    obtain ⟨a, vs, rfl, h1, h2⟩ := b1
    exact .inr (.inl ⟨a, vs, rfl, Same.sqt x1.gh h1, q1 _ G1 H1 x1 g1 (it_tup h1 h2)⟩)
  · unfold Rep at b1
    obtain ⟨a, vs, rfl, h1, h2⟩ := b1
    exact .inl ⟨a, vs, rfl, SqL.of (x1.gh _ _ h1), q1 _ G1 H1 x1 g1 (it_list (SqL.of h1) h2)⟩
  · unfold Rep at b1
    obtain ⟨a, rfl, h1⟩ := b1
    exact .inl ⟨a, _, rfl, Same.seq x1.gh h1, q1 _ G1 H1 x1 g1 (it_list h1 (RepL.ints _))⟩
def small62 (i : Int) : Bool := decide (-(2 ^ 62) ≤ i) && decide (i < 2 ^ 62)
theorem small62_of {i : Int} (h : small62 i = true) : -(2 ^ 62) ≤ i ∧ i < 2 ^ 62 := by
  unfold small62 at h
  simpa using h
def fRange1 : List D → Option (List D)
  | [.int j] => if small62 j then some ((List.range j.toNat).map fun i => D.int (0 + (i : Nat))) else none
  | _ => none
theorem rep1 {K : PySem.W.Frag} {mg : Str → Option Value} {G : Hp} {a : D} {vs : List V} (h : RepL K mg G [a] vs) : ∃ v, vs = [v] ∧ Rep K mg G a v := by
  unfold RepL at h
  obtain ⟨v, vs', rfl, h2, h3⟩ := h
  unfold RepL at h3
  subst h3
  exact ⟨v, rfl, h2⟩
def lRange (f : List D → Option (List D)) (u : M (List D)) : M (List D) := bnd u fun ds => lft (f ds)
variable {a b c : Expr} {u : M (List D)} {p pos tpos : Pos} {elts : List Expr} {kk : Nat}
theorem di_range1 (hm : Z.X.mg "range" = none) (h : DA Z [a] u) (hg : Gl Z.X "range" := by first | rfl | decide) (hs : starEach [a] Z.X.env = [(false, eval a Z.X.env)] := by rfl) :
    DI Z tg (.Call (.Name "range" p) [a] [] pos) (lRange fRange1 u) := by
  obtain ⟨ta, pa, sa⟩ := h
  refine ⟨_, pi_range1 hg hm pa hs, fun Ho hw G ρ σ H R x q => ?_⟩
  refine sa Ho hw G ρ σ H _ x (DA.thenI q fun ds ρ1 vs G1 H1 x1 g1 b1 q1 => ?_)
  unfold lft fRange1 at q1
  split at q1
  · rename_i l hl
    split at hl <;> try (cases hl; done)
    rename_i j
    split at hl <;> cases hl
    rename_i hj
    obtain ⟨v, rfl, r⟩ := rep1 b1
    unfold Rep at r
    subst r
    exact ⟨j, rfl, (small62_of hj).1, (small62_of hj).2, q1 _ G1 H1 x1 g1 it_range⟩
  · exact q1.elim
def pairs0 (k : Nat) : List D → List D
  | [] => []
  | d :: ds => .tup [.int (k : Nat), d] :: pairs0 (k + 1) ds
theorem pairs0_length : ∀ (k : Nat) (ds : List D), (pairs0 k ds).length = ds.length
  | _, [] => rfl
  | k, d :: ds => by simp [pairs0, pairs0_length (k + 1) ds]
theorem pairs0_get : ∀ (k : Nat) (ds : List D) (i : Nat) (d : D), (pairs0 k ds)[i]? = some d → ∃ e, ds[i]? = some e ∧ d = .tup [.int ((k + i : Nat) : Int), e]
  | _, [], i, d, h => by simp [pairs0] at h
  | k, e :: ds, 0, d, h => by
    simp [pairs0] at h
    subst h
    exact ⟨e, rfl, by simp⟩
  | k, e :: ds, i + 1, d, h => by
    obtain ⟨e', h1, h2⟩ := pairs0_get (k + 1) ds i d (by simpa [pairs0] using h)
    exact ⟨e', by simpa using h1, by rw [h2, show k + 1 + i = k + (i + 1) by omega]⟩
def lEnum (t : M D) : M (List D) := bnd t fun d => lft (d.items.map (pairs0 0))
theorem it_enum {xs : List V} {ds : List D} {src : Hp → Prop} {G1 : Hp} (hr : RepL Z.X.K Z.X.mg G1 ds xs) (hs : ∀ H, Same G1 H → src H) : ItOk Z Ho (Iten xs src) (pairs0 0 ds) G1 where
  go := fun i H hi s => ⟨by rw [pairs0_length] at hi; rw [hr.length]; exact hi, hs H s⟩
  stop := fun H s => ⟨by rw [pairs0_length, hr.length], hs H s⟩
  yld := fun i d G ρ σ H x H' hd R s y => by
    obtain ⟨T, u, rfl, hT, rfl, e⟩ := y
    obtain ⟨d', h1, rfl⟩ := pairs0_get 0 ds i d hd
    obtain ⟨v, h2, h3⟩ := hr.get h1
    rw [e] at h2; cases h2
    obtain ⟨R2, g2⟩ := R.allocF (o := .tup [.int (i : Nat), u]) hT
    refine ⟨_, R2, g2, ?_⟩
    unfold DC.rep Rep
    exact ⟨T, _, rfl, SqT.of upd_same, RepL.cons (by rw [Nat.zero_add]; exact rep_int) (RepL.one (Rep.mono (s.trans g2.1) _ _ h3))⟩
theorem di_enum (hm : Z.X.mg "enumerate" = none) (h : DE Z m e t) (hb : m.b = false := by rfl) (hg : Gl Z.X "enumerate" := by first | rfl | decide) (hs : starEach [e] Z.X.env = (false, eval e Z.X.env) :: starEach [] Z.X.env := by rfl) :
    DI Z (.Tuple elts kk tpos) (.Call (.Name "enumerate" p) [e] [] pos) (lEnum t) := by
  obtain ⟨te, pa, sa⟩ := h
  refine ⟨_, pi_enumG hg hm pa hs, fun Ho hw G ρ σ H R x q => ?_⟩
  refine sa Ho hw G ρ σ H _ x (DE.thenI q fun d ρ1 v G1 H1 x1 g1 b1 q1 => ?_)
  rw [hb] at b1
  replace b1 := b1.rep
  cases d <;> try (exact q1.elim)
  · rename_i z
    unfold Rep at b1
    obtain ⟨rfl, hz⟩ := b1
    exact ⟨_, _, .inr (.inr ⟨z, rfl, rfl, rfl⟩), q1 _ G1 H1 x1 g1 (it_enum (rep_signs hz) fun _ _ => trivial)⟩
  · unfold Rep at b1
    obtain ⟨a, vs, rfl, h1, h2⟩ := b1
    exact ⟨vs, _, .inr (.inl ⟨a, rfl, rfl, Same.sqt x1.gh h1⟩), q1 _ G1 H1 x1 g1 (it_enum h2 fun H s => Same.sqt s h1)⟩
  · unfold Rep at b1
    obtain ⟨a, vs, rfl, h1, h2⟩ := b1
    exact ⟨vs, _, .inl ⟨a, rfl, rfl, SqL.of (x1.gh _ _ h1)⟩, q1 _ G1 H1 x1 g1 (it_enum h2 fun H s => SqL.of (s _ _ h1))⟩
  · unfold Rep at b1
    obtain ⟨a, rfl, h1⟩ := b1
    exact ⟨_, _, .inl ⟨a, rfl, rfl, Same.seq x1.gh h1⟩, q1 _ G1 H1 x1 g1 (it_enum (RepL.ints _) fun H s => Same.seq s h1)⟩
end
end DS
set_option Elab.async false
set_option linter.all false
set_option maxRecDepth 100000
namespace DS
open PySem PySem.Spec PyProof.Rows L2
section
variable {K : PySem.W.Frag} {mg : Str → Option Value} {τ : Tau} {Ho G : Hp} {ρ : List Sl} {σ : L2.St} {H : Hp}
def hdO (n : Nat) (O : Addr → Option Nat) : Addr → Option Nat := fun a => match O a with
  | some i => if i < n then some i else none
  | none => none
theorem hdO_some {n : Nat} {O : Addr → Option Nat} {a : Addr} {i : Nat} : hdO n O a = some i ↔ O a = some i ∧ i < n := by
  unfold hdO
  cases O a with
  | none => simp
  | some k =>
    by_cases q : k < n
    · simp [q]; intro h; subst h; exact q
    · simp [q]; intro h; subst h; omega
theorem RS.split {ss : List Sl} {us : L2.St} (x : RS K mg τ Ho G (ss ++ ρ) (us ++ σ) H) (hl : ss.length = us.length) : ∃ Ho', Same Ho Ho' ∧ RS K mg τ Ho' G ss us H ∧
    ∀ G' tt wt H', Gr Ho' G G' → RS K mg τ Ho' G' tt wt H' → RS K mg τ Ho G' (tt ++ ρ) (wt ++ σ) H' := by
  obtain ⟨O, x, kt⟩ := x.pruned
  obtain ⟨n, hn⟩ : ∃ n, n = ss.length := ⟨_, rfl⟩
  -- what stands with the rest
  obtain ⟨T, hT⟩ : ∃ T : Addr → Prop, ∀ a, T a ↔ ∃ i, O a = some (n + i) := ⟨fun a => ∃ i, O a = some (n + i), fun a => Iff.rfl⟩
  classical
  obtain ⟨Ho', eHo⟩ : ∃ Ho' : Hp, Ho' = fun a => if T a then H a else Ho a := ⟨_, rfl⟩
  have h0 : ∀ a, T a → Ho' a = H a := fun a e => by rw [eHo]; simp only [if_pos e]
  have h1 : ∀ a, ¬ T a → Ho' a = Ho a := fun a e => by rw [eHo]; simp only [if_neg e]
  have tO : ∀ a, T a → G a = none ∧ cl Ho a = none ∧ H a ≠ none := fun a t => by
    obtain ⟨i, e⟩ := (hT a).mp t
    exact x.oh a _ e
  have tH : ∀ a, T a → Ho a = none := fun a t => by
    obtain ⟨i, e⟩ := (hT a).mp t
    exact x.ho e (kt a _ e)
  have c0 : ∀ a, T a → ∀ o, H a = some o → cl Ho' a = some o := fun a t o q => by
    obtain ⟨i, e⟩ := (hT a).mp t
    exact cl_at (by rw [h0 a t]; exact q) (kt a _ e o q)
  have c1 : ∀ a, ¬ T a → cl Ho' a = cl Ho a := fun a e => cl_eq (h1 a e)
  have s1 : Same Ho Ho' := fun a o e => by
    by_cases q : T a
    · rw [tH a q] at e; cases e
    · rw [h1 a q]; exact e
  have s2 : Same Ho' H := fun a o e => by
    by_cases q : T a
    · rw [h0 a q] at e; exact e
    · rw [h1 a q] at e; exact x.out _ _ e
  have lρ : ρ.length = σ.length := by
    have := x.len
    rw [List.length_append, List.length_append] at this
    omega
  refine ⟨Ho', s1, ⟨hdO n O, x.gh, fun a i e => ?_, s2, hl, fun i t e => ?_⟩, fun G' tt wt H' g y => ?_⟩
  · obtain ⟨e', l⟩ := hdO_some.mp e
    obtain ⟨z1, z2, z3⟩ := x.oh a _ e'
    refine ⟨z1, ?_, z3⟩
    rw [c1 a]
    · exact z2
    · intro t
      obtain ⟨j, q⟩ := (hT a).mp t
      rw [e'] at q
      cases q
      omega
  · have hi : i < n := by rw [hn]; exact (List.getElem?_eq_some_iff.mp e).1
    rw [own_of (O := O) (i := i) fun a => by rw [hdO_some]; exact ⟨fun h => h.1, fun h => ⟨h, hi⟩⟩]
    have := x.sl i t (by rw [List.getElem?_append_left (by omega)]; exact e)
    rw [List.getElem?_append_left (by omega)] at this
    exact this
  · obtain ⟨O2, y⟩ := y
    obtain ⟨m, hm⟩ : ∃ m, m = tt.length := ⟨_, rfl⟩
    have lw : wt.length = m := by rw [hm]; exact y.len.symm
    have no2 : ∀ a, T a → O2 a = none := fun a t => by
      cases q : O2 a with
      | none => rfl
      | some i =>
        have z := (y.oh a i q).2.1
        cases w : H a with
        | none => exact absurd w (tO a t).2.2
        | some o => rw [c0 a t o w] at z; cases z
    have keep : ∀ a, T a → H' a = H a := fun a t => by
      cases q : H a with
      | none => exact absurd q (tO a t).2.2
      | some o => exact y.out a o (by rw [h0 a t]; exact q)
    have lt2 : ∀ a i, O2 a = some i → i < m ∨ True := fun _ _ _ => .inr trivial
    -- the map: what y has below m stays, T's go behind
    obtain ⟨O3, eO3⟩ : ∃ O3 : Addr → Option Nat, O3 = fun a => match O a with
        | some i => if n ≤ i then some (m + (i - n)) else hdO m O2 a
        | none => hdO m O2 a := ⟨_, rfl⟩
    have o3T : ∀ a i, O a = some (n + i) → O3 a = some (m + i) := fun a i e => by
      rw [eO3]
      simp only [e]
      rw [if_pos (by omega)]
      congr 1
      omega
    have o3N : ∀ a, ¬ T a → O3 a = hdO m O2 a := fun a t => by
      rw [eO3]
      cases q : O a with
      | none => simp only [q]
      | some i =>
        simp only [q]
        rw [if_neg]
        intro h
        exact t ((hT a).mpr ⟨i - n, by rw [q]; congr 1; omega⟩)
    refine ⟨O3, y.gh, fun a i e => ?_, s1.trans y.out, by simp [y.len, lρ], fun i t e => ?_⟩
    · by_cases q : T a
      · obtain ⟨z1, z2, z3⟩ := tO a q
        refine ⟨?_, z2, by rw [keep a q]; exact z3⟩
        cases w : H a with
        | none => exact absurd w z3
        | some o => rw [g.2 a o (c0 a q o w)]; exact z1
      · rw [o3N a q] at e
        obtain ⟨e', _⟩ := hdO_some.mp e
        obtain ⟨z1, z2, z3⟩ := y.oh a i e'
        exact ⟨z1, by rw [c1 a q] at z2; exact z2, z3⟩
    · by_cases hi : i < m
      · have z : own O3 i H' = own O2 i H' := by
          refine own_of fun a => ?_
          by_cases q : T a
          · obtain ⟨j, ej⟩ := (hT a).mp q
            rw [o3T a j ej, no2 a q]
            simp
            omega
          · rw [o3N a q, hdO_some]
            exact ⟨fun h => h.1, fun h => ⟨h, hi⟩⟩
        rw [z]
        rw [List.getElem?_append_left (by omega)] at e
        have := y.sl i t e
        rw [List.getElem?_append_left (by omega)]
        exact this
      · rw [List.getElem?_append_right (by omega)] at e
        obtain ⟨j, rfl⟩ : ∃ j, i = m + j := ⟨i - m, by omega⟩
        have e1 : ρ[j]? = some t := by rw [← hm, show m + j - m = j by omega] at e; exact e
        have z : own O3 (m + j) H' = own O (n + j) H := by
          funext a
          unfold own
          by_cases q : O a = some (n + j)
          · rw [if_pos (o3T a j q), if_pos q]
            exact keep a ((hT a).mpr ⟨j, q⟩)
          · rw [if_neg q, if_neg]
            intro w
            by_cases t : T a
            · obtain ⟨k, ek⟩ := (hT a).mp t
              rw [o3T a k ek] at w
              have : k = j := by have := Option.some.inj w; omega
              subst this
              exact q ek
            · rw [o3N a t, hdO_some] at w
              omega
        rw [z]
        have := x.sl (n + j) t (by rw [List.getElem?_append_right (by omega)]; rw [← hn, show n + j - n = j by omega]; exact e1)
        rw [List.getElem?_append_right (by omega), show n + j - us.length = j by omega] at this
        rw [List.getElem?_append_right (by omega), show m + j - wt.length = j by omega]
        exact this.mono g.1
theorem RS.home {s r : Sl} {v w : V} (x : RS K mg τ Ho G (s :: r :: ρ) (some v :: some w :: σ) H) {i : Nat} (hw : σ[i]? = some (some w)) : RS K mg τ Ho G (s :: ρ.set i r) (some v :: σ) H := by
  obtain ⟨Ho', h1, h2, back⟩ := x.lend
  have y := h2.assign i
  have : σ.set i (some w) = σ := by
    refine List.ext_getElem? fun j => ?_
    by_cases q : j = i
    · subst q
      rw [List.getElem?_set_self (List.getElem?_eq_some_iff.mp hw).1, hw]
    · rw [List.getElem?_set_ne (Ne.symm q)]
  rw [this] at y
  exact back G _ _ H Gr.refl y
theorem RS.pop2 {s r : Sl} {v w : Option V} (x : RS K mg τ Ho G (s :: r :: ρ) (v :: w :: σ) H) : RS K mg τ Ho G (s :: ρ) (v :: σ) H := by
  obtain ⟨Ho', h1, h2, back⟩ := x.lend
  exact back G _ _ H Gr.refl h2.pop
end
end DS
set_option Elab.async false
set_option linter.all false
set_option maxRecDepth 100000
namespace DS
open PySem PySem.Spec PyProof.Rows L2
inductive FR where
  | ok (s : Sl) (ss : List Sl)
  | ex (x : Exn) (ss : List Sl)
  | no
abbrev FS := List Sl → FR
def LF (K : PySem.W.Frag) (mg : Str → Option Value) (τ : Tau) (Ho G : Hp) (vs : List V) (Q : VK) (E : XK) : FR → Prop
  | .ok s ss => ∀ v G' H, RS K mg τ Ho G' (s :: ss) (some v :: vs.map some) H → Gr Ho G G' → Q v H
  | .ex x ss => ∀ cls d G' H, RS K mg τ Ho G' ss (vs.map some) H → Gr Ho G G' → RepX K mg G' x cls d → E cls d H
  | .no => False
def liftSp (K : PySem.W.Frag) (mg : Str → Option Value) (n : Nat) (F : FS) : Sp := fun vs H Q E => vs.length = n ∧ ∃ τ Ho G ss, RS K mg τ Ho G ss (vs.map some) H ∧ LF K mg τ Ho G vs Q E (F ss)
def Sl.tagged (t : Option Nat) : Sl → Sl
  | .ow _ d => .ow t d
  | .rs _ R => .rs t R
  | .er _ => .no
  | .th _ => .no
  | .td _ => .no
  | .tb => .no
  | .pn _ => .no
  | s => s
def tagFrom : Nat → List Sl → List Sl
  | _, [] => []
  | j, s :: ss => s.tagged (some j) :: tagFrom (j + 1) ss
def keep1 (j : Nat) : Sl → Sl
  | .ow (some k) d => if k = j then .ow none d else .no
  | .rs (some k) R => if k = j then .rs none R else .no
  | _ => .no
def keepL : Nat → Nat → List Sl → List Sl
  | _, 0, _ => []
  | j, n + 1, r :: ρ => keep1 j r :: keepL (j + 1) n ρ
  | j, n + 1, [] => .no :: keepL (j + 1) n []
theorem tagFrom_length : ∀ (j : Nat) (ss : List Sl), (tagFrom j ss).length = ss.length
  | _, [] => rfl
  | j, s :: ss => by simp [tagFrom, tagFrom_length (j + 1) ss]
theorem tagFrom_get : ∀ (j : Nat) (ss : List Sl) (i : Nat), (tagFrom j ss)[i]? = ss[i]?.map (Sl.tagged (some (j + i)))
  | _, [], i => by simp [tagFrom]
  | j, s :: ss, 0 => by simp [tagFrom]
  | j, s :: ss, i + 1 => by
    have := tagFrom_get (j + 1) ss i
    simp only [tagFrom, List.getElem?_cons_succ, this]
    rw [show j + 1 + i = j + (i + 1) by omega]
theorem keepL_length : ∀ (j n : Nat) (ρ : List Sl), (keepL j n ρ).length = n
  | _, 0, _ => rfl
  | j, n + 1, r :: ρ => by simp [keepL, keepL_length (j + 1) n ρ]
  | j, n + 1, [] => by simp [keepL, keepL_length (j + 1) n []]
theorem keepL_get : ∀ (j n : Nat) (ρ : List Sl) (i : Nat) (s : Sl), (keepL j n ρ)[i]? = some s → s = .no ∨ ∃ r, ρ[i]? = some r ∧ s = keep1 (j + i) r
  | _, 0, _, i, s, h => by simp [keepL] at h
  | j, n + 1, r :: ρ, 0, s, h => by
    simp [keepL] at h
    subst h
    exact .inr ⟨r, rfl, rfl⟩
  | j, n + 1, r :: ρ, i + 1, s, h => by
    rcases keepL_get (j + 1) n ρ i s (by simpa [keepL] using h) with h | ⟨r', h1, h2⟩
    · exact .inl h
    · exact .inr ⟨r', by simpa using h1, by rw [h2, show j + 1 + i = j + (i + 1) by omega]⟩
  | j, n + 1, [], 0, s, h => by simp [keepL] at h; exact .inl h.symm
  | j, n + 1, [], i + 1, s, h => by
    rcases keepL_get (j + 1) n [] i s (by simpa [keepL] using h) with h | ⟨r', h1, h2⟩
    · exact .inl h
    · simp at h1
section
variable {K : PySem.W.Frag} {mg : Str → Option Value} {τ τ' : Tau} {Ho G : Hp} {ρ ρ' : List Sl} {σ σ' : L2.St} {H : Hp}
theorem RS.recast (x : RS K mg τ Ho G ρ σ H) (hl : ρ'.length = σ'.length) (h : ∀ (i : Nat) (s' : Sl), ρ'[i]? = some s' → s' = .no ∨ ∃ s : Sl, ρ[i]? = some s ∧ ∀ hh, SlOk K mg τ G hh s (σ[i]?.join) → SlOk K mg τ' G hh s' (σ'[i]?.join)) : RS K mg τ' Ho G ρ' σ' H := by
  obtain ⟨O, x⟩ := x
  refine ⟨O, x.gh, x.oh, x.out, hl, fun i s' e => ?_⟩
  rcases h i s' e with rfl | ⟨s, h1, h2⟩
  · trivial
  · exact h2 _ (x.sl i s h1)
theorem SlOk.tag {G hh : Hp} {s : Sl} {v : V} {t : Option Nat} (x : SlOk K mg τ G hh s (some v)) (h : ∀ a, v = .ref a → tg τ' t a) : SlOk K mg τ' G hh (s.tagged t) (some v) := by
  cases s with
  | no => trivial
  | sh d => exact x
  | ow u d => obtain ⟨a, o, h1, _, h2, h3⟩ := x; cases h1; exact ⟨a, o, rfl, h a rfl, h2, h3⟩
  | rs u R => obtain ⟨a, h1, _, h2⟩ := x; cases h1; exact ⟨a, rfl, h a rfl, h2⟩
  | er x => trivial
  | th x => trivial
  | td x => trivial
  | tb => trivial
  | op y ds => exact x
  | pn k => trivial
def tagN (vs : List V) (j : Nat) : Option Addr := match vs[j]? with
  | some (.ref a) => some a
  | _ => none
def tags (vs : List V) : Tau := ⟨tagN vs, none, none, []⟩
theorem tags_tg {vs : List V} {j : Nat} {v : V} (e : vs[j]? = some v) : ∀ a, v = .ref a → tg (tags vs) (some j) a := by
  rintro a rfl k q
  cases q
  show tagN vs j = _
  unfold tagN
  rw [e]
theorem tags_v {vs : List V} {j : Nat} {a : Addr} (h : (tags vs).ar j = some a) : vs[j]? = some (.ref a) := by
  replace h : tagN vs j = some a := h
  unfold tagN at h
  split at h
  · rename_i b e
    cases h
    exact e
  · cases h
theorem RS.enter {ss : List Sl} {vs : List V} {N : List Str} (x : RS K mg τ Ho G ss (vs.map some) H) : RS K mg (tags vs) Ho G (tagFrom 0 ss ++ List.replicate (N.length - vs.length) .no) (L2.start N vs) H := by
  have l : ss.length = vs.length := by simpa using x.len
  refine x.recast (by simp [L2.start, tagFrom_length, l]) fun i s' e => ?_
  by_cases hi : i < ss.length
  · rw [List.getElem?_append_left (by rw [tagFrom_length]; exact hi), tagFrom_get] at e
    cases q : ss[i]? with
    | none => rw [q] at e; cases e
    | some s =>
      rw [q] at e
      cases e
      refine .inr ⟨s, rfl, fun hh y => ?_⟩
      have hv : ∃ v, vs[i]? = some v := ⟨vs[i]'(by omega), by simp [show i < vs.length by omega]⟩
      obtain ⟨v, hv⟩ := hv
      have e1 : (vs.map some)[i]?.join = some v := by rw [List.getElem?_map, hv]; rfl
      have e2 : (L2.start N vs)[i]?.join = some v := by
        unfold L2.start
        rw [List.getElem?_append_left (by simp; omega), List.getElem?_map, hv]
        rfl
      rw [e1] at y
      rw [e2, Nat.zero_add]
      exact y.tag (tags_tg hv)
  · rw [List.getElem?_append_right (by rw [tagFrom_length]; omega)] at e
    left
    rw [List.getElem?_replicate] at e
    split at e
    · cases e; rfl
    · cases e
theorem RS.exit {s : Sl} {v : V} {vs : List V} {σ : L2.St} (x : RS K mg (tags vs) Ho G (s :: ρ) (some v :: σ) H) : RS K mg τ Ho G (s.tagged none :: keepL 0 vs.length ρ) (some v :: vs.map some) H := by
  refine x.recast (by simp [keepL_length]) fun i s' e => ?_
  cases i with
  | zero =>
    simp at e
    subst e
    exact .inr ⟨s, rfl, fun hh y => y.tag fun a _ k q => nomatch q⟩
  | succ i =>
    simp only [List.getElem?_cons_succ] at e
    rcases keepL_get _ _ _ _ _ e with rfl | ⟨r, h1, rfl⟩
    · exact .inl rfl
    rw [Nat.zero_add]
    cases r with
    | no => exact .inl rfl
    | sh d => exact .inl rfl
    | er x => exact .inl rfl
    | th x => exact .inl rfl
    | td x => exact .inl rfl
    | tb => exact .inl rfl
    | op y ds => exact .inl rfl
    | pn k => exact .inl rfl
    | ow t d =>
      cases t with
      | none => exact .inl rfl
      | some k =>
        by_cases hk : k = i
        · subst hk
          refine .inr ⟨_, by simpa using h1, fun hh y => ?_⟩
          obtain ⟨a, o, _, h2, h3, h4⟩ := y
          simp only [keep1, if_pos]
          exact ⟨a, o, by simp [tags_v (h2 _ rfl)], (fun _ q => nomatch q), h3, h4⟩
        · left; simp [keep1, hk]
    | rs t R =>
      cases t with
      | none => exact .inl rfl
      | some k =>
        by_cases hk : k = i
        · subst hk
          refine .inr ⟨_, by simpa using h1, fun hh y => ?_⟩
          obtain ⟨a, _, h2, h3⟩ := y
          simp only [keep1, if_pos]
          exact ⟨a, by simp [tags_v (h2 _ rfl)], (fun _ q => nomatch q), h3⟩
        · left; simp [keep1, hk]
end
def mkF (n N : Nat) (body : MS) : FS := fun ss => match body (tagFrom 0 ss ++ List.replicate (N - n) .no) with
  | .nx ρ => .ok (.sh .non) (keepL 0 n ρ)
  | .rt s ρ => .ok (s.tagged none) (keepL 0 n ρ)
  | .ex x ρ => .ex x (keepL 0 n ρ)
  | _ => .no
structure FnG (g : Bool) (P : Program) (w : World) (K : PySem.W.Frag) (mg : Str → Option Value) (base : Heap) (k : Nat) (f : Addr) (fd : FuncData) (ps : List Str) (sp : Sp) : Prop where
  len : ∀ vs H Q E, sp vs H Q E → vs.length = ps.length
  run : ∀ (A : Around), (g = true → A.guards = some []) → ∀ (outer : List Env) (s : Shared) (H : Hp) (args : Args) (us : List Value) (vs : List V) (Q : VK) (E : XK), Room k A → Env0 P w K mg base A outer s H → BindsTo s fd args (ps.zip us) → Vals vs us → sp vs H Q E →
    codeAny (model P w) A (.call (.ref f) args) (CR (L2.CX P w) outer P w H s Q E) s
theorem FnG.mono {g : Bool} {P : Program} {w : World} {K : PySem.W.Frag} {mg : Str → Option Value} {base : Heap} {j k : Nat} {f : Addr} {fd : FuncData} {ps : List Str} {sp : Sp} (F : FnG g P w K mg base j f fd ps sp) (h : j ≤ k) : FnG g P w K mg base k f fd ps sp :=
  ⟨F.len, fun A hg outer s H args us vs Q E hr => F.run A hg outer s H args us vs Q E (hr.mono h)⟩
theorem FnG.ok {P : Program} {w : World} {K : PySem.W.Frag} {mg : Str → Option Value} {base : Heap} {k : Nat} {f : Addr} {fd : FuncData} {ps : List Str} {sp : Sp} (F : FnG false P w K mg base k f fd ps sp) : FnOk P w K mg base (L2.CX P w) k f fd ps sp :=
  ⟨F.len, fun A => F.run A (fun z => nomatch z)⟩
theorem FnG.of {g : Bool} {P : Program} {w : World} {K : PySem.W.Frag} {mg : Str → Option Value} {base : Heap} {k : Nat} {f : Addr} {fd : FuncData} {ps : List Str} {sp : Sp} (F : FnOk P w K mg base (L2.CX P w) k f fd ps sp) : FnG g P w K mg base k f fd ps sp :=
  ⟨F.len, fun A _ => F.run A⟩
theorem fnG_of {g : Bool} {P : Program} {w : World} {K : PySem.W.Frag} {mg : Str → Option Value} {base : Heap} {k : Nat} {x qual : Str} {st : Stmt} {f : Addr} {fd : FuncData} {N ps : List Str} {sp : Sp} (F : Fun K x qual st f fd) (S : FnScope N ps (defScope st))
    (len : ∀ vs H Q E, sp vs H Q E → vs.length = ps.length)
    (hbody : ∀ (cdv : Value) (A : Around), (g = true → A.guards = some []) → ∀ (outer : List Env) (s : Shared) (H : Hp) (vs : List V) (Q : VK) (E : XK), Room k (A.deeper (envOfC qual (defScope st) s.heap.objs.size f cdv)) → sp vs H Q E →
      ∃ t, PSs (cxOf (L2.CX P w) P w K mg base N qual (defScope st) f cdv A outer s H E) (defBody st) t ∧ t { nx := fun _ H' => Q .non H', rt := Q } (L2.start N vs) H) : FnG g P w K mg base (k + 1) f fd ps sp := by
  obtain ⟨oc, od, kV, doc, pm, an, cdv, ct, osl, rfl, lk, hcd⟩ := F.ex
  refine ⟨len, fun A hg outer s H args us vs Q E hr e0 hb r hsp => ?_⟩
  have kIn : K.In s.heap := e0.mod.kin.keeps fun b o e => (e0.bs b o e).1
  have noL : s.heap.NoLimit := e0.mod.nolimit.keeps fun b o e => (e0.bs b o e).1
  have hkind : ∀ y ∈ ps.zip us, (defScope st).names.lookup y.1 = some .local ∨ ((defScope st).names.lookup y.1 = some .cell ∧ ((cellsFrom (s.heap.objs.size + 1) (defScope st).names []).lookup y.1).isSome = true) := by
    rintro ⟨n, v⟩ hy
    rcases S.par n (List.of_mem_zip hy).1 with q | q
    · exact .inl q
    · exact .inr ⟨q, PySem.W.cellsFrom_some _ _ _ (.inl q)⟩
  refine codeAny_call_function hr.depth (kIn _ _ lk) rfl S.co S.gen rfl (PySem.W.codeRec_of kIn hcd) (hb _ _ _ _ ?_)
  refine wpAny_newFunctionEnv_cells S.kind hkind fun env he s1 x => ?_
  subst he
  refine ⟨noL.keeps x.toInCall.keep, codeAny_func ?_⟩
  obtain ⟨t, ht, hq⟩ := hbody cdv A hg outer s H vs Q E (hr.deeper _) hsp
  have I : Inv (cxOf (L2.CX P w) P w K mg base N qual (defScope st) f cdv A outer s H E) [] (L2.start N vs) H s1 := inv_start S hr.hd e0 (len _ _ _ _ hsp) r x
  refine wpAny_mono (ht.run [] s1 (L2.start N vs) H _ I hq) (fun fl s' hs => ?_) fun e s' hs => hs
  cases fl with
  | ret u =>
    obtain ⟨v, σ', H', J, rv, q⟩ := hs
    exact ⟨v, H', J.os, J.bare, J.base, J.hok, rv, q⟩
  | next =>
    obtain ⟨σ', H', J, q⟩ := hs
    exact ⟨V.non, H', J.os, J.bare, J.base, J.hok, rfl, q⟩
  | brk =>
    obtain ⟨_, _, _, z⟩ := hs
    exact z.elim
  | cont =>
    obtain ⟨_, _, _, z⟩ := hs
    exact z.elim
def mkZ (P : Program) (w : World) (K : PySem.W.Frag) (mg : Str → Option Value) (base : Heap) (N : List Str) (qual : Str) (sc : Scope) (f : Addr) (cdv : Value) (A : Around) (outer : List Env) (s : Shared) (H : Hp) (E : XK) (τ : Tau) (Ho G0 : Hp) (Ex : Exn → List Sl → Prop) (k : Nat) (g : Bool) (hg : g = true → A.guards = some [])
    (room : Room k (A.deeper (envOfC qual sc s.heap.objs.size f cdv))) (tk : Takes (cxOf (L2.CX P w) P w K mg base N qual sc f cdv A outer s H E) (fun cls d σ H => ∃ G ρ x, RS K mg τ Ho G ρ σ H ∧ Gr Ho G0 G ∧ RepX K mg G x cls d ∧ Ex x ρ)) : DC :=
  ⟨cxOf (L2.CX P w) P w K mg base N qual sc f cdv A outer s H E, τ, Ho, G0, Ex, k, g, hg, false, room.dp, room.un, fun _ => room.hd, fun _ => rfl, tk⟩
theorem mkZ_N {P : Program} {w : World} {K : PySem.W.Frag} {mg : Str → Option Value} {base : Heap} {N : List Str} {qual : Str} {sc : Scope} {f : Addr} {cdv : Value} {A : Around} {outer : List Env} {s : Shared} {H : Hp} {E : XK} {τ : Tau} {Ho G0 : Hp} {Ex : Exn → List Sl → Prop} {k : Nat} {g : Bool} {hg room tk} : (mkZ P w K mg base N qual sc f cdv A outer s H E τ Ho G0 Ex k g hg room tk).X.N = N := rfl
theorem mkZ_sc {P : Program} {w : World} {K : PySem.W.Frag} {mg : Str → Option Value} {base : Heap} {N : List Str} {qual : Str} {sc : Scope} {f : Addr} {cdv : Value} {A : Around} {outer : List Env} {s : Shared} {H : Hp} {E : XK} {τ : Tau} {Ho G0 : Hp} {Ex : Exn → List Sl → Prop} {k : Nat} {g : Bool} {hg room tk} : (mkZ P w K mg base N qual sc f cdv A outer s H E τ Ho G0 Ex k g hg room tk).X.env.scope = sc := rfl
theorem fn_ds {g : Bool} {P : Program} {w : World} {K : PySem.W.Frag} {mg : Str → Option Value} {base : Heap} {x qual : Str} {st : Stmt} {f : Addr} {fd : FuncData} {N ps : List Str} {k : Nat} {body : MS} (F : Fun K x qual st f fd) (S : FnScope N ps (defScope st))
    (hb : ∀ cdv A outer s H E τ Ho G0 Ex hg room tk, DSs (mkZ P w K mg base N qual (defScope st) f cdv A outer s H E τ Ho G0 Ex k g hg room tk) (defBody st) body) : FnG g P w K mg base (k + 1) f fd ps (liftSp K mg ps.length (mkF ps.length N.length body)) := by
  refine fnG_of F S (fun vs H Q E h => h.1) fun cdv A hg outer s H vs Q E hr h => ?_
  obtain ⟨hl, τ, Ho, G, ss, r, h⟩ := h
  have r0 := r.enter (N := N)
  rw [hl] at r0
  have tk : Takes (cxOf (L2.CX P w) P w K mg base N qual (defScope st) f cdv A outer s H E) (fun cls d σ H => ∃ G1 ρ x, RS K mg (tags vs) Ho G1 ρ σ H ∧ Gr Ho G G1 ∧ RepX K mg G1 x cls d ∧ body (tagFrom 0 ss ++ List.replicate (N.length - ps.length) .no) = .ex x ρ) := by
    refine (takes_of rfl rfl rfl rfl).imp fun cls d σ H' ⟨G1, ρ1, x, h1, h2, h3, h4⟩ => ?_
    unfold mkF at h
    rw [h4] at h
    have y := (h1.push (d := .non) (v := .non) rep_non).exit (τ := τ)
    rw [hl] at y
    exact h cls d G1 H' y.pop h2 h3
  obtain ⟨ts, pt, ht⟩ := hb cdv A outer s H E (tags vs) Ho G (fun x ρ => body (tagFrom 0 ss ++ List.replicate (N.length - ps.length) .no) = .ex x ρ) hg hr tk
  refine ⟨ts, pt, ht Ho (Same.refl _) G _ _ H _ ⟨r0, Same.refl _, Gr.refl⟩ ?_⟩
  unfold mkF at h
  suffices z : ∀ r1, r1 = body (tagFrom 0 ss ++ List.replicate (N.length - ps.length) .no) → LX _ Ho G r1 _ from z _ rfl
  intro r1 e
  cases r1 with
  | nx ρ =>
    rw [← e] at h
    intro σ' G' H' x' g'
    have y := (x'.rs.push (d := .non) (v := .non) rep_non).exit (τ := τ)
    rw [hl] at y
    exact h _ _ _ y g'
  | rt s1 ρ =>
    rw [← e] at h
    intro v σ' G' H' x' g'
    have y := x'.rs.exit (τ := τ)
    rw [hl] at y
    exact h _ _ _ y g'
  | bk ρ => rw [← e] at h; exact h.elim
  | ct ρ => rw [← e] at h; exact h.elim
  | ex y ρ => exact e.symm
  | no => rw [← e] at h; exact h.elim
inductive ArgR (K : PySem.W.Frag) (mg : Str → Option Value) (G : Hp) (σ : L2.St) : List (Option Nat) → List D → List V → Prop
  | nil : ArgR K mg G σ [] [] []
  | dt {d : D} {v : V} {rs : List (Option Nat)} {ds : List D} {vs : List V} : Rep K mg G d v → ArgR K mg G σ rs ds vs → ArgR K mg G σ (none :: rs) (d :: ds) (v :: vs)
  | rf {i : Nat} {v : V} {rs : List (Option Nat)} {ds : List D} {vs : List V} : σ[i]? = some (some v) → ArgR K mg G σ rs ds vs → ArgR K mg G σ (some i :: rs) ds (v :: vs)
theorem ArgR.mono {K : PySem.W.Frag} {mg : Str → Option Value} {G G' : Hp} {σ : L2.St} {rs : List (Option Nat)} {ds : List D} {vs : List V} (e : Same G G') (h : ArgR K mg G σ rs ds vs) : ArgR K mg G' σ rs ds vs := by
  induction h with
  | nil => exact .nil
  | dt h _ ih => exact .dt (Rep.mono e _ _ h) ih
  | rf h _ ih => exact .rf h ih
theorem ArgR.length {K : PySem.W.Frag} {mg : Str → Option Value} {G : Hp} {σ : L2.St} {rs : List (Option Nat)} {ds : List D} {vs : List V} (h : ArgR K mg G σ rs ds vs) : vs.length = rs.length := by
  induction h with
  | nil => rfl
  | dt _ _ ih => simp [ih]
  | rf _ _ ih => simp [ih]
def LAr (Z : DC) (Ho : Hp) (G : Hp) (σ : L2.St) (rs : List (Option Nat)) (r : Res (List D)) (Q : List V → Hp → Prop) : Prop := match r with
  | .ok ds ρ => ∀ vs G' H', Z.R Ho G' ρ σ H' → Gr Ho G G' → ArgR Z.X.K Z.X.mg G' σ rs ds vs → Q vs H'
  | .ex x ρ => Z.Ex x ρ
  | .no => False
def DAr (Z : DC) (es : List Expr) (rs : List (Option Nat)) (t : M (List D)) : Prop := ∃ te, PA Z.X es te ∧ ∀ Ho, Same Z.Ho Ho → ∀ G ρ σ H Q, Z.R Ho G ρ σ H → LAr Z Ho G σ rs (t ρ) Q → te σ H Q
def refOk : Option Sl → Bool
  | some (.ow _ _) => true
  | some (.rs _ _) => true
  | _ => false
def dRef (i : Nat) (u : M (List D)) : M (List D) := fun ρ => if refOk ρ[i]? then u ρ else .no
section
variable {Z : DC} {Ho : Hp} {m : Md} {e : Expr} {es : List Expr} {t : M D} {pos p : Pos} {rs : List (Option Nat)} {u : M (List D)}
theorem LAr.then {α : Type} {r : Res (List D)} {u : List D → M α} {L : Res α → Prop} {G : Hp} {σ : L2.St} {Q : List V → Hp → Prop} (hex : ∀ x ρ, L (.ex x ρ) → Z.Ex x ρ) (hno : L .no → False)
    (h : L (r.bind u)) (hq : ∀ ds ρ vs G' H', Z.R Ho G' ρ σ H' → Gr Ho G G' → ArgR Z.X.K Z.X.mg G' σ rs ds vs → L (u ds ρ) → Q vs H') : LAr Z Ho G σ rs r Q := by
  cases r with
  | ok d ρ => exact fun v G' H' x g b => hq d ρ v G' H' x g b h
  | ex x ρ => exact hex x ρ h
  | no => exact hno h
theorem LAr.from {ρ : List Sl} {t : Res (List D)} {G G1 : Hp} {σ : L2.St} {Q : List V → Hp → Prop} (g : Gr Ho G G1) (q : LAr Z Ho G σ rs t Q) : LAr Z Ho G1 σ rs t Q := by
  cases t with
  | ok c ρ' => exact fun v G' H' x g' br => q v G' H' x (g.trans g') br
  | ex x ρ' => exact q
  | no => exact q
theorem dar_nil : DAr Z [] [] dNil := ⟨_, pa_nil, fun Ho hw G ρ σ H Q x q => q [] G H x Gr.refl .nil⟩
theorem dar_cons (h : DE Z m e t) (hr : DAr Z es rs u) (hb : m.b = false := by rfl) (hs : starEach (e :: es) Z.X.env = (false, eval e Z.X.env) :: starEach es Z.X.env := by rfl) : DAr Z (e :: es) (none :: rs) (dCons t u) := by
  obtain ⟨te, pa, sa⟩ := h
  obtain ⟨tu, pr, sr⟩ := hr
  refine ⟨_, pa_cons pa pr hs, fun Ho hw G ρ σ H Q x q => ?_⟩
  refine sa Ho hw G ρ σ H _ x (DE.then (L := fun r => LAr Z Ho G σ (none :: rs) r Q) (fun _ _ h => h) (fun h => h) q fun d ρ1 v G1 H1 x1 g1 s1 b1 q1 => ?_)
  refine sr Ho hw G1 ρ1 σ H1 _ x1 (LAr.then (L := fun r => LAr Z Ho G σ (none :: rs) r Q) (fun _ _ h => h) (fun h => h) q1 fun ds ρ2 vs G2 H2 x2 g2 b2 q2 => ?_)
  rw [hb] at b1
  exact q2 (v :: vs) G2 H2 x2 (g1.trans g2) (.dt (Rep.mono g2.1 _ _ b1.rep) b2)
theorem DC.R.bound {G H : Hp} {ρ : List Sl} {σ : L2.St} (x : Z.R Ho G ρ σ H) {i : Nat} (h : refOk ρ[i]? = true) : ∃ a, σ[i]? = some (some (.ref a)) := by
  obtain ⟨O, y⟩ := x.rs
  cases e : ρ[i]? with
  | none => rw [e] at h; cases h
  | some s =>
    rw [e] at h
    have z := y.sl i s e
    cases s <;> try (cases h; done)
    · obtain ⟨a, o, h1, _⟩ := z
      refine ⟨a, ?_⟩
      cases q : σ[i]? with
      | none => rw [q] at h1; cases h1
      | some w => rw [q] at h1; rw [show w = some (.ref a) from h1]
    · obtain ⟨a, h1, _⟩ := z
      refine ⟨a, ?_⟩
      cases q : σ[i]? with
      | none => rw [q] at h1; cases h1
      | some w => rw [q] at h1; rw [show w = some (.ref a) from h1]
theorem dar_ref (i : Nat) {x : Str} (hr : DAr Z es rs u) (hN : Z.X.N[i]? = some x := by rfl) (hv : Vis Z.X.env.scope x := by first | exact Or.inl rfl | exact Or.inr (Or.inl rfl) | exact Or.inr (Or.inr rfl)) (hd : (x == ("__debug__" : Str)) = false := by decide)
    (hcd : (x == ("__classdict__" : Str)) = false := by decide) (hs : starEach ((.Name x pos : Expr) :: es) Z.X.env = (false, eval (.Name x pos) Z.X.env) :: starEach es Z.X.env := by rfl) : DAr Z (.Name x pos :: es) (some i :: rs) (dRef i u) := by
  obtain ⟨tu, pr, sr⟩ := hr
  refine ⟨_, pa_cons (pe_var hN hv hd hcd) pr hs, fun Ho hw G ρ σ H Q x q => ?_⟩
  unfold dRef at q
  by_cases hi : refOk ρ[i]? = true
  · rw [if_pos hi] at q
    obtain ⟨a, ha⟩ := x.bound hi
    refine ⟨_, ha, sr Ho hw G ρ σ H _ x ?_⟩
    cases e : u ρ with
    | ok ds ρ' =>
      rw [e] at q
      exact fun vs G' H' x' g' b' => q _ G' H' x' g' (.rf ha b')
    | ex y ρ' => rw [e] at q; exact q
    | no => rw [e] at q; exact q
  · rw [if_neg hi] at q
    exact q.elim
end
def mk : List (Option Nat) → List D → List Sl → Option (List Sl × List Sl)
  | [], [], ρ => some ([], ρ)
  | none :: rs, d :: ds, ρ => match mk rs ds ρ with
    | some (ss, ρ') => some (.sh d :: ss, ρ')
    | none => none
  | some i :: rs, ds, ρ => match mk rs ds ρ with
    | some (ss, ρ') => if refOk ρ'[i]? then (ρ'[i]?).map fun s => (s :: ss, ρ'.set i .no) else none
    | none => none
  | _, _, _ => none
def tagOf : Option Sl → Option Nat
  | some (.ow t _) => t
  | some (.rs t _) => t
  | _ => none
def back : List (Option Nat) → List Sl → List Sl → List Sl → List Sl
  | none :: rs, _ :: ss, ρ1, ρ => back rs ss ρ1 ρ
  | some i :: rs, r :: ss, ρ1, ρ => back rs ss ρ1 (ρ.set i (r.tagged (tagOf ρ1[i]?)))
  | _, _, _, ρ => ρ
section
variable {K : PySem.W.Frag} {mg : Str → Option Value} {τ : Tau} {Ho G : Hp}
theorem mk_ok : ∀ {rs : List (Option Nat)} {ds : List D} {vs : List V} {ρ : List Sl} {σ : L2.St} {H : Hp} {ss ρ' : List Sl}, ArgR K mg G σ rs ds vs → mk rs ds ρ = some (ss, ρ') → RS K mg τ Ho G ρ σ H → RS K mg τ Ho G (ss ++ ρ') (vs.map some ++ σ) H ∧ ss.length = vs.length
  | [], [], _, ρ, σ, H, ss, ρ', .nil, h, x => by
    simp [mk] at h
    obtain ⟨rfl, rfl⟩ := h
    exact ⟨x, rfl⟩
  | none :: rs, d :: ds, _, ρ, σ, H, ss, ρ', .dt r a, h, x => by
    unfold mk at h
    cases e : mk rs ds ρ with
    | none => rw [e] at h; cases h
    | some q =>
      obtain ⟨ss1, ρ1⟩ := q
      rw [e] at h
      cases h
      obtain ⟨y, l⟩ := mk_ok a e x
      exact ⟨y.push r, by simp [l]⟩
  | some i :: rs, ds, v :: vs, ρ, σ, H, ss, ρ', .rf hv a, h, x => by
    unfold mk at h
    cases e : mk rs ds ρ with
    | none => rw [e] at h; cases h
    | some q =>
      obtain ⟨ss1, ρ1⟩ := q
      rw [e] at h
      obtain ⟨y, l⟩ := mk_ok a e x
      simp only at h
      by_cases hr : refOk ρ1[i]? = true
      · rw [if_pos hr] at h
        cases es : ρ1[i]? with
        | none => rw [es] at h; cases h
        | some s =>
          rw [es] at h
          cases h
          refine ⟨?_, by simp [l]⟩
          have z := y.move (i := ss1.length + i) (s := s) (v := v) (by rw [List.getElem?_append_right (by omega)]; rw [show ss1.length + i - ss1.length = i by omega]; exact es) (by rw [List.getElem?_append_right (by simp; omega)]; simp [l, hv])
          rw [List.set_append_right _ _ (by omega), show ss1.length + i - ss1.length = i by omega] at z
          exact z
      · rw [if_neg hr] at h
        cases h
theorem RS.tagAt {ρ : List Sl} {σ : L2.St} {H : Hp} (x : RS K mg τ Ho G ρ σ H) {i : Nat} {v : V} (hv : σ[i]? = some (some v)) : ∀ a, v = .ref a → tg τ (tagOf ρ[i]?) a := by
  obtain ⟨O, x⟩ := x
  rintro a rfl
  cases e : ρ[i]? with
  | none => exact fun _ q => nomatch q
  | some s =>
    have z := x.sl i s e
    rw [hv] at z
    cases s with
    | no => exact fun _ q => nomatch q
    | sh d => exact fun _ q => nomatch q
    | ow t d => obtain ⟨b, o, h1, h2, _⟩ := z; cases h1; exact h2
    | rs t R => obtain ⟨b, h1, h2, _⟩ := z; cases h1; exact h2
    | er x => exact fun _ q => nomatch q
    | th x => exact fun _ q => nomatch q
    | td x => exact fun _ q => nomatch q
    | tb => exact fun _ q => nomatch q
    | op y ds => exact fun _ q => nomatch q
    | pn k => exact fun _ q => nomatch q
theorem back_ok : ∀ {rs : List (Option Nat)} {ds : List D} {vs : List V} {ss ρ1 ρ : List Sl} {σ : L2.St} {H : Hp} {s : Sl} {v : V}, ArgR K mg G σ rs ds vs → (∀ (i : Nat) (w : V), σ[i]? = some (some w) → ∀ a, w = V.ref a → tg τ (tagOf ρ1[i]?) a) → ss.length = vs.length → ∀ {G' : Hp}, RS K mg τ Ho G' (s :: (ss ++ ρ)) (some v :: (vs.map some ++ σ)) H →
    RS K mg τ Ho G' (s :: back rs ss ρ1 ρ) (some v :: σ) H
  | [], [], _, ss, ρ1, ρ, σ, H, s, v, .nil, _, l, _, x => by
    have : ss = [] := List.length_eq_zero_iff.mp l
    subst this
    exact x
  | none :: rs, d :: ds, _, ss, ρ1, ρ, σ, H, s, v, .dt r a, ht, l, _, x => by
    cases ss with
    | nil => simp at l
    | cons r ss => exact back_ok (rs := rs) a ht (by simpa using l) x.pop2
  | some i :: rs, ds, w :: vs, ss, ρ1, ρ, σ, H, s, v, .rf hv a, ht, l, G', x => by
    cases ss with
    | nil => simp at l
    | cons r ss =>
      unfold back
      have ll : ss.length = vs.length := by simpa using l
      have y : RS K mg τ Ho G' (s :: r.tagged (tagOf ρ1[i]?) :: (ss ++ ρ)) (some v :: some w :: (vs.map some ++ σ)) H := by
        refine RS.recast x (by have := x.len; simpa using this) fun j s' e => ?_
        match j with
        | 0 => simp at e; subst e; exact .inr ⟨s, rfl, fun _ y => y⟩
        | 1 =>
          simp at e
          subst e
          exact .inr ⟨r, rfl, fun hh y => SlOk.tag y (ht i w hv)⟩
        | j + 2 => exact .inr ⟨s', by simpa using e, fun _ y => by simpa using y⟩
      have z := y.home (i := ss.length + i) (by rw [List.getElem?_append_right (by simp; omega)]; simp [ll, hv])
      rw [List.set_append_right _ _ (by omega), show ss.length + i - ss.length = i by omega] at z
      exact back_ok (rs := rs) a ht ll z
end
def dCall (F : FS) (rs : List (Option Nat)) (u : M (List D)) : M Sl := bnd u fun ds ρ1 => match mk rs ds ρ1 with
  | none => .no
  | some (ss, ρ2) => match F ss with
    | .ok s ss' => if ss'.length = ss.length then .ok s (back rs ss' ρ1 ρ2) else .no
    | .ex x ss' => if ss'.length = ss.length then .ex x (back rs ss' ρ1 ρ2) else .no
    | .no => .no
section
variable {Z : DC} {Ho : Hp} {e : Expr} {es : List Expr} {pos p : Pos} {rs : List (Option Nat)} {u : M (List D)} {x : Str} {k n : Nat} {f : Addr} {fd : FuncData} {ps : List Str} {F : FS}
theorem call_sp {G : Hp} {σ : L2.St} {ds : List D} {ρ1 : List Sl} {vs : List V} {G1 H1 : Hp} {Q : VK} (hw : Same Z.Ho Ho) (hn : vs.length = n) (x1 : Z.R Ho G1 ρ1 σ H1) (g1 : Gr Ho G G1) (a1 : ArgR Z.X.K Z.X.mg G1 σ rs ds vs)
    (q : LR Z Ho G σ (match mk rs ds ρ1 with
      | none => .no
      | some (ss, ρ2) => match F ss with
        | .ok s ss' => if ss'.length = ss.length then .ok s (back rs ss' ρ1 ρ2) else .no
        | .ex x ss' => if ss'.length = ss.length then .ex x (back rs ss' ρ1 ρ2) else .no
        | .no => .no) Q) : liftSp Z.X.K Z.X.mg n F vs H1 Q (WE Z.W σ) := by
  cases em : mk rs ds ρ1 with
  | none => rw [em] at q; exact q.elim
  | some sr =>
    obtain ⟨ss, ρ2⟩ := sr
    rw [em] at q
    obtain ⟨y, l⟩ := mk_ok a1 em x1.rs
    obtain ⟨Ho', h1, z, bk⟩ := y.split (by simpa using l)
    refine ⟨hn, Z.τ, Ho', G1, ss, z, ?_⟩
    simp only at q
    have ht : ∀ (i : Nat) (w : V), σ[i]? = some (some w) → ∀ a, w = V.ref a → tg Z.τ (tagOf ρ1[i]?) a := fun i w hv => x1.rs.tagAt hv
    cases ef : F ss with
    | no => rw [ef] at q; exact q.elim
    | ok s ss' =>
      rw [ef] at q
      simp only at q
      by_cases hl : ss'.length = ss.length
      · rw [if_pos hl] at q
        intro v G' H' r g
        have t := bk G' (s :: ss') (some v :: vs.map some) H' g r
        have g' : Gr Ho G1 G' := g.anti h1
        exact q v G' H' (x1.to (back_ok (a1.mono g'.1) ht (by omega) t) g') (g1.trans g')
      · rw [if_neg hl] at q; exact q.elim
    | ex y' ss' =>
      rw [ef] at q
      simp only at q
      by_cases hl : ss'.length = ss.length
      · rw [if_pos hl] at q
        intro cls d G' H' r g rx
        have t := bk G' ss' (vs.map some) H' g r
        have g' : Gr Ho G1 G' := g.anti h1
        have t2 := (back_ok (s := .sh .non) (v := .non) (a1.mono g'.1) ht (by omega) (t.push rep_non)).pop
        exact ⟨G', _, y', t2.anti hw, x1.g0.trans (g'.anti hw), rx, q⟩
      · rw [if_neg hl] at q; exact q.elim
theorem pe_callG {g : Bool} {X : Cx} {sp : Sp} {E : L2.St → XK} {ta : TA} (F : FnG g X.prog X.w X.K X.mg X.base k f fd ps sp) (gd : g = true → X.A.guards = some []) (hr : Room k X.A) (hg : Gl X x) (hm : X.mg x = some (.ref f)) (hk : PySem.W.keepIn X.K (.ref f) = true) (hb : Binds X.K fd ps [])
    (hx : ∀ σ, PassesAt (L2.CX X.prog X.w) X σ (E σ)) (ha : PA X (e :: es) ta) (hdb : (x == ("__debug__" : Str)) = false) (he : starEach (e :: es) X.env = (false, eval e X.env) :: starEach es X.env) (hpl : (backTo pos (starEach es X.env)).any (·.1) = false) :
    PE X (.Call (.Name x p) (e :: es) [] pos) (fun σ H Q => ta σ H fun vs H1 => sp vs H1 Q (E σ)) := by
  refine ⟨fun pins s σ H Q I h => ?_⟩
  refine wpAny_Call_Name_kw (ld_glob I hg hm ?_ hdb)
  refine PySem.W.callWith_K (h₀ := X.base) I.ok.mod.kin hk (thn (ha.run pos pins s σ H _ I h) fun us s1 ⟨vs, H1, I1, r, q⟩ => ⟨I1.kIn, ?_⟩) he hpl
  have hl : us.length = ps.length := by rw [← r.length]; exact F.len _ _ _ _ q
  have bi := hb s1 us I1.kIn (by rw [List.append_nil]; exact hl)
  rw [List.append_nil] at bi
  refine wpAny_call (codeAny_mono (F.run X.A gd X.stack s1 H1 ⟨us, []⟩ us vs Q (E σ) hr I1.env0 bi r q) fun r s' hq => ?_)
  cases r with
  | error e => exact hx σ pins H1 s1 e s' I1 hq
  | ok fl =>
    cases fl with
    | ret u => exact I1.after hq
    | next => exact hq.elim
    | brk => exact hq.elim
    | cont => exact hq.elim
theorem dr_call {g : Bool} (O : FnG g Z.X.prog Z.X.w Z.X.K Z.X.mg Z.X.base k f fd ps (liftSp Z.X.K Z.X.mg n F)) (hgg : g = true → Z.g = true) (hk : k ≤ Z.k) (hm : Z.X.mg x = some (.ref f)) (kp : PySem.W.keepIn Z.X.K (.ref f) = true) (hb : Binds Z.X.K fd ps []) (ha : DAr Z (e :: es) rs u) (hn : rs.length = n := by rfl)
    (hg : Gl Z.X x := by first | rfl | decide) (hdb : (x == ("__debug__" : Str)) = false := by decide) (he : starEach (e :: es) Z.X.env = (false, eval e Z.X.env) :: starEach es Z.X.env := by rfl) (hpl : (backTo pos (starEach es Z.X.env)).any (·.1) = false := by rfl) (hh : Z.hot = false := by rfl) :
    DR Z (.Call (.Name x p) (e :: es) [] pos) (dCall F rs u) := by
  obtain ⟨ta, pa, sa⟩ := ha
  refine ⟨_, pe_callG (E := WE Z.W) O (fun h => Z.gd (hgg h)) ((Z.room hh).mono hk) hg hm kp hb (passAt Z.tk) pa hdb he hpl, fun Ho hw G ρ σ H Q x q => ?_⟩
  refine sa Ho hw G ρ σ H _ x (LAr.then (L := fun r => LR Z Ho G σ r Q) (fun _ _ h => h) (fun h => h) q fun ds ρ1 vs G1 H1 x1 g1 a1 q1 => ?_)
  refine call_sp hw ?_ x1 g1 a1 q1
  rw [← hn]
  exact a1.length
end
end DS
set_option Elab.async false
set_option linter.all false
set_option maxRecDepth 100000
namespace DS
open PySem PySem.Spec PyProof.Rows L2
def shOr : Option Sl → Sl
  | some (.sh d) => .sh d
  | _ => .no
def mend : List Nat → List Sl → List Sl → List Sl
  | [], _, ρ => ρ
  | i :: vs, ρ0, ρ => (mend vs ρ0 ρ).set i (shOr ρ0[i]?)
theorem mend_length : ∀ (vs : List Nat) (ρ0 ρ : List Sl), (mend vs ρ0 ρ).length = ρ.length
  | [], _, _ => rfl
  | i :: vs, ρ0, ρ => by simp [mend, mend_length vs]
theorem mend_get : ∀ (vs : List Nat) (ρ0 ρ : List Sl) (j : Nat) (s : Sl), (mend vs ρ0 ρ)[j]? = some s → (j ∈ vs ∧ s = shOr ρ0[j]?) ∨ (j ∉ vs ∧ ρ[j]? = some s)
  | [], _, ρ, j, s, h => .inr ⟨by simp, h⟩
  | i :: vs, ρ0, ρ, j, s, h => by
    unfold mend at h
    by_cases q : j = i
    · subst q
      by_cases hl : j < (mend vs ρ0 ρ).length
      · rw [List.getElem?_set_self hl] at h
        cases h
        exact .inl ⟨List.mem_cons_self, rfl⟩
      · rw [List.getElem?_eq_none (by simpa using hl)] at h
        cases h
    · rw [List.getElem?_set_ne (Ne.symm q)] at h
      rcases mend_get vs ρ0 ρ j s h with ⟨h1, h2⟩ | ⟨h1, h2⟩
      · exact .inl ⟨List.mem_cons_of_mem _ h1, h2⟩
      · exact .inr ⟨by simp [q, h1], h2⟩
theorem drops_length : ∀ (vs : List Nat) (ρ : List Sl), (drops vs ρ).length = ρ.length
  | [], _ => rfl
  | i :: vs, ρ => by
    have := drops_length vs (ρ.set i .no)
    simpa [drops] using this
theorem drops_get : ∀ (vs : List Nat) (ρ : List Sl) (j : Nat) (s : Sl), (drops vs ρ)[j]? = some s → s = .no ∨ (j ∉ vs ∧ ρ[j]? = some s)
  | [], ρ, j, s, h => .inr ⟨by simp, h⟩
  | i :: vs, ρ, j, s, h => by
    have h' : (drops vs (ρ.set i .no))[j]? = some s := h
    rcases drops_get vs _ j s h' with h1 | ⟨h1, h2⟩
    · exact .inl h1
    · by_cases q : j = i
      · subst q
        left
        by_cases hl : j < ρ.length
        · rw [List.getElem?_set_self hl] at h2
          cases h2; rfl
        · rw [List.getElem?_eq_none (by simpa using hl)] at h2
          cases h2
      · rw [List.getElem?_set_ne (Ne.symm q)] at h2
        exact .inr ⟨by simp [q, h1], h2⟩
theorem wipe_get {σ : L2.St} : ∀ {vs : List Nat} {j : Nat}, (wipe σ vs)[j]?.join = if j ∈ vs then none else σ[j]?.join
  | [], j => by simp [wipe]
  | i :: vs, j => by
    unfold wipe
    by_cases q : j = i
    · subst q
      by_cases hl : j < (wipe σ vs).length
      · rw [List.getElem?_set_self hl]; simp
      · rw [List.getElem?_eq_none (by simpa using hl)]; simp
    · rw [List.getElem?_set_ne (Ne.symm q), wipe_get]
      simp [q]
theorem wipe_wipe {σ : L2.St} {vs : List Nat} : wipe (wipe σ vs) vs = wipe σ vs := by
  have ext : ∀ {a b : L2.St}, a.length = b.length → (∀ j : Nat, a[j]?.join = b[j]?.join) → a = b := fun {a b} l h => by
    refine List.ext_getElem? fun j => ?_
    by_cases hj : j < a.length
    · have h2 : j < b.length := by omega
      have := h j
      rw [List.getElem?_eq_getElem hj, List.getElem?_eq_getElem h2] at this ⊢
      simpa using this
    · rw [List.getElem?_eq_none (by omega), List.getElem?_eq_none (by omega)]
  refine ext (by rw [wipe_length]) fun j => ?_
  rw [wipe_get, wipe_get]
  split <;> simp_all
theorem wipe_set {σ : L2.St} {vs : List Nat} {i : Nat} {v : Option V} (h : i ∈ vs) : wipe (σ.set i v) vs = wipe σ vs := by
  have ext : ∀ {a b : L2.St}, a.length = b.length → (∀ j : Nat, a[j]?.join = b[j]?.join) → a = b := fun {a b} l h => by
    refine List.ext_getElem? fun j => ?_
    by_cases hj : j < a.length
    · have h2 : j < b.length := by omega
      have := h j
      rw [List.getElem?_eq_getElem hj, List.getElem?_eq_getElem h2] at this ⊢
      simpa using this
    · rw [List.getElem?_eq_none (by omega), List.getElem?_eq_none (by omega)]
  refine ext (by rw [wipe_length, wipe_length, List.length_set]) fun j => ?_
  rw [wipe_get, wipe_get]
  by_cases q : j ∈ vs
  · simp [q]
  · have : i ≠ j := by rintro rfl; exact q h
    simp [q, List.getElem?_set_ne this]
section
variable {K : PySem.W.Frag} {mg : Str → Option Value} {τ : Tau} {Ho G G1 : Hp} {ρ ρ0 : List Sl} {σ : L2.St} {H H1 : Hp} {s : Sl} {v : Option V}
theorem RS.wiped (x : RS K mg τ Ho G (s :: ρ) (v :: σ) H) (vs : List Nat) : RS K mg τ Ho G (s :: drops vs ρ) (v :: wipe σ vs) H := by
  have l : ρ.length = σ.length := by simpa using x.len
  refine x.recast (by simp [drops_length, wipe_length, l]) fun j s' e => ?_
  cases j with
  | zero => simp at e; subst e; exact .inr ⟨s, rfl, fun _ y => y⟩
  | succ j =>
    simp only [List.getElem?_cons_succ] at e ⊢
    rcases drops_get _ _ _ _ e with h | ⟨h1, h2⟩
    · exact .inl h
    · refine .inr ⟨s', h2, fun hh y => ?_⟩
      rw [wipe_get, if_neg h1]
      exact y
theorem RS.mended (x0 : RS K mg τ Ho G1 ρ0 σ H1) (g : Same G1 G) {vs : List Nat} (x : RS K mg τ Ho G (s :: ρ) (v :: wipe σ vs) H) : RS K mg τ Ho G (s :: mend vs ρ0 ρ) (v :: σ) H := by
  have l : ρ.length = σ.length := by have := x.len; simpa [wipe_length] using this
  obtain ⟨O, x⟩ := x
  refine ⟨O, x.gh, x.oh, x.out, by simp [mend_length, l], fun j s' e => ?_⟩
  cases j with
  | zero => simp at e; subst e; simpa using x.sl 0 s rfl
  | succ j =>
    simp only [List.getElem?_cons_succ] at e ⊢
    rcases mend_get _ _ _ _ _ e with ⟨h1, rfl⟩ | ⟨h1, h2⟩
    · cases q : ρ0[j]? with
      | none => trivial
      | some s0 =>
        cases s0 <;> try trivial
        rename_i d
        obtain ⟨O0, x0⟩ := x0
        obtain ⟨u, z1, z2⟩ := x0.sl j _ q
        exact ⟨u, z1, Rep.mono g _ _ z2⟩
    · have z := x.sl (j + 1) s' (by simpa using h2)
      simp only [List.getElem?_cons_succ] at z
      rw [wipe_get, if_neg h1] at z
      exact z
end
def blkZ (Z : DC) (s : Shared) (H : Hp) (scope : Scope) (cenv : Env) (fp : List Addr) : DC :=
  ⟨Z.X.blk s H scope cenv fp, Z.τ, Z.Ho, Z.G0, fun _ _ => False, Z.k, Z.g, Z.gd, Z.hot, Z.dp, Z.un, Z.hd, Z.calm, fun u s' x => by
    obtain ⟨_, _, _, _, _, _, _, _, _, _, _, _, _, _, _, _, z⟩ := x
    obtain ⟨_, _, _, _, _, _, z⟩ := z
    exact z.elim⟩
def DGo (Z : DC) (is : List Nat) (tg : Expr) (g : D → List Sl → Option (List Sl)) : Prop := ∃ tgt, PG Z.X tg tgt ∧ ∀ Ho G ρ σ H v d Q, Z.R Ho G ρ σ H → Z.rep G d v → (∃ ρ', g d ρ = some ρ' ∧ ∀ σ', Z.R Ho G ρ' σ' H → wipe σ' is = wipe σ is → Q σ' H) → tgt v σ H Q
def DGso (Z : DC) (is : List Nat) (tgs : List Expr) (g : List D → List Sl → Option (List Sl)) : Prop := ∃ tgt, PGs Z.X tgs tgt ∧ ∀ Ho G ρ σ H vs ds Q, Z.R Ho G ρ σ H → RepL Z.X.K Z.X.mg G ds vs → (∃ ρ', g ds ρ = some ρ' ∧ ∀ σ', Z.R Ho G ρ' σ' H → wipe σ' is = wipe σ is → Q σ' H) → tgt vs σ H Q
section
variable {Z : DC} {Ho : Hp} {e : Expr} {es : List Expr} {pos : Pos} {is : List Nat}
theorem dgo_name (i : Nat) {x : Str} (hN : Z.X.N.Nodup) (hi : Z.X.N[i]? = some x := by rfl) (hx : Loc Z.X.env.scope x := by first | exact Or.inl rfl | exact Or.inr rfl) (hf : Z.X.fn x = true ∨ Z.X.env.scope.names.lookup x = some .local := by first | exact .inl rfl | exact .inr rfl)
    (hm : i ∈ is := by decide) : DGo Z is (.Name x pos) (gN i) := by
  refine ⟨_, pg_name hN hi hx hf, fun Ho G ρ σ H v d Q x r h => ?_⟩
  obtain ⟨ρ', e, q⟩ := h
  cases e
  exact q _ ((x.push r).assign i) (wipe_set hm)
theorem dgso_nil : DGso Z is [] gsNil := by
  refine ⟨_, pgs_nil, fun Ho G ρ σ H vs ds Q x r h => ?_⟩
  obtain ⟨ρ', e, q⟩ := h
  cases ds with
  | nil =>
    cases e
    unfold RepL at r
    exact ⟨r, q σ x rfl⟩
  | cons d ds => cases e
theorem dgso_cons {g : D → List Sl → Option (List Sl)} {gs : List D → List Sl → Option (List Sl)} (h1 : DGo Z is e g) (h2 : DGso Z is es gs)
    (hst : (assignEach (e :: es) Z.X.env).map (·.2) = assign e Z.X.env :: (assignEach es Z.X.env).map (·.2) := by rfl) : DGso Z is (e :: es) (gsCons g gs) := by
  obtain ⟨t1, p1, s1⟩ := h1
  obtain ⟨t2, p2, s2⟩ := h2
  refine ⟨_, pgs_cons p1 p2 hst, fun Ho G ρ σ H vs ds Q x r h => ?_⟩
  obtain ⟨ρ', e, q⟩ := h
  cases ds with
  | nil => cases e
  | cons d ds =>
    unfold RepL at r
    obtain ⟨v, vs', rfl, h2, h3⟩ := r
    simp only [gsCons, Option.bind_eq_some_iff] at e
    obtain ⟨ρ1, e1, e2⟩ := e
    refine ⟨v, vs', rfl, s1 Ho G ρ σ H v d _ x h2 ⟨ρ1, e1, fun σ1 x1 w1 => ?_⟩⟩
    exact s2 Ho G ρ1 σ1 H vs' ds Q x1 h3 ⟨ρ', e2, fun σ' x' w' => q σ' x' (w'.trans w1)⟩
theorem dgo_tup {gs : List D → List Sl → Option (List Sl)} {k : Nat} (n : Nat) (h : DGso Z is es gs) (hn : (assignEach es Z.X.env).length = n := by rfl) (hst : (assignEach es Z.X.env).findIdx? (·.1) = none := by rfl) (hh : Z.hot = false := by rfl) : DGo Z is (.Tuple es k pos) (gTp n gs) := by
  obtain ⟨t1, p1, s1⟩ := h
  refine ⟨_, pg_tup (Z.calm hh) p1 hn hst, fun Ho G ρ σ H v d Q x r h => ?_⟩
  obtain ⟨ρ', e, q⟩ := h
  cases d <;> try (cases e; done)
  · rename_i ds
    simp only [gTp] at e
    by_cases hl : ds.length = n
    · rw [if_pos hl] at e
      unfold DC.rep Rep at r
      obtain ⟨a, vs, rfl, h1, h2⟩ := r
      exact ⟨a, vs, rfl, Same.sqt x.gh h1, by rw [h2.length]; exact hl, s1 Ho G ρ σ H vs ds _ x h2 ⟨ρ', e, q⟩⟩
    · rw [if_neg hl] at e; cases e
  · rename_i ds
    simp only [gTp] at e
    by_cases hl : ds.length = n
    · rw [if_pos hl] at e
      unfold DC.rep Rep at r
      obtain ⟨a, vs, rfl, h1, h2⟩ := r
      exact ⟨a, vs, rfl, Same.sqt x.gh (SqT.of h1), by rw [h2.length]; exact hl, s1 Ho G ρ σ H vs ds _ x h2 ⟨ρ', e, q⟩⟩
    · rw [if_neg hl] at e; cases e
def DTs (Z : DC) (es : List Expr) (t : M Bool) : Prop := ∃ te, PTs Z.X es te ∧ ∀ Ho, Same Z.Ho Ho → ∀ G ρ σ H Q, Z.R Ho G ρ σ H → LT Z Ho false G H σ (t ρ) Q → te σ H Q
theorem dts_nil : DTs Z [] (ret true) := ⟨_, pts_nil, fun Ho hw G ρ σ H Q x q => q G H x Gr.refl (fun h => nomatch h)⟩
theorem dts_one {p : Bool} {t : M Bool} (h : DT Z p e t) : DTs Z [e] t := by
  obtain ⟨te, pa, sa⟩ := h.mono (p1 := false) (fun h => nomatch h)
  exact ⟨te, pts_one pa, sa⟩
def lcRun (g : D → List Sl → Option (List Sl)) (tt : M Bool) (te : M D) (own : List Nat) : List D → List D → List Sl → Option (List D × List Sl)
  | [], acc, ρ => some (acc, ρ)
  | d :: ds, acc, ρ => match g d ρ with
    | none => none
    | some ρ1 => match tt ρ1 with
      | .ok true ρ2 => match te ρ2 with
        | .ok y ρ3 => if acc.length < sizeLine then lcRun g tt te own ds (acc ++ [y]) (drops own ρ3) else none
        | _ => none
      | .ok false ρ2 => lcRun g tt te own ds acc (drops own ρ2)
      | _ => none
def dLc (t : M (List D)) (g : D → List Sl → Option (List Sl)) (tt : M Bool) (te : M D) (own : List Nat) : M Sl := bnd t fun ds ρ1 => match lcRun g tt te own ds [] (drops own ρ1) with
  | some (acc, ρe) => .ok (.ow none (.lst acc)) (mend own ρ1 ρe)
  | none => .no
theorem LI.then {α : Type} {r : Res (List D)} {u : List D → M α} {L : Res α → Prop} {G : Hp} {σ : L2.St} {Q : It → Hp → Prop} (hex : ∀ x ρ, L (.ex x ρ) → Z.Ex x ρ) (hno : L .no → False)
    (h : L (r.bind u)) (hq : ∀ ds ρ J G' H', Z.R Ho G' ρ σ H' → Gr Ho G G' → ItOk Z Ho J ds G' → L (u ds ρ) → Q J H') : LI Z Ho G σ r Q := by
  cases r with
  | ok d ρ => exact fun v G' H' x g b => hq d ρ v G' H' x g b h
  | ex x ρ => exact hex x ρ h
  | no => exact hno h
theorem blk_pg {scope : Scope} {is : List Nat} {tg : Expr} {g : D → List Sl → Option (List Sl)} (h : ∀ (s : Shared) (H : Hp) (C : Addr) (cl : List (Str × Addr)) (fp : List Addr), DGo (blkZ Z s H scope (compEnvC scope cl C Z.X.env) fp) is tg g) :
    ∃ tgt : TG, (∀ (s : Shared) (H : Hp) (C : Addr) (cl : List (Str × Addr)) (fp : List Addr), PG (Z.X.blk s H scope (compEnvC scope cl C Z.X.env) fp) tg tgt) ∧
      ∀ Ho G ρ σ H v d Q, Z.R Ho G ρ σ H → Z.rep G d v → (∃ ρ', g d ρ = some ρ' ∧ ∀ σ', Z.R Ho G ρ' σ' H → wipe σ' is = wipe σ is → Q σ' H) → tgt v σ H Q := by
  refine ⟨fun v σ H Q => ∀ s H0 C cl fp, (h s H0 C cl fp).choose v σ H Q, fun s H0 C cl fp => ?_, fun Ho G ρ σ H v d Q x r hq s H0 C cl fp => ?_⟩
  · have p := (h s H0 C cl fp).choose_spec.1
    exact ⟨fun pins s1 σ H v u D I r hh => p.run pins s1 σ H v u D I r (hh s H0 C cl fp)⟩
  · have p := (h s H0 C cl fp).choose_spec.2
    obtain ⟨ρ', e, q⟩ := hq
    exact p Ho G ρ σ H v d Q ⟨x.rs, x.ho, x.g0⟩ r ⟨ρ', e, fun σ' x' w => q σ' ⟨x'.rs, x'.ho, x'.g0⟩ w⟩
theorem blk_pt {scope : Scope} {ifs : List Expr} {tt : M Bool} (h : ∀ (s : Shared) (H : Hp) (C : Addr) (cl : List (Str × Addr)) (fp : List Addr), DTs (blkZ Z s H scope (compEnvC scope cl C Z.X.env) fp) ifs tt) :
    ∃ te : TT, (∀ (s : Shared) (H : Hp) (C : Addr) (cl : List (Str × Addr)) (fp : List Addr), PTs (Z.X.blk s H scope (compEnvC scope cl C Z.X.env) fp) ifs te) ∧
      ∀ Ho, Same Z.Ho Ho → ∀ G ρ σ H Q, Z.R Ho G ρ σ H → (∃ c ρ', tt ρ = .ok c ρ' ∧ ∀ G' H', Z.R Ho G' ρ' σ H' → Gr Ho G G' → Q c H') → te σ H Q := by
  refine ⟨fun σ H Q => ∀ s H0 C cl fp, (h s H0 C cl fp).choose σ H Q, fun s H0 C cl fp => ?_, fun Ho hw G ρ σ H Q x hq s H0 C cl fp => ?_⟩
  · have p := (h s H0 C cl fp).choose_spec.1
    exact ⟨fun pins s1 σ H Q I hh => p.run pins s1 σ H Q I (hh s H0 C cl fp)⟩
  · have p := (h s H0 C cl fp).choose_spec.2
    obtain ⟨c, ρ', e, q⟩ := hq
    refine p Ho hw G ρ σ H Q ⟨x.rs, x.ho, x.g0⟩ ?_
    rw [e]
    exact fun G' H' x' g' _ => q G' H' ⟨x'.rs, x'.ho, x'.g0⟩ g'
theorem blk_pe {scope : Scope} {elt : Expr} {m : Md} {t : M D} (hb : m.b = false) (h : ∀ (s : Shared) (H : Hp) (C : Addr) (cl : List (Str × Addr)) (fp : List Addr), DE (blkZ Z s H scope (compEnvC scope cl C Z.X.env) fp) m elt t) :
    ∃ te : TE, (∀ (s : Shared) (H : Hp) (C : Addr) (cl : List (Str × Addr)) (fp : List Addr), PE (Z.X.blk s H scope (compEnvC scope cl C Z.X.env) fp) elt te) ∧
      ∀ Ho, Same Z.Ho Ho → ∀ G ρ σ H Q, Z.R Ho G ρ σ H → (∃ d ρ', t ρ = .ok d ρ' ∧ ∀ v G' H', Z.R Ho G' ρ' σ H' → Gr Ho G G' → Z.rep G' d v → Q v H') → te σ H Q := by
  refine ⟨fun σ H Q => ∀ s H0 C cl fp, (h s H0 C cl fp).choose σ H Q, fun s H0 C cl fp => ?_, fun Ho hw G ρ σ H Q x hq s H0 C cl fp => ?_⟩
  · have p := (h s H0 C cl fp).choose_spec.1
    exact ⟨fun pins s1 σ H Q I hh => p.run pins s1 σ H Q I (hh s H0 C cl fp)⟩
  · have p := (h s H0 C cl fp).choose_spec.2
    obtain ⟨c, ρ', e, q⟩ := hq
    refine p Ho hw G ρ σ H Q ⟨x.rs, x.ho, x.g0⟩ ?_
    rw [e]
    refine fun v G' H' x' g' _ b' => ?_
    rw [hb] at b'
    exact q v G' H' ⟨x'.rs, x'.ho, x'.g0⟩ g' b'.rep
theorem lc_sem {own : List (Str × Nat)} {t : M (List D)} {g : D → List Sl → Option (List Sl)} {tt : M Bool} {te : M D} {wi : TI} {tgt : TG} {ttt : TT} {tee : TE}
    (si : ∀ Ho, Same Z.Ho Ho → ∀ G ρ σ H Q, Z.R Ho G ρ σ H → LI Z Ho G σ (t ρ) Q → wi σ H Q)
    (sg : ∀ Ho G ρ σ H v d Q, Z.R Ho G ρ σ H → Z.rep G d v → (∃ ρ', g d ρ = some ρ' ∧ ∀ σ', Z.R Ho G ρ' σ' H → wipe σ' (own.map (·.2)) = wipe σ (own.map (·.2)) → Q σ' H) → tgt v σ H Q)
    (st : ∀ Ho, Same Z.Ho Ho → ∀ G ρ σ H Q, Z.R Ho G ρ σ H → (∃ c ρ', tt ρ = .ok c ρ' ∧ ∀ G' H', Z.R Ho G' ρ' σ H' → Gr Ho G G' → Q c H') → ttt σ H Q)
    (se : ∀ Ho, Same Z.Ho Ho → ∀ G ρ σ H Q, Z.R Ho G ρ σ H → (∃ d ρ', te ρ = .ok d ρ' ∧ ∀ v G' H', Z.R Ho G' ρ' σ H' → Gr Ho G G' → Z.rep G' d v → Q v H') → tee σ H Q)
    (hw : Same Z.Ho Ho) {G : Hp} {ρ : List Sl} {σ : L2.St} {H : Hp} {Q : VK} (x : Z.R Ho G ρ σ H) (q : LR Z Ho G σ (dLc t g tt te (own.map (·.2)) ρ) Q) : tLc wi tgt ttt tee (own.map (·.2)) σ H Q := by
  refine si Ho hw G ρ σ H _ x (LI.then (L := fun r => LR Z Ho G σ r Q) (fun _ _ h => h) (fun h => h) q fun ds ρ1 J G1 H1 x1 g1 it q1 => ?_)
  obtain ⟨vs, hvs⟩ : ∃ vs, vs = own.map (·.2) := ⟨_, rfl⟩
  rw [← hvs] at q1 sg ⊢
  intro Da hD
  have x2 : Z.R Ho G1 (.ow none (.lst []) :: drops vs ρ1) (some (.ref Da) :: wipe σ vs) (upd H1 Da (.lst [])) := x1.to ((x1.pushO (.lst RepL.nil) hD).rs.wiped vs) Gr.refl
  cases er : lcRun g tt te vs ds [] (drops vs ρ1) with
  | none => rw [er] at q1; exact q1.elim
  | some ae =>
    obtain ⟨accE, ρE⟩ := ae
    rw [er] at q1
    refine ⟨fun i m H => m = ds.length - i ∧ i ≤ ds.length ∧ ∃ G' ρ' acc, Z.R Ho G' (.ow none (.lst acc) :: ρ') (some (.ref Da) :: wipe σ vs) H ∧ Gr Ho G1 G' ∧ lcRun g tt te vs (ds.drop i) acc ρ' = some (accE, ρE), ⟨ds.length, by simp, Nat.zero_le _, G1, _, [], x2, Gr.refl, er⟩, ?_⟩
    rintro i m H2 ⟨rfl, hi, G2, ρ2, acc, x3, g2, e2⟩
    by_cases hlt : i < ds.length
    · refine .inr ⟨it.go i H2 hlt (g2.1.trans x3.gh), fun H' => ∃ G' ρ' acc, Z.R Ho G' (.ow none (.lst acc) :: ρ') (some (.ref Da) :: wipe σ vs) H' ∧ Gr Ho G1 G' ∧ lcRun g tt te vs (ds.drop (i + 1)) acc ρ' = some (accE, ρE), fun H' h => ⟨ds.length - (i + 1), by omega, rfl, hlt, h⟩, fun v H' y => ?_⟩
      have hd : ds[i]? = some ds[i] := by simp [hlt]
      rw [List.drop_eq_getElem_cons hlt] at e2
      obtain ⟨G3, x4, g3, r3⟩ := it.yld i _ G2 _ _ H2 v H' hd x3 g2.1 y
      unfold lcRun at e2
      cases eg : g ds[i] ρ2 with
      | none => rw [eg] at e2; cases e2
      | some ρ3 =>
        rw [eg] at e2
        obtain ⟨Ho', hh, x5, bk⟩ := x4.lend
        refine sg Ho' G3 ρ2 _ H' v _ _ x5 r3 ⟨ρ3, eg, fun σ3 x6 w6 => ⟨?_, ?_⟩⟩
        · rw [w6, wipe_wipe]
        · simp only at e2
          cases et : tt ρ3 with
          | ex y ρ4 => rw [et] at e2; cases e2
          | no => rw [et] at e2; cases e2
          | ok c ρ4 =>
            rw [et] at e2
            refine st Ho' (hw.trans hh) G3 ρ3 σ3 H' _ x6 ⟨c, ρ4, et, fun G4 H4 x7 g4 => ?_⟩
            cases c with
            | false =>
              rw [if_neg Bool.false_ne_true]
              have x8 := bk G4 ρ4 σ3 H4 g4 x7
              have x9 := x8.rs.wiped vs
              rw [w6, wipe_wipe] at x9
              exact ⟨G4, drops vs ρ4, acc, x8.to x9 Gr.refl, (g2.trans g3).trans (g4.anti hh), e2⟩
            | true =>
              rw [if_pos rfl]
              simp only at e2
              cases ee : te ρ4 with
              | ex y ρ5 => rw [ee] at e2; cases e2
              | no => rw [ee] at e2; cases e2
              | ok d ρ5 =>
                rw [ee] at e2
                simp only at e2
                refine se Ho' (hw.trans hh) G4 ρ4 σ3 H4 _ x7 ⟨d, ρ5, ee, fun v5 G5 H5 x8 g5 r5 => ?_⟩
                by_cases hz : acc.length < sizeLine
                · rw [if_pos hz] at e2
                  have x9 := bk G5 ρ5 σ3 H5 (g4.trans g5) x8
                  obtain ⟨a, vv, h1, h2, h3, h4⟩ := x9.ownL (i := 0) rfl
                  simp only [List.getElem?_cons_zero, Option.some.injEq, V.ref.injEq] at h1
                  subst h1
                  refine ⟨vv, h2, by rw [h3.length]; exact hz, ?_⟩
                  have x10 := h4 _ _ (h3.append (RepL.one r5))
                  simp only [List.set_cons_zero] at x10
                  have x11 := x10.rs.wiped vs
                  rw [w6, wipe_wipe] at x11
                  exact ⟨G5, drops vs ρ5, _, x10.to x11 Gr.refl, (g2.trans g3).trans ((g4.trans g5).anti hh), e2⟩
                · rw [if_neg hz] at e2; cases e2
    · have e : i = ds.length := by omega
      subst e
      refine .inl ⟨it.stop H2 (g2.1.trans x3.gh), ?_⟩
      rw [List.drop_length] at e2
      cases e2
      exact q1 _ G2 H2 (x3.to (x1.rs.mended g2.1 x3.rs) Gr.refl) (g1.trans g2)
theorem dr_lc {tg : Expr} {iter elt : Expr} {ifs : List Expr} {scope : Scope} {m : Md} {t : M (List D)} {g : D → List Sl → Option (List Sl)} {tt : M Bool} {te : M D} (own : List (Str × Nat)) (hN : Z.X.N.Nodup) (hi : DI Z tg iter t)
    (hg : ∀ (s : Shared) (H : Hp) (C : Addr) (cl : List (Str × Addr)) (fp : List Addr), DGo (blkZ Z s H scope (compEnvC scope cl C Z.X.env) fp) (own.map (·.2)) tg g)
    (ht : ∀ (s : Shared) (H : Hp) (C : Addr) (cl : List (Str × Addr)) (fp : List Addr), DTs (blkZ Z s H scope (compEnvC scope cl C Z.X.env) fp) ifs tt)
    (he : ∀ (s : Shared) (H : Hp) (C : Addr) (cl : List (Str × Addr)) (fp : List Addr), DE (blkZ Z s H scope (compEnvC scope cl C Z.X.env) fp) m elt te) (hb : m.b = false := by rfl)
    (ok : blkC Z.X.N Z.X.env.scope scope own = true := by first | (simp only [mkZ_N, mkZ_sc]; decide +kernel) | decide +kernel) (hs : ∀ x, foldedSetIterable iter Z.X.env x = pure x := by intro _; rfl) (hh : Z.hot = false := by rfl) :
    DR Z (.ListComp elt [⟨tg, iter, ifs, 0⟩] scope pos) (dLc t g tt te (own.map (·.2))) := by
  obtain ⟨wi, pi, si⟩ := hi
  obtain ⟨tgt, pg, sg⟩ := blk_pg hg
  obtain ⟨ttt, pt, st⟩ := blk_pt ht
  obtain ⟨tee, pe, se⟩ := blk_pe hb he
  exact ⟨_, pe_lc (Z.calm hh) hN pi (blkOk_by ok) pg pt pe hs, fun Ho hw G ρ σ H Q x q => lc_sem si sg st se hw x q⟩
theorem st_setLc {tg : Expr} {iter elt : Expr} {ifs : List Expr} {scope : Scope} {m : Md} {t : M (List D)} {g : D → List Sl → Option (List Sl)} {tt : M Bool} {te : M D} {y : Str} {py spos : Pos} (i : Nat) (own : List (Str × Nat)) (hN : Z.X.N.Nodup) (hi : DI Z tg iter t)
    (hg : ∀ (s : Shared) (H : Hp) (C : Addr) (cl : List (Str × Addr)) (fp : List Addr), DGo (blkZ Z s H scope (compEnvC scope cl C Z.X.env) fp) (own.map (·.2)) tg g)
    (ht : ∀ (s : Shared) (H : Hp) (C : Addr) (cl : List (Str × Addr)) (fp : List Addr), DTs (blkZ Z s H scope (compEnvC scope cl C Z.X.env) fp) ifs tt)
    (he : ∀ (s : Shared) (H : Hp) (C : Addr) (cl : List (Str × Addr)) (fp : List Addr), DE (blkZ Z s H scope (compEnvC scope cl C Z.X.env) fp) m elt te) (hb : m.b = false := by rfl)
    (hy : Z.X.N[i]? = some y := by rfl) (hyl : Z.X.env.scope.names.lookup y = some .local := by rfl)
    (hsw : swapsWith (.ListComp elt [⟨tg, iter, ifs, 0⟩] scope pos) (some (.Name y py)) spos.line Z.X.env = pure true := by rfl)
    (ok : blkC Z.X.N Z.X.env.scope scope own = true := by first | (simp only [mkZ_N, mkZ_sc]; decide +kernel) | decide +kernel) (hs : ∀ x, foldedSetIterable iter Z.X.env x = pure x := by intro _; rfl) (hh : Z.hot = false := by rfl) :
    DSt Z (.Assign [.Name y py] (.ListComp elt [⟨tg, iter, ifs, 0⟩] scope pos) spos) (sSet i (dLc t g tt te (own.map (·.2)))) := by
  obtain ⟨wi, pi, si⟩ := hi
  obtain ⟨tgt, pg, sg⟩ := blk_pg hg
  obtain ⟨ttt, pt, st⟩ := blk_pt ht
  obtain ⟨tee, pe, se⟩ := blk_pe hb he
  refine ⟨_, ps_setLc (Z.calm hh) hN hy hyl hsw pi (blkOk_by ok) pg pt pe hs, fun Ho hw G ρ σ H E x q => ?_⟩
  exact lc_sem si sg st se hw x (DR.thenS q fun s ρ1 v G1 H1 x1 g1 q1 => q1 _ G1 H1 (x1.assign i) g1)
end
end DS
set_option Elab.async false
set_option linter.all false
set_option maxRecDepth 100000
namespace DS
open PySem PySem.Spec PyProof.Rows L2
theorem ne_lr : ¬ (kLg = kRe) := by decide +kernel
theorem ne_lt : ¬ (kLg = kTu) := by decide +kernel
theorem ne_lc : ¬ (kLg = kCe) := by decide +kernel
theorem ne_cr : ¬ (kCe = kRe) := by decide +kernel
theorem ne_ct : ¬ (kCe = kTu) := by decide +kernel
theorem ne_rt : ¬ (kRe = kTu) := by decide +kernel
theorem inr_ne {x y : Str} (h : ¬ x = y) : ¬ ((.inr x : Key) = .inr y) := fun e => h (Sum.inr.inj e)
section
variable {s : Dw} {l c : Addr}
theorem kvs_rest : valV (s.kvs l c) (.inr kRe) = some (.int s.rest) := by
  unfold Dw.kvs
  rw [valV_neg (inr_ne ne_lr), valV_neg (inr_ne ne_cr), valV_pos rfl]
theorem kvs_turn : valV (s.kvs l c) (.inr kTu) = some (.int s.turn) := by
  unfold Dw.kvs
  rw [valV_neg (inr_ne ne_lt), valV_neg (inr_ne ne_ct), valV_neg (inr_ne ne_rt), valV_pos rfl]
theorem kvs_large : valV (s.kvs l c) (.inr kLg) = some (.ref l) := by
  unfold Dw.kvs
  rw [valV_pos rfl]
theorem kvs_cells : valV (s.kvs l c) (.inr kCe) = some (.ref c) := by
  unfold Dw.kvs
  rw [valV_neg (inr_ne ne_lc), valV_pos rfl]
theorem kvs_putR {i : Int} : putK (s.kvs l c) (.inr kRe) (.int i) = ({ s with rest := i } : Dw).kvs l c := by
  unfold putK
  rw [valV_any, kvs_rest, if_pos Option.isSome_some]
  unfold Dw.kvs
  simp only [List.map_cons, List.map_nil, if_neg (inr_ne ne_lr), if_neg (inr_ne ne_cr), if_neg (inr_ne (fun e => ne_rt e.symm)), if_true]
theorem kvs_putT {i : Int} : putK (s.kvs l c) (.inr kTu) (.int i) = ({ s with turn := i } : Dw).kvs l c := by
  unfold putK
  rw [valV_any, kvs_turn, if_pos Option.isSome_some]
  unfold Dw.kvs
  simp only [List.map_cons, List.map_nil, if_neg (inr_ne ne_lt), if_neg (inr_ne ne_ct), if_neg (inr_ne ne_rt), if_true]
end
theorem RepL.intsInv {K : PySem.W.Frag} {mg : Str → Option Value} {G : Hp} : ∀ {ns : List Int} {vs : List V}, RepL K mg G (ns.map D.int) vs → vs = ns.map V.int
  | [], vs, h => by unfold List.map RepL at h; exact h
  | n :: ns, vs, h => by
    simp only [List.map_cons] at h
    unfold RepL at h
    obtain ⟨v, vs', rfl, h2, h3⟩ := h
    unfold Rep at h2
    subst h2
    rw [RepL.intsInv h3, List.map_cons]
theorem mergeK_draw {l c : Addr} {ns ks : List Int} : mergeK [] ([(.inr kLg, .ref l), (.inr kCe, .ref c), (.inr kRe, .int 0), (.inr kTu, .int 0)] : List (Key × V)) = (⟨ns, ks, 0, 0⟩ : Dw).kvs l c := by
  unfold mergeK Dw.kvs
  simp only [List.foldl_cons, List.foldl_nil]
  have e1 : putK ([] : List (Key × V)) (.inr kLg) (.ref l) = [(.inr kLg, .ref l)] := putK_new (kvs := []) _ rfl
  have e2 : putK ([(.inr kLg, .ref l)] : List (Key × V)) (.inr kCe) (.ref c) = [(.inr kLg, .ref l), (.inr kCe, .ref c)] := putK_new _ (by rw [valV_neg (inr_ne ne_lc)]; rfl)
  have e3 : putK ([(.inr kLg, .ref l), (.inr kCe, .ref c)] : List (Key × V)) (.inr kRe) (.int 0) = [(.inr kLg, .ref l), (.inr kCe, .ref c), (.inr kRe, .int 0)] := putK_new _ (by rw [valV_neg (inr_ne ne_lr), valV_neg (inr_ne ne_cr)]; rfl)
  have e4 : putK ([(.inr kLg, .ref l), (.inr kCe, .ref c), (.inr kRe, .int 0)] : List (Key × V)) (.inr kTu) (.int 0) = [(.inr kLg, .ref l), (.inr kCe, .ref c), (.inr kRe, .int 0), (.inr kTu, .int 0)] := putK_new _ (by rw [valV_neg (inr_ne ne_lt), valV_neg (inr_ne ne_ct), valV_neg (inr_ne ne_rt)]; rfl)
  rw [e1, e2, e3, e4]
section
variable {K : PySem.W.Frag} {mg : Str → Option Value} {τ : Tau} {Ho G : Hp} {ρ : List Sl} {σ : L2.St} {H : Hp}
theorem own_some {O : Addr → Option Nat} {i : Nat} {a : Addr} {o : HO} (h : own O i H a = some o) : O a = some i ∧ H a = some o := by
  unfold own at h
  by_cases q : O a = some i
  · rw [if_pos q] at h; exact ⟨q, h⟩
  · rw [if_neg q] at h; cases h
theorem own_at {O : Addr → Option Nat} {i : Nat} {a : Addr} (h : O a = some i) : own O i H a = H a := by
  unfold own
  rw [if_pos h]
theorem own_upd {O : Addr → Option Nat} {i j : Nat} {a : Addr} {o : HO} (h : O a = some i) (q : j ≠ i) : own O j (upd H a o) = own O j H := by
  funext b
  unfold own
  by_cases w2 : O b = some j
  · rw [if_pos w2, if_pos w2, upd_ne]
    intro w3; subst w3; rw [h] at w2; cases w2; exact q rfl
  · rw [if_neg w2, if_neg w2]
theorem RS.draw (x : RS K mg τ Ho G ρ σ H) {i : Nat} {t : Option Nat} {s : Dw} (e : ρ[i]? = some (.rs t s)) : ∃ a l c, σ[i]? = some (some (.ref a)) ∧ H a = some (.dK (s.kvs l c)) ∧ H l = some (.lst (s.large.map V.int)) ∧ G c = some (.lst (s.cells.map V.int)) ∧
    (∀ r u, RS K mg τ Ho G (ρ.set i (.rs t { s with rest := r, turn := u })) σ (upd H a (.dK (({ s with rest := r, turn := u } : Dw).kvs l c)))) ∧
    (∀ m, RS K mg τ Ho G (ρ.set i (.rs t { s with large := m })) σ (upd H l (.lst (m.map V.int)))) := by
  obtain ⟨O, x, kt⟩ := x.pruned
  obtain ⟨a, h1, h0, l, c, h2, h3, h4⟩ := x.sl i _ e
  obtain ⟨oa, ha⟩ := own_some h2
  obtain ⟨ol, hl⟩ := own_some h3
  have nal : a ≠ l := by rintro rfl; rw [ha] at hl; cases hl
  have hs : σ[i]? = some (some (.ref a)) := by
    cases q : σ[i]? with
    | none => rw [q] at h1; cases h1
    | some w => rw [q] at h1; rw [show w = some (.ref a) from h1]
  have hj : i < ρ.length := (List.getElem?_eq_some_iff.mp e).1
  have gen : ∀ (b : Addr) (o : HO) (s' : Dw), O b = some i → SlOk K mg τ G (own O i (upd H b o)) (.rs t s') (some (.ref a)) → RS K mg τ Ho G (ρ.set i (.rs t s')) σ (upd H b o) := fun b o s' ob ok => by
    obtain ⟨gb, _, hb⟩ := x.oh b i ob
    have hob := x.ho ob (kt b i ob)
    refine ⟨O, fun d u q => ?_, fun d j q => ?_, fun d u q => ?_, by simp [x.len], fun j s1 q => ?_⟩
    · rw [upd_ne (ne_of_none q gb)]; exact x.gh d u q
    · obtain ⟨z1, z2, z3⟩ := x.oh d j q
      refine ⟨z1, z2, ?_⟩
      by_cases w : d = b
      · subst w; rw [upd_same]; simp
      · rw [upd_ne w]; exact z3
    · rw [upd_ne (ne_of_none q hob)]; exact x.out d u q
    · by_cases w : j = i
      · subst w
        rw [List.getElem?_set_self hj] at q
        cases q
        rw [hs]
        exact ok
      · rw [List.getElem?_set_ne (Ne.symm w)] at q
        rw [own_upd ob w]
        exact x.sl j s1 q
  refine ⟨a, l, c, hs, ha, hl, h4, fun r u => gen a _ _ oa ⟨a, rfl, h0, l, c, ?_, ?_, h4⟩, fun m => gen l _ _ ol ⟨a, rfl, h0, l, c, ?_, ?_, h4⟩⟩
  · rw [own_at oa, upd_same]
  · rw [own_at ol, upd_ne (Ne.symm nal)]; exact hl
  · rw [own_at oa, upd_ne nal]; exact ha
  · rw [own_at ol, upd_same]
theorem RS.newDraw {v1 : V} {p : Addr} {ds : List D} {t1 : Option Nat} {s : Dw} {c : Addr} {dd : D} (x : RS K mg τ Ho G (.ow none dd :: .ow t1 (.lst ds) :: ρ) (some (.ref p) :: some v1 :: σ) H) (hl : ds = s.large.map D.int) (hc : G c = some (.lst (s.cells.map V.int))) :
    ∃ l, v1 = .ref l ∧ RS K mg τ Ho G (.rs none s :: ρ) (some (.ref p) :: σ) (upd H p (.dK (s.kvs l c))) := by
  obtain ⟨O, x, kt⟩ := x.pruned
  obtain ⟨p', o, e1, _, h2, _⟩ := x.sl 0 _ rfl
  obtain ⟨l, o2, e2, _, h3, h4⟩ := x.sl 1 _ rfl
  simp at e1 e2
  subst e1 e2
  obtain ⟨op, hp⟩ := own_some h2
  obtain ⟨ol, hl2⟩ := own_some h3
  have npl : p ≠ l := by rintro rfl; rw [op] at ol; cases ol
  have ho2 : o2 = .lst (s.large.map V.int) := by
    cases h4 with
    | lst h4 =>
      subst hl
      have : ∀ (ns : List Int) (vs : List V), RepL K mg G (ns.map D.int) vs → vs = ns.map V.int := by
        intro ns
        induction ns with
        | nil => intro vs h; unfold RepL at h; exact h
        | cons n ns ih =>
          intro vs h
          simp only [List.map_cons] at h
          unfold RepL at h
          obtain ⟨v, vs', rfl, h2, h3⟩ := h
          unfold Rep at h2
          subst h2
          rw [ih _ h3, List.map_cons]
      rw [this _ _ h4]
  subst ho2
  obtain ⟨gp, _, _⟩ := x.oh p 0 op
  have hop := x.ho op (kt p 0 op)
  refine ⟨l, rfl, fun a => match O a with | some 0 => some 0 | some (j + 1) => some j | none => none, fun d u q => ?_, fun d j q => ?_, fun d u q => ?_, by simpa using x.len, fun j s2 q => ?_⟩
  · rw [upd_ne (ne_of_none q gp)]; exact x.gh d u q
  · have : ∃ k, O d = some k := by
      cases w : O d with
      | none => simp only [w] at q; cases q
      | some k => exact ⟨k, rfl⟩
    obtain ⟨k, hk⟩ := this
    obtain ⟨z1, z2, z3⟩ := x.oh d k hk
    refine ⟨z1, z2, ?_⟩
    by_cases w : d = p
    · subst w; rw [upd_same]; simp
    · rw [upd_ne w]; exact z3
  · rw [upd_ne (ne_of_none q hop)]; exact x.out d u q
  · cases j with
    | zero =>
      simp at q
      subst q
      refine ⟨p, rfl, (fun _ q => nomatch q), l, c, ?_, ?_, hc⟩
      · rw [own_at (by simp only [op]), upd_same]
      · rw [own_at (by simp only [ol]), upd_ne (Ne.symm npl)]; exact hl2
    | succ j =>
      have z : own (fun a => match O a with | some 0 => some 0 | some (j + 1) => some j | none => none) (j + 1) (upd H p (.dK (s.kvs l c))) = own O (j + 2) H := by
        rw [own_upd (i := 0) (by simp only [op]) (by omega)]
        refine own_of fun a => ?_
        match w : O a with
        | none => simp only [w]; simp
        | some 0 => simp only [w]; simp
        | some (k + 1) => simp only [w]; simp
      rw [z]
      exact x.sl (j + 2) s2 (by simpa using q)
end
section
variable {Z : DC} {Ho : Hp} {m m2 m3 m4 : Md} {e e1 e2 e3 e4 tg : Expr} {t : M D} {pos pos' p p2 p3 p4 p5 p6 p7 p8 pos2 : Pos} {j j1 j2 j3 j4 j5 : Nat}
theorem DC.R.draw {G H : Hp} {ρ : List Sl} {σ : L2.St} (x : Z.R Ho G ρ σ H) {i : Nat} {t : Option Nat} {s : Dw} (e : ρ[i]? = some (.rs t s)) : ∃ a l c, σ[i]? = some (some (.ref a)) ∧ H a = some (.dK (s.kvs l c)) ∧ H l = some (.lst (s.large.map V.int)) ∧ G c = some (.lst (s.cells.map V.int)) ∧
    (∀ r u, Z.R Ho G (ρ.set i (.rs t { s with rest := r, turn := u })) σ (upd H a (.dK (({ s with rest := r, turn := u } : Dw).kvs l c)))) ∧
    (∀ m, Z.R Ho G (ρ.set i (.rs t { s with large := m })) σ (upd H l (.lst (m.map V.int)))) := by
  obtain ⟨a, l, c, h1, h2, h3, h4, h5, h6⟩ := x.rs.draw e
  exact ⟨a, l, c, h1, h2, h3, h4, fun r u => x.to (h5 r u) Gr.refl, fun m => x.to (h6 m) Gr.refl⟩
def drw : Option Sl → Option (Option Nat × Dw)
  | some (.rs t s) => some (t, s)
  | _ => none
theorem drw_some {o : Option Sl} {t : Option Nat} {s : Dw} (h : drw o = some (t, s)) : o = some (.rs t s) := by
  match o, h with
  | some (.rs t s), h => cases h; rfl
def dwI (f : Dw → Int) (i : Nat) : M D := fun ρ => match drw ρ[i]? with
  | some (_, s) => .ok (.int (f s)) ρ
  | none => .no
theorem de_drawR (i : Nat) {x : Str} (hN : Z.X.N[i]? = some x := by rfl) (hv : Vis Z.X.env.scope x := by first | exact Or.inl rfl | exact Or.inr (Or.inl rfl) | exact Or.inr (Or.inr rfl)) (hd : (x == ("__debug__" : Str)) = false := by decide)
    (hcd : (x == ("__classdict__" : Str)) = false := by decide) : DE Z ⟨true, false⟩ (.Subscript (.Name x p) (.Constant (.str "rest") j p2) pos) (dwI (·.rest) i) := by
  refine ⟨_, pe_dget (Nat.lt_of_le_of_lt (by omega) Z.units) (pe_var hN hv hd hcd) pe_str (fun _ _ => rfl), fun Ho hw G ρ σ H Q x q => ?_⟩
  unfold dwI at q
  cases ed : drw ρ[i]? with
  | none => rw [ed] at q; exact q.elim
  | some ts =>
    obtain ⟨t, s⟩ := ts
    rw [ed] at q
    obtain ⟨a, l, c, h1, h2, h3, h4, _, _⟩ := x.draw (drw_some ed)
    refine ⟨_, h1, a, _, rfl, ?_, q (.int s.rest) G H x Gr.refl (fun _ => Same.refl _) (.inl rep_int)⟩
    have := DGet.k (k := .inr kRe) h2
    rw [kvs_rest] at this
    exact this
theorem de_drawT (i : Nat) {x : Str} (hN : Z.X.N[i]? = some x := by rfl) (hv : Vis Z.X.env.scope x := by first | exact Or.inl rfl | exact Or.inr (Or.inl rfl) | exact Or.inr (Or.inr rfl)) (hd : (x == ("__debug__" : Str)) = false := by decide)
    (hcd : (x == ("__classdict__" : Str)) = false := by decide) : DE Z ⟨true, false⟩ (.Subscript (.Name x p) (.Constant (.str "turn") j p2) pos) (dwI (·.turn) i) := by
  refine ⟨_, pe_dget (Nat.lt_of_le_of_lt (by omega) Z.units) (pe_var hN hv hd hcd) pe_str (fun _ _ => rfl), fun Ho hw G ρ σ H Q x q => ?_⟩
  unfold dwI at q
  cases ed : drw ρ[i]? with
  | none => rw [ed] at q; exact q.elim
  | some ts =>
    obtain ⟨t, s⟩ := ts
    rw [ed] at q
    obtain ⟨a, l, c, h1, h2, h3, h4, _, _⟩ := x.draw (drw_some ed)
    refine ⟨_, h1, a, _, rfl, ?_, q (.int s.turn) G H x Gr.refl (fun _ => Same.refl _) (.inl rep_int)⟩
    have := DGet.k (k := .inr kTu) h2
    rw [kvs_turn] at this
    exact this
def sDw (f : Dw → Int → Dw) (i : Nat) (t : M D) : MS := fun ρ => (t ρ).andS fun d ρ => match d, drw ρ[i]? with
  | .int z, some (t, s) => .nx (ρ.set i (.rs t (f s z)))
  | _, _ => .no
theorem st_drawR (i : Nat) {x : Str} (h : DE Z m e t) (hN : Z.X.N[i]? = some x := by rfl) (hv : Vis Z.X.env.scope x := by first | exact Or.inl rfl | exact Or.inr (Or.inl rfl) | exact Or.inr (Or.inr rfl)) (hd : (x == ("__debug__" : Str)) = false := by decide)
    (hcd : (x == ("__classdict__" : Str)) = false := by decide) (hs : swapsWith e (some (.Subscript (.Name x p) (.Constant (.str "rest") j p2) pos')) pos.line Z.X.env = pure false := by rfl) :
    DSt Z (.Assign [.Subscript (.Name x p) (.Constant (.str "rest") j p2) pos'] e pos) (sDw (fun s z => { s with rest := z }) i t) := by
  obtain ⟨te, pa, sa⟩ := h
  refine ⟨_, ps_dput (Nat.lt_of_le_of_lt (by omega) Z.units) (pe_var hN hv hd hcd) pe_str pa hs, fun Ho hw G ρ σ H E x q => ?_⟩
  refine sa Ho hw G ρ σ H _ x (DE.thenS q fun d ρ1 v G1 H1 x1 g1 s1 b1 q1 => ?_)
  cases ed : drw ρ1[i]? with
  | none => simp only [ed] at q1; cases d <;> exact q1.elim
  | some ts =>
    obtain ⟨t, s⟩ := ts
    cases d <;> try (exact q1.elim)
    rename_i z
    simp only [ed] at q1
    have := b1.int
    subst this
    obtain ⟨a, l, c, h1, h2, h3, h4, h5, _⟩ := x1.draw (drw_some ed)
    have y := h5 z s.turn
    refine ⟨_, h1, a, _, rfl, DPut.k (k := .inr kRe) h2 (by unfold Dw.kvs; simp; decide), ?_⟩
    rw [kvs_putR]
    exact q1 σ G1 _ y g1
theorem st_drawT (i : Nat) {x : Str} (h : DE Z m e t) (hN : Z.X.N[i]? = some x := by rfl) (hv : Vis Z.X.env.scope x := by first | exact Or.inl rfl | exact Or.inr (Or.inl rfl) | exact Or.inr (Or.inr rfl)) (hd : (x == ("__debug__" : Str)) = false := by decide)
    (hcd : (x == ("__classdict__" : Str)) = false := by decide) (hs : swapsWith e (some (.Subscript (.Name x p) (.Constant (.str "turn") j p2) pos')) pos.line Z.X.env = pure false := by rfl) :
    DSt Z (.Assign [.Subscript (.Name x p) (.Constant (.str "turn") j p2) pos'] e pos) (sDw (fun s z => { s with turn := z }) i t) := by
  obtain ⟨te, pa, sa⟩ := h
  refine ⟨_, ps_dput (Nat.lt_of_le_of_lt (by omega) Z.units) (pe_var hN hv hd hcd) pe_str pa hs, fun Ho hw G ρ σ H E x q => ?_⟩
  refine sa Ho hw G ρ σ H _ x (DE.thenS q fun d ρ1 v G1 H1 x1 g1 s1 b1 q1 => ?_)
  cases ed : drw ρ1[i]? with
  | none => simp only [ed] at q1; cases d <;> exact q1.elim
  | some ts =>
    obtain ⟨t, s⟩ := ts
    cases d <;> try (exact q1.elim)
    rename_i z
    simp only [ed] at q1
    have := b1.int
    subst this
    obtain ⟨a, l, c, h1, h2, h3, h4, h5, _⟩ := x1.draw (drw_some ed)
    have y := h5 s.rest z
    refine ⟨_, h1, a, _, rfl, DPut.k (k := .inr kTu) h2 (by unfold Dw.kvs; simp; decide), ?_⟩
    rw [kvs_putT]
    exact q1 σ G1 _ y g1
def lDwC (i : Nat) : M (List D) := fun ρ => match drw ρ[i]? with
  | some (_, s) => .ok (s.cells.map D.int) ρ
  | none => .no
theorem di_drawC (i : Nat) {x : Str} (hN : Z.X.N[i]? = some x := by rfl) (hv : Vis Z.X.env.scope x := by first | exact Or.inl rfl | exact Or.inr (Or.inl rfl) | exact Or.inr (Or.inr rfl)) (hd : (x == ("__debug__" : Str)) = false := by decide)
    (hcd : (x == ("__classdict__" : Str)) = false := by decide) : DI Z tg (.Subscript (.Name x p) (.Constant (.str "cells") j p2) pos) (lDwC i) := by
  refine ⟨_, pi_list (pe_dget (Nat.lt_of_le_of_lt (by omega) Z.units) (pe_var hN hv hd hcd) pe_str (fun _ _ => rfl)), fun Ho hw G ρ σ H R x q => ?_⟩
  unfold lDwC at q
  cases ed : drw ρ[i]? with
  | none => rw [ed] at q; exact q.elim
  | some ts =>
    obtain ⟨t, s⟩ := ts
    rw [ed] at q
    obtain ⟨a, l, c, h1, h2, h3, h4, _, _⟩ := x.draw (drw_some ed)
    refine ⟨_, h1, a, _, rfl, ?_, c, rfl, ⟨_, SqL.of (x.gh _ _ h4)⟩, q _ G H x Gr.refl (it_list (SqL.of h4) (RepL.ints _))⟩
    have := DGet.k (k := .inr kCe) h2
    rw [kvs_cells] at this
    exact this
def dwL (i : Nat) : M D := fun ρ => match drw ρ[i]? with
  | some (_, s) => .ok (.lst (s.large.map D.int)) ρ
  | none => .no
theorem de_drawL (i : Nat) {x : Str} (hN : Z.X.N[i]? = some x := by rfl) (hv : Vis Z.X.env.scope x := by first | exact Or.inl rfl | exact Or.inr (Or.inl rfl) | exact Or.inr (Or.inr rfl)) (hd : (x == ("__debug__" : Str)) = false := by decide)
    (hcd : (x == ("__classdict__" : Str)) = false := by decide) : DE Z ⟨true, true⟩ (.Subscript (.Name x p) (.Constant (.str "large") j p2) pos) (dwL i) := by
  refine ⟨_, pe_dget (Nat.lt_of_le_of_lt (by omega) Z.units) (pe_var hN hv hd hcd) pe_str (fun _ _ => rfl), fun Ho hw G ρ σ H Q x q => ?_⟩
  unfold dwL at q
  cases ed : drw ρ[i]? with
  | none => rw [ed] at q; exact q.elim
  | some ts =>
    obtain ⟨t, s⟩ := ts
    rw [ed] at q
    obtain ⟨a, l, c, h1, h2, h3, h4, _, _⟩ := x.draw (drw_some ed)
    refine ⟨_, h1, a, _, rfl, ?_, q (.ref l) G H x Gr.refl (fun _ => Same.refl _) (.inr ⟨rfl, l, _, rfl, h3, .lst (RepL.ints _)⟩)⟩
    have := DGet.k (k := .inr kLg) h2
    rw [kvs_large] at this
    exact this
theorem de_nilL : DE Z ⟨true, false⟩ (.List [] pos) (ret (.lst [])) := by
  refine ⟨_, pe_lst pa_nil, fun Ho hw G ρ σ H Q x q => ?_⟩
  refine ⟨Nat.zero_le _, fun p hp => ?_⟩
  obtain ⟨x2, g2⟩ := x.allocF (o := .lst []) hp
  refine q _ _ _ x2 g2 (fun _ => same_upd hp) (.inl ?_)
  unfold Rep
  exact ⟨p, [], rfl, upd_same, RepL.nil⟩
def dwP (i : Nat) : M D := fun ρ => match drw ρ[i]? with
  | some (t, s) => match s.large with
    | n :: ns => .ok (.int n) (ρ.set i (.rs t { s with large := ns }))
    | [] => .no
  | none => .no
theorem de_drawP (i : Nat) {x : Str} {apos cpos : Pos} {j2 : Nat} (hN : Z.X.N[i]? = some x := by rfl) (hv : Vis Z.X.env.scope x := by first | exact Or.inl rfl | exact Or.inr (Or.inl rfl) | exact Or.inr (Or.inr rfl)) (hd : (x == ("__debug__" : Str)) = false := by decide)
    (hcd : (x == ("__classdict__" : Str)) = false := by decide)
    (hbase : attributeBase (.Subscript (.Name x p) (.Constant (.str "large") j p2) pos) "pop" Z.X.env (eval (.Subscript (.Name x p) (.Constant (.str "large") j p2) pos) Z.X.env) = eval (.Subscript (.Name x p) (.Constant (.str "large") j p2) pos) Z.X.env := by rfl)
    (hfew : ((backTo cpos (starEach ((.Constant (.int 0) j2 p3 : Expr) :: []) Z.X.env)).all (fun x => !x.1) && (backToKw cpos (keywordEach [] Z.X.env)).all (fun x => x.1.isSome)
      && decide (((.Constant (.int 0) j2 p3 : Expr) :: ([] : List Expr)).length + ([] : List Keyword).length + (if ([] : List Keyword).isEmpty then 0 else 1) < 30)) = true := by rfl)
    (hline : (apos.endLine == cpos.line) = true := by rfl) (hs : starEach ((.Constant (.int 0) j2 p3 : Expr) :: []) Z.X.env = (false, eval (.Constant (.int 0) j2 p3) Z.X.env) :: starEach [] Z.X.env := by rfl) (hplain : (backTo cpos (starEach [] Z.X.env)).any (·.1) = false := by rfl) :
    DE Z ⟨false, false⟩ (.Call (.Attribute (.Subscript (.Name x p) (.Constant (.str "large") j p2) pos) "pop" apos) [.Constant (.int 0) j2 p3] [] cpos) (dwP i) := by
  refine ⟨_, pe_bm PySem.F.plainAttrs_list PySem.F.slot_list_pop PySem.F.type_list_pop mt_popAt (pe_dget (Nat.lt_of_le_of_lt (by omega) Z.units) (pe_var hN hv hd hcd) pe_str (fun _ _ => rfl)) (pa_cons pe_int pa_nil hs) hbase hfew hline hs hplain, fun Ho hw G ρ σ H Q x q => ?_⟩
  unfold dwP at q
  cases ed : drw ρ[i]? with
  | none => rw [ed] at q; exact q.elim
  | some ts =>
    obtain ⟨t, s⟩ := ts
    rw [ed] at q
    obtain ⟨a, l, c, h1, h2, h3, h4, _, h6⟩ := x.draw (drw_some ed)
    cases el : s.large with
    | nil => simp only [el] at q; exact q.elim
    | cons n ns =>
      simp only [el] at q
      rw [el] at h3
      have g : DGet H a (.str kLg) (some (.ref l)) := by
        have := DGet.k (k := .inr kLg) h2
        rw [kvs_large] at this
        exact this
      refine ⟨_, h1, a, _, rfl, g, .inl ⟨rfl, _, SqL.of h3⟩, ?_⟩
      refine ⟨l, _, 0, 0, .int n, rfl, rfl, h3, by decide, by decide, ?_, rfl, ?_⟩
      · simp [seqIndex?]
      · have y := h6 ns
        simp only [List.map_cons, List.eraseIdx_cons_zero]
        exact q (.int n) G _ y Gr.refl (fun h => nomatch h) (.inl rep_int)
def asInt : D → Option Int
  | .int n => some n
  | _ => none
def asInts : List D → Option (List Int)
  | [] => some []
  | d :: ds => match asInt d, asInts ds with
    | some n, some ns => some (n :: ns)
    | _, _ => none
theorem asInts_some : ∀ {ds : List D} {ns : List Int}, asInts ds = some ns → ds = ns.map D.int
  | [], ns, h => by unfold asInts at h; cases h; rfl
  | d :: ds, ns, h => by
    unfold asInts at h
    cases hd : asInt d with
    | none => rw [hd] at h; cases h
    | some n =>
      cases hs : asInts ds with
      | none => rw [hd, hs] at h; cases h
      | some ns' =>
        rw [hd, hs] at h
        cases h
        cases d <;> try (cases hd; done)
        cases hd
        rw [asInts_some hs]
        rfl
def dwNew (t1 : M Sl) (t2 : M D) : M Sl := bnd t1 fun s1 => bnd t2 fun d2 => lft (match s1, d2 with
  | .ow _ (.lst ds), .lst es => match asInts ds, asInts es with
    | some ns, some ks => some (.rs none ⟨ns, ks, 0, 0⟩)
    | _, _ => none
  | _, _ => none)
theorem dr_draw {t1 : M Sl} {t2 : M D} (h1 : DR Z e1 t1) (h2 : DE Z m2 e2 t2) (hb : m2.b = false := by rfl) : DR Z (.Dict [some (.Constant (.str "large") j1 p), some (.Constant (.str "cells") j2 p2), some (.Constant (.str "rest") j3 p3), some (.Constant (.str "turn") j4 p4)] [e1, e2, .Constant (.int 0) j p5, .Constant (.int 0) j5 p6] pos) (dwNew t1 t2) := by
  obtain ⟨te1, pa1, sa1⟩ := h1
  obtain ⟨te2, pa2, sa2⟩ := h2
  refine ⟨_, pe_disp (pps_cons pe_str pa1 (pps_cons pe_str pa2 (pps_cons pe_str pe_int (pps_cons pe_str pe_int pps_nil)))) rfl rfl (by simp) (show (4 : Nat) ≤ 15 by decide), fun Ho hw G ρ σ H Q x q => ?_⟩
  intro pp hp
  have y := x.pushO (d := .dct []) (o := .dK []) (.dct (by unfold RepK; rfl)) hp
  obtain ⟨Ho1, hh1, y1, bk1⟩ := y.lend
  refine sa1 Ho1 (hw.trans hh1) G ρ σ _ _ y1 (DR.then (L := fun r => LR Z Ho G σ r Q) (fun _ _ h => h) (fun h => h) q fun s1 ρ1 v1 G1 H1 x1 g1 q1 => ?_)
  obtain ⟨Ho2, hh2, y2, bk2⟩ := x1.lend
  refine sa2 Ho2 ((hw.trans hh1).trans hh2) G1 ρ1 σ H1 _ y2 (DE.then (L := fun r => LR Z Ho G σ r Q) (fun _ _ h => h) (fun h => h) q1 fun d2 ρ2 v2 G2 H2 x2 g2 s2 b2 q2 => ?_)
  rw [hb] at b2
  replace b2 := b2.rep
  have z := bk1 _ _ _ _ (g1.trans (g2.anti hh2)) (bk2 _ _ _ _ g2 x2)
  unfold lft at q2
  cases s1 <;> try (exact q2.elim)
  rename_i t1 dd
  cases dd <;> try (exact q2.elim)
  rename_i ds
  cases d2 <;> try (exact q2.elim)
  rename_i es
  cases en : asInts ds with
  | none => simp only [en] at q2; exact q2.elim
  | some ns =>
    cases ek : asInts es with
    | none => simp only [en, ek] at q2; exact q2.elim
    | some ks =>
      simp only [en, ek] at q2
      unfold Rep at b2
      obtain ⟨c, vs, rfl, hc, hr⟩ := b2
      have hvs : vs = ks.map V.int := by
        have := asInts_some ek
        subst this
        exact RepL.intsInv hr
      subst hvs
      obtain ⟨l, rfl, z2⟩ := z.rs.newDraw (s := ⟨ns, ks, 0, 0⟩) (c := c) (asInts_some en) hc
      obtain ⟨a0, o0, e0, h0, t0, _⟩ := z.mut (i := 0) rfl
      simp at e0
      subst e0
      cases t0 with
      | dct t0 =>
        unfold RepK at t0
        subst t0
        refine ⟨h0, [(.inr kLg, .ref l), (.inr kCe, .ref c), (.inr kRe, .int 0), (.inr kTu, .int 0)], rfl, by simp, ?_⟩
        have em : mergeK [] ([(.inr kLg, .ref l), (.inr kCe, .ref c), (.inr kRe, .int 0), (.inr kTu, .int 0)] : List (Key × V)) = (⟨ns, ks, 0, 0⟩ : Dw).kvs l c := by
          exact mergeK_draw
        rw [em]
        exact q2 _ G2 _ (x.to z2 ((g1.trans (g2.anti hh2)).anti hh1)) ((g1.trans (g2.anti hh2)).anti hh1)
end
end DS
set_option Elab.async false
set_option linter.all false
set_option maxRecDepth 100000
namespace DS
open PySem PySem.Spec PyProof.Rows L2
def D.tyS : D → Option String
  | .non => some "NoneType"
  | .bl _ => some "bool"
  | .int _ => some "int"
  | .str _ => some "str"
  | .tup _ => some "tuple"
  | .lst _ => some "list"
  | .dct _ => some "dict"
  | .scr _ => some "list"
  | _ => none
section
variable {Z : DC} {m m1 m2 : Md} {e a b : Expr} {t ta tb : M D} {pos p p2 p3 : Pos} {es : List Expr}
theorem seqL_ty {K : PySem.W.Frag} {H : Hp} {a : Addr} {xs : List V} (h : SqL K H a xs) : TyX K H (.ref a) (.type "list") := by
  rcases h with (h | ⟨o, h⟩) | ⟨o, its, n, h1, h2, _⟩
  · exact .base (.lst h)
  · exact .base (.frz h)
  · exact .kList h1 h2
theorem seqT_ty {K : PySem.W.Frag} {H : Hp} {a : Addr} {xs : List V} (h : SqT K H a xs) : TyX K H (.ref a) (.type "tuple") := by
  rcases h with (h | ⟨o, h⟩) | ⟨o, its, n, h1, h2, _⟩
  · exact .base (.tup h)
  · exact .fTuple h
  · exact .kTuple h1 h2
theorem BR.tyX {K : PySem.W.Frag} {mg : Str → Option Value} {b : Bool} {G H : Hp} {d : D} {v : V} {s : String} (e : Same G H) (h : BR K mg b G H d v) (hs : d.tyS = some s) : TyX K H v (.type s) := by
  cases d <;> try (cases hs; done)
  · cases hs; rw [h.non]; exact .base .non
  · cases hs; rw [h.bl]; exact .base (.bl _)
  · cases hs; rw [h.int]; exact .base (.int _)
  · cases hs; rw [h.str.1]; exact .base (.str _)
  · cases hs; obtain ⟨a, vs, rfl, h1, _⟩ := h.tup; exact seqT_ty (Same.sqt e h1)
  · cases hs; obtain ⟨a, vs, rfl, h1, _⟩ := h.lst e; exact seqL_ty (SqL.of h1)
  · cases hs; obtain ⟨a, vs, rfl, h1, _⟩ := h.dct e; exact .base (.dK h1)
  · cases hs; obtain ⟨a, rfl, h1⟩ := h.scr; exact seqL_ty (Same.seq e h1)
def DCl (Z : DC) (es : List Expr) (cs : List String) : Prop := ∃ ta, PA Z.X es ta ∧ ∀ σ H Q, Q (cs.map V.ty) H → ta σ H Q
theorem dcl_nil : DCl Z [] [] := ⟨_, pa_nil, fun σ H Q q => q⟩
theorem dcl_cons {x : Str} {c : String} {cs : List String} (hv : bootBuiltins x = some (.type c)) (hm : Z.X.mg x = none) (hr : DCl Z es cs) (hg : Gl Z.X x := by rfl) (hn : x ≠ "__name__" := by decide) (hd : (x == ("__debug__" : Str)) = false := by decide)
    (hs : starEach ((.Name x p : Expr) :: es) Z.X.env = (false, eval (.Name x p) Z.X.env) :: starEach es Z.X.env := by rfl) : DCl Z (.Name x p :: es) (c :: cs) := by
  obtain ⟨ta, pa, sa⟩ := hr
  refine ⟨_, pa_cons (pe_bltn (v := .ty c) hg hm hv rfl hn hd) pa hs, fun σ H Q q => ?_⟩
  exact sa σ H _ q
def kitAnyB (a : String) : List String → Option Bool
  | [] => some false
  | c :: cs => match kitB a c with
    | some true => some true
    | some false => kitAnyB a cs
    | none => none
theorem kitAnyB_ok {K : PySem.W.Frag} {a : String} : ∀ {cs : List String} {r : Bool}, kitAnyB a cs = some r → PySem.W.kitAny K (.type a) (cs.map Value.type) = some r
  | [], r, h => by cases h; exact kitAny_nil
  | c :: cs, r, h => by
    unfold kitAnyB at h
    rw [List.map_cons]
    split at h
    · rename_i q
      cases h
      exact kitAny_cons (kit_ty q) (fun z => nomatch z) fun _ => rfl
    · rename_i q
      exact kitAny_cons (kit_ty q) (fun _ => kitAnyB_ok h) fun z => nomatch z
    · cases h
def fIsi (cs : List String) : D → Option D := fun d => d.tyS.bind fun a => (kitAnyB a cs).map D.bl
theorem kitAnyB_one {a c : String} {r : Bool} (h : kitAnyB a [c] = some r) : kitB a c = some r := by
  unfold kitAnyB at h
  split at h
  · rename_i q; cases h; exact q
  · rename_i q; unfold kitAnyB at h; cases h; exact q
  · cases h
theorem de_isi {x : Str} {c : String} (hm : Z.X.mg "isinstance" = none) (h : DE Z m e t) (hv : bootBuiltins x = some (.type c)) (hm2 : Z.X.mg x = none) (hg : Gl Z.X "isinstance" := by rfl) (hg2 : Gl Z.X x := by rfl) (hn : x ≠ "__name__" := by decide) (hd : (x == ("__debug__" : Str)) = false := by decide)
    (he : starEach (e :: [(.Name x p2 : Expr)]) Z.X.env = (false, eval e Z.X.env) :: starEach [.Name x p2] Z.X.env := by rfl) (he2 : starEach [(.Name x p2 : Expr)] Z.X.env = (false, eval (.Name x p2) Z.X.env) :: starEach [] Z.X.env := by rfl) (hpl : (backTo pos (starEach [(.Name x p2 : Expr)] Z.X.env)).any (·.1) = false := by rfl) :
    DE Z ⟨m.p, false⟩ (.Call (.Name "isinstance" p) [e, .Name x p2] [] pos) (d1 (fIsi [c]) t) := by
  obtain ⟨te, pa, sa⟩ := h
  refine ⟨_, pe_callB call_isi hg hm (by decide +kernel) (pa_cons pa (pa_cons (pe_bltn (v := .ty c) hg2 hm2 hv rfl hn hd) pa_nil he2) he) (by decide) (by decide) he hpl, fun Ho hw G ρ σ H Q x q => ?_⟩
  refine sa Ho hw G ρ σ H _ x (DE.then (L := fun r => LJ Z Ho ⟨m.p, false⟩ G H σ r Q) (fun _ _ h => h) (fun h => h) q fun d ρ1 v G1 H1 x1 g1 s1 b1 q1 => ?_)
  unfold lft fIsi at q1
  cases ed : d.tyS with
  | none => simp only [ed] at q1; exact q1.elim
  | some s =>
    cases ek : kitAnyB s [c] with
    | none => simp only [ed, Option.bind_some, ek, Option.map_none] at q1; exact q1.elim
    | some r =>
      simp only [ed, Option.bind_some, ek, Option.map_some] at q1
      exact ⟨v, .ty c, .type s, .type c, r, rfl, .ty c, b1.tyX x1.gh ed, kit_ty (kitAnyB_one ek), q1 _ G1 H1 x1 g1 s1 (.inl rep_bl)⟩
theorem de_isiT {cs : List String} {k : Nat} (hm : Z.X.mg "isinstance" = none) (h : DE Z m e t) (hc : DCl Z es cs) (hz : cs.length ≤ sizeLine := by show _ ≤ _; decide) (hg : Gl Z.X "isinstance" := by rfl)
    (he : starEach (e :: [(.Tuple es k p2 : Expr)]) Z.X.env = (false, eval e Z.X.env) :: starEach [.Tuple es k p2] Z.X.env := by rfl) (he2 : starEach [(.Tuple es k p2 : Expr)] Z.X.env = (false, eval (.Tuple es k p2) Z.X.env) :: starEach [] Z.X.env := by rfl) (hpl : (backTo pos (starEach [(.Tuple es k p2 : Expr)] Z.X.env)).any (·.1) = false := by rfl) :
    DE Z ⟨m.p, false⟩ (.Call (.Name "isinstance" p) [e, .Tuple es k p2] [] pos) (d1 (fIsi cs) t) := by
  obtain ⟨te, pa, sa⟩ := h
  obtain ⟨tc, pc, sc⟩ := hc
  refine ⟨_, pe_callB call_isiT hg hm (by decide +kernel) (pa_cons pa (pa_cons (pe_tup pc) pa_nil he2) he) (by decide) (by decide) he hpl, fun Ho hw G ρ σ H Q x q => ?_⟩
  refine sa Ho hw G ρ σ H _ x (DE.then (L := fun r => LJ Z Ho ⟨m.p, false⟩ G H σ r Q) (fun _ _ h => h) (fun h => h) q fun d ρ1 v G1 H1 x1 g1 s1 b1 q1 => ?_)
  unfold lft fIsi at q1
  cases ed : d.tyS with
  | none => simp only [ed] at q1; exact q1.elim
  | some s =>
    cases ek : kitAnyB s cs with
    | none => simp only [ed, Option.bind_some, ek, Option.map_none] at q1; exact q1.elim
    | some r =>
      simp only [ed, Option.bind_some, ek, Option.map_some] at q1
      refine sc σ H1 _ ⟨by rw [List.length_map]; exact hz, fun tp htp => ?_⟩
      have pc : ∀ l : List String, Paired ClsV (l.map V.ty) (l.map Value.type) := by
        intro l
        induction l with
        | nil => exact .nil
        | cons c l ih => exact .cons (.ty c) ih
      have b2 : Z.BR m.b G1 (upd H1 tp (.tup (cs.map V.ty))) d v := b1.go (Same.refl _) fun _ => same_upd htp
      refine ⟨v, tp, cs.map V.ty, .type s, cs.map Value.type, r, rfl, upd_same, pc cs, b2.tyX (x1.gh.trans (same_upd htp)) ed, kitAnyB_ok ek, ?_⟩
      exact q1 _ G1 _ (x1.to (x1.rs.garb htp) Gr.refl) g1 (fun hp => (s1 hp).trans (same_upd htp)) (.inl rep_bl)
def RepG (K : PySem.W.Frag) (mg : Str → Option Value) (x : Str) (d : D) : Prop := ∃ u v, mg x = some u ∧ RelV v u ∧ ∀ G, Rep K mg G d v
theorem de_glob {x : Str} {d : D} (h : RepG Z.X.K Z.X.mg x d) (hg : Gl Z.X x := by rfl) (hd : (x == ("__debug__" : Str)) = false := by decide) : DE Z ⟨true, false⟩ (.Name x pos) (ret d) := by
  obtain ⟨u, v, h1, h2, h3⟩ := h
  exact de_c (pe_glob hg h1 h2 hd) h3
inductive KD (K : PySem.W.Frag) : D → Value → Prop where
  | non : KD K .non .none
  | bl (b : Bool) : KD K (.bl b) (.bool b)
  | int (i : Int) (t : Tok) : KD K (.int i) (.int i t)
  | str (x : Str) (t : Tok) (h : PyData.strOk x = true) : KD K (.str x) (.str x t)
  | tup0 {a : Addr} {o : Obj} {n : Nat} (h : K.lookup a = some o) (hc : o.cls = .type "tuple") (hd : o.data = .seq #[] n) : KD K (.tup []) (.ref a)
  | tup {a : Addr} {o : Obj} {us : Array Value} {n : Nat} {ds : List D} (h : K.lookup a = some o) (hc : o.cls = .type "tuple") (hd : o.data = .seq us n) (hz : us.size ≤ sizeLine) (l : ds.length = us.toList.length)
      (hi : ∀ (i : Nat) (d : D) (u : Value), ds[i]? = some d → us.toList[i]? = some u → KD K d u) : KD K (.tup ds) (.ref a)
theorem KD.rep {K : PySem.W.Frag} {mg : Str → Option Value} {d : D} {u : Value} (h : KD K d u) : ∃ v, RelV v u ∧ ∀ G, Rep K mg G d v := by
  induction h with
  | non => exact ⟨.non, rfl, fun G => rep_non⟩
  | bl b => exact ⟨.bl b, rfl, fun G => rep_bl⟩
  | int i t => exact ⟨.int i, ⟨t, rfl⟩, fun G => rep_int⟩
  | str x t h => exact ⟨.str x, ⟨t, rfl⟩, fun G => rep_str h⟩
  | @tup0 a o n h hc hd =>
    refine ⟨.ref a, rfl, fun G => ?_⟩
    unfold Rep
    exact ⟨a, [], rfl, .inr ⟨o, #[], n, h, hc, hd, Nat.zero_le _, .nil⟩, RepL.nil⟩
  | @tup a o us n ds h hc hd hz l hi ih =>
    have key : ∀ (ds : List D) (us : List Value), ds.length = us.length → (∀ (i : Nat) (d : D) (u : Value), ds[i]? = some d → us[i]? = some u → ∃ v, RelV v u ∧ ∀ G, Rep K mg G d v) → ∃ vs, Vals vs us ∧ ∀ G, RepL K mg G ds vs := by
      intro ds
      induction ds with
      | nil =>
        intro us l _
        cases us with
        | nil => exact ⟨[], .nil, fun G => RepL.nil⟩
        | cons u us => cases l
      | cons d ds ih2 =>
        intro us l hh
        cases us with
        | nil => cases l
        | cons u us =>
          obtain ⟨v, r, q⟩ := hh 0 d u rfl rfl
          obtain ⟨vs, r2, q2⟩ := ih2 us (by simpa using l) fun i d u e1 e2 => hh (i + 1) d u (by simpa using e1) (by simpa using e2)
          exact ⟨v :: vs, .cons r r2, fun G => RepL.cons (q G) (q2 G)⟩
    obtain ⟨vs, r, q⟩ := key ds us.toList l ih
    refine ⟨.ref a, rfl, fun G => ?_⟩
    unfold Rep
    exact ⟨a, vs, rfl, .inr ⟨o, us, n, h, hc, hd, hz, r⟩, q G⟩
theorem repG_k {K : PySem.W.Frag} {mg : Str → Option Value} {x : Str} {d : D} {u : Value} (h : mg x = some u) (k : KD K d u) : RepG K mg x d := by
  obtain ⟨v, r, q⟩ := k.rep (mg := mg)
  exact ⟨u, v, h, r, q⟩
inductive KDs (K : PySem.W.Frag) : List D → List Value → Prop where
  | nil : KDs K [] []
  | cons {d : D} {u : Value} {ds : List D} {us : List Value} : KD K d u → KDs K ds us → KDs K (d :: ds) (u :: us)
theorem KDs.get {K : PySem.W.Frag} {ds : List D} {us : List Value} (h : KDs K ds us) : ds.length = us.length ∧ ∀ (i : Nat) (d : D) (u : Value), ds[i]? = some d → us[i]? = some u → KD K d u := by
  induction h with
  | nil => exact ⟨rfl, fun i d u e _ => by simp at e⟩
  | cons k _ ih =>
    refine ⟨by simp [ih.1], fun i d u e1 e2 => ?_⟩
    cases i with
    | zero => simp at e1 e2; subst e1 e2; exact k
    | succ i => exact ih.2 i d u (by simpa using e1) (by simpa using e2)
def fRepr : D → Option D := fun d => if d.pur = true ∧ d.py.showable = true ∧ d.py.shown.length ≤ sizeLine ∧ d.dep ≤ 40 ∧ PyData.strOk d.py.shown = true then some (.str d.py.shown) else none
mutual
theorem py_noDict : ∀ d : D, d.pur = true → d.py.hasDict = false
  | .non, _ => by simp [D.py, PyData.hasDict]
  | .bl _, _ => by simp [D.py, PyData.hasDict]
  | .int _, _ => by simp [D.py, PyData.hasDict]
  | .str _, _ => by simp [D.py, PyData.hasDict]
  | .tup ds, h => by simp only [D.pur] at h; simp only [D.py, PyData.hasDict]; exact pyL_noDict ds h
  | .lst ds, h => by simp only [D.pur] at h; simp only [D.py, PyData.hasDict]; exact pyL_noDict ds h
  | .dct _, h => by simp [D.pur] at h
  | .obj _ _, h => by simp [D.pur] at h
  | .exc _ _, h => by simp [D.pur] at h
  | .glo _, h => by simp [D.pur] at h
  | .scr _, h => by simp [D.pur] at h
  | .hup ds, h => by simp only [D.pur] at h; simp only [D.py, PyData.hasDict]; exact pyL_noDict ds h
  | .dcu _, h => by simp [D.pur] at h
  | .ol _, h => by simp [D.pur] at h
  | .obo _ _, h => by simp [D.pur] at h
  | .dcl _, h => by simp [D.pur] at h
  | .ty _, h => by simp [D.pur] at h
theorem pyL_noDict : ∀ ds : List D, purL ds = true → PyData.hasDictAll (pyL ds) = false
  | [], _ => by simp [pyL, PyData.hasDictAll]
  | d :: ds, h => by
    simp only [purL, Bool.and_eq_true] at h
    simp only [pyL, PyData.hasDictAll, py_noDict d h.1, pyL_noDict ds h.2, Bool.or_false]
end
def asBs : List D → Option (List Bool)
  | [] => some []
  | .bl b :: ds => (asBs ds).map (b :: ·)
  | _ => none
theorem asBs_rep {K : PySem.W.Frag} {mg : Str → Option Value} {G : Hp} : ∀ {ds : List D} {bs : List Bool} {vs : List V}, asBs ds = some bs → RepL K mg G ds vs → vs = bs.map V.bl
  | [], bs, vs, h, r => by cases h; unfold RepL at r; subst r; rfl
  | d :: ds, bs, vs, h, r => by
    unfold RepL at r
    obtain ⟨v, vs', rfl, r1, r2⟩ := r
    cases d <;> try (cases h; done)
    rename_i b
    unfold asBs at h
    cases q : asBs ds with
    | none => rw [q] at h; cases h
    | some bs' =>
      rw [q] at h
      cases h
      unfold Rep at r1
      rw [r1, asBs_rep q r2, List.map_cons]
def fAll : D → Option D
  | .lst ds => (asBs ds).map fun bs => .bl (bs.all id)
  | _ => none
theorem cld_all : ClD Z (rAll Z.X.K) fAll := by
  refine ⟨?_⟩
  intro Ho G ρ σ H d z x Q hR hx hf hq
  cases d <;> try (cases hf; done)
  rename_i ds
  unfold fAll at hf
  cases q : asBs ds with
  | none => simp only [q, Option.map_none] at hf; cases hf
  | some bs =>
    simp only [q, Option.map_some] at hf
    cases hf
    obtain ⟨a, vs, rfl, h1, h2⟩ := hx.lst hR.gh
    have := asBs_rep q h2
    subst this
    exact ⟨a, bs, rfl, SqL.of h1, hq _ _ _ hR Gr.refl (Same.refl _) rep_bl⟩
theorem de_all (hm : Z.X.mg "all" = none) (ha : DE Z m1 a ta) (hg : Gl Z.X "all" := by rfl) (he : starEach (a :: []) Z.X.env = (false, eval a Z.X.env) :: starEach [] Z.X.env := by rfl) (hh : Z.hot = false := by rfl) :
    DE Z ⟨m1.p, false⟩ (.Call (.Name "all" p2) [a] [] pos) (d1 fAll ta) := de_blt1 (cr_all (Z.calm hh)) cld_all (by decide +kernel) hm ha hg (he := he)
end
end DS
set_option Elab.async false
set_option linter.all false
set_option maxRecDepth 100000
set_option maxHeartbeats 1000000
namespace DSX
open PySem PySem.W PySem.Calls PyProof.Rows PySem.HandSPX
section
variable {prog : Program} {w : World} {M : Model} {A : Around} {E : Value → Shared → Prop} {h : Heap} {g : Array GenState} {d : Drawn} {t : Nat} {os : OsState}
variable {nm q : Str} {C N : Addr} {bs bm : List Value} {hdct : Bool} {sn : List Str} {sub : List Value} {ab : Bool} {col : Option Bool} {dd : Option Addr} {k0 k1 k2 k3 k5 : Option Value}
theorem call_up {u e t0 : Addr} {rest : List Value} {Q : Value → Shared → Prop}
    (hC : h.get? C = some (excClassObj nm q C N bs bm hdct sn sub ab col dd k0 k1 k2 k3 k5 "ValueError.__new__")) (he : h.get? e = some (excO C t0)) (hu : h.get? u = some (kxs_mw "ValueError.__init__" e)) (hz : rest.length ≤ sizeLine)
    (hq : ∀ h' t1, (∀ b o, b ≠ e → h.get? b = some o → h'.get? b = some o) → h'.get? e = some (excO C t1) → Q .none ⟨h', g, d, t, os⟩) :
    wpAny (model prog w) A (call (.ref u) rest) Q E ⟨h, g, d, t, os⟩ := by
  have FB := PySem.F.excBase_ValueError
  refine wpAny_call (codeAny_of_tree ?_)
  show wpAny _ A.in1 (callAny (.ref u) { pos := rest, kw := [] }) _ _ _
  simp only [callAny]
  refine wpAny_bind (wpAny_load hu ?_)
  have hor : (Value.type "method-wrapper" == Value.type "method" || Value.type "method-wrapper" == Value.type "builtin_function_or_method" || Value.type "method-wrapper" == Value.type "method-wrapper") = true := by decide
  simp only [kxs_mw, hor, if_true]
  refine KFB.if_so (by decide) ?_
  refine wpAny_bind (check_bound_init FB.toExcCallFacts hC he rfl ?_)
  refine wpAny_bind (wpAny_pure (wpAny_pure ?_))
  refine ⟨plainId_quiet FB.init.plain _, codeAny_builtin FB.initEntry ?_⟩
  exact exc_init_tree (cls := .ref C) (t0 := t0) (dv := none) (c2 := .none) (c3 := .none) (b4 := .bool false) he hz fun h' k e' _ => hq h' _ k e'
end
structure Err (P : Program) (K : Frag) (mg : Str → Option Value) (x qual : Str) (st : Stmt) (C fI cc cda : Addr) (fs : List Str) : Prop where
  gC : mg x = some (.ref C)
  cls : ∃ nm q N bs bm sn sub ab col dd k0 k1 k2 k3 k5, K.lookup C = some (excClassObj nm q C N bs bm true sn sub ab col dd k0 k1 k2 k3 k5 "ValueError.__new__") ∧ refsVE bm = true
  sa : findIn K (.ref C) "__setattr__" = some (some (.builtin "object.__setattr__"))
  ga : findIn K (.ref C) "__getattribute__" = some (some (.builtin "BaseException.__getattribute__"))
  gg : findIn K (.ref C) "__getattr__" = some none
  no : ∀ f ∈ fs, findIn K (.ref C) f = some none
  iC : findIn K (.ref C) "__init__" = some (some (.ref fI))
  tC : typeIn K (.ref fI) = some (.type "function")
  kC : keepIn K (.ref C) = true
  exC : subIn K (.ref C) (.type "BaseException") = some true
  veC : subIn K (.ref C) (.type "ValueError") = some true
  tyC : typeIn K (.ref C) = some (.type "type")
  hdC : hasDictIn K C = true
  fn : ∃ (oc : Value) (od : Option Addr) (kV doc pm : Value) (an : Option Addr) (ct : Value) (osl : Array (Option Value)),
    K.lookup fI = some ⟨oc, od, .func (ksFn "__init__" qual (L2.defArgs st) (L2.defBody st) (L2.defScope st) .none kV doc pm an (.ref cda) ct cc), osl⟩ ∧ codeIn K (.ref cda) qual = true
  sup : nsIn K mainGlobals "super" = some none
  up : ks_superIn K C C "__init__" = some (some (.builtin "ValueError.__init__"))
  op : nsIn K cStatics "thirdparty.any" = some none
  own : mroIn K C (.ref C) = some true
  cell : ∃ cl cld csl, K.lookup cc = some ⟨cl, cld, .cell (some (.ref C)), csl⟩
  code : ∃ ccl cdd vs ccs file tf, K.lookup cda = some ⟨ccl, cdd, .fields vs, ccs⟩ ∧ vs[2]? = some (.str file tf) ∧ ((P.main.file : Str) == file) = true
  top : (P.main.scope.names.lookup ("super" : Str)).isSome = false
section
variable {P : Program} {w : World} {A : Around} {R : Result → Shared → Prop} {K : Frag} {mg mb : Str → Option Value} {x qual : Str} {st : Stmt} {C fI cc cda : Addr} {fs : List Str}
theorem sup_step {oc kV doc pm ct : Value} {od an : Option Addr} {osl : Array (Option Value)} {a t0 L : Addr} {m : Str → Option Value} {body : List Stmt} {ar : Arg} {txt : Str} {j : Nat} {p0 p1 p2 p3 p4 p5 : Pos} {Q : Flow → Shared → Prop} {E : Value → Shared → Prop} {s : Shared}
    (T : Err P K mg x qual st C fI cc cda fs) (lk : K.lookup fI = some ⟨oc, od, .func (ksFn "__init__" qual (L2.defArgs st) (L2.defBody st) (L2.defScope st) .none kV doc pm an (.ref cda) ct cc), osl⟩)
    (X : K.In s.heap) (G : s.heap.Ns mainGlobals mg) (B : s.heap.Ns builtinsNs mb) (hB : mb "super" = some (.type "super")) (hn : s.heap.Ns L m) (hv : m ar.arg = some (.ref a)) (hx : s.heap.get? a = some (excO C t0)) (hxC : a ≠ C) (gS : mg "super" = none)
    (hp : ((L2.defArgs st).posonlyargs ++ (L2.defArgs st).args).head? = some ar) (hk : (L2.defScope st).kind = .function) (hks : (L2.defScope st).names.lookup ("super" : Str) = some .globalImplicit) (hkc : (L2.defScope st).names.lookup ("__class__" : Str) = some .free) (hka : (L2.defScope st).names.lookup ar.arg = some .local)
    {pl : Sem Bool} (hi : interactive (ksEnv qual (L2.defScope st) L fI (.ref cda) cc) = false) (he : eval (.Call (.Attribute (.Call (.Name "super" p0) [] [] p1) "__init__" p2) [.Constant (.str txt) j p3] [] p4) (ksEnv qual (L2.defScope st) L fI (.ref cda) cc) = (do
      let ov ← attributeBase (.Call (.Name "super" p0) [] [] p1) "__init__" (ksEnv qual (L2.defScope st) L fI (.ref cda) cc) (eval (.Call (.Name "super" p0) [] [] p1) (ksEnv qual (L2.defScope st) L fI (.ref cda) cc))
      standAt p2.atName
      let (f, first) ← holding [ov] (getMethod ov "__init__" pl)
      callWith p4 f first (backTo p4 (starEach [.Constant (.str txt) j p3] (ksEnv qual (L2.defScope st) L fI (.ref cda) cc))) []))
    (hq : ∀ h' tk t1, (∀ b o, b ≠ a → s.heap.get? b = some o → h'.get? b = some o) → h'.get? a = some (excO C t1) → Q .next { s with heap := h', toks := tk }) :
    _root_.PySem.wpAt (model P w) A (.func body (ksEnv qual (L2.defScope st) L fI (.ref cda) cc)) (exec (.Expr (.Call (.Attribute (.Call (.Name "super" p0) [] [] p1) "__init__" p2) [.Constant (.str txt) j p3] [] p4) p5) (ksEnv qual (L2.defScope st) L fI (.ref cda) cc)) Q E s := by
  obtain ⟨nm, q, N, bs, bm, sn, sub, ab, col, dd, k0, k1, k2, k3, k5, hC, hbm⟩ := T.cls
  have hcl : clsIn K C = some { name := nm, bases := bs, mro := .ref C :: bm, ns := N, qualname := q, hasDict := true, slotNames := sn, subclasses := sub, abstract := ab, collection := col, hasDel := false } := by unfold clsIn; rw [hC] <;> rfl
  obtain ⟨cl, cld, csl, hcell⟩ := T.cell
  obtain ⟨ccl, cdd, vs, ccs, file, tf, hcode, hvs, hfile⟩ := T.code
  obtain ⟨h, g, d, t, os⟩ := s
  refine ks_wpAt_Expr_any (ks_wpAt_MethodCall (pl := pl) ?_ he) hi (by rfl)
  refine ks_wpAt_super_base (env := ksEnv qual (L2.defScope st) L fI (.ref cda) cc) hks hkc (by decide) rfl (X _ _ lk) rfl hp rfl (X _ _ hcode) rfl hvs hfile T.top ?_
  refine ks_loadName_global hk hks (loadGlobal_builtin (env := ksEnv qual (L2.defScope st) L fI (.ref cda) cc) G gS B hB ⟨rfl, ?_⟩)
  refine wpAny_loadName_free hk hkc rfl ⟨_, X _ _ hcell, rfl⟩ ?_
  refine wpAny_loadName_local hk hka hn hv ?_
  refine ks_wpAny_isType_cls (X _ _ hC) rfl ⟨rfl, ?_⟩
  refine ks_wpAny_call_super (X _ _ hC) rfl hx rfl (fun c e => nomatch e) (looks_mroIn X T.own) (fun h1 e1 k1' => ?_)
  have X1 : K.In h1 := X.keeps k1'
  have I1 : InstAt h1 a (excO C t0) C none := ⟨k1' _ _ hx, rfl, rfl, trivial⟩
  have hI : Looks (model P w) h1 (isInstance (.ref a) (.type "ValueError")) true := I1.type.andThen (looks_subIn X1 T.veC)
  have hup := T.up
  unfold ks_superIn at hup
  rw [hcl] at hup
  refine kxs_getMethod kxs_ValueError e1 (looks_opaque X1 T.op) (l₀ := .ref C :: bm) ?_ rfl X1 hup hI hxC (by decide) ?_
  · exact fun A Q E s k q => wpAny_bind ((looks_clsIn X1 hcl) A _ E s k (wpAny_pure q))
  have k2' : ∀ b o, h1.get? b = some o → (h1.push (kxs_mw "ValueError.__init__" a)).get? b = some o := fun b o e => Heap.get?_push_of_some _ e
  refine kxs_callWith (i := "ValueError.__init__") (x := a) (by rfl) (evalArgs_plain (Calls.spliced_cons (Calls.Constant_str (k := j) (pos := p3) (Calls.spliced_nil ⟨?_, ?_⟩))))
  · exact Heap.get?_push_at rfl rfl
  · refine call_up (X1.keeps k2' _ _ hC) (k2' _ _ (k1' _ _ hx)) (Heap.get?_push_at rfl rfl) (by rw [sizeLine_eq]; exact (by decide : 1 ≤ 16777216)) (fun h' t1 k3' e3 => ?_)
    exact hq h' _ t1 (fun b o hb e => k3' b o hb (k2' b o (k1' b o e))) e3
theorem ldK {M : Model} {A : Around} {E : Value → Shared → Prop} {s : Shared} {scope : Scope} {L a cc : Addr} {cd : Value} {m : Str → Option Value} {x : Str} {pos : Pos} {v : Value} {Q : Value → Shared → Prop} (hn : s.heap.Ns L m) (hv : m x = some v) (h : Q v s)
    (hk : scope.kind = .function) (hl : scope.names.lookup x = some .local) (hd : (x == ("__debug__" : Str)) = false) :
    wpAny M A (eval (.Name x pos) (ksEnv qual scope L a cd cc)) Q E s := wpAny_Name (wpAny_loadName_local hk hl hn hv h) hd
theorem fld_new {a t1 L : Addr} {m : Str → Option Value} {f : Str} {v : Value} {q1 q2 q3 q4 : Pos} {Q : Flow → Shared → Prop} {E : Value → Shared → Prop} {s : Shared} (T : Err P K mg x qual st C fI cc cda fs)
    (X : K.In s.heap) (hn : s.heap.Ns L m) (hs : m "self" = some (.ref a)) (hv : m f = some v) (hx : s.heap.get? a = some (excO C t1)) (hf : f ∈ fs) (hk : (L2.defScope st).kind = .function)
    (ls : (L2.defScope st).names.lookup ("self" : Str) = some .local) (lf : (L2.defScope st).names.lookup f = some .local) (hd : (f == ("__debug__" : Str)) = false)
    (hsw : swapsWith (.Name f q3) (some (.Attribute (.Name "self" q1) f q2)) q4.line (ksEnv qual (L2.defScope st) L fI (.ref cda) cc) = pure false)
    (hq : ∀ h' tk dx, (∀ b o, b ≠ a → s.heap.get? b = some o → h'.get? b = some o) → s.heap.objs.size ≤ dx → dx ≠ a → h'.get? a = some { cls := .ref C, dict := some dx, data := .fields #[.ref t1, .none, .none, .none, .bool false, .none] } →
      h'.Ns1 dx (fun y => if y = f then some v else none) → Q .next { s with heap := h', toks := tk }) :
    wpAny (model P w) A (exec (.Assign [.Attribute (.Name "self" q1) f q2] (.Name f q3) q4) (ksEnv qual (L2.defScope st) L fI (.ref cda) cc)) Q E s := by
  obtain ⟨nm, q, N, bs, bm, sn, sub, ab, col, dd, k0, k1, k2, k3, k5, hC, hbm⟩ := T.cls
  have hcl : clsIn K C = some { name := nm, bases := bs, mro := .ref C :: bm, ns := N, qualname := q, hasDict := true, slotNames := sn, subclasses := sub, abstract := ab, collection := col, hasDel := false } := by unfold clsIn; rw [hC] <;> rfl
  refine plainObj_wpAny_Assign_Attribute ?_ (hs := hsw)
  refine ldK (v := v) hn hv (ldK (v := .ref a) hn hs ?_ hk ls (by decide)) hk lf hd
  refine set_plain X (ox := excO C t1) (od := none) ⟨hx, rfl, rfl, trivial⟩ T.sa ?_
  exact exc_osa X hx hcl (show refsVE (.ref C :: bm) = true from hbm) rfl (T.no f hf) fun h3 tk3 dx k3 dn dne hx3 hn3 => hq h3 tk3 dx k3 dn dne hx3 hn3
end
structure Made (h h' : Heap) (e C d : Addr) (mA : Str → Option Value) : Prop where
  keep : ∀ b o, h.get? b = some o → h'.get? b = some o
  new : h.objs.size ≤ e
  obj : ∃ oe vs, h'.get? e = some oe ∧ oe.cls = .ref C ∧ oe.dict = some d ∧ oe.data = .fields vs ∧ vs[1]? = some .none
  dbig : h.objs.size ≤ d
  dne : d ≠ e
  ns : h'.Ns1 d mA
def MadeBy (P : Program) (w : World) (K : Frag) (mg : Str → Option Value) (C : Addr) (fs : List Str) : Prop :=
  ∀ (A : Around) (R : Result → Shared → Prop) (s : Shared) (us : List Value) (mb : Str → Option Value), us.length = fs.length → K.In s.heap → s.heap.NoLimit → s.heap.Ns mainGlobals mg → s.heap.Ns builtinsNs mb → mb "super" = some (.type "super") → A.depth + 1 < recursionLimit →
    (∀ h' tk e d mA, Made s.heap h' e C d mA → (∀ vs, L2.Vals vs us → ∀ f, L2.RelO ((fs.zip vs).lookup f) (mA f)) → R (.ok (.ret (.ref e))) { s with heap := h', toks := tk }) →
    codeAny (model P w) A (.call (.ref C) ⟨us, []⟩) R s
structure Txt (qual : Str) (st : Stmt) (fI cc cda : Addr) (fs : List Str) (ar : Arg) (he : Stmt) (rest : List Stmt) : Prop where
  body : L2.defBody st = he :: rest
  first : ((L2.defArgs st).posonlyargs ++ (L2.defArgs st).args).head? = some ar
  self : ar.arg = "self"
  kind : (L2.defScope st).kind = .function
  co : (L2.defScope st).isCoroutine = false
  gen : (L2.defScope st).isGenerator = false
  nocell : ∀ y ∈ (L2.defScope st).names, y.2 ≠ .cell
  sup : (L2.defScope st).names.lookup ("super" : Str) = some .globalImplicit
  cls : (L2.defScope st).names.lookup ("__class__" : Str) = some .free
  slf : (L2.defScope st).names.lookup ("self" : Str) = some .local
  loc : ∀ f ∈ fs, (L2.defScope st).names.lookup f = some .local
  nself : ∀ f ∈ fs, ¬ f = "self"
  dbg : ∀ f ∈ fs, (f == ("__debug__" : Str)) = false
  inter : ∀ L, interactive (ksEnv qual (L2.defScope st) L fI (.ref cda) cc) = false
  binds : ∀ (kV doc pm : Value) (an : Option Addr) (ct u : Value) (us : List Value), us.length = fs.length → bindArgs (ksFn "__init__" qual (L2.defArgs st) (L2.defBody st) (L2.defScope st) .none kV doc pm an (.ref cda) ct cc) ⟨u :: us, []⟩ = pure ((("self" : Str), u) :: fs.zip us)
theorem _root_.L2.Vals.one' {vs : List L2.V} {u : Value} (r : L2.Vals vs [u]) : ∃ v, vs = [v] ∧ L2.RelV v u := by
  cases r with
  | cons h t => cases t; exact ⟨_, rfl, h⟩
section
variable {P : Program} {w : World} {K : Frag} {mg : Str → Option Value} {x qual : Str} {st : Stmt} {C fI cc cda : Addr} {f f2 txt : Str} {ar : Arg} {j : Nat} {p0 p1 p2 p3 p4 p5 q1 q2 q3 q4 r1 r2 r3 r4 : Pos} {pl : Sem Bool}
abbrev supS (p0 p1 p2 p3 p4 p5 : Pos) (txt : Str) (j : Nat) : Stmt := .Expr (.Call (.Attribute (.Call (.Name "super" p0) [] [] p1) "__init__" p2) [.Constant (.str txt) j p3] [] p4) p5
abbrev fldS (f : Str) (q1 q2 q3 q4 : Pos) : Stmt := .Assign [.Attribute (.Name "self" q1) f q2] (.Name f q3) q4
def supE (p0 p1 p2 p3 p4 : Pos) (txt : Str) (j : Nat) (pl : Sem Bool) (env : Env) : Prop := eval (.Call (.Attribute (.Call (.Name "super" p0) [] [] p1) "__init__" p2) [.Constant (.str txt) j p3] [] p4) env = (do
  let ov ← attributeBase (.Call (.Name "super" p0) [] [] p1) "__init__" env (eval (.Call (.Name "super" p0) [] [] p1) env)
  standAt p2.atName
  let (f, first) ← holding [ov] (getMethod ov "__init__" pl)
  callWith p4 f first (backTo p4 (starEach [.Constant (.str txt) j p3] env)) [])
theorem K_none {s : Shared} (X : K.In s.heap) {e : Addr} (h : s.heap.objs.size ≤ e) : K.lookup e = none := by
  cases q : K.lookup e with
  | none => rfl
  | some o => exact absurd (Heap.lt_size (X _ _ q)) (Nat.not_lt.mpr h)
theorem made1 (T : Err P K mg x qual st C fI cc cda [f]) (D : Txt qual st fI cc cda [f] ar (supS p0 p1 p2 p3 p4 p5 txt j) [fldS f q1 q2 q3 q4]) (he : ∀ L, supE p0 p1 p2 p3 p4 txt j pl (ksEnv qual (L2.defScope st) L fI (.ref cda) cc))
    (hsw : ∀ L, swapsWith (.Name f q3) (some (.Attribute (.Name "self" q1) f q2)) q4.line (ksEnv qual (L2.defScope st) L fI (.ref cda) cc) = pure false) : MadeBy P w K mg C [f] := by
  intro A R s us mb hl X hlim G B hB hroom hq
  obtain ⟨v, rfl⟩ : ∃ v, us = [v] := by
    match us, hl with
    | [v], _ => exact ⟨v, rfl⟩
  obtain ⟨oc, od, kV, doc, pm, an, ct, osl, lk, hcd⟩ := T.fn
  obtain ⟨nm, q, N, bs, bm, sn, sub, ab, col, dd, k0, k1, k2, k3, k5, hC, hbm⟩ := T.cls
  obtain ⟨hp, g, dr, tk, os⟩ := s
  have k : ∀ b o, hp.get? b = some o → ((hp.push (kdv_tup [v])).push (excO C hp.objs.size)).get? b = some o := fun b o e => Heap.get?_push_of_some _ (Heap.get?_push_of_some _ e)
  have hget : ((hp.push (kdv_tup [v])).push (excO C hp.objs.size)).get? (hp.objs.size + 1) = some (excO C hp.objs.size) := by heap_get
  have hnx : K.lookup (hp.objs.size + 1) = none := K_none X (Nat.le_succ _)
  have gS : mg "super" = none := mg_none_of X G T.sup
  have hxC : hp.objs.size + 1 ≠ C := fun z => by rw [z, hC] at hnx; cases hnx
  refine call_own PySem.F.excBase_ValueError (fun X => refsVE_contains X bm hbm) (X _ _ hC) (looks_findIn X T.iC) (fun self => bind_fn X self T.tC) (by rw [sizeLine_eq]; exact (by decide : 1 ≤ 16777216)) ?_
  refine ks_codeAny_call_defAt (fd := ksFn "__init__" qual (L2.defArgs st) (L2.defBody st) (L2.defScope st) .none kV doc pm an (.ref cda) ct cc) (body := L2.defBody st) (binds := [(("self" : Str), .ref (hp.objs.size + 1)), (f, v)]) hroom (k _ _ (X _ _ lk)) rfl (hlim.keeps k) (codeRec_of (X.keeps k) hcd) rfl
    (BindsTo.of_eq (D.binds kV doc pm an ct (.ref (hp.objs.size + 1)) [v] rfl)) D.nocell (fun y hy => ?_) (fun h1 hns hk1 => ?_) D.co D.gen D.kind
  · have hy' : y = (("self" : Str), Value.ref (hp.objs.size + 1)) ∨ y = (f, v) := by simpa using hy
    rcases hy' with rfl | rfl
    · exact D.slf
    · exact D.loc f List.mem_cons_self
  have ms : (fun y => List.lookup y [(("self" : Str), Value.ref (hp.objs.size + 1)), (f, v)].reverse) ("self" : Str) = some (.ref (hp.objs.size + 1)) := by
    have : (("self" : Str) == f) = false := by simpa using fun z => D.nself f List.mem_cons_self z.symm
    simp [List.lookup, this]
  have mf : (fun y => List.lookup y [(("self" : Str), Value.ref (hp.objs.size + 1)), (f, v)].reverse) f = some v := by simp [List.lookup]
  have hxL : ((hp.push (kdv_tup [v])).push (excO C hp.objs.size)).objs.size ≠ hp.objs.size + 1 := Nat.ne_of_gt (Heap.lt_size hget)
  rw [D.body]
  have ka : ∀ b o, hp.get? b = some o → h1.get? b = some o := fun b o e => hk1 b o (k b o e)
  refine ks_wpAt_execs_cons (sup_step (a := hp.objs.size + 1) (t0 := hp.objs.size) (pl := pl) T lk (X.keeps ka) (G.keeps ka) (B.keeps ka) hB hns (by rw [D.self]; exact ms) (hk1 _ _ hget) hxC gS D.first D.kind D.sup D.cls (by rw [D.self]; exact D.slf) (D.inter _) (he _) fun h2 tk2 t1 k2' e2 => ?_)
  have kb : ∀ b o, b ≠ hp.objs.size + 1 → h1.get? b = some o → h2.get? b = some o := k2'
  have kc : ∀ b o, hp.get? b = some o → h2.get? b = some o := fun b o e => kb b o (Nat.ne_of_lt (Nat.lt_succ_of_lt (Heap.lt_size e))) (ka b o e)
  have hns2 : h2.Ns ((hp.push (kdv_tup [v])).push (excO C hp.objs.size)).objs.size _ := hns.at fun o e => kb _ o hxL e
  refine ks_wpAt_execs_cons (wpAt_of_wpAny (fld_new T (X.keeps kc) hns2 ms mf e2 List.mem_cons_self D.kind D.slf (D.loc f List.mem_cons_self) (D.dbg f List.mem_cons_self) (hsw _) fun h3 tk3 dx k3' dn dne e3 hn3 => ?_))
  refine wpAt_of_wpAny (wpAny_execs_nil ⟨rfl, ?_⟩)
  have kd : ∀ b o, hp.get? b = some o → h3.get? b = some o := fun b o e => k3' b o (Nat.ne_of_lt (Nat.lt_succ_of_lt (Heap.lt_size e))) (kc b o e)
  refine hq h3 tk3 (hp.objs.size + 1) dx _ ⟨kd, Nat.le_succ _, ⟨_, _, e3, rfl, rfl, rfl, rfl⟩, Nat.le_trans (Nat.le_of_lt (Nat.lt_of_succ_lt (Heap.lt_size e2))) dn, dne, hn3⟩ fun vs r g => ?_
  obtain ⟨u, rfl, ru⟩ := L2.Vals.one' r
  rw [List.zip_cons_cons, List.zip_nil_left, L2.lookup_put]
  by_cases hg : g = f
  · rw [if_pos hg, if_pos hg]; exact ru
  · rw [if_neg hg, if_neg hg]; trivial
end
end DSX
namespace L2
open PySem PySem.Spec PyProof.Rows
theorem pmk_err {X : Cx} {x : Str} {C : Addr} {fs : List Str} {e : Expr} {es : List Expr} {ta : TA} {p pos : Pos} {k : Nat} (T : DSX.MadeBy X.prog X.w X.K X.mg C fs) (gC : X.mg x = some (.ref C)) (kC : PySem.W.keepIn X.K (.ref C) = true) (exC : PySem.W.subIn X.K (.ref C) (.type "BaseException") = some true) (tyC : PySem.W.typeIn X.K (.ref C) = some (.type "type"))
    (hr : Room k X.A) (ha : PA X (e :: es) ta) (hg : Gl X x) (hd : (x == ("__debug__" : Str)) = false) (he : starEach (e :: es) X.env = (false, eval e X.env) :: starEach es X.env) (hpl : (backTo pos (starEach es X.env)).any (·.1) = false) :
    PMk X (.Call (.Name x p) (e :: es) [] pos) (fun σ H Q => ta σ H fun vs H1 => vs.length = fs.length ∧ ∀ d, H1 d = none → Q (.ref C) (some d) (upd H1 d (.xd (fs.zip vs)))) := by
  intro pins s σ H Q I h
  refine wpAny_Call_Name_kw (ld_glob I hg gC ?_ hd)
  refine PySem.W.callWith_K (h₀ := X.base) I.ok.mod.kin kC (thn (ha.run pos pins s σ H _ I h) fun us s1 hh => ?_) he hpl
  obtain ⟨vs, H1, I1, r1, hl, q1⟩ := hh
  refine ⟨I1.kIn, ?_⟩
  show wpAny _ _ (call (.ref C) us) _ _ _
  have hlim := I1.nolimit
  have gl : s1.heap.Ns mainGlobals X.mg := I1.ok.mod.glob.keeps I1.bk
  obtain ⟨mb, hb, hbb⟩ := I1.ok.mod.blt
  have bl : s1.heap.Ns builtinsNs mb := hb.keeps I1.bk
  obtain ⟨hp, g, dr, tk, os⟩ := s1
  refine wpAny_call (T _ _ _ us mb (by rw [← r1.length]; exact hl) I1.kIn hlim gl bl ((hbb _ (by decide)).trans (by decide +kernel)) (by have := hr.dp; omega) fun h' tk' e d mA M rel => ?_)
  show MkP X pins σ Q (.ref e) ⟨h', g, dr, tk', os⟩
  obtain ⟨oe, fv, hoe, hc, hdd, hdat, h1⟩ := M.obj
  have hns := M.ns
  obtain ⟨G', g1, g2⟩ := restrict h' fun b => decide (b ≠ e)
  have gk : ∀ b, b ≠ e → G'.get? b = h'.get? b := fun b hb => g1 b (decide_eq_true hb)
  have ge : G'.get? e = none := g2 e (by simp)
  have old : ∀ b o, hp.get? b = some o → G'.get? b = some o := fun b o q => (gk b (Nat.ne_of_lt (Nat.lt_of_lt_of_le (Heap.lt_size q) M.new))).trans (M.keep b o q)
  have ob : ObjOk X.prog X.w (upd H1 d (.xd (fs.zip vs))) G' d (.xd (fs.zip vs)) := ⟨_, hns.at (fun o q => (gk d M.dne).trans q), rel vs r1⟩
  have J : Inv X pins σ (upd H1 d (.xd (fs.zip vs))) ⟨G', g, dr, tk', os⟩ := I1.laid (t' := tk') old M.dbig ob
  refine ⟨e, oe, fv, ⟨G', g, dr, tk', os⟩, _, .ref C, some d, rfl, J, fun b o q => ?_, ge, hoe, ⟨hc, hdd⟩, hdat, h1, ?_, rfl, I1.bare, raises_own exC tyC, q1 d (I1.hok.fresh M.dbig)⟩
  · by_cases hb : b = e
    · have q' : G'.get? b = some o := q
      rw [hb, ge] at q'; cases q'
    · exact (gk b hb).symm.trans q
  · rw [upd_ne (Ne.symm M.dne)]
    exact I1.hok.fresh M.new
end L2
set_option Elab.async false
set_option linter.all false
set_option maxRecDepth 100000
namespace DS
open PySem PySem.Spec PyProof.Rows L2
section
variable {Z : DC} {Ho : Hp} {m : Md} {e : Expr} {es : List Expr} {t : M D} {pos p pos2 p2 : Pos} {u : M (List D)} {x : Str} {C : Addr} {fs : List Str}
def sRaise (c : Str) (fs : List Str) (u : M (List D)) : MS := fun ρ => (u ρ).andS fun ds ρ => if ds.length = fs.length then .ex ⟨c, fs.zip ds⟩ ρ else .no
theorem RepF.zip {K : PySem.W.Frag} {mg : Str → Option Value} {G : Hp} : ∀ {fs : List Str} {ds : List D} {vs : List V}, RepL K mg G ds vs → RepF K mg G (fs.zip ds) (fs.zip vs)
  | [], ds, vs, _ => by simp [RepF]
  | f :: fs, [], vs, h => by unfold RepL at h; subst h; simp [RepF]
  | f :: fs, d :: ds, vs, h => by
    unfold RepL at h
    obtain ⟨v, vs', rfl, h2, h3⟩ := h
    rw [List.zip_cons_cons, List.zip_cons_cons]
    unfold RepF
    exact ⟨v, _, rfl, h2, RepF.zip h3⟩
theorem st_raise (T : DSX.MadeBy Z.X.prog Z.X.w Z.X.K Z.X.mg C fs) (gC : Z.X.mg x = some (.ref C)) (kC : PySem.W.keepIn Z.X.K (.ref C) = true) (exC : PySem.W.subIn Z.X.K (.ref C) (.type "BaseException") = some true) (tyC : PySem.W.typeIn Z.X.K (.ref C) = some (.type "type"))
    (ha : DA Z (e :: es) u) (hg : Gl Z.X x := by first | rfl | decide) (hd : (x == ("__debug__" : Str)) = false := by decide) (he : starEach (e :: es) Z.X.env = (false, eval e Z.X.env) :: starEach es Z.X.env := by rfl) (hpl : (backTo pos (starEach es Z.X.env)).any (·.1) = false := by rfl) (hh : Z.hot = false := by rfl) :
    DSt Z (.Raise (some (.Call (.Name x p) (e :: es) [] pos)) none pos2) (sRaise x fs u) := by
  obtain ⟨ta, pa, sa⟩ := ha
  refine ⟨_, ps_raise (Z.calm hh) Z.tk (pmk_err T gC kC exC tyC (Z.room hh) pa hg hd he hpl), fun Ho hw G ρ σ H E x q => ?_⟩
  refine sa Ho hw G ρ σ H _ x (DA.thenS q fun ds ρ1 vs G1 H1 x1 g1 b1 q1 => ?_)
  by_cases hl : ds.length = fs.length
  · rw [if_pos hl] at q1
    refine ⟨by rw [b1.length]; exact hl, fun d hd => ?_⟩
    obtain ⟨x2, g2⟩ := x1.allocF (o := .xd (fs.zip vs)) hd
    exact ⟨_, ρ1, _, x2.rs.anti hw, x2.g0, ⟨C, gC, rfl, .inr ⟨d, _, rfl, upd_same, RepF.zip (RepL.mono g2.1 _ _ b1)⟩⟩, q1⟩
  · rw [if_neg hl] at q1
    exact q1.elim
theorem st_raise0 {bmB : List Value} {B newId initId : String} {msg : Str} {j : Nat} (F : ExcBaseFacts B newId initId bmB) (q : PySem.W.excIn Z.X.K C bmB newId = true) (gC : Z.X.mg x = some (.ref C)) (kC : PySem.W.keepIn Z.X.K (.ref C) = true)
    (exC : PySem.W.subIn Z.X.K (.ref C) (.type "BaseException") = some true) (tyC : PySem.W.typeIn Z.X.K (.ref C) = some (.type "type")) (hg : Gl Z.X x := by first | rfl | decide) (hd : (x == ("__debug__" : Str)) = false := by decide) (hh : Z.hot = false := by rfl) :
    DSt Z (.Raise (some (.Call (.Name x p) [.Constant (.str msg) j p2] [] pos)) none pos2) (fun ρ => .ex ⟨x, []⟩ ρ) := by
  refine ⟨_, ps_raise (Z.calm hh) Z.tk (pmk_own F q gC kC (raises_own exC tyC) hg hd), fun Ho hw G ρ σ H E x q => ?_⟩
  exact ⟨G, ρ, _, x.rs.anti hw, x.g0, ⟨C, gC, rfl, .inl ⟨rfl, rfl⟩⟩, q⟩
end
def unE1 : Sl → Sl
  | .er _ => .no
  | .th _ => .no
  | .td _ => .no
  | .tb => .no
  | s => s
def unE (ρ : List Sl) : List Sl := ρ.map unE1
section
variable {K : PySem.W.Frag} {mg : Str → Option Value} {τ τ' : Tau} {Ho G : Hp} {ρ ρ' : List Sl} {σ σ' : L2.St} {H : Hp} {i : Nat} {a : Addr} {cls : Value} {d : Option Addr} {x : Exn}
theorem tg.ar {t : Option Nat} (h : τ'.ar = τ.ar) (x : DS.tg τ' t a) : DS.tg τ t a := fun k e => by rw [← h]; exact x k e
theorem SlOk.unE1 {hh : Hp} {s : Sl} {v : Option V} (h : τ'.ar = τ.ar) (x : SlOk K mg τ' G hh s v) : SlOk K mg τ G hh (DS.unE1 s) v := by
  cases s with
  | no => trivial
  | sh d => exact x
  | ow t d => obtain ⟨b, o, h1, h2, h3⟩ := x; exact ⟨b, o, h1, DS.tg.ar h h2, h3⟩
  | rs t R => obtain ⟨b, h1, h2, h3⟩ := x; exact ⟨b, h1, DS.tg.ar h h2, h3⟩
  | er y => trivial
  | th y => trivial
  | td y => trivial
  | tb => trivial
  | op y ds => exact x
  | pn k => obtain ⟨b, h1, h2⟩ := x; exact ⟨b, h1, by rw [← h]; exact h2⟩
theorem unE_get {j : Nat} {s' : Sl} (e : (unE ρ)[j]? = some s') : ∃ s, ρ[j]? = some s ∧ s' = DS.unE1 s := by
  unfold unE at e
  rw [List.getElem?_map] at e
  cases q : ρ[j]? with
  | none => rw [q] at e; cases e
  | some s => rw [q] at e; cases e; exact ⟨s, rfl, rfl⟩
theorem RS.unE (x : RS K mg τ' Ho G ρ σ H) (h : τ'.ar = τ.ar) : RS K mg τ Ho G (DS.unE ρ) σ H := by
  refine x.recast (by simp [DS.unE, x.len]) fun j s' e => ?_
  obtain ⟨s, h1, rfl⟩ := unE_get e
  exact .inr ⟨s, h1, fun hh y => y.unE1 h⟩
end
def suZ (Z : DC) (a : Addr) (oe : Obj) (cls : Value) (d : Option Addr) (pn : List (Addr × Obj)) : DC :=
  ⟨Z.X.suite a ((a, oe) :: pn), ⟨Z.τ.ar, some (a, cls, d), none, []⟩, Z.Ho, Z.G0, fun _ _ => False, Z.k, Z.g, Z.gd, true, Z.dp, Z.un, (fun h => nomatch h), (fun h => nomatch h), fun u s' x => by
    obtain ⟨_, _, _, _, _, _, _, _, _, _, _, _, _, _, _, _, z⟩ := x
    obtain ⟨_, _, _, _, _, _, z⟩ := z
    exact z.elim⟩
structure ExT (K : PySem.W.Frag) (mg : Str → Option Value) (tab : Str → Option Bool) (c : Value) : Prop where
  ok : ∀ x C b, mg x = some (.ref C) → tab x = some b → PySem.W.exmOne K (.ref C) c = some b
def sSuite (fin : List Sl → List Sl) (r : SR) : SR := match r with
  | .nx ρ => .nx (fin ρ)
  | .rt s ρ => .rt (unE1 s) (fin ρ)
  | .bk ρ => .bk (fin ρ)
  | .ct ρ => .ct (fin ρ)
  | .ex _ _ => .no
  | .no => .no
def sTryAs (i : Nat) (tab : Str → Option Bool) (b su : MS) : MS := fun ρ => match b ρ with
  | .ex x ρ1 => match tab x.cls with
    | some true => sSuite (fun ρ => (unE ρ).set i .no) (su ((unE ρ1).set i (.er x)))
    | some false => .ex x ρ1
    | none => .no
  | r => r
section
variable {Z : DC} {Ho : Hp} {pos pos' np : Pos} {b su : MS} {body suite : List Stmt} {b0 : Stmt} {x n : Str} {c : Value}
theorem LX.rs {r : SR} {G : Hp} {E E' : Ends} {Z' : DC} (hr : ∀ G ρ σ H, Z'.R Ho G ρ σ H → Z.R Ho G ρ σ H) (hex : ∀ x ρ, Z.Ex x ρ → Z'.Ex x ρ) (hE : E = E') (q : LX Z Ho G r E) : LX Z' Ho G r E' := by
  subst hE
  cases r with
  | nx ρ => exact fun σ G' H x g' => q σ G' H (hr _ _ _ _ x) g'
  | rt s ρ => exact fun v σ G' H x g' => q v σ G' H (hr _ _ _ _ x) g'
  | bk ρ => exact fun σ G' H x g' => q σ G' H (hr _ _ _ _ x) g'
  | ct ρ => exact fun σ G' H x g' => q σ G' H (hr _ _ _ _ x) g'
  | ex x ρ => exact hex x ρ q
  | no => exact q
end
end DS
set_option Elab.async false
set_option linter.all false
set_option maxRecDepth 100000
namespace DS
open PySem PySem.Spec PyProof.Rows L2
structure KxC (K : PySem.W.Frag) (C : Addr) : Prop where
  cl : (PySem.W.clsIn K C).isSome = true
  ga : PySem.W.findIn K (.ref C) "__getattribute__" = some (some (.builtin "BaseException.__getattribute__"))
  gg : PySem.W.findIn K (.ref C) "__getattr__" = some none
  exC : PySem.W.subIn K (.ref C) (.type "BaseException") = some true
  hdC : PySem.W.hasDictIn K C = true
  ha : PySem.W.findIn K (.ref C) "__class__" = some (some (.builtin "object.__class__"))
  hn : PySem.W.specialIn K (.builtin "object.__class__") "__get__" = some (some (.builtin "getset_descriptor.__get__"))
  ht : PySem.W.takesIn K (.builtin "object.__class__") = some true
  hm : PySem.W.mroIn K C (.type "object") = some true
structure XfT (K : PySem.W.Frag) (mg : Str → Option Value) (f : Str) (ok : Str → Bool) : Prop where
  get : ∀ x C, mg x = some (.ref C) → ok x = true → XfC K C ∧ PySem.W.findIn K (.ref C) f = some none
structure IsT (K : PySem.W.Frag) (mg : Str → Option Value) (tab : Str → Option Bool) (c : Addr) : Prop where
  get : ∀ x C b, mg x = some (.ref C) → tab x = some b → KxC K C ∧ PySem.W.kitOne K (.ref C) (.ref c) = some b
section
variable {Z : DC} {a : Addr} {oe : Obj} {cls : Value} {d : Option Addr} {pn : List (Addr × Obj)} {p pos p2 p3 : Pos} {n f : Str}
theorem DC.R.held {Ho G : Hp} {ρ : List Sl} {σ : L2.St} {H : Hp} {i : Nat} {x : Exn} (y : (suZ Z a oe cls d pn).R Ho G ρ σ H) (e : ρ[i]? = some (.er x)) : σ[i]? = some (some (.ref a)) ∧ RepX Z.X.K Z.X.mg G x cls d := by
  obtain ⟨O, z⟩ := y.rs
  obtain ⟨a', cls', d', h1, h2, h3⟩ := z.sl i _ e
  cases h2
  refine ⟨?_, h3⟩
  cases q : σ[i]? with
  | none => rw [q] at h1; cases h1
  | some w => rw [q] at h1; rw [show w = some (.ref a) from h1]
def asEr : Option Sl → Option Exn
  | some (.er x) => some x
  | _ => none
def erFld (i : Nat) (ok : Str → Bool) (f : Str) : M D := fun ρ => match asEr ρ[i]? with
  | some x => if ok x.cls then (match x.fs.lookup f with
    | some z => .ok z ρ
    | none => .no) else .no
  | none => .no
def erIs (i : Nat) (tab : Str → Option Bool) : M D := fun ρ => match asEr ρ[i]? with
  | some x => match tab x.cls with
    | some b => .ok (.bl b) ρ
    | none => .no
  | none => .no
end
structure Fd (g : Bool) (P : Program) (w : World) (K : PySem.W.Frag) (mg : Str → Option Value) (base : Heap) (x : Str) (k n : Nat) (F : FS) : Prop where
  ex : ∃ f fd ps, mg x = some (.ref f) ∧ PySem.W.keepIn K (.ref f) = true ∧ Binds K fd ps [] ∧ FnG g P w K mg base k f fd ps (liftSp K mg n F)
structure FnAt (K : PySem.W.Frag) (mg : Str → Option Value) (x : Str) (st : Stmt) (ps : List Str) (f : Addr) (fd : FuncData) : Prop where
  mg : mg x = some (.ref f)
  fn : Fun K x x st f fd
  bi : Binds K fd ps []
theorem fd_of {g : Bool} {P : Program} {w : World} {K : PySem.W.Frag} {mg : Str → Option Value} {base : Heap} {x : Str} {st : Stmt} {f : Addr} {fd : FuncData} {N ps : List Str} {k : Nat} {body : MS} (A : FnAt K mg x st ps f fd) (S : FnScope N ps (defScope st))
    (hb : ∀ cdv A outer s H E τ Ho G0 Ex hg room tk, DSs (mkZ P w K mg base N x (defScope st) f cdv A outer s H E τ Ho G0 Ex k g hg room tk) (defBody st) body) : Fd g P w K mg base x (k + 1) ps.length (mkF ps.length N.length body) :=
  ⟨f, fd, ps, A.mg, A.fn.kp, A.bi, fn_ds A.fn S hb⟩
theorem dr_fn {Z : DC} {e : Expr} {es : List Expr} {pos p : Pos} {rs : List (Option Nat)} {u : M (List D)} {x : Str} {k n : Nat} {F : FS} {g : Bool} (O : Fd g Z.X.prog Z.X.w Z.X.K Z.X.mg Z.X.base x k n F) (ha : DAr Z (e :: es) rs u) (hgg : g = true → Z.g = true := by first | exact fun h => nomatch h | exact fun h => h | exact fun _ => rfl) (hk : k ≤ Z.k := by exact Nat.le_of_ble_eq_true rfl) (hn : rs.length = n := by rfl)
    (hg : Gl Z.X x := by first | rfl | decide) (hdb : (x == ("__debug__" : Str)) = false := by decide) (he : starEach (e :: es) Z.X.env = (false, eval e Z.X.env) :: starEach es Z.X.env := by rfl) (hpl : (backTo pos (starEach es Z.X.env)).any (·.1) = false := by rfl) (hh : Z.hot = false := by rfl) :
    DR Z (.Call (.Name x p) (e :: es) [] pos) (dCall F rs u) := by
  obtain ⟨f, fd, ps, hm, kp, hb, G⟩ := O.ex
  exact dr_call G hgg hk hm kp hb ha hn hg hdb he hpl hh
end DS
set_option Elab.async false
set_option linter.all false
set_option maxRecDepth 100000
namespace DS
open PySem PySem.Spec PyProof.Rows L2
section
variable {Z : DC} {m m1 m2 : Md} {a b : Expr} {rest : List Expr} {ta tb : M D} {pos : Pos} {op : BoolOp}
def dAndV (ta tb : M D) : M D := bnd (dB ta) fun c => if c then tb else ret (.bl false)
def dOrV (ta tb : M D) : M D := bnd (dB ta) fun c => if c then ret (.bl true) else tb
def dNotV (ta : M D) : M D := bnd (dB ta) fun c => ret (.bl (!c))
theorem de_one (h : DE Z m a ta) : DE Z m (.BoolOp op [a] pos) ta := by
  obtain ⟨te, pa, sa⟩ := h
  exact ⟨_, pe_one pa, sa⟩
theorem LT.thenJ {Ho : Hp} {p : Bool} {r : Res Bool} {u : Bool → M D} {G H : Hp} {σ : L2.St} {Q : Bool → Hp → Prop} {Q' : VK} (h : LJ Z Ho m G H σ (r.bind u) Q')
    (hq : ∀ c ρ G' H', Z.R Ho G' ρ σ H' → Gr Ho G G' → (p = true → Same H H') → LJ Z Ho m G H σ (u c ρ) Q' → Q c H') : LT Z Ho p G H σ r Q := by
  cases r with
  | ok d ρ => exact fun G' H' x g s => hq d ρ G' H' x g s h
  | ex x ρ => exact h
  | no => exact h
theorem de_andV (ha : DE Z m1 a ta) (hr : DE Z m2 (.BoolOp .And (b :: rest) pos) tb) (hb : m2.b = false := by rfl) : DE Z ⟨m1.p && m2.p, false⟩ (.BoolOp .And (a :: b :: rest) pos) (dAndV ta tb) := by
  obtain ⟨tea, pa, sa⟩ := ha
  obtain ⟨teb, pb, sb⟩ := hr
  refine ⟨_, pe_and pa pb, fun Ho hw G ρ σ H Q x q => ?_⟩
  refine tstB sa hw x (LT.thenJ (m := ⟨m1.p && m2.p, false⟩) q fun c ρ1 G1 H1 x1 g1 s1 q1 => ?_)
  have ss : (m1.p && m2.p) = true → Same H H1 := fun h => s1 (by rw [Bool.and_eq_true] at h; exact h.1)
  cases c with
  | true =>
    rw [if_pos rfl] at q1 ⊢
    exact sb Ho hw G1 ρ1 σ H1 Q x1 (LJ.from g1 ss q1 (fun h => by simp only [Bool.and_eq_true] at h; exact h.2) (fun h => by rw [hb] at h; cases h))
  | false =>
    rw [if_neg Bool.false_ne_true] at q1 ⊢
    exact q1 _ G1 H1 x1 g1 ss (.inl rep_bl)
end
end DS
namespace DS
open PySem PySem.Spec PyProof.Rows L2
section
variable {K : PySem.W.Frag} {mg : Str → Option Value}
theorem look_mem {α : Type} : ∀ {l : List (Str × α)} {x : Str} {b : α}, l.lookup x = some b → (x, b) ∈ l
  | [], x, b, h => by simp at h
  | (y, c) :: l, x, b, h => by
    by_cases e : x = y
    · subst e
      simp at h
      subst h
      exact List.mem_cons_self
    · have e' : (x == y) = false := by simpa using e
      simp only [List.lookup, e'] at h
      exact List.mem_cons_of_mem _ (look_mem h)
theorem ExT.of {l : List (Str × Bool)} {c : Value} (h : ∀ p ∈ l, ∃ a, mg p.1 = some (.ref a) ∧ PySem.W.exmOne K (.ref a) c = some p.2) : ExT K mg (fun x => l.lookup x) c := ⟨fun x C b hx hb => by
  obtain ⟨a, h1, h2⟩ := h _ (look_mem hb)
  rw [show mg x = some (.ref a) from h1] at hx
  cases hx
  exact h2⟩
theorem XfT.of {l : List Str} {f : Str} (h : ∀ x ∈ l, ∃ a, mg x = some (.ref a) ∧ XfC K a ∧ PySem.W.findIn K (.ref a) f = some none) : XfT K mg f (fun x => l.contains x) := ⟨fun x C hx hb => by
  obtain ⟨a, h1, h2⟩ := h x (by simpa using hb)
  rw [h1] at hx
  cases hx
  exact h2⟩
theorem IsT.of {l : List (Str × Bool)} {c : Addr} (h : ∀ p ∈ l, ∃ a, mg p.1 = some (.ref a) ∧ KxC K a ∧ PySem.W.kitOne K (.ref a) (.ref c) = some p.2) : IsT K mg (fun x => l.lookup x) c := ⟨fun x C b hx hb => by
  obtain ⟨a, h1, h2⟩ := h _ (look_mem hb)
  rw [show mg x = some (.ref a) from h1] at hx
  cases hx
  exact h2⟩
end
end DS
set_option Elab.async false
set_option linter.all false
set_option maxRecDepth 100000
namespace DS
open PySem PySem.Spec PyProof.Rows L2
theorem law_callG {P : Program} {w : World} {K : PySem.W.Frag} {mg mb : Str → Option Value} {k : Nat} {fa a : Addr} {fd : FuncData} {x : Str} {sp : Sp} {s₁ : Shared} {vs : List Value} {ns : List Int}
    (kin : K.In s₁.heap) (gl : s₁.heap.Ns mainGlobals mg) (bl : s₁.heap.Ns builtinsNs mb) (boot : ∀ x : Str, x ≠ "__name__" → mb x = bootBuiltins x) (lim : s₁.heap.NoLimit) (hg : s₁.gens = #[])
    (ha : s₁.heap.get? a = some { cls := .type "list", data := .seq vs.toArray }) (hi : IntsAre vs ns) (hl : ns.length ≤ sizeLine) (hr : Room k callerA)
    (F : ∀ base : Heap, K.In base → base.Ns mainGlobals mg → FnG true P w K mg base k fa fd [x] sp) (bind : ∀ (s : Shared) (u : Value), BindsTo s fd ⟨[u], []⟩ [(x, u)])
    (hsp : ∀ H : Hp, Only H → SqL K H a (ns.map V.int) → sp [.ref a] H (fun v _ => v = .bl true) fun _ _ _ => False) :
    codeAny (model P w) callerA (.call (.ref fa) ⟨[.ref a], []⟩) (fun r s' => r = .ok (.ret (.bool true)) ∧ OldK s₁.heap s'.heap ∧ s'.os = s₁.os ∧ AllBare s'.gens) s₁ := by
  have rv := vals_ints hi
  have lv := hi.length
  have main : ∀ H : Hp, Only H → SqL K H a (ns.map V.int) → HOk P w H s₁.heap → (∀ b, H b ≠ none → b = a) → (H a ≠ none → K.lookup a = none) →
      codeAny (model P w) callerA (.call (.ref fa) ⟨[.ref a], []⟩) (fun r s' => r = .ok (.ret (.bool true)) ∧ OldK s₁.heap s'.heap ∧ s'.os = s₁.os ∧ AllBare s'.gens) s₁ := by
    intro H only sq hok one notK
    have stay : ∀ {b : Addr} {o : Obj}, s₁.heap.get? b = some o → H b = none → (hidT s₁.heap H).get? b = some o := fun e n => hidT_get e n
    have dictFree : ∀ {b : Addr} {o : Obj} {es : Array DictEntry} {ep : Nat}, s₁.heap.get? b = some o → o.data = .dict es ep → H b = none := by
      intro b o es ep e d
      cases q : H b with
      | none => rfl
      | some u =>
        obtain rfl : b = a := one b (by simp [q])
        rw [ha] at e
        cases e
        exact nomatch (show Data.seq vs.toArray _ = Data.dict es ep from d)
    have nsStay : ∀ {b : Addr} {m : Str → Option Value}, s₁.heap.Ns b m → (hidT s₁.heap H).Ns b m := by
      rintro b m ⟨o, es, ep, e, d, r⟩
      exact ⟨o, es, ep, stay e (dictFree e d), d, r⟩
    have kB : K.In (hidT s₁.heap H) := fun b o e => stay (kin b o e) (by
      cases q : H b with
      | none => rfl
      | some u =>
        obtain rfl : b = a := one b (by simp [q])
        rw [notK (by simp [q])] at e
        cases e)
    have md : Mod K mg (hidT s₁.heap H) := ⟨kB, nsStay gl, ⟨mb, nsStay bl, boot⟩, by
      obtain ⟨mc, h1, h2⟩ := lim
      exact ⟨mc, nsStay h1, h2⟩⟩
    have e0 : Env0 P w K mg (hidT s₁.heap H) callerA [] s₁ H := ⟨rfl, md, fun b o e => of_hidT e, Nat.le_of_eq (hidT_size _ _), trivial, fun b hb => (by cases hb), hok, .of_eq hg⟩
    have run := (F _ kB (nsStay gl)).run callerA (fun _ => rfl) [] s₁ H ⟨[.ref a], []⟩ [.ref a] [.ref a] _ _ hr e0 (bind s₁ (.ref a)) (.cons rfl .nil) (hsp H only sq)
    refine codeAny_mono run fun r s' h => ?_
    cases r with
    | error e =>
      obtain ⟨_, _, _, _, _, _, _, _, _, _, _, _, z⟩ := h
      exact z.elim
    | ok fl =>
      cases fl with
      | next => exact h.elim
      | brk => exact h.elim
      | cont => exact h.elim
      | ret u =>
        obtain ⟨v, H', os, bare, un, hok', r', q⟩ := h
        obtain rfl : v = .bl true := q
        obtain rfl : u = Value.bool true := r'
        refine ⟨rfl, OldK.of_keep fun b o e => ?_, os, bare⟩
        cases q : H b with
        | none => exact un.keep b o e q (by simp [frs]) (by simp)
        | some u =>
          rcases only b with z | ⟨ob, xs, z⟩
          · rw [q] at z; cases z
          · have z2 := un.frzs b ob _ z
            obtain ⟨e1, _⟩ := hok b _ z
            obtain ⟨e2, _⟩ := hok' b _ z2
            rw [e] at e1
            cases e1
            exact e2
  cases hk : K.lookup a with
  | some o =>
    have e := kin a o hk
    rw [ha] at e
    cases e
    exact main (fun _ => none) (fun _ => .inl rfl) (.inr ⟨_, vs.toArray, _, hk, rfl, rfl, rfl, by rw [List.size_toArray, lv]; exact hl, by simpa using rv⟩) (fun b u z => nomatch z) (fun b z => absurd rfl z) fun z => absurd rfl z
  | none =>
    obtain ⟨ob, hob⟩ : ∃ ob : Obj, ob = { cls := .type "list", data := .seq vs.toArray } := ⟨_, rfl⟩
    obtain ⟨H, hH⟩ : ∃ H : Hp, H = fun b => if b = a then some (.frz ob (.lst (ns.map V.int))) else none := ⟨_, rfl⟩
    have hA : H a = some (.frz ob (.lst (ns.map V.int))) := by rw [hH]; simp
    have hN : ∀ b, b ≠ a → H b = none := fun b hb => by rw [hH]; simp [hb]
    refine main H (fun b => ?_) (.inl (.inr ⟨ob, hA⟩)) (fun b u z => ?_) (fun b z => ?_) fun _ => hk
    · by_cases hb : b = a
      · subst hb; exact .inr ⟨ob, _, hA⟩
      · exact .inl (hN b hb)
    · by_cases hb : b = a
      · subst hb
        rw [hA] at z
        cases z
        subst hob
        exact ⟨ha, by rw [List.length_map]; exact hl, vs, _, rv, ha⟩
      · rw [hN b hb] at z; cases z
    · by_cases hb : b = a
      · exact hb
      · exact absurd (hN b hb) z
theorem walk_ds {l : PySem.W.OpenLaw} {n k : Nat} {q : Program} {loose : List Str} {XP : (Str → Option Value) → Heap → Prop} {YP : World → Heap → Prop} {d : DefRec} {K : Params → PySem.W.Frag} {x : Str} {Fn : FS}
    (hn : l.most = some n) (hn2 : n ≤ sizeLine) (hdf : d.params.defaults = []) (hr : Room k callerA) (hY : ∀ (w : World) (h : Heap), YP w h → (K w.params).In h)
    (F : ∀ (w : World) (mg : Str → Option Value) (fa : Addr) (h : Heap), (K w.params).In h → h.Ns mainGlobals mg → mg d.name = some (.ref fa) →
      ∃ fd : FuncData, (∀ (s : Shared) (u : Value), BindsTo s fd ⟨[u], []⟩ [(x, u)]) ∧ ∀ base : Heap, (K w.params).In base → base.Ns mainGlobals mg → FnG true l.prog w (K w.params) mg base k fa fd [x] (liftSp (K w.params) mg 1 Fn))
    (law : ∀ ns : List Int, ns.length ≤ n → ∃ ss, Fn [.sh (.scr ns)] = .ok (.sh (.bl true)) ss) :
    PySem.W.WalkO q loose XP YP l.row.toRowW d [] (fun f vs => PySem.call f vs) := by
  refine Att.attach_call hn hdf fun w s₀ s₁ mg mb fa o pm cd doc a vs ns G Y ho hd hcd hmg hobj hints hlen hg => ?_
  have kin := hY w _ Y
  obtain ⟨fd, hb, hF⟩ := F w mg fa _ kin G.T.g hmg
  refine law_callG kin G.T.g G.T.b G.T.builtins G.T.nolimit hg hobj hints (Nat.le_trans hlen hn2) hr hF hb fun H only sq => ?_
  obtain ⟨ss, hss⟩ := law ns hlen
  refine ⟨rfl, ⟨fun _ => none, none, none, []⟩, fun _ => none, H, [.sh (.scr ns)], ⟨fun _ => none, Same.refl _, (fun _ _ z => nomatch z), (fun _ _ z => nomatch z), rfl, fun i s e => ?_⟩, ?_⟩
  · match i, e with
    | 0, e =>
      simp at e
      subst e
      exact ⟨_, rfl, by unfold Rep; exact ⟨a, rfl, sq⟩⟩
    | i + 1, e => simp at e
  · rw [hss]
    intro v G' H' r g
    obtain ⟨u, h1, h2⟩ := r.sh (i := 0) rfl
    simp at h1
    subst h1
    unfold Rep at h2
    exact h2
end DS
set_option Elab.async false
set_option linter.all false
set_option maxRecDepth 100000
set_option maxHeartbeats 1000000
namespace DS
open PySem PySem.Spec PyProof.Rows L2
theorem sSeq_nx {u w : MS} {ρ ρ' : List Sl} (h : u ρ = .nx ρ') : sSeq u w ρ = w ρ' := by simp [sSeq, h]
theorem sEach_nx {g : D → List Sl → Option (List Sl)} {b : MS} {kl : List Nat} {d : D} {ds : List D} {ρ ρ1 ρ2 : List Sl} (h : g d ρ = some ρ1) (h2 : b ρ1 = .nx ρ2) : sEach g b kl (d :: ds) ρ = sEach g b kl ds (drops kl ρ2) := by
  simp only [sEach, h, h2]
theorem sEach_ex {g : D → List Sl → Option (List Sl)} {b : MS} {kl : List Nat} {d : D} {ds : List D} {ρ ρ1 ρ2 : List Sl} {x : Exn} (h : g d ρ = some ρ1) (h2 : b ρ1 = .ex x ρ2) : sEach g b kl (d :: ds) ρ = .ex x ρ2 := by
  simp only [sEach, h, h2]
namespace Drw
def b__law_begun : MS := (sSeq (sSet 1 (dLc (lItems (dVar 0)) (gN 2) (dB (d2 fGe (d1 fAbs (dVarB 2)) (d2 fPow (ret (.int 10)) (ret (.int 18))))) (d2 fSub (d1 fAbs (dVarB 2)) (d2 fPow (ret (.int 10)) (ret (.int 18)))) [2]))
    (sRet (dwNew (dMove 1) (dFz (dLc (lItems (dVar 0)) (gN 2) (ret true) (d2 fMod (d1 fAbs (dVarB 2)) (ret (.int 2147483629))) [2])))))
def F__law_begun : FS := mkF 1 3 b__law_begun
def l2 : MS := (sSet 4 (dSh (d2 fMod (d2 fAdd (d2 fAdd (d2 fMul (dVarB 4) (ret (.int 48271))) (dVarB 5)) (dVarB 1)) (dVarB 3))))
def l1 : MS := (sSeq (sSet 4 (dSh (d2 fAdd (d2 fMul (ret (.int 104729)) (dVarB 1)) (d2 fDiv (dVarB 3) (ret (.int 7))))))
    (sSeq (sFor (lDwC 0) (gN 5) l2 [5])
    (sSet 2 (dSh (d2 fAdd (d2 fMul (dVarB 2) (ret (.int 2147483647))) (d2 fMod (d2 fPow (dVarB 4) (ret (.int 5))) (dVarB 3)))))))
def b__law_mixed : MS := (sSeq (sSet 1 (dSh (d2 fAdd (dwI (·.turn) 0) (ret (.int 1)))))
    (sSeq (sDw (fun s z => { s with turn := z }) 0 (dVar 1))
    (sSeq (sSet 2 (dSh (ret (.int 0))))
    (sSeq (sFor (lItems (dFz (dLst (dCons (ret (.int 2147483629)) (dCons (ret (.int 2147483587)) (dCons (ret (.int 2147483579)) (dCons (ret (.int 2147483563)) dNil))))))) (gN 3) l1 [3, 4, 5])
    (sRet (dMove 2))))))
def F__law_mixed : FS := mkF 1 6 b__law_mixed
def b__law_take : MS := (sSeq (sIf (dAndT (dB (d2 fEq (dwI (·.rest) 0) (ret (.int 0)))) (dB (d2 fNe (dwL 0) (ret (.lst []))))) (sDw (fun s z => { s with rest := z }) 0 (dwP 0)) (sIf (dB (d2 fEq (dwI (·.rest) 0) (ret (.int 0)))) (sDw (fun s z => { s with rest := z }) 0 (dFz (dCall F__law_mixed [some 0] (dRef 0 dNil)))) sNil))
    (sSeq (sSet 2 (dSh (d2 fMod (dwI (·.rest) 0) (dVarB 1))))
    (sSeq (sDw (fun s z => { s with rest := z }) 0 (d2 fDiv (dwI (·.rest) 0) (dVarB 1)))
    (sRet (dMove 2)))))
def F__law_take : FS := mkF 2 3 b__law_take
def b__law_pick : MS := (sRet (dSh (d2 fIx (dVar 1) (dFz (dCall F__law_take [some 0, none] (dRef 0 (dCons (d1 fLen (dVarB 1)) dNil)))))))
def F__law_pick : FS := mkF 2 2 b__law_pick
end Drw
open Drw
structure DwOk (n : Nat) (s : Dw) : Prop where
  large : ∀ z ∈ s.large, 0 ≤ z
  cells : ∀ z ∈ s.cells, 0 ≤ z
  rest : 0 ≤ s.rest
  turn : 0 ≤ s.turn
  few : s.turn + n ≤ 1000000000
theorem DwOk.le {m n : Nat} {s : Dw} (h : DwOk n s) (l : m ≤ n) : DwOk m s := ⟨h.large, h.cells, h.rest, h.turn, by have := h.few; omega⟩
theorem flat_int (i : Int) : (D.int i).flat = true := by simp [D.flat, D.pur, D.dep]
theorem flat_non : (D.non).flat = true := by simp [D.flat, D.pur, D.dep]
theorem flat_str (x : Str) : (D.str x).flat = true := by simp [D.flat, D.pur, D.dep]
theorem eqv_int (i j : Int) : (D.int i).eqv (.int j) = (i == j) := by simp [D.eqv, D.py, PyData.eqv]
theorem eqv_str (x y : Str) : (D.str x).eqv (.str y) = (x == y) := by simp [D.eqv, D.py, PyData.eqv]
theorem purL_ints : ∀ ns : List Int, purL (ns.map D.int) = true
  | [] => rfl
  | n :: ns => by simp [purL, D.pur, purL_ints ns]
theorem depL_ints : ∀ ns : List Int, depL (ns.map D.int) = 0
  | [] => rfl
  | n :: ns => by simp [depL, D.dep, depL_ints ns]
theorem flat_ints (ns : List Int) : (D.lst (ns.map D.int)).flat = true := by simp [D.flat, D.pur, D.dep, purL_ints, depL_ints]
theorem flat_lst0 : (D.lst []).flat = true := flat_ints []
theorem eqv_lst0 (ds : List D) : (D.lst ds).eqv (.lst []) = ds.isEmpty := by
  cases ds <;> simp [D.eqv, D.py, pyL, PyData.eqv, PyData.eqvAll]
theorem big0 : 100000 < sizeLine := by decide
theorem l2_run {s : Dw} {t : Option Nat} {tu : Int} {f p b c : Int} (hp : 0 < p) (h0 : 0 ≤ b) (hc : 0 ≤ c) (ht : 0 ≤ tu) :
    ∃ b', 0 ≤ b' ∧ b' < p ∧ l2 [.rs t s, .sh (.int tu), .sh (.int f), .sh (.int p), .sh (.int b), .sh (.int c)] = .nx [.rs t s, .sh (.int tu), .sh (.int f), .sh (.int p), .sh (.int b'), .sh (.int c)] := by
  have hs : small64 48271 = true := by decide
  have e : (b * 48271 + c + tu).fmod p = (b * 48271 + c + tu) % p := Int.fmod_eq_emod_of_nonneg _ (by omega)
  refine ⟨(b * 48271 + c + tu) % p, Int.emod_nonneg _ (by omega), Int.emod_lt_of_pos _ hp, ?_⟩
  have hp' : p ≠ 0 := by omega
  simp [l2, sSet, dSh, d2, bnd, Res.bind, Res.andS, dVarB, ret, lft, fMod, fI, fAdd, fMul, fMulI, fOr, hs, hp', e]
theorem l2_loop {s : Dw} {t : Option Nat} {tu : Int} {f p : Int} (hp : 0 < p) (ht : 0 ≤ tu) : ∀ (cs : List Int) (b : Int), (∀ z ∈ cs, 0 ≤ z) → 0 ≤ b →
    ∃ b', 0 ≤ b' ∧ b' ≤ max b p ∧ sEach (gN 5) l2 [5] (cs.map D.int) [.rs t s, .sh (.int tu), .sh (.int f), .sh (.int p), .sh (.int b), .no] = .nx [.rs t s, .sh (.int tu), .sh (.int f), .sh (.int p), .sh (.int b'), .no]
  | [], b, _, h0 => ⟨b, h0, by omega, rfl⟩
  | c :: cs, b, hc, h0 => by
    obtain ⟨b1, h1, h2, h3⟩ := l2_run (s := s) (t := t) (f := f) hp h0 (hc c List.mem_cons_self) ht
    obtain ⟨b2, h4, h5, h6⟩ := l2_loop (s := s) (t := t) (f := f) hp ht cs b1 (fun z hz => hc z (List.mem_cons_of_mem _ hz)) h1
    refine ⟨b2, h4, by omega, ?_⟩
    rw [List.map_cons, sEach_nx (ρ1 := [.rs t s, .sh (.int tu), .sh (.int f), .sh (.int p), .sh (.int b), .sh (.int c)]) rfl h3]
    exact h6
theorem l1_run {s : Dw} {t : Option Nat} {tu : Int} {f p : Int} {x : Sl} (hp : 0 < p) (hp2 : p < 2147483648) (hc : ∀ z ∈ s.cells, 0 ≤ z) (ht : 0 ≤ tu) (ht2 : tu ≤ 1000000000) (hf : 0 ≤ f) :
    ∃ f' b', 0 ≤ f' ∧ l1 [.rs t s, .sh (.int tu), .sh (.int f), .sh (.int p), x, .no] = .nx [.rs t s, .sh (.int tu), .sh (.int f'), .sh (.int p), .sh (.int b'), .no] := by
  have hs : small64 104729 = true := by decide
  have hs2 : small64 2147483647 = true := by decide
  have e7 : p.fdiv 7 = p / 7 := Int.fdiv_eq_ediv_of_nonneg _ (by omega)
  have hb : 0 ≤ 104729 * tu + p / 7 := by omega
  obtain ⟨b', h1, h2, h3⟩ := l2_loop (s := s) (t := t) (f := f) hp ht s.cells _ hc hb
  have hp' : p ≠ 0 := by omega
  have e : (b' ^ 5).fmod p = (b' ^ 5) % p := Int.fmod_eq_emod_of_nonneg _ (by omega)
  have hb5 : 0 ≤ (b' ^ 5) % p := Int.emod_nonneg _ hp'
  have hsm : b'.natAbs < 2 ^ 64 := by omega
  refine ⟨f * 2147483647 + (b' ^ 5) % p, b', by omega, ?_⟩
  simp only [l1]
  rw [sSeq_nx (ρ' := [.rs t s, .sh (.int tu), .sh (.int f), .sh (.int p), .sh (.int (104729 * tu + p / 7)), .no])]
  · rw [sSeq_nx (ρ' := [.rs t s, .sh (.int tu), .sh (.int f), .sh (.int p), .sh (.int b'), .no])]
    · have h5 : (5 : Int).toNat = 5 := rfl
      simp [sSet, dSh, d2, bnd, Res.bind, Res.andS, dVarB, ret, lft, fMod, fI, fAdd, fMul, fMulI, fOr, fPow, hs2, hp', e, hsm, h5]
    · simpa [sFor, lDwC, drw, Res.andS] using h3
  · simp [sSet, dSh, d2, bnd, Res.bind, Res.andS, dVarB, ret, lft, fI, fAdd, fMul, fMulI, fOr, fDiv, hs, e7]
theorem mixed_run {n : Nat} {s : Dw} {t : Option Nat} (h : DwOk (n + 1) s) : ∃ m, 0 ≤ m ∧ F__law_mixed [.rs t s] = .ok (.sh (.int m)) [.rs none { s with turn := s.turn + 1 }] := by
  have hf := h.few
  have h0 := h.turn
  let s' : Dw := { s with turn := s.turn + 1 }
  have L : ∃ f', 0 ≤ f' ∧ sEach (gN 3) l1 [3, 4, 5] [.int 2147483629, .int 2147483587, .int 2147483579, .int 2147483563] [.rs (some 0) s', .sh (.int (s.turn + 1)), .sh (.int 0), .no, .no, .no] = .nx [.rs (some 0) s', .sh (.int (s.turn + 1)), .sh (.int f'), .no, .no, .no] := by
    have hc : ∀ z ∈ s'.cells, 0 ≤ z := h.cells
    obtain ⟨f1, b1, z1, e1⟩ := l1_run (s := s') (t := some 0) (tu := s.turn + 1) (f := 0) (p := 2147483629) (x := .no) (by omega) (by omega) hc (by omega) (by omega) (by omega)
    obtain ⟨f2, b2, z2, e2⟩ := l1_run (s := s') (t := some 0) (tu := s.turn + 1) (f := f1) (p := 2147483587) (x := .no) (by omega) (by omega) hc (by omega) (by omega) z1
    obtain ⟨f3, b3, z3, e3⟩ := l1_run (s := s') (t := some 0) (tu := s.turn + 1) (f := f2) (p := 2147483579) (x := .no) (by omega) (by omega) hc (by omega) (by omega) z2
    obtain ⟨f4, b4, z4, e4⟩ := l1_run (s := s') (t := some 0) (tu := s.turn + 1) (f := f3) (p := 2147483563) (x := .no) (by omega) (by omega) hc (by omega) (by omega) z3
    refine ⟨f4, z4, ?_⟩
    rw [sEach_nx rfl e1, sEach_nx rfl e2, sEach_nx rfl e3, sEach_nx rfl e4]
    rfl
  obtain ⟨m, hm, L⟩ := L
  refine ⟨m, hm, ?_⟩
  have z4 : 4 ≤ sizeLine := by decide
  simp [F__law_mixed, mkF, b__law_mixed, tagFrom, Sl.tagged, sSeq, sSet, dSh, d2, bnd, Res.bind, Res.andS, dwI, drw, ret, lft, fAdd, sDw, dVar, sFor, lItems, dFz, dLst, dCons, dNil, z4, Sl.d, D.items]
  simp only [s'] at L
  rw [L]
  simp [sRet, dMove, Res.andS, keepL, keep1, Sl.tagged]
theorem take_run {n : Nat} {s : Dw} {t : Option Nat} {k : Int} (h : DwOk (n + 1) s) (hk : 0 < k) (hk2 : k < 1073741824) :
    ∃ r s', 0 ≤ r ∧ r < k ∧ DwOk n s' ∧ F__law_take [.rs t s, .sh (.int k)] = .ok (.sh (.int r)) [.rs none s', .no] := by
  have fin : ∀ s1 : Dw, DwOk n s1 → ∃ r s', 0 ≤ r ∧ r < k ∧ DwOk n s' ∧ (sSeq (sSet 2 (dSh (d2 fMod (dwI (·.rest) 0) (dVarB 1))))
      (sSeq (sDw (fun s z => { s with rest := z }) 0 (d2 fDiv (dwI (·.rest) 0) (dVarB 1)))
      (sRet (dMove 2)))) [.rs (some 0) s1, .sh (.int k), .no] = .rt (.sh (.int r)) [.rs (some 0) s', .sh (.int k), .sh (.int r)] := by
    intro s1 h1
    have hk' : k ≠ 0 := by omega
    have hn : k.natAbs < 1073741824 := by omega
    have e : s1.rest.fmod k = s1.rest % k := Int.fmod_eq_emod_of_nonneg _ (by omega)
    have e2 : s1.rest.fdiv k = s1.rest / k := Int.fdiv_eq_ediv_of_nonneg _ (by omega)
    refine ⟨s1.rest % k, { s1 with rest := s1.rest / k }, Int.emod_nonneg _ hk', Int.emod_lt_of_pos _ hk, ⟨h1.large, h1.cells, Int.ediv_nonneg h1.rest (by omega), h1.turn, h1.few⟩, ?_⟩
    simp [sSeq, sSet, dSh, d2, bnd, Res.bind, Res.andS, dwI, drw, dVarB, lft, ret, fMod, fDiv, fI, hk', hn, e, e2, sDw, sRet, dMove]
  have go : ∃ s1, DwOk n s1 ∧ (sIf (dAndT (dB (d2 fEq (dwI (·.rest) 0) (ret (.int 0)))) (dB (d2 fNe (dwL 0) (ret (.lst []))))) (sDw (fun s z => { s with rest := z }) 0 (dwP 0)) (sIf (dB (d2 fEq (dwI (·.rest) 0) (ret (.int 0)))) (sDw (fun s z => { s with rest := z }) 0 (dFz (dCall F__law_mixed [some 0] (dRef 0 dNil)))) sNil)) [.rs (some 0) s, .sh (.int k), .no] = .nx [.rs (some 0) s1, .sh (.int k), .no] := by
    by_cases hr : s.rest = 0
    · cases hl : s.large with
      | nil =>
        obtain ⟨m, hm, e⟩ := mixed_run (t := some 0) h
        refine ⟨{ s with turn := s.turn + 1, rest := m }, ⟨h.large, h.cells, hm, by have := h.turn; show 0 ≤ s.turn + 1; omega, by have := h.few; show s.turn + 1 + n ≤ _; omega⟩, ?_⟩
        simp [sIf, dAndT, dB, d2, bnd, Res.bind, Res.andS, dwI, drw, ret, lft, fEq, fNe, flat_int, eqv_int, hr, asB, dwL, hl, flat_lst0, eqv_lst0, sDw, dFz, dCall, dRef, refOk, dNil, mk, e, back, Sl.tagged, tagOf, Sl.d]
      | cons z zs =>
        have hz : 0 ≤ z := h.large z (by rw [hl]; exact List.mem_cons_self)
        have fl : (D.lst (D.int z :: zs.map D.int)).flat = true := flat_ints (z :: zs)
        refine ⟨{ s with large := zs, rest := z }, ⟨fun y hy => h.large y (by rw [hl]; exact List.mem_cons_of_mem _ hy), h.cells, hz, h.turn, by have := h.few; show s.turn + n ≤ _; omega⟩, ?_⟩
        simp [sIf, dAndT, dB, d2, bnd, Res.bind, Res.andS, dwI, drw, ret, lft, fEq, fNe, flat_int, eqv_int, hr, asB, dwL, hl, flat_lst0, eqv_lst0, fl, sDw, dwP]
    · refine ⟨s, h.le (by omega), ?_⟩
      simp [sIf, dAndT, dB, d2, bnd, Res.bind, Res.andS, dwI, drw, ret, lft, fEq, fNe, flat_int, eqv_int, hr, asB, sNil]
  obtain ⟨s1, h1, e1⟩ := go
  obtain ⟨r, s', q1, q2, q3, e2⟩ := fin s1 h1
  refine ⟨r, s', q1, q2, q3, ?_⟩
  have B : b__law_take [.rs (some 0) s, .sh (.int k), .no] = .rt (.sh (.int r)) [.rs (some 0) s', .sh (.int k), .sh (.int r)] := by
    unfold b__law_take
    rw [sSeq_nx e1]
    exact e2
  simp [F__law_take, mkF, tagFrom, Sl.tagged, B, keepL, keep1]
theorem asInts_ints : ∀ ns : List Int, asInts (ns.map D.int) = some ns
  | [] => rfl
  | n :: ns => by simp [asInts, asInt, asInts_ints ns]
theorem ten18 : (if 0 ≤ (18 : Int) ∧ (18 : Int) ≤ 1000000 ∧ (10 : Int).natAbs < 2 ^ 64 then some ((10 : Int) ^ (18 : Int).toNat) else none) = some 1000000000000000000 := by decide
theorem begun_large (sc : D) (x : Sl) : ∀ (ns : List Int) (acc : List Int), acc.length + ns.length ≤ 1000 → (∀ z ∈ acc, 0 ≤ z) →
    ∃ ls : List Int, (∀ z ∈ ls, 0 ≤ z) ∧ lcRun (gN 2) (dB (d2 fGe (d1 fAbs (dVarB 2)) (d2 fPow (ret (.int 10)) (ret (.int 18))))) (d2 fSub (d1 fAbs (dVarB 2)) (d2 fPow (ret (.int 10)) (ret (.int 18)))) [2] (ns.map D.int) (acc.map D.int) [.sh sc, x, .no] = some (ls.map D.int, [.sh sc, x, .no])
  | [], acc, _, h => ⟨acc, h, rfl⟩
  | n :: ns, acc, hl, h => by
    have hz : acc.length < sizeLine := Nat.lt_trans (by simp only [List.length_cons] at hl; omega) big0
    by_cases hn : (1000000000000000000 : Int) ≤ (if n < 0 then -n else n)
    · obtain ⟨ls, h1, h2⟩ := begun_large sc x ns (acc ++ [(if n < 0 then -n else n) - 1000000000000000000]) (by simp only [List.length_cons, List.length_append, List.length_nil] at hl ⊢; omega) (fun z hz => by
        rcases List.mem_append.mp hz with q | q
        · exact h z q
        · simp at q; omega)
      refine ⟨ls, h1, ?_⟩
      rw [← h2]
      simp only [List.map_cons, lcRun, gN]
      simp [dB, d2, d1, bnd, Res.bind, dVarB, ret, lft, fAbs, fPow, fI, ten18, fGe, asB, hn, fSub, hz, drops]
    · obtain ⟨ls, h1, h2⟩ := begun_large sc x ns acc (by simp only [List.length_cons] at hl; omega) h
      refine ⟨ls, h1, ?_⟩
      rw [← h2]
      simp only [List.map_cons, lcRun, gN]
      simp [dB, d2, d1, bnd, Res.bind, dVarB, ret, lft, fAbs, fPow, fI, ten18, fGe, asB, hn, drops]
theorem begun_cells (sc : D) (x : Sl) : ∀ (ns : List Int) (acc : List Int), acc.length + ns.length ≤ 1000 → (∀ z ∈ acc, 0 ≤ z) →
    ∃ ls : List Int, (∀ z ∈ ls, 0 ≤ z) ∧ lcRun (gN 2) (ret true) (d2 fMod (d1 fAbs (dVarB 2)) (ret (.int 2147483629))) [2] (ns.map D.int) (acc.map D.int) [.sh sc, x, .no] = some (ls.map D.int, [.sh sc, x, .no])
  | [], acc, _, h => ⟨acc, h, rfl⟩
  | n :: ns, acc, hl, h => by
    have hz : acc.length < sizeLine := Nat.lt_trans (by simp only [List.length_cons] at hl; omega) big0
    obtain ⟨ls, h1, h2⟩ := begun_cells sc x ns (acc ++ [(if n < 0 then -n else n) % 2147483629]) (by simp only [List.length_cons, List.length_append, List.length_nil] at hl ⊢; omega) (fun z hz => by
      rcases List.mem_append.mp hz with q | q
      · exact h z q
      · simp at q; omega)
    refine ⟨ls, h1, ?_⟩
    rw [← h2]
    have e : (if n < 0 then -n else n).fmod 2147483629 = (if n < 0 then -n else n) % 2147483629 := Int.fmod_eq_emod_of_nonneg _ (by omega)
    simp only [List.map_cons, lcRun, gN]
    simp [d2, d1, bnd, Res.bind, dVarB, ret, lft, fAbs, fMod, fI, hz, drops, e]
theorem begun_run {ns : List Int} (h : ns.length ≤ 63) : ∃ s, DwOk 1000000000 s ∧ F__law_begun [.sh (.scr ns)] = .ok (.rs none s) [.no] := by
  obtain ⟨ls, h1, h2⟩ := begun_large (.scr ns) .no ns [] (by simp; omega) (by simp)
  obtain ⟨cs, h3, h4⟩ := begun_cells (.scr ns) .no ns [] (by simp; omega) (by simp)
  refine ⟨⟨ls, cs, 0, 0⟩, ⟨h1, h3, Int.le_refl _, Int.le_refl _, by simp⟩, ?_⟩
  simp only [List.map_nil] at h2 h4
  simp [F__law_begun, mkF, b__law_begun, tagFrom, Sl.tagged, sSeq, sSet, dLc, lItems, bnd, Res.bind, Res.andS, dVar, lft, D.items, drops, h2, mend, shOr, sRet, dwNew, dMove, ret, dFz, h4, Sl.d, asInts_ints, keepL, keep1]
def D.itemsN : D → Option (List D)
  | .lst ds => some ds
  | .tup ds => some ds
  | _ => none
theorem atI_ok {ds : List D} {r : Int} (h0 : 0 ≤ r) (h1 : r < ds.length) : ∃ d, d ∈ ds ∧ atI ds r = some d := by
  have hr : r.toNat < ds.length := by omega
  refine ⟨ds[r.toNat], List.getElem_mem hr, ?_⟩
  have e : ixN ds.length r = some r.toNat := by
    unfold ixN
    simp [h0, h1]
  simp [atI, e, hr]
theorem pick_run {n : Nat} {s : Dw} {t : Option Nat} {d : D} {ds : List D} (h : DwOk (n + 1) s) (hd : d.itemsN = some ds) (h0 : ds ≠ []) (hl : ds.length < 1000000) :
    ∃ e s', e ∈ ds ∧ DwOk n s' ∧ F__law_pick [.rs t s, .sh d] = .ok (.sh e) [.rs none s', .no] := by
  have hp : 0 < ds.length := List.length_pos_iff.mpr h0
  obtain ⟨r, s', q1, q2, q3, e⟩ := take_run (t := some 0) (k := ds.length) h (by omega) (by omega)
  obtain ⟨y, hy, ey⟩ := atI_ok q1 q2
  refine ⟨y, s', hy, q3, ?_⟩
  have e1 : fLen d = some (.int ds.length) := by
    cases d <;> simp [D.itemsN] at hd <;> subst hd <;> rfl
  have e2 : fIx d (.int r) = some y := by
    cases d <;> simp [D.itemsN] at hd <;> subst hd <;> simpa [fIx] using ey
  simp [F__law_pick, mkF, b__law_pick, tagFrom, Sl.tagged, sRet, dSh, d2, bnd, Res.bind, Res.andS, dVar, dVarB, dFz, dCall, dRef, refOk, dCons, d1, e1, lft, dNil, ret, mk, e, back, tagOf, Sl.d, e2, keepL, keep1]
end DS
set_option Elab.async false
set_option linter.all false
set_option maxRecDepth 100000
set_option maxHeartbeats 1000000
namespace DS
open PySem PySem.Spec PyProof.Rows L2
variable {α β : Type} {ρ ρ1 : List Sl} {a : α} {u : α → M β} {x : Exn}
@[simp] theorem x_bnd (t : M α) (u : α → M β) : bnd t u ρ = (t ρ).bind u := rfl
@[simp] theorem x_bok : (Res.ok a ρ).bind u = u a ρ := rfl
@[simp] theorem x_bex : (Res.ex x ρ : Res α).bind u = .ex x ρ := rfl
@[simp] theorem x_bno : (Res.no : Res α).bind u = .no := rfl
@[simp] theorem x_aok {u : α → MS} : (Res.ok a ρ).andS u = u a ρ := rfl
@[simp] theorem x_aex {u : α → MS} : (Res.ex x ρ : Res α).andS u = .ex x ρ := rfl
@[simp] theorem x_ano {u : α → MS} : (Res.no : Res α).andS u = .no := rfl
@[simp] theorem x_ret : ret a ρ = .ok a ρ := rfl
@[simp] theorem x_lft1 : lft (some a) ρ = .ok a ρ := rfl
@[simp] theorem x_lft0 : lft (none : Option α) ρ = .no := rfl
def slD (ρ : List Sl) (i : Nat) : Option Sl → Res D
  | some (.sh d) => .ok d ρ
  | some (.ow _ d) => .ok d (ρ.set i (.sh d))
  | _ => .no
def slB (ρ : List Sl) : Option Sl → Res D
  | some (.sh d) => .ok d ρ
  | some (.ow _ d) => .ok d ρ
  | _ => .no
def slM (ρ : List Sl) (i : Nat) : Option Sl → Res Sl
  | some (.sh d) => .ok (.sh d) ρ
  | some (.ow t d) => .ok (.ow t d) (ρ.set i .no)
  | _ => .no
@[simp] theorem x_var (i : Nat) : dVar i ρ = slD ρ i ρ[i]? := by unfold dVar slD; rfl
@[simp] theorem x_varB (i : Nat) : dVarB i ρ = slB ρ ρ[i]? := by unfold dVarB slB; rfl
@[simp] theorem x_move (i : Nat) : dMove i ρ = slM ρ i ρ[i]? := by unfold dMove slM; rfl
@[simp] theorem x_slD1 {i : Nat} {d : D} : slD ρ i (some (.sh d)) = .ok d ρ := rfl
@[simp] theorem x_slD2 {i : Nat} {d : D} {t : Option Nat} : slD ρ i (some (.ow t d)) = .ok d (ρ.set i (.sh d)) := rfl
@[simp] theorem x_slB1 {d : D} : slB ρ (some (.sh d)) = .ok d ρ := rfl
@[simp] theorem x_slB2 {d : D} {t : Option Nat} : slB ρ (some (.ow t d)) = .ok d ρ := rfl
@[simp] theorem x_slM1 {i : Nat} {d : D} : slM ρ i (some (.sh d)) = .ok (.sh d) ρ := rfl
@[simp] theorem x_slM2 {i : Nat} {d : D} {t : Option Nat} : slM ρ i (some (.ow t d)) = .ok (.ow t d) (ρ.set i .no) := rfl
@[simp] theorem x_d2 (f : D → D → Option D) (ta tb : M D) : d2 f ta tb ρ = (ta ρ).bind fun d => bnd tb fun e => lft (f d e) := rfl
@[simp] theorem x_d1 (f : D → Option D) (ta : M D) : d1 f ta ρ = (ta ρ).bind fun d => lft (f d) := rfl
@[simp] theorem x_dB (t : M D) : dB t ρ = (t ρ).bind fun d => lft (asB d) := rfl
@[simp] theorem x_asB (b : Bool) : asB (.bl b) = some b := rfl
@[simp] theorem x_notT (t : M Bool) : dNotT t ρ = (t ρ).bind fun c => ret (!c) := rfl
@[simp] theorem x_andT (t v : M Bool) : dAndT t v ρ = (t ρ).bind fun c => if c then v else ret false := rfl
@[simp] theorem x_orT (t v : M Bool) : dOrT t v ρ = (t ρ).bind fun c => if c then ret true else v := rfl
@[simp] theorem x_andV (ta tb : M D) : dAndV ta tb ρ = (dB ta ρ).bind fun c => if c then tb else ret (.bl false) := rfl
@[simp] theorem x_orV (ta tb : M D) : dOrV ta tb ρ = (dB ta ρ).bind fun c => if c then ret (.bl true) else tb := rfl
@[simp] theorem x_notV (ta : M D) : dNotV ta ρ = (dB ta ρ).bind fun c => ret (.bl (!c)) := rfl
@[simp] theorem x_if (t : M Bool) (ta tb : M α) : dIf t ta tb ρ = (t ρ).bind fun c => if c then ta else tb := rfl
@[simp] theorem x_nil : dNil ρ = .ok [] ρ := rfl
@[simp] theorem x_cons (t : M D) (v : M (List D)) : dCons t v ρ = (t ρ).bind fun d => bnd v fun ds => ret (d :: ds) := rfl
@[simp] theorem x_tup (v : M (List D)) : dTup v ρ = (v ρ).bind fun ds => lft (if ds.length ≤ sizeLine then some (.tup ds) else none) := rfl
@[simp] theorem x_lst (v : M (List D)) : dLst v ρ = (v ρ).bind fun ds => lft (if ds.length ≤ sizeLine then some (.ow none (.lst ds)) else none) := rfl
@[simp] theorem x_sh (t : M D) : dSh t ρ = (t ρ).bind fun d => ret (.sh d) := rfl
@[simp] theorem x_fz (t : M Sl) : dFz t ρ = (t ρ).bind fun s => lft s.d := rfl
@[simp] theorem x_d_sh (d : D) : (Sl.sh d).d = some d := rfl
@[simp] theorem x_d_ow (t : Option Nat) (d : D) : (Sl.ow t d).d = some d := rfl
@[simp] theorem x_sl (ta : M D) (tl th : M (Option Int)) : dSl ta tl th ρ = (ta ρ).bind fun d => bnd tl fun l => bnd th fun h => lft (fSl d l h) := rfl
@[simp] theorem x_part (t : M D) : dPart t ρ = (t ρ).bind fun d => bnd (lft (asI d)) fun i => ret (some i) := rfl
@[simp] theorem x_asI (i : Int) : asI (.int i) = some i := rfl
def SR.thn (r : SR) (w : MS) : SR := match r with
  | .nx ρ' => w ρ'
  | r => r
@[simp] theorem x_seq (t w : MS) : sSeq t w ρ = (t ρ).thn w := rfl
@[simp] theorem x_thn1 {w : MS} : (SR.nx ρ).thn w = w ρ := rfl
@[simp] theorem x_thn2 {w : MS} {s : Sl} : (SR.rt s ρ).thn w = .rt s ρ := rfl
@[simp] theorem x_thn3 {w : MS} : (SR.ex x ρ).thn w = .ex x ρ := rfl
@[simp] theorem x_thn4 {w : MS} : (SR.bk ρ).thn w = .bk ρ := rfl
@[simp] theorem x_thn5 {w : MS} : (SR.ct ρ).thn w = .ct ρ := rfl
@[simp] theorem x_snil : sNil ρ = .nx ρ := rfl
@[simp] theorem x_sif (t : M Bool) (v w : MS) : sIf t v w ρ = (t ρ).andS fun c => if c then v else w := rfl
@[simp] theorem x_sret (t : M Sl) : sRet t ρ = (t ρ).andS .rt := rfl
@[simp] theorem x_sset (i : Nat) (t : M Sl) : sSet i t ρ = (t ρ).andS fun s ρ => .nx (ρ.set i s) := rfl
@[simp] theorem x_sdrop (t : M D) : sDrop t ρ = (t ρ).andS fun _ => .nx := rfl
@[simp] theorem x_scons (t : M Sl) (v : M (List Sl)) : sCons t v ρ = (t ρ).bind fun s => bnd v fun ss => ret (s :: ss) := rfl
@[simp] theorem x_par2 (i j : Nat) {t : M (List Sl)} : sPar2 i j t ρ = (t ρ).andS fun ss ρ => match ss with
  | [s1, s2] => .nx ((ρ.set i s1).set j s2)
  | _ => .no := rfl
@[simp] theorem x_par3 (i j k : Nat) {t : M (List Sl)} : sPar3 i j k t ρ = (t ρ).andS fun ss ρ => match ss with
  | [s1, s2, s3] => .nx (((ρ.set i s1).set j s2).set k s3)
  | _ => .no := rfl
@[simp] theorem x_parN (is : List Nat) {t : M (List Sl)} : sParN is t ρ = (t ρ).andS fun ss ρ => if ss.length = is.length ∧ ss.length ≤ sizeLine then .nx (setAll is ss ρ) else .no := rfl
@[simp] theorem x_setAll {i : Nat} {is : List Nat} {s : Sl} {ss : List Sl} : setAll (i :: is) (s :: ss) ρ = setAll is ss (ρ.set i s) := rfl
@[simp] theorem x_setAll0 : setAll [] [] ρ = ρ := rfl
@[simp] theorem x_sfor (t : M (List D)) (g : D → List Sl → Option (List Sl)) (b : MS) (kl : List Nat) : sFor t g b kl ρ = (t ρ).andS fun ds => sEach g b kl ds := rfl
@[simp] theorem x_items (t : M D) : lItems t ρ = (t ρ).bind fun d => lft d.items := rfl
@[simp] theorem x_enum (t : M D) : lEnum t ρ = (t ρ).bind fun d => lft (d.items.map (pairs0 0)) := rfl
@[simp] theorem x_range (f : List D → Option (List D)) (v : M (List D)) : lRange f v ρ = (v ρ).bind fun ds => lft (f ds) := rfl
@[simp] theorem x_itl (ds : List D) : (D.lst ds).items = some ds := rfl
@[simp] theorem x_itt (ds : List D) : (D.tup ds).items = some ds := rfl
@[simp] theorem x_its (y : Str) : (D.str y).items = some ((signs y).map D.str) := rfl
def appR (ρ : List Sl) (i : Nat) (d : D) : Option Sl → SR
  | some (.ow t (.lst ds)) => if ds.length < sizeLine then .nx (ρ.set i (.ow t (.lst (ds ++ [d])))) else .no
  | _ => .no
@[simp] theorem x_app (i : Nat) (t : M D) : sApp i t ρ = (t ρ).andS fun d ρ => appR ρ i d ρ[i]? := rfl
@[simp] theorem x_appG (i : Nat) (t : M D) : sAppG i t ρ = if isL ρ[i]? then sApp i t ρ else .no := rfl
@[simp] theorem x_isL {t : Option Nat} {ds : List D} : isL (some (.ow t (.lst ds))) = true := rfl
@[simp] theorem x_appR {i : Nat} {d : D} {t : Option Nat} {ds : List D} : appR ρ i d (some (.ow t (.lst ds))) = if ds.length < sizeLine then .nx (ρ.set i (.ow t (.lst (ds ++ [d])))) else .no := rfl
@[simp] theorem x_raise (c : Str) (fs : List Str) (v : M (List D)) : sRaise c fs v ρ = (v ρ).andS fun ds ρ => if ds.length = fs.length then .ex ⟨c, fs.zip ds⟩ ρ else .no := rfl
@[simp] theorem x_asg (t : M D) (g : D → List Sl → Option (List Sl)) : sAsg t g ρ = (t ρ).andS fun d ρ => match g d ρ with
  | some ρ' => .nx ρ'
  | none => .no := rfl
def callR (rs : List (Option Nat)) (ρ1 ss ρ2 : List Sl) : FR → Res Sl
  | .ok s ss' => if ss'.length = ss.length then .ok s (back rs ss' ρ1 ρ2) else .no
  | .ex x ss' => if ss'.length = ss.length then .ex x (back rs ss' ρ1 ρ2) else .no
  | .no => .no
def callM (F : FS) (rs : List (Option Nat)) (ρ1 : List Sl) : Option (List Sl × List Sl) → Res Sl
  | some (ss, ρ2) => callR rs ρ1 ss ρ2 (F ss)
  | none => .no
@[simp] theorem x_call (F : FS) (rs : List (Option Nat)) (v : M (List D)) : dCall F rs v ρ = (v ρ).bind fun ds ρ1 => callM F rs ρ1 (mk rs ds ρ1) := by
  unfold dCall
  rw [x_bnd]
  congr 1
  funext ds ρ1
  cases h : mk rs ds ρ1 with
  | none => rfl
  | some p =>
    obtain ⟨ss, ρ2⟩ := p
    cases h2 : F ss <;> simp [callM, callR, h2]
@[simp] theorem x_callM {F : FS} {rs : List (Option Nat)} {ss ρ2 : List Sl} : callM F rs ρ1 (some (ss, ρ2)) = callR rs ρ1 ss ρ2 (F ss) := rfl
@[simp] theorem x_callR1 {rs : List (Option Nat)} {ss ρ2 ss' : List Sl} {s : Sl} : callR rs ρ1 ss ρ2 (.ok s ss') = if ss'.length = ss.length then .ok s (back rs ss' ρ1 ρ2) else .no := rfl
@[simp] theorem x_callR2 {rs : List (Option Nat)} {ss ρ2 ss' : List Sl} : callR rs ρ1 ss ρ2 (.ex x ss') = if ss'.length = ss.length then .ex x (back rs ss' ρ1 ρ2) else .no := rfl
def mkN (s : Sl) : Option (List Sl × List Sl) → Option (List Sl × List Sl)
  | some (ss, ρ') => some (s :: ss, ρ')
  | none => none
def mkS (i : Nat) : Option (List Sl × List Sl) → Option (List Sl × List Sl)
  | some (ss, ρ') => if refOk ρ'[i]? then (ρ'[i]?).map fun s => (s :: ss, ρ'.set i .no) else none
  | none => none
@[simp] theorem x_mk0 : mk [] [] ρ = some ([], ρ) := rfl
@[simp] theorem x_mkN {rs : List (Option Nat)} {d : D} {ds : List D} : mk (none :: rs) (d :: ds) ρ = mkN (.sh d) (mk rs ds ρ) := by
  rw [mk]; cases mk rs ds ρ with
  | none => rfl
  | some p => rfl
@[simp] theorem x_mkS {rs : List (Option Nat)} {i : Nat} {ds : List D} : mk (some i :: rs) ds ρ = mkS i (mk rs ds ρ) := by
  rw [mk]; cases mk rs ds ρ with
  | none => rfl
  | some p => rfl
@[simp] theorem x_mkN1 {s : Sl} {ss : List Sl} : mkN s (some (ss, ρ)) = some (s :: ss, ρ) := rfl
@[simp] theorem x_mkS1 {i : Nat} {ss : List Sl} : mkS i (some (ss, ρ)) = if refOk ρ[i]? then (ρ[i]?).map fun s => (s :: ss, ρ.set i .no) else none := rfl
@[simp] theorem x_ref (i : Nat) (v : M (List D)) : dRef i v ρ = if refOk ρ[i]? then v ρ else .no := rfl
@[simp] theorem x_refR {t : Option Nat} {s : Dw} : refOk (some (.rs t s)) = true := rfl
@[simp] theorem x_refO {t : Option Nat} {d : D} : refOk (some (.ow t d)) = true := rfl
@[simp] theorem x_back0 {ss : List Sl} : back [] ss ρ1 ρ = ρ := by cases ss <;> rfl
@[simp] theorem x_backN {rs : List (Option Nat)} {s : Sl} {ss : List Sl} : back (none :: rs) (s :: ss) ρ1 ρ = back rs ss ρ1 ρ := rfl
@[simp] theorem x_backS {rs : List (Option Nat)} {i : Nat} {r : Sl} {ss : List Sl} : back (some i :: rs) (r :: ss) ρ1 ρ = back rs ss ρ1 (ρ.set i (r.tagged (tagOf ρ1[i]?))) := rfl
@[simp] theorem x_tagOw {t : Option Nat} {d : D} : tagOf (some (.ow t d)) = t := rfl
@[simp] theorem x_tagRs {t : Option Nat} {s : Dw} : tagOf (some (.rs t s)) = t := rfl
@[simp] theorem x_tgR {t t' : Option Nat} {s : Dw} : (Sl.rs t s).tagged t' = .rs t' s := rfl
@[simp] theorem x_tgO {t t' : Option Nat} {d : D} : (Sl.ow t d).tagged t' = .ow t' d := rfl
@[simp] theorem x_tgS {t' : Option Nat} {d : D} : (Sl.sh d).tagged t' = .sh d := rfl
@[simp] theorem x_tgN {t' : Option Nat} : (Sl.no).tagged t' = .no := rfl
def finF (n : Nat) : SR → FR
  | .nx ρ => .ok (.sh .non) (keepL 0 n ρ)
  | .rt s ρ => .ok (s.tagged none) (keepL 0 n ρ)
  | .ex x ρ => .ex x (keepL 0 n ρ)
  | _ => .no
theorem mkF_eq (n N : Nat) (b : MS) (ss : List Sl) : mkF n N b ss = finF n (b (tagFrom 0 ss ++ List.replicate (N - n) .no)) := by
  unfold mkF finF
  cases b (tagFrom 0 ss ++ List.replicate (N - n) Sl.no) <;> rfl
@[simp] theorem x_fin1 {n : Nat} : finF n (.nx ρ) = .ok (.sh .non) (keepL 0 n ρ) := rfl
@[simp] theorem x_fin2 {n : Nat} {s : Sl} : finF n (.rt s ρ) = .ok (s.tagged none) (keepL 0 n ρ) := rfl
@[simp] theorem x_fin3 {n : Nat} : finF n (.ex x ρ) = .ex x (keepL 0 n ρ) := rfl
@[simp] theorem x_tf0 {j : Nat} : tagFrom j [] = [] := rfl
@[simp] theorem x_tf1 {j : Nat} {s : Sl} {ss : List Sl} : tagFrom j (s :: ss) = s.tagged (some j) :: tagFrom (j + 1) ss := rfl
@[simp] theorem x_kp0 {j : Nat} : keepL j 0 ρ = [] := by cases ρ <;> rfl
@[simp] theorem x_kp1 {j n : Nat} {r : Sl} : keepL j (n + 1) (r :: ρ) = keep1 j r :: keepL (j + 1) n ρ := rfl
@[simp] theorem x_k1 {j : Nat} {d : D} : keep1 j (.sh d) = .no := rfl
@[simp] theorem x_k2 {j : Nat} : keep1 j .no = .no := rfl
@[simp] theorem x_k3 {j k : Nat} {d : D} : keep1 j (.ow (some k) d) = if k = j then .ow none d else .no := rfl
@[simp] theorem x_k4 {j k : Nat} {s : Dw} : keep1 j (.rs (some k) s) = if k = j then .rs none s else .no := rfl
@[simp] theorem x_k5 {j : Nat} {d : D} : keep1 j (.ow none d) = .no := rfl
def tryC (i : Nat) (su : MS) (x : Exn) (ρ1 : List Sl) : Option Bool → SR
  | some true => sSuite (fun ρ => (unE ρ).set i .no) (su ((unE ρ1).set i (.er x)))
  | some false => .ex x ρ1
  | none => .no
def tryK (i : Nat) (tab : Str → Option Bool) (su : MS) : SR → SR
  | .ex x ρ1 => tryC i su x ρ1 (tab x.cls)
  | r => r
@[simp] theorem x_try (i : Nat) (tab : Str → Option Bool) (b su : MS) : sTryAs i tab b su ρ = tryK i tab su (b ρ) := by
  unfold sTryAs
  cases b ρ with
  | ex x ρ1 =>
    simp only [tryK]
    cases tab x.cls with
    | none => rfl
    | some c => cases c <;> rfl
  | nx _ => rfl
  | rt _ _ => rfl
  | bk _ => rfl
  | ct _ => rfl
  | no => rfl
@[simp] theorem x_tryK1 {i : Nat} {tab : Str → Option Bool} {su : MS} : tryK i tab su (.nx ρ) = .nx ρ := rfl
@[simp] theorem x_tryK2 {i : Nat} {tab : Str → Option Bool} {su : MS} {s : Sl} : tryK i tab su (.rt s ρ) = .rt s ρ := rfl
@[simp] theorem x_tryK3 {i : Nat} {tab : Str → Option Bool} {su : MS} : tryK i tab su (.ex x ρ1) = tryC i su x ρ1 (tab x.cls) := rfl
@[simp] theorem x_tryC1 {i : Nat} {su : MS} : tryC i su x ρ1 (some true) = sSuite (fun ρ => (unE ρ).set i .no) (su ((unE ρ1).set i (.er x))) := rfl
@[simp] theorem x_tryC2 {i : Nat} {su : MS} : tryC i su x ρ1 (some false) = .ex x ρ1 := rfl
@[simp] theorem x_suite1 {fin : List Sl → List Sl} : sSuite fin (.nx ρ) = .nx (fin ρ) := rfl
@[simp] theorem x_suite2 {fin : List Sl → List Sl} {s : Sl} : sSuite fin (.rt s ρ) = .rt (unE1 s) (fin ρ) := rfl
@[simp] theorem x_unE0 : unE [] = [] := rfl
@[simp] theorem x_unE1 {s : Sl} : unE (s :: ρ) = unE1 s :: unE ρ := rfl
@[simp] theorem x_unE2 : unE1 (.er x) = .no := rfl
@[simp] theorem x_unE3 {d : D} : unE1 (.sh d) = .sh d := rfl
@[simp] theorem x_unE4 {t : Option Nat} {d : D} : unE1 (.ow t d) = .ow t d := rfl
@[simp] theorem x_unE5 {t : Option Nat} {s : Dw} : unE1 (.rs t s) = .rs t s := rfl
@[simp] theorem x_unE6 : unE1 .no = .no := rfl
def isR (ρ : List Sl) : Option Bool → Res D
  | some b => .ok (.bl b) ρ
  | none => .no
def erIsR (tab : Str → Option Bool) (ρ : List Sl) : Option Exn → Res D
  | some x => isR ρ (tab x.cls)
  | none => .no
@[simp] theorem x_erIs (i : Nat) (tab : Str → Option Bool) : erIs i tab ρ = erIsR tab ρ (asEr ρ[i]?) := by
  unfold erIs
  cases asEr ρ[i]? with
  | none => rfl
  | some x => simp only [erIsR]; cases tab x.cls <;> rfl
@[simp] theorem x_asEr : asEr (some (.er x)) = some x := rfl
@[simp] theorem x_erIsR {tab : Str → Option Bool} : erIsR tab ρ (some x) = isR ρ (tab x.cls) := rfl
@[simp] theorem x_isR {b : Bool} : isR ρ (some b) = .ok (.bl b) ρ := rfl
def fldR (ρ : List Sl) : Option D → Res D
  | some z => .ok z ρ
  | none => .no
def erFldR (ok : Str → Bool) (f : Str) (ρ : List Sl) : Option Exn → Res D
  | some x => if ok x.cls then fldR ρ (x.fs.lookup f) else .no
  | none => .no
@[simp] theorem x_erFld (i : Nat) (ok : Str → Bool) (f : Str) : erFld i ok f ρ = erFldR ok f ρ (asEr ρ[i]?) := by
  unfold erFld
  cases asEr ρ[i]? with
  | none => rfl
  | some x => simp only [erFldR]; cases x.fs.lookup f <;> rfl
@[simp] theorem x_erFldR {ok : Str → Bool} {f : Str} : erFldR ok f ρ (some x) = if ok x.cls then fldR ρ (x.fs.lookup f) else .no := rfl
@[simp] theorem x_fldR {z : D} : fldR ρ (some z) = .ok z ρ := rfl
@[simp] theorem x_gN (i : Nat) (d : D) : gN i d ρ = some (ρ.set i (.sh d)) := rfl
@[simp] theorem x_gsNil : gsNil [] ρ = some ρ := rfl
@[simp] theorem x_gsCons (g : D → List Sl → Option (List Sl)) (gs : List D → List Sl → Option (List Sl)) (d : D) (ds : List D) : gsCons g gs (d :: ds) ρ = (g d ρ).bind (gs ds) := rfl
@[simp] theorem x_gTp (n : Nat) (gs : List D → List Sl → Option (List Sl)) (ds : List D) : gTp n gs (.tup ds) ρ = if ds.length = n then gs ds ρ else none := rfl
@[simp] theorem x_gTpH (n : Nat) (gs : List D → List Sl → Option (List Sl)) (ds : List D) : gTp n gs (.hup ds) ρ = if ds.length = n then gs ds ρ else none := rfl
@[simp] theorem x_dr0 : drops [] ρ = ρ := rfl
@[simp] theorem x_dr1 {k : Nat} {kl : List Nat} : drops (k :: kl) ρ = drops kl (ρ.set k .no) := rfl
def lcR (own : List Nat) (ρ1 : List Sl) : Option (List D × List Sl) → Res Sl
  | some (acc, ρe) => .ok (.ow none (.lst acc)) (mend own ρ1 ρe)
  | none => .no
@[simp] theorem x_lc (t : M (List D)) (g : D → List Sl → Option (List Sl)) (tt : M Bool) (te : M D) (own : List Nat) : dLc t g tt te own ρ = (t ρ).bind fun ds ρ1 => lcR own ρ1 (lcRun g tt te own ds [] (drops own ρ1)) := by
  unfold dLc; rfl
@[simp] theorem x_lcR {own : List Nat} {acc : List D} {ρe : List Sl} : lcR own ρ1 (some (acc, ρe)) = .ok (.ow none (.lst acc)) (mend own ρ1 ρe) := rfl
@[simp] theorem x_mend0 : mend [] ρ1 ρ = ρ := rfl
@[simp] theorem x_mend1 {i : Nat} {vs : List Nat} : mend (i :: vs) ρ1 ρ = (mend vs ρ1 ρ).set i (shOr ρ1[i]?) := rfl
@[simp] theorem x_shOr1 {d : D} : shOr (some (.sh d)) = .sh d := rfl
@[simp] theorem x_shOr2 : shOr (some .no) = .no := rfl
theorem lcRun_pure {g : D → List Sl → Option (List Sl)} {tt : M Bool} {te : M D} {own : List Nat} {ρ : List Sl} (p : D → Bool) (f : D → D) : ∀ (ds acc : List D),
    (∀ d ∈ ds, ∃ ρ1 ρ2, g d ρ = some ρ1 ∧ tt ρ1 = .ok (p d) ρ2 ∧ (p d = false → drops own ρ2 = ρ) ∧ (p d = true → ∃ ρ3, te ρ2 = .ok (f d) ρ3 ∧ drops own ρ3 = ρ)) → acc.length + ds.length ≤ 100000 →
    lcRun g tt te own ds acc ρ = some (acc ++ (ds.filter p).map f, ρ)
  | [], acc, _, _ => by simp [lcRun]
  | d :: ds, acc, h, hl => by
    obtain ⟨ρ1, ρ2, h1, h2, h3, h4⟩ := h d List.mem_cons_self
    have hz : acc.length < sizeLine := Nat.lt_trans (by simp only [List.length_cons] at hl; omega) big0
    simp only [lcRun, h1, h2]
    cases hp : p d with
    | false =>
      have ih := lcRun_pure (g := g) (tt := tt) (te := te) (own := own) p f ds acc (fun d hd => h d (List.mem_cons_of_mem _ hd)) (by simp only [List.length_cons] at hl; omega)
      simp only [h3 hp, ih, List.filter_cons, hp]
      simp
    | true =>
      obtain ⟨ρ3, h5, h6⟩ := h4 hp
      have ih := lcRun_pure (g := g) (tt := tt) (te := te) (own := own) p f ds (acc ++ [f d]) (fun d hd => h d (List.mem_cons_of_mem _ hd)) (by simp only [List.length_cons, List.length_append, List.length_nil] at hl ⊢; omega)
      simp only [h5, if_pos hz, h6, ih, List.filter_cons, hp]
      simp
@[simp] theorem z_0 : 0 ≤ sizeLine := Nat.zero_le _
@[simp] theorem z_1 : 1 ≤ sizeLine := by decide
@[simp] theorem z_2 : 2 ≤ sizeLine := by decide
@[simp] theorem z_3 : 3 ≤ sizeLine := by decide
@[simp] theorem z_4 : 4 ≤ sizeLine := by decide
@[simp] theorem z_5 : 5 ≤ sizeLine := by decide
@[simp] theorem z_6 : 6 ≤ sizeLine := by decide
@[simp] theorem z_7 : 7 ≤ sizeLine := by decide
@[simp] theorem z_8 : 8 ≤ sizeLine := by decide
@[simp] theorem z_9 : 9 ≤ sizeLine := by decide
@[simp] theorem z_10 : 10 ≤ sizeLine := by decide
@[simp] theorem z_11 : 11 ≤ sizeLine := by decide
@[simp] theorem z_12 : 12 ≤ sizeLine := by decide
@[simp] theorem z_13 : 13 ≤ sizeLine := by decide
@[simp] theorem z_14 : 14 ≤ sizeLine := by decide
@[simp] theorem z_15 : 15 ≤ sizeLine := by decide
@[simp] theorem z_16 : 16 ≤ sizeLine := by decide
theorem big1 : sizeLine = 16777216 := by decide
mutual
def D.w : D → Nat
  | .str x => 10 * x.length + 2
  | .int _ => 30
  | .tup ds => wL ds + 3
  | .lst ds => wL ds + 3
  | _ => 5
def wL : List D → Nat
  | [] => 0
  | d :: ds => d.w + 2 + wL ds
end
mutual
def D.nice : D → Bool
  | .non => true
  | .bl _ => true
  | .int i => decide (i.natAbs < 1000000000)
  | .str x => PyData.strOk x
  | .tup ds => niceL ds
  | .lst ds => niceL ds
  | _ => false
def niceL : List D → Bool
  | [] => true
  | d :: ds => d.nice && niceL ds
end
def sOk (l : List Nat) : Prop := ∀ c ∈ l, c < 0x110000
theorem strOk_iff {x : Str} : PyData.strOk x = true ↔ sOk x.cps.toList := by
  unfold PyData.strOk sOk
  rw [Array.all_eq_true_iff_forall_mem]
  constructor
  · intro h c hc; simpa using h c (by simpa using hc)
  · intro h c hc; simpa using h c (by simpa using hc)
theorem char_ok (ch : Char) : ch.toNat < 0x110000 := by
  have h : ch.val.isValidChar := ch.valid
  have e : ch.toNat = ch.val.toNat := rfl
  rw [e]
  rcases h with h | h
  · have h' : ch.val.toNat < 0xd800 := h
    omega
  · have h' : ch.val.toNat < 0x110000 := h.2
    omega
theorem hex_ok (w c : Nat) : ∀ k ∈ (List.replicate (w - ((Nat.toDigits 16 c).map Char.toNat).length) 48 ++ (Nat.toDigits 16 c).map Char.toNat), k < 0x110000 := by
  intro k hk
  rcases List.mem_append.mp hk with h | h
  · have := List.eq_of_mem_replicate h; omega
  · obtain ⟨ch, _, rfl⟩ := List.mem_map.mp h; exact char_ok ch
theorem reprChar_ok (q c : Nat) (hc : c < 0x110000) : ∀ k ∈ Builtin.Str.reprChar q c, k < 0x110000 := by
  intro k hk
  unfold Builtin.Str.reprChar at hk
  simp only at hk
  split at hk
  · simp at hk; omega
  · split at hk
    · simp at hk; omega
    · split at hk
      · simp at hk; omega
      · split at hk
        · simp at hk; omega
        · split at hk
          · simp at hk; omega
          · split at hk
            · rcases List.mem_append.mp hk with h | h
              · simp at h; omega
              · exact hex_ok _ _ k h
            · split at hk
              · rcases List.mem_append.mp hk with h | h
                · simp at h; omega
                · exact hex_ok _ _ k h
              · rcases List.mem_append.mp hk with h | h
                · simp at h; omega
                · exact hex_ok _ _ k h
theorem foldl_ok (q : Nat) : ∀ (l : List Nat) (acc : Array Nat), sOk l → sOk acc.toList → sOk (l.foldl (fun out c => out ++ (Builtin.Str.reprChar q c).toArray) acc).toList
  | [], acc, _, h => h
  | c :: l, acc, hl, h => by
    refine foldl_ok q l _ (fun k hk => hl k (List.mem_cons_of_mem _ hk)) ?_
    intro k hk
    rw [Array.toList_append] at hk
    rcases List.mem_append.mp hk with z | z
    · exact h k z
    · exact reprChar_ok q c (hl c List.mem_cons_self) k (by simpa using z)
theorem strOk_reprText {x : Str} (h : PyData.strOk x = true) : PyData.strOk (reprText x) = true := by
  rw [strOk_iff] at *
  have hq : reprQuote x < 0x110000 := by unfold reprQuote; split <;> omega
  unfold reprText
  intro k hk
  simp only [Array.toList_push] at hk
  rcases List.mem_append.mp hk with z | z
  · rw [← Array.foldl_toList] at z
    exact foldl_ok _ _ _ h (by intro c hc; simp at hc; rw [hc]; exact hq) k z
  · simp at z; rw [z]; exact hq
theorem strOk_ofString (y : String) : PyData.strOk (Str.ofString y) = true := by
  rw [strOk_iff]
  intro k hk
  rw [signs_ofString] at hk
  have : k ∈ (y.toList.map Char.toNat) := hk
  obtain ⟨ch, _, rfl⟩ := List.mem_map.mp this
  exact char_ok ch
theorem strOk_lit (y : String) : PyData.strOk (y : Str) = true := strOk_ofString y
def allOk (ts : List Str) : Prop := ∀ t ∈ ts, PyData.strOk t = true
theorem strOk_textFrom : ∀ (ts : List Str) (k : Nat) (acc : Str), allOk ts → PyData.strOk acc = true → PyData.strOk (textFrom k acc ts) = true
  | [], _, _, _, h => h
  | t :: ts, k, acc, ht, h => strOk_textFrom ts (k + 1) _ (fun z hz => ht z (List.mem_cons_of_mem _ hz)) (strOk_append (strOk_append h (strOk_lit _)) (ht t List.mem_cons_self))
theorem strOk_join {sep : Str} (hs : PyData.strOk sep = true) : ∀ (ts : List Str), allOk ts → PyData.strOk (Str.join sep ts) = true
  | [], _ => strOk_ofString ""
  | [t], h => h t List.mem_cons_self
  | t :: u :: ts, h => strOk_append (strOk_append (h t List.mem_cons_self) hs) (strOk_join hs (u :: ts) (fun z hz => h z (List.mem_cons_of_mem _ hz)))
theorem int_len {i : Int} (h : i.natAbs < 1000000000) : (Str.ofString (toString i)).length ≤ 30 := by
  have h1 := int_text_length_le10 (a := i) (k := 9) (by decide) (by simpa using h)
  have e : (Str.ofString (toString i)).cps.toList = (toString i).toList.map Char.toNat := signs_ofString _
  have : (Str.ofString (toString i)).length = (toString i).length := by
    show (Str.ofString (toString i)).cps.size = _
    rw [← Array.length_toList, e, List.length_map]
    rfl
  omega
theorem int_log {i : Int} (h : i.natAbs < 1000000000) : i.natAbs.log2 < 1920 := by
  by_cases h0 : i.natAbs = 0
  · rw [h0]; decide
  · rw [Nat.log2_lt h0]
    exact Nat.lt_trans h (by decide)
structure ShownOk (d : D) : Prop where
  len : d.py.shown.length ≤ d.w
  ok : PyData.strOk d.py.shown = true
  can : d.py.showable = true
  pur : d.pur = true
structure ShownOkL (ds : List D) : Prop where
  len : ((PyData.shownAll (pyL ds)).map (·.length)).sum + 2 * (PyData.shownAll (pyL ds)).length ≤ wL ds
  ok : allOk (PyData.shownAll (pyL ds))
  can : PyData.showableAll (pyL ds) = true
  pur : purL ds = true
mutual
theorem shown_ok : ∀ d : D, d.nice = true → ShownOk d
  | .non, _ => ⟨by decide, strOk_ofString "None", by decide, rfl⟩
  | .bl true, _ => ⟨by decide, strOk_ofString "True", by decide, rfl⟩
  | .bl false, _ => ⟨by decide, strOk_ofString "False", by decide, rfl⟩
  | .int i, h => by
    have h' : i.natAbs < 1000000000 := by simpa [D.nice] using h
    refine ⟨?_, ?_, ?_, rfl⟩
    · simp only [D.py, PyData.shown, D.w]; exact int_len h'
    · simp only [D.py, PyData.shown]; exact strOk_ofString _
    · simp only [D.py, PyData.showable]; simpa using int_log h'
  | .str x, h => by
    have h' : PyData.strOk x = true := by simpa [D.nice] using h
    refine ⟨?_, ?_, ?_, rfl⟩
    · simp only [D.py, PyData.shown, D.w]
      refine PySem.StrLaws.reprText_len x fun c hc => ?_
      have := strOk_iff.mp h' c hc
      omega
    · simp only [D.py, PyData.shown]; exact strOk_reprText h'
    · simp only [D.py, PyData.showable]
  | .lst ds, h => by
    have q := shownL_ok ds (by simpa [D.nice] using h)
    refine ⟨?_, ?_, ?_, by simpa [D.pur] using q.pur⟩
    · simp only [D.py, PyData.shown, D.w, listText]
      rw [strLen_append]
      have h1 := textFrom_len_le (PyData.shownAll (pyL ds)) 0 "["
      have h2 := q.len
      have e1 : (("[" : String) : Str).length = 1 := rfl
      have e2 : (("]" : String) : Str).length = 1 := rfl
      omega
    · simp only [D.py, PyData.shown, listText]
      exact strOk_append (strOk_textFrom _ _ _ q.ok (strOk_lit _)) (strOk_lit _)
    · simp only [D.py, PyData.showable]; exact q.can
  | .tup ds, h => by
    have q := shownL_ok ds (by simpa [D.nice] using h)
    refine ⟨?_, ?_, ?_, by simpa [D.pur] using q.pur⟩
    · simp only [D.py, PyData.shown, D.w, tupleText]
      rw [strLen_append, strLen_append]
      have h2 := q.len
      have e1 : (("(" : String) : Str).length = 1 := rfl
      have e3 : (((if ((PyData.shownAll (pyL ds)).length == 1) = true then ",)" else ")" : String) : Str)).length ≤ 2 := by split <;> decide
      have ep : piled (PyData.shownAll (pyL ds)) = ((PyData.shownAll (pyL ds)).map (·.length)).sum + 2 * (PyData.shownAll (pyL ds)).length := by
        generalize PyData.shownAll (pyL ds) = ts
        induction ts with
        | nil => rfl
        | cons t ts ih => rw [piled_cons, ih]; simp; omega
      by_cases hz : PyData.shownAll (pyL ds) = []
      · rw [hz] at e3 h2 ⊢
        have e4 : (Str.join ", " ([] : List Str)).length = 0 := rfl
        omega
      · have := join_length_add _ hz
        omega
    · simp only [D.py, PyData.shown, tupleText]
      exact strOk_append (strOk_append (strOk_lit _) (strOk_join (strOk_lit _) _ q.ok)) (strOk_lit _)
    · simp only [D.py, PyData.showable]; exact q.can
  | .ty _, h => by simp [D.nice] at h
  | .dct _, h => by simp [D.nice] at h
  | .obj _ _, h => by simp [D.nice] at h
  | .exc _ _, h => by simp [D.nice] at h
  | .glo _, h => by simp [D.nice] at h
  | .scr _, h => by simp [D.nice] at h
  | .hup _, h => by simp [D.nice] at h
  | .dcu _, h => by simp [D.nice] at h
  | .ol _, h => by simp [D.nice] at h
  | .obo _ _, h => by simp [D.nice] at h
  | .dcl _, h => by simp [D.nice] at h
theorem shownL_ok : ∀ ds : List D, niceL ds = true → ShownOkL ds
  | [], _ => ⟨by simp [pyL, PyData.shownAll, wL], by simp [pyL, PyData.shownAll, allOk], by simp [pyL, PyData.showableAll], rfl⟩
  | d :: ds, h => by
    simp only [niceL, Bool.and_eq_true] at h
    have a := shown_ok d h.1
    have b := shownL_ok ds h.2
    refine ⟨?_, ?_, ?_, ?_⟩
    · simp only [pyL, PyData.shownAll, wL, List.map_cons, List.sum_cons, List.length_cons]
      have := a.len
      have := b.len
      omega
    · simp only [pyL, PyData.shownAll]
      intro t ht
      rcases List.mem_cons.mp ht with rfl | ht
      · exact a.ok
      · exact b.ok t ht
    · simp only [pyL, PyData.showableAll, a.can, b.can, Bool.and_self]
    · simp only [purL, a.pur, b.pur, Bool.and_self]
end
end DS
set_option Elab.async false
set_option linter.all false
set_option maxRecDepth 100000
set_option maxHeartbeats 1000000
namespace DS
open PySem PySem.Spec PyProof.Rows L2
section
variable {Z : DC} {Ho : Hp} {m m1 m2 m3 m4 : Md} {p : Bool} {a b c d e : Expr} {t ta tb tc td : M D} {pos pos' p2 px apos : Pos} {u w : MS}
theorem de_blt2 {x : Str} {id : String} {r : List V → Hp → VK → Prop} {f : D → D → Option D} (hc : CallR Z.X (.builtin id) r) (hf : OpD Z (fun x y H Q => r [x, y] H Q) f) (hv : bootBuiltins x = some (.builtin id)) (hm : Z.X.mg x = none) (ha : DE Z m1 a ta) (hb : DE Z m2 b tb) (hg : Gl Z.X x := by rfl)
    (hmm : (!m1.b || m2.p) = true := by rfl) (hn : x ≠ "__name__" := by decide) (hdb : (x == ("__debug__" : Str)) = false := by decide) (he : starEach (a :: [b]) Z.X.env = (false, eval a Z.X.env) :: starEach [b] Z.X.env := by rfl) (he2 : starEach (b :: []) Z.X.env = (false, eval b Z.X.env) :: starEach [] Z.X.env := by rfl)
    (hpl : (backTo pos (starEach [b] Z.X.env)).any (·.1) = false := by rfl) :
    DE Z ⟨m1.p && m2.p, false⟩ (.Call (.Name x p2) [a, b] [] pos) (d2 f ta tb) := by
  obtain ⟨tea, pa, sa⟩ := ha
  obtain ⟨teb, pb, sb⟩ := hb
  exact ⟨_, pe_callB hc hg hm hv (pa_cons pa (pa_cons pb pa_nil he2) he) hn hdb he hpl, fun Ho hw G ρ σ H Q x q => op2 hf sa sb hmm hw x q⟩
def fMin : D → D → Option D := fI fun i j => some (if j < i then j else i)
theorem opd_mm {g : Int → Int → Int} : OpD Z (fun x y H Q => (fun xs H Q => ∃ i j, xs = [V.int i, V.int j] ∧ Q (.int (g i j)) H) [x, y] H Q) (fI fun i j => some (g i j)) := by
  refine ⟨?_⟩
  intro Ho G ρ σ H d e z x y Q hR hx hy hf hq
  unfold fI at hf
  split at hf <;> try (cases hf; done)
  cases hf
  exact ⟨_, _, by rw [hx.int, hy.int], hq _ _ _ hR Gr.refl (Same.refl _) rep_int⟩
theorem de_min (hm : Z.X.mg "min" = none) (ha : DE Z m1 a ta) (hb : DE Z m2 b tb) (hh : Z.hot = false := by rfl) (hg : Gl Z.X "min" := by rfl) (hmm : (!m1.b || m2.p) = true := by rfl) (he : starEach (a :: [b]) Z.X.env = (false, eval a Z.X.env) :: starEach [b] Z.X.env := by rfl) (he2 : starEach (b :: []) Z.X.env = (false, eval b Z.X.env) :: starEach [] Z.X.env := by rfl)
    (hpl : (backTo pos (starEach [b] Z.X.env)).any (·.1) = false := by rfl) :
    DE Z ⟨m1.p && m2.p, false⟩ (.Call (.Name "min" p2) [a, b] [] pos) (d2 fMin ta tb) := de_blt2 (call_min2 (Z.calm hh)) opd_mm (by decide +kernel) hm ha hb hg hmm (he := he) (he2 := he2) (hpl := hpl)
def asStrs : List D → Option (List Str)
  | [] => some []
  | .str x :: ds => (asStrs ds).map (x :: ·)
  | _ => none
def joinD (x : Str) (ys : Option (List Str)) : Option D := match ys with
  | some ys => if (ys.map (·.length)).sum + ys.length * x.length ≤ 16777216 then some (.str (Txt.join x ys)) else none
  | none => none
def fJoin : D → D → Option D := fun d e => match d, e with
  | .str x, .lst ds => joinD x (asStrs ds)
  | .str x, .tup ds => joinD x (asStrs ds)
  | _, _ => none
def dJoin (ta tb : M D) : M D := bnd ta fun d => match d with
  | .str x => bnd tb fun e => lft (fJoin (.str x) e)
  | _ => fun _ => .no
def fAugA : D → D → Option D
  | .int i, .int j => some (.int (i + j))
  | .str x, .str y => if x.length + y.length ≤ sizeLine then some (.str (x ++ y)) else none
  | _, _ => none
def augR (f : D → D → Option D) (ρ : List Sl) (i : Nat) (e : D) : Option Sl → SR
  | some (.sh d) => match f d e with
    | some z => .nx (ρ.set i (.sh z))
    | none => .no
  | some (.ow t (.lst ds)) => match e with
    | .lst es => if ds.length + es.length ≤ sizeLine then .nx (ρ.set i (.ow t (.lst (ds ++ es)))) else .no
    | _ => .no
  | _ => .no
def isV : Option Sl → Bool
  | some (.sh _) => true
  | some (.ow _ (.lst _)) => true
  | _ => false
def sAug (f : D → D → Option D) (i : Nat) (t : M D) : MS := fun ρ => if isV ρ[i]? then (t ρ).andS fun e ρ1 => augR f ρ1 i e ρ1[i]? else .no
theorem RepL.eraseIdx {K : PySem.W.Frag} {mg : Str → Option Value} {G : Hp} : ∀ {ds : List D} {vs : List V} (j : Nat), RepL K mg G ds vs → RepL K mg G (ds.eraseIdx j) (vs.eraseIdx j)
  | [], vs, j, h => by unfold RepL at h; subst h; simp [RepL]
  | d :: ds, vs, 0, h => by
    unfold RepL at h
    obtain ⟨v, vs', rfl, h2, h3⟩ := h
    simpa using h3
  | d :: ds, vs, j + 1, h => by
    unfold RepL at h
    obtain ⟨v, vs', rfl, h2, h3⟩ := h
    exact RepL.cons h2 (RepL.eraseIdx j h3)
def popR (ρ : List Sl) (i : Nat) : Option Sl → Res D
  | some (.ow t (.lst ds)) => match ds[ds.length - 1]? with
    | some y => .ok y (ρ.set i (.ow t (.lst ds.dropLast)))
    | none => .no
  | _ => .no
def dPop (i : Nat) : M D := fun ρ => popR ρ i ρ[i]?
theorem de_pop (i : Nat) {x : Str} (hN : Z.X.N[i]? = some x := by rfl) (hv : Vis Z.X.env.scope x := by first | exact Or.inl rfl | exact Or.inr (Or.inl rfl) | exact Or.inr (Or.inr rfl)) (hd : (x == ("__debug__" : Str)) = false := by decide) (hcd : (x == ("__classdict__" : Str)) = false := by decide)
    (hbase : attributeBase (.Name x px) "pop" Z.X.env (eval (.Name x px) Z.X.env) = eval (.Name x px) Z.X.env := by rfl) (hline : (apos.endLine == pos.line) = true := by rfl) :
    DE Z ⟨false, false⟩ (.Call (.Attribute (.Name x px) "pop" apos) [] [] pos) (dPop i) := by
  refine ⟨_, pe_bm0 PySem.F.plainAttrs_list PySem.F.slot_list_pop PySem.F.type_list_pop mt_pop (pe_var hN hv hd hcd) hbase hline, fun Ho hw G ρ σ H Q x q => ?_⟩
  unfold dPop at q
  cases e1 : ρ[i]? with
  | none => rw [e1] at q; exact q.elim
  | some s =>
    rw [e1] at q
    cases s <;> try (exact q.elim)
    rename_i t1 dd
    cases dd <;> try (exact q.elim)
    rename_i ds
    obtain ⟨a, vs, h1, h2, h3, h4⟩ := x.ownL e1
    unfold popR at q
    simp only at q
    cases ey : ds[ds.length - 1]? with
    | none => rw [ey] at q; exact q.elim
    | some y =>
      rw [ey] at q
      obtain ⟨v, hv1, hv2⟩ := h3.get ey
      refine ⟨.ref a, h1, .inl ⟨rfl, vs, SqL.of h2⟩, a, vs, v, rfl, rfl, h2, by rw [h3.length]; exact hv1, ?_⟩
      have y' := h4 vs.dropLast ds.dropLast (by rw [List.dropLast_eq_take, List.dropLast_eq_take, h3.length]; exact h3.take _)
      exact q v G _ y' Gr.refl (fun h => nomatch h) (.inl hv2)
def popAtR (ρ : List Sl) (i : Nat) (d : D) : Option Sl → Res D
  | some (.ow t (.lst ds)) => match d with
    | .int k => if small62 k then (match ixN ds.length k with
      | some j => match ds[j]? with
        | some y => .ok y (ρ.set i (.ow t (.lst (ds.eraseIdx j))))
        | none => .no
      | none => .no) else .no
    | _ => .no
  | _ => .no
def dPopAt (i : Nat) (t : M D) : M D := fun ρ => if isL ρ[i]? then (t ρ).bind fun d ρ1 => popAtR ρ1 i d ρ1[i]? else .no
theorem de_popAt (i : Nat) {x : Str} (h : DE Z m e t) (hN : Z.X.N[i]? = some x := by rfl) (hv : Vis Z.X.env.scope x := by first | exact Or.inl rfl | exact Or.inr (Or.inl rfl) | exact Or.inr (Or.inr rfl)) (hd : (x == ("__debug__" : Str)) = false := by decide) (hcd : (x == ("__classdict__" : Str)) = false := by decide)
    (hbase : attributeBase (.Name x px) "pop" Z.X.env (eval (.Name x px) Z.X.env) = eval (.Name x px) Z.X.env := by rfl)
    (hfew : ((backTo pos (starEach (e :: []) Z.X.env)).all (fun x => !x.1) && (backToKw pos (keywordEach [] Z.X.env)).all (fun x => x.1.isSome)
      && decide ((e :: ([] : List Expr)).length + ([] : List Keyword).length + (if ([] : List Keyword).isEmpty then 0 else 1) < 30)) = true := by rfl)
    (hline : (apos.endLine == pos.line) = true := by rfl) (hs : starEach (e :: []) Z.X.env = (false, eval e Z.X.env) :: starEach [] Z.X.env := by rfl) (hplain : (backTo pos (starEach [] Z.X.env)).any (·.1) = false := by rfl) :
    DE Z ⟨false, false⟩ (.Call (.Attribute (.Name x px) "pop" apos) [e] [] pos) (dPopAt i t) := by
  obtain ⟨te, pa, sa⟩ := h
  refine ⟨_, pe_bm PySem.F.plainAttrs_list PySem.F.slot_list_pop PySem.F.type_list_pop mt_popAt (pe_var hN hv hd hcd) (pa_cons pa pa_nil hs) hbase hfew hline hs hplain, fun Ho hw G ρ σ H Q x q => ?_⟩
  unfold dPopAt at q
  by_cases hi : isL ρ[i]? = true
  · rw [if_pos hi] at q
    obtain ⟨t0, ds0, e0⟩ := isL_some hi
    obtain ⟨a, vs0, h1, h2, _, _⟩ := x.ownL e0
    refine ⟨.ref a, h1, .inl ⟨rfl, vs0, SqL.of h2⟩, ?_⟩
    refine sa Ho hw G ρ σ H _ x (DE.then (L := fun r => LJ Z Ho ⟨false, false⟩ G H σ r Q) (fun _ _ h => h) (fun h => h) q fun d ρ1 v G1 H1 x1 g1 s1 b1 q1 => ?_)
    cases e1 : ρ1[i]? with
    | none => rw [e1] at q1; exact q1.elim
    | some s =>
      rw [e1] at q1
      cases s <;> try (exact q1.elim)
      rename_i t1 dd
      cases dd <;> try (exact q1.elim)
      rename_i ds
      cases d <;> try (exact q1.elim)
      rename_i k
      unfold popAtR at q1
      simp only at q1
      by_cases hk : small62 k = true
      · rw [if_pos hk] at q1
        cases ej : ixN ds.length k with
        | none => rw [ej] at q1; exact q1.elim
        | some j =>
          rw [ej] at q1
          simp only at q1
          cases ey : ds[j]? with
          | none => rw [ey] at q1; exact q1.elim
          | some y =>
            rw [ey] at q1
            obtain ⟨a', vs, h1', h2', h3', h4'⟩ := x1.ownL e1
            rw [h1] at h1'
            cases h1'
            obtain ⟨w, hw1, hw2⟩ := h3'.get ey
            obtain ⟨k1, k2⟩ := small62_of hk
            refine ⟨a, vs, k, j, w, rfl, by rw [b1.up.int], h2', by omega, by omega, by rw [h3'.length]; exact (ixN_seq ej).1, hw1, ?_⟩
            exact q1 w G1 _ (h4' _ _ (h3'.eraseIdx j)) g1 (fun h => nomatch h) (.inl hw2)
      · rw [if_neg hk] at q1; exact q1.elim
  · rw [if_neg hi] at q; exact q.elim
end
end DS
set_option Elab.async false
set_option linter.all false
set_option maxRecDepth 100000
set_option maxHeartbeats 1000000
namespace DS
open PySem PySem.Spec PyProof.Rows L2
section
variable {K : PySem.W.Frag} {mg : Str → Option Value} {τ : Tau} {Ho G : Hp} {ρ ρ' : List Sl} {σ σ' : L2.St} {H : Hp}
theorem RS.pick (x : RS K mg τ Ho G ρ σ H) (f : Nat → Nat) (hf : ∀ i j, f i = f j → i = j) (hl : ρ'.length = σ'.length) (h : ∀ i s, ρ'[i]? = some s → ρ[f i]? = some s ∧ (σ'[i]?.join) = (σ[f i]?.join)) : RS K mg τ Ho G ρ' σ' H := by
  classical
  obtain ⟨O, x⟩ := x
  let O' : Addr → Option Nat := fun a => match O a with
    | some j => if hj : ∃ i, f i = j then some (Classical.choose hj) else none
    | none => none
  have hO : ∀ a i, O' a = some i ↔ O a = some (f i) := by
    intro a i
    show (match O a with
      | some j => if hj : ∃ i, f i = j then some (Classical.choose hj) else none
      | none => none) = some i ↔ _
    cases e : O a with
    | none => simp
    | some j =>
      simp only
      by_cases hj : ∃ i, f i = j
      · rw [dif_pos hj]
        have hc := Classical.choose_spec hj
        constructor
        · intro q; cases q; rw [hc]
        · intro q
          cases q
          rw [hf _ _ hc]
      · rw [dif_neg hj]
        constructor
        · intro q; cases q
        · intro q; cases q; exact absurd ⟨i, rfl⟩ hj
  refine ⟨O', x.gh, fun a i q => x.oh a _ ((hO a i).mp q), x.out, hl, fun i s q => ?_⟩
  obtain ⟨h1, h2⟩ := h i s q
  rw [h2, own_of fun a => hO a i]
  exact x.sl _ s h1
theorem RS.pushes : ∀ {ds : List D} {vs : List V}, RS K mg τ Ho G ρ σ H → RepL K mg G ds vs → RS K mg τ Ho G (ds.map Sl.sh ++ ρ) (vs.map some ++ σ) H
  | [], vs, x, r => by unfold RepL at r; subst r; exact x
  | d :: ds, vs, x, r => by
    unfold RepL at r
    obtain ⟨v, vs', rfl, h2, h3⟩ := r
    exact (RS.pushes x h3).push h2
theorem RS.dropMid {s : Sl} {v : Option V} {mid : List Sl} {mv : L2.St} (x : RS K mg τ Ho G (s :: (mid ++ ρ)) (v :: (mv ++ σ)) H) (hm : mid.length = mv.length) : RS K mg τ Ho G (s :: ρ) (v :: σ) H := by
  have hl : ρ.length = σ.length := by
    have := x.len
    simp only [List.length_cons, List.length_append] at this
    omega
  refine x.pick (fun i => match i with
    | 0 => 0
    | i + 1 => i + 1 + mid.length) (fun i j q => ?_) (by simp [hl]) (fun i s q => ?_)
  · cases i <;> cases j <;> simp at q ⊢ <;> omega
  · cases i with
    | zero => exact ⟨by simpa using q, rfl⟩
    | succ i =>
      simp only [List.getElem?_cons_succ] at q ⊢
      refine ⟨?_, ?_⟩
      · rw [show i + 1 + mid.length = (i + mid.length) + 1 by omega, List.getElem?_cons_succ, List.getElem?_append_right (by omega)]
        simpa using q
      · rw [show i + 1 + mid.length = (i + mid.length) + 1 by omega, List.getElem?_cons_succ, List.getElem?_append_right (by omega), show i + mid.length - mv.length = i by omega]
end
structure KlAt (K : PySem.W.Frag) (mg : Str → Option Value) (c : Str) (C : Addr) : Prop where
  mg : mg c = some (.ref C)
  cl : Cls K C
def putD (f : Str) (d : D) : List (Str × D) → List (Str × D)
  | [] => [(f, d)]
  | (g, e) :: r => if g = f then (f, d) :: r else (g, e) :: putD f d r
theorem RepF.put {K : PySem.W.Frag} {mg : Str → Option Value} {G : Hp} {f : Str} {d : D} {v : V} (hd : Rep K mg G d v) : ∀ {fs : List (Str × D)} {ws : List (Str × V)}, RepF K mg G fs ws → RepF K mg G (putD f d fs) (putF f v ws)
  | [], ws, h => by
    unfold RepF at h; subst h
    unfold putD putF RepF
    exact ⟨v, [], rfl, hd, by unfold RepF; rfl⟩
  | (g, e) :: r, ws, h => by
    unfold RepF at h
    obtain ⟨u, ws', rfl, h2, h3⟩ := h
    unfold putD putF
    by_cases q : g = f
    · rw [if_pos q, if_pos q]
      subst q
      unfold RepF
      exact ⟨v, ws', rfl, hd, h3⟩
    · rw [if_neg q, if_neg q]
      unfold RepF
      exact ⟨u, _, rfl, h2, RepF.put hd h3⟩
theorem RepF.length {K : PySem.W.Frag} {mg : Str → Option Value} {G : Hp} : ∀ {fs : List (Str × D)} {ws : List (Str × V)}, RepF K mg G fs ws → ws.length = fs.length
  | [], ws, h => by unfold RepF at h; subst h; rfl
  | (g, e) :: r, ws, h => by
    unfold RepF at h
    obtain ⟨u, ws', rfl, h2, h3⟩ := h
    simp [RepF.length h3]
theorem RepF.none {K : PySem.W.Frag} {mg : Str → Option Value} {G : Hp} {f : Str} : ∀ {fs : List (Str × D)} {ws : List (Str × V)}, RepF K mg G fs ws → fs.lookup f = none → ws.lookup f = none
  | [], ws, h, _ => by unfold RepF at h; subst h; rfl
  | (g, e) :: r, ws, h, q => by
    unfold RepF at h
    obtain ⟨u, ws', rfl, h2, h3⟩ := h
    simp only [List.lookup] at q ⊢
    cases hb : f == g with
    | true => rw [hb] at q; cases q
    | false => rw [hb] at q; exact RepF.none h3 q
theorem BR.obj {K : PySem.W.Frag} {mg : Str → Option Value} {b : Bool} {G H : Hp} {c : Str} {fs : List (Str × D)} {v : V} (e : Same G H) (h : BR K mg b G H (.obj c fs) v) : ∃ a C dx ws, v = .ref a ∧ mg c = some (.ref C) ∧ H a = some (.ins C dx ws) ∧ RepF K mg G fs ws := by
  rcases h with h | ⟨_, a, o, rfl, h1, h⟩
  · unfold Rep at h
    obtain ⟨a, C, dx, ws, h1, h2, h3, h4⟩ := h
    exact ⟨a, C, dx, ws, h1, h2, e _ _ h3, h4⟩
  · cases h with
    | obj h2 h3 => exact ⟨a, _, _, _, rfl, h2, h1, h3⟩
section
variable {Z : DC} {Ho : Hp} {m m1 m2 : Md} {p : Bool} {e a b : Expr} {es : List Expr} {t : M D} {pos pos' p2 px apos : Pos} {u w : MS} {c f : Str} {C : Addr}
def fFld (c f : Str) : D → Option D
  | .obj c' fs => if c' = c then fs.lookup f else none
  | _ => none
def putR (c f : Str) (ρ : List Sl) (i : Nat) (d : D) : Option Sl → SR
  | some (.ow t (.obj c' fs)) => if c' = c ∧ fs.length < 1000 then .nx (ρ.set i (.ow t (.obj c' (putD f d fs)))) else .no
  | _ => .no
def sFldP (c f : Str) (i : Nat) (t : M D) : MS := fun ρ => (t ρ).andS fun d ρ => putR c f ρ i d ρ[i]?
end
structure KwM (K : PySem.W.Frag) (mg : Str → Option Value) (fd : FuncData) (ps : List Str) (n : Nat) (ks : List Str) (arr : List D → List D) : Prop where
  ex : ∃ g gV, KBn K fd ps (n + 1) ks g gV ∧ ∀ G ds es vs zs (x : V), RepL K mg G ds vs → RepL K mg G es zs → vs.length = n → zs.length = ks.length → ∃ rest, gV (x :: vs) zs = x :: rest ∧ RepL K mg G (arr (ds ++ es)) rest ∧ rest.length + 1 = ps.length
structure KwF (K : PySem.W.Frag) (mg : Str → Option Value) (fd : FuncData) (ps : List Str) (n : Nat) (ks : List Str) (arr : List D → List D) : Prop where
  ex : ∃ g gV, KBn K fd ps n ks g gV ∧ ∀ G ds es vs zs, RepL K mg G ds vs → RepL K mg G es zs → vs.length = n → zs.length = ks.length → RepL K mg G (arr (ds ++ es)) (gV vs zs) ∧ (gV vs zs).length = ps.length
def DK (Z : DC) (kws : List Keyword) (t : M (List D)) : Prop := ∃ te, PK Z.X kws te ∧ ∀ Ho, Same Z.Ho Ho → ∀ G ρ σ H Q, Z.R Ho G ρ σ H → LA Z Ho G H σ (t ρ) Q → te σ H Q
def finM (ρ : List Sl) : FR → Res Sl
  | .ok (.sh .non) (.ow none d :: _) => .ok (.ow none d) ρ
  | .ex x _ => .ex x ρ
  | _ => .no
def dMake (F : FS) (c : Str) (n m : Nat) (arr : List D → List D) (u w : M (List D)) : M Sl := bnd u fun ds => bnd w fun es ρ1 => if ds.length = n ∧ es.length = m then finM ρ1 (F (.ow none (.obj c []) :: (arr (ds ++ es)).map Sl.sh)) else .no
section
variable {Z : DC} {Ho : Hp} {m m1 m2 : Md} {e a b : Expr} {es : List Expr} {kws : List Keyword} {t : M D} {pos pos' p p2 px apos kpos : Pos} {c f x : Str} {C g0 : Addr} {nm : Option Str} {u w : M (List D)} {k n : Nat} {fd : FuncData} {ps ks : List Str} {F : FS} {arr : List D → List D}
theorem dk_nil : DK Z [] dNil := ⟨_, pk_nil, fun Ho hw G ρ σ H Q x q => q [] G H x Gr.refl RepL.nil⟩
theorem dk_cons (h : DE Z m e t) (hr : DK Z kws w) (hb : m.b = false := by rfl) : DK Z (⟨nm, e, kpos⟩ :: kws) (dCons t w) := by
  obtain ⟨te, pa, sa⟩ := h
  obtain ⟨tu, pr, sr⟩ := hr
  refine ⟨_, pk_cons pa pr, fun Ho hw G ρ σ H Q x q => ?_⟩
  refine sa Ho hw G ρ σ H _ x (DE.then (L := fun r => LA Z Ho G H σ r Q) (fun _ _ h => h) (fun h => h) q fun d ρ1 v G1 H1 x1 g1 s1 b1 q1 => ?_)
  rw [hb] at b1
  replace b1 := b1.rep
  refine sr Ho hw G1 ρ1 σ H1 _ x1 (DA.then (L := fun r => LA Z Ho G H σ r Q) (fun _ _ h => h) (fun h => h) q1 fun ds ρ2 vs G2 H2 x2 g2 b2 q2 => ?_)
  exact q2 _ G2 H2 x2 (g1.trans g2) (RepL.cons (Rep.mono g2.1 _ _ b1) b2)
theorem RS.dropFront {K : PySem.W.Frag} {mg : Str → Option Value} {τ : Tau} {Ho G : Hp} {ρ mid : List Sl} {σ mv : L2.St} {H : Hp} (x : RS K mg τ Ho G (mid ++ ρ) (mv ++ σ) H) (hm : mid.length = mv.length) : RS K mg τ Ho G ρ σ H :=
  (RS.dropMid (x.push (d := .non) (v := .non) rep_non) hm).pop
def propR (F : FS) (c : Str) (ρ : List Sl) (d : D) : Res Sl := match d with
  | .obj c' _ => if c' = c then (match F [.sh d] with
    | .ok s [_] => .ok s ρ
    | _ => .no) else .no
  | _ => .no
def dProp (F : FS) (c : Str) (t : M D) : M Sl := bnd t fun d ρ1 => propR F c ρ1 d
end
end DS
set_option Elab.async false
set_option linter.all false
set_option maxRecDepth 100000
set_option maxHeartbeats 1000000
namespace DS
open PySem PySem.Spec PyProof.Rows L2
section
variable {c : M Bool} {b : MS} {kl : List Nat} {ρ ρ1 ρ2 : List Sl} {s : Sl} {x : Exn}
theorem sWhile_eq {ρ' : List Sl} (h : ∀ n, wN c b kl (n + 1) ρ = wN c b kl n ρ') : sWhile c b kl ρ = sWhile c b kl ρ' := by
  by_cases q : ∃ n, wN c b kl n ρ' ≠ .no
  · obtain ⟨n, hn⟩ := q
    rw [sWhile_of hn, sWhile_of (n := n + 1) (by rw [h]; exact hn), h]
  · have z : ∀ n, wN c b kl n ρ' = .no := fun n => Classical.byContradiction fun z => q ⟨n, z⟩
    have z2 : ∀ n, wN c b kl n ρ = .no := fun n => by
      cases n with
      | zero => rfl
      | succ n => rw [h, z]
    unfold sWhile
    rw [dif_neg (fun ⟨n, hn⟩ => hn (z2 n)), dif_neg q]
theorem sWhile_nx (h : c ρ = .ok true ρ1) (h2 : b ρ1 = .nx ρ2) : sWhile c b kl ρ = sWhile c b kl (drops kl ρ2) := sWhile_eq fun n => by simp only [wN, h, h2]
theorem sWhile_end (h : c ρ = .ok false ρ1) : sWhile c b kl ρ = .nx (drops kl ρ1) := by
  have e : wN c b kl 1 ρ = .nx (drops kl ρ1) := by simp only [wN, h]
  rw [sWhile_of (n := 1) (by rw [e]; intro z; cases z), e]
end
section
variable {ρ ρ1 : List Sl} {x : Exn}
def joinR (tb : M D) (ρ : List Sl) : D → Res D
  | .str x => (tb ρ).bind fun e => lft (fJoin (.str x) e)
  | _ => .no
@[simp] theorem x_join (ta tb : M D) : dJoin ta tb ρ = (ta ρ).bind fun d ρ => joinR tb ρ d := by
  unfold dJoin
  rw [x_bnd]
  cases ta ρ with
  | ok d ρ' => simp only [x_bok]; cases d <;> rfl
  | ex _ _ => rfl
  | no => rfl
@[simp] theorem x_joinR {tb : M D} {y : Str} : joinR tb ρ (.str y) = (tb ρ).bind fun e => lft (fJoin (.str y) e) := rfl
@[simp] theorem x_aug (f : D → D → Option D) (i : Nat) (t : M D) : sAug f i t ρ = if isV ρ[i]? then (t ρ).andS fun e ρ1 => augR f ρ1 i e ρ1[i]? else .no := rfl
@[simp] theorem x_isV1 {d : D} : isV (some (.sh d)) = true := rfl
@[simp] theorem x_isV2 {t : Option Nat} {ds : List D} : isV (some (.ow t (.lst ds))) = true := rfl
@[simp] theorem x_augI {i : Nat} {j k : Int} : augR fAugA ρ i (.int k) (some (.sh (.int j))) = .nx (ρ.set i (.sh (.int (j + k)))) := rfl
@[simp] theorem x_pop (i : Nat) : dPop i ρ = popR ρ i ρ[i]? := rfl
@[simp] theorem x_popAt (i : Nat) (t : M D) : dPopAt i t ρ = if isL ρ[i]? then (t ρ).bind fun d ρ1 => popAtR ρ1 i d ρ1[i]? else .no := rfl
@[simp] theorem x_ch (f f' : D → D → Option D) (ta tb tc : M D) : dCh f f' ta tb tc ρ = (ta ρ).bind fun d => bnd tb fun e => bnd (lft ((f d e).bind asB)) fun k => if k then bnd tc fun g => lft (f' e g) else ret (.bl false) := rfl
@[simp] theorem x_make (F : FS) (c : Str) (n m : Nat) (arr : List D → List D) (v w : M (List D)) : dMake F c n m arr v w ρ = (v ρ).bind fun ds => bnd w fun es ρ1 => if ds.length = n ∧ es.length = m then finM ρ1 (F (.ow none (.obj c []) :: (arr (ds ++ es)).map Sl.sh)) else .no := rfl
@[simp] theorem x_finM1 {d : D} {ss : List Sl} : finM ρ (.ok (.sh .non) (.ow none d :: ss)) = .ok (.ow none d) ρ := rfl
@[simp] theorem x_finM2 {ss : List Sl} : finM ρ (.ex x ss) = .ex x ρ := rfl
def prR (ρ : List Sl) : FR → Res Sl
  | .ok s [_] => .ok s ρ
  | _ => .no
@[simp] theorem x_prop (F : FS) (c : Str) (t : M D) : dProp F c t ρ = (t ρ).bind fun d ρ1 => propR F c ρ1 d := rfl
@[simp] theorem x_propR {F : FS} {c c' : Str} {fs : List (Str × D)} : propR F c ρ (.obj c' fs) = if c' = c then prR ρ (F [.sh (.obj c' fs)]) else .no := by
  unfold propR
  simp only
  split
  · cases F [.sh (.obj c' fs)] with
    | ok s ss =>
      cases ss with
      | nil => rfl
      | cons a b => cases b <;> rfl
    | ex _ _ => rfl
    | no => rfl
  · rfl
@[simp] theorem x_prR {s t : Sl} : prR ρ (.ok s [t]) = .ok s ρ := rfl
@[simp] theorem x_fldP (c f : Str) (i : Nat) (t : M D) : sFldP c f i t ρ = (t ρ).andS fun d ρ => putR c f ρ i d ρ[i]? := rfl
@[simp] theorem x_putR {c c' f : Str} {i : Nat} {d : D} {t : Option Nat} {fs : List (Str × D)} : putR c f ρ i d (some (.ow t (.obj c' fs))) = if c' = c ∧ fs.length < 1000 then .nx (ρ.set i (.ow t (.obj c' (putD f d fs)))) else .no := rfl
@[simp] theorem x_fFld {c c' f : Str} {fs : List (Str × D)} : fFld c f (.obj c' fs) = if c' = c then fs.lookup f else none := rfl
end
section
variable {Z : DC} {m1 m2 : Md} {a b : Expr} {ta tb : M D} {pos : Pos}
end
theorem vals_signs {y : Str} {acc : List Value} (hl : acc.length = y.cps.size) (h : ∀ (j : Nat) (v : Value), acc[j]? = some v → SignAt y j v) : Vals ((signs y).map V.str) acc := by
  have go : ∀ (cs : List Nat) (us : List Value), us.length = cs.length → (∀ (j : Nat) (v : Value), us[j]? = some v → ∃ (c : Nat) (u : Tok), cs[j]? = some c ∧ v = Value.str ⟨#[c]⟩ u) → Vals ((cs.map fun c => (⟨#[c]⟩ : Str)).map V.str) us := by
    intro cs
    induction cs with
    | nil => intro us hl _; cases us with
      | nil => exact .nil
      | cons _ _ => cases hl
    | cons c cs ih =>
      intro us hl h
      cases us with
      | nil => cases hl
      | cons u us =>
        obtain ⟨c', t, e1, e2⟩ := h 0 u rfl
        simp at e1
        subst e1
        rw [e2]
        refine .cons ⟨t, rfl⟩ (ih us (by simpa using hl) fun j v hj => ?_)
        obtain ⟨c', t, e1, e2⟩ := h (j + 1) v (by simpa using hj)
        exact ⟨c', t, by simpa using e1, e2⟩
  refine go y.cps.toList acc (by simpa using hl) fun j v hj => ?_
  obtain ⟨c, u, e1, e2⟩ := h j v hj
  exact ⟨c, u, by simpa using e1, e2⟩
theorem call_listS {X : Cx} (hc : X.calm = true) : CallR X (.type "list") (fun xs H Q => ∃ y : Str, xs = [.str y] ∧ y.length ≤ sizeLine ∧ ∀ l, H l = none → Q (.ref l) (upd H l (.lst ((signs y).map V.str)))) := by
  intro pins s σ H xs us Q I r h
  obtain ⟨y, rfl, hz, q⟩ := h
  obtain ⟨u, rfl, t, rfl⟩ := vals1 r
  refine call_list_str (I.ok.hd hc) y t (fun h' tk acc' c' kp e hi => ?_) hz
  have hv : Vals ((signs y).map V.str) acc'.toList := vals_signs (by rw [Array.length_toList]; exact hi.1) fun j v hj => hi.2 j v (by rw [← Array.getElem?_toList]; exact hj)
  exact ⟨.ref s.heap.objs.size, _, I.laid (t' := tk) kp (Nat.le_refl _) (show ObjOk X.prog X.w _ h' _ (.lst ((signs y).map V.str)) from ⟨by rw [List.length_map, signs_length]; exact hz, acc'.toList, c', hv, by rw [Array.toArray_toList]; exact e⟩), rfl, q _ (I.hok.fresh (Nat.le_refl _))⟩
def fLstT : D → Option D
  | .lst ds => some (.lst ds)
  | .tup ds => some (.lst ds)
  | .str y => if y.length ≤ sizeLine then some (.lst ((signs y).map D.str)) else none
  | _ => none
theorem repL_signs {K : PySem.W.Frag} {mg : Str → Option Value} {G : Hp} {y : Str} (h : PyData.strOk y = true) : RepL K mg G ((signs y).map D.str) ((signs y).map V.str) := by
  have go : ∀ l : List Str, (∀ z ∈ l, PyData.strOk z = true) → RepL K mg G (l.map D.str) (l.map V.str) := by
    intro l
    induction l with
    | nil => intro _; exact RepL.nil
    | cons z l ih => intro hl; exact RepL.cons (rep_str (hl z List.mem_cons_self)) (ih fun z hz => hl z (List.mem_cons_of_mem _ hz))
  refine go _ fun z hz => ?_
  unfold signs at hz
  obtain ⟨c, hc, rfl⟩ := List.mem_map.mp hz
  rw [strOk_iff] at *
  intro k hk
  have : k = c := by simpa using hk
  subst this
  exact h k hc
section
variable {Z : DC} {m1 : Md} {a : Expr} {ta : M D} {pos p2 : Pos}
theorem cld_lstT : ClD Z (fun xs H Q => (∃ p ys, xs = [V.ref p] ∧ (SqL Z.X.K H p ys ∨ SqT Z.X.K H p ys) ∧ ∀ l, H l = none → Q (.ref l) (upd H l (.lst ys))) ∨ ∃ y : Str, xs = [.str y] ∧ y.length ≤ sizeLine ∧ ∀ l, H l = none → Q (.ref l) (upd H l (.lst ((signs y).map V.str)))) fLstT := by
  refine ⟨?_⟩
  intro Ho G ρ σ H d z x Q hR hx hf hq
  cases d <;> try (cases hf; done)
  · rename_i y
    unfold fLstT at hf
    by_cases hz : y.length ≤ sizeLine
    · simp only [if_pos hz] at hf
      cases hf
      refine .inr ⟨y, by rw [hx.str.1], hz, fun p hp => ?_⟩
      obtain ⟨x4, g4⟩ := hR.allocF (o := .lst ((signs y).map V.str)) hp
      refine hq _ _ _ x4 g4 (same_upd hp) ?_
      unfold DC.rep Rep
      exact ⟨p, _, rfl, upd_same, repL_signs hx.str.2⟩
    · simp only [if_neg hz] at hf; cases hf
  · exact .inl ((cld_lstof (Z := Z)).ok hR hx hf hq)
  · exact .inl ((cld_lstof (Z := Z)).ok hR hx hf hq)
theorem de_lstT (hm : Z.X.mg "list" = none) (ha : DE Z m1 a ta) (hh : Z.hot = false := by rfl) (hg : Gl Z.X "list" := by rfl) (he : starEach (a :: []) Z.X.env = (false, eval a Z.X.env) :: starEach [] Z.X.env := by rfl) :
    DE Z ⟨m1.p, false⟩ (.Call (.Name "list" p2) [a] [] pos) (d1 fLstT ta) := de_typ1 (CallR.or' call_list_of (call_listS (Z.calm hh))) cld_lstT (by decide +kernel) hm ha hg (he := he)
end
def chS (c : Nat) : Str := ⟨#[c]⟩
def mkS' (l : List Nat) : Str := ⟨l.toArray⟩
theorem len_list (x : Str) : x.length = x.cps.toList.length := by
  show x.cps.size = _
  simp
theorem sIn_ch (c : Nat) (y : Str) : sIn (chS c) y = decide (c ∈ y.cps.toList) := rfl
end DS
set_option Elab.async false
set_option linter.all false
set_option maxRecDepth 100000
set_option maxHeartbeats 2000000
namespace DS
open PySem PySem.Spec PyProof.Rows L2
section
variable {X : Cx} {pins : List (Addr × Obj)} {σ : L2.St} {H : Hp} {s : Shared}
end
section
variable {X : Cx} {x n : Str} {c : Value} {i : Nat} {body suite : List Stmt} {b₀ : Stmt} {np pos pos' : Pos} {tb : WX → TS} {ts : Addr → Value → Option Addr → TS} {Wout : WX}
end
def sEndD (i : Nat) (r : SR) : SR := match r with
  | .nx ρ => .nx (ρ.set i .no)
  | .rt s ρ => .rt s (ρ.set i .no)
  | .bk ρ => .bk (ρ.set i .no)
  | .ct ρ => .ct (ρ.set i .no)
  | .ex _ _ => .no
  | .no => .no
def tryD (i : Nat) (su : MS) (x : Exn) (ρ1 : List Sl) : Option Bool → SR
  | some true => sEndD i (su (ρ1.set i (.sh (.exc x.cls x.fs))))
  | some false => .ex x ρ1
  | none => .no
def sTryD (i : Nat) (tab : Str → Option Bool) (b su : MS) : MS := fun ρ => match b ρ with
  | .ex x ρ1 => tryD i su x ρ1 (tab x.cls)
  | r => r
theorem RepX.exc {K : PySem.W.Frag} {mg : Str → Option Value} {G : Hp} {x : Exn} {cls : Value} {d : Option Addr} {a : Addr} (r : RepX K mg G x cls d) (na : G a = none) : Rep K mg (upd G a (.ext (XcP a cls d))) (.exc x.cls x.fs) (.ref a) := by
  obtain ⟨C, h1, rfl, h3⟩ := r
  unfold Rep
  refine ⟨a, C, rfl, h1, ?_⟩
  rcases h3 with ⟨h3, rfl⟩ | ⟨dd, ws, rfl, h4, h5⟩
  · exact .inl ⟨h3, upd_same⟩
  · exact .inr ⟨dd, ws, upd_same, same_upd na _ _ h4, RepF.mono (same_upd na) _ _ h5⟩
section
variable {Z : DC} {i : Nat} {n x : Str} {c : Value} {body suite : List Stmt} {b0 : Stmt} {np pos pos' : Pos} {b su : MS}
end
structure IsK (K : PySem.W.Frag) (mg : Str → Option Value) (tab : Str → Option Bool) (cv : Value) : Prop where
  get : ∀ x C b, mg x = some (.ref C) → tab x = some b → KxC K C ∧ PySem.W.kitOne K (.ref C) cv = some b
  non : PySem.W.kitOne K (.type "NoneType") cv = some false
def fIsK (tab : Str → Option Bool) : D → Option D
  | .non => some (.bl false)
  | .exc c _ => (tab c).map D.bl
  | _ => none
section
variable {Z : DC} {m : Md} {e : Expr} {t : M D} {pos p p2 : Pos} {f : Str}
def fXf (ok : Str → Bool) (f : Str) : D → Option D
  | .exc c fs => if ok c then fs.lookup f else none
  | _ => none
end
end DS
set_option Elab.async false
set_option linter.all false
set_option maxRecDepth 100000
set_option maxHeartbeats 2000000
namespace DS
open PySem PySem.Spec PyProof.Rows L2
abbrev ThD.tau (T : ThD) : Tau := ⟨T.ar, T.er, none, T.tb⟩
def noTh1 : Sl → Bool
  | .th _ => false
  | .td _ => false
  | _ => true
def noTh (ρ : List Sl) : Bool := ρ.all noTh1
section
variable {K : PySem.W.Frag} {mg : Str → Option Value} {τ τ' : Tau} {Ho G G' : Hp} {ρ ρ' : List Sl} {σ σ' : L2.St} {H H' : Hp} {T : ThD}
theorem SlOk.one {h : Hp} {s : Sl} {v : Option V} (x : SlOk K mg τ G h s v) (n : noTh1 s = true) (ha : τ.ar = T.ar) (he : τ.er = T.er) (hb : τ.tb = T.tb) : SlOk1 K mg T.tau G h s v := by
  cases s with
  | no => trivial
  | sh d => exact x
  | ow t d => obtain ⟨a, o, h1, h2, h3⟩ := x; exact ⟨a, o, h1, fun k e => by show T.ar k = _; rw [← ha]; exact h2 k e, h3⟩
  | rs t R => obtain ⟨a, h1, h2, h3⟩ := x; exact ⟨a, h1, fun k e => by show T.ar k = _; rw [← ha]; exact h2 k e, h3⟩
  | er x' => obtain ⟨a, cls, d, h1, h2, h3⟩ := x; exact ⟨a, cls, d, h1, by show T.er = _; rw [← he]; exact h2, h3⟩
  | th r => cases n
  | td r => cases n
  | tb => exact fun p hp => x p (by rw [hb]; exact hp)
  | op y ds => exact x
  | pn k => obtain ⟨b, h1, h2⟩ := x; exact ⟨b, h1, by show T.ar k = _; rw [← ha]; exact h2⟩
theorem SlOk1.of {h : Hp} {s : Sl} {v : Option V} (x : SlOk1 K mg T.tau G h s v) (ha : τ.ar = T.ar) (he : τ.er = T.er) (hb : τ.tb = T.tb) : SlOk K mg τ G h s v := by
  cases s with
  | no => trivial
  | sh d => exact x
  | ow t d => obtain ⟨a, o, h1, h2, h3⟩ := x; exact ⟨a, o, h1, fun k e => by rw [ha]; exact h2 k e, h3⟩
  | rs t R => obtain ⟨a, h1, h2, h3⟩ := x; exact ⟨a, h1, fun k e => by rw [ha]; exact h2 k e, h3⟩
  | er x' => obtain ⟨a, cls, d, h1, h2, h3⟩ := x; exact ⟨a, cls, d, h1, by rw [he]; exact h2, h3⟩
  | th r => exact x.elim
  | td r => exact x.elim
  | tb => exact fun p hp => x p (by rw [hb] at hp; exact hp)
  | op y ds => exact x
  | pn k => obtain ⟨b, h1, h2⟩ := x; exact ⟨b, h1, by rw [ha]; exact h2⟩
theorem SlOk.noTh {h : Hp} {s : Sl} {v : Option V} (x : SlOk K mg T.tau G h s v) : noTh1 s = true := by
  cases s with
  | th r => obtain ⟨_, h1, _⟩ := x; cases h1
  | td r => obtain ⟨_, h1, _⟩ := x; cases h1
  | _ => rfl
theorem ownTh {O : Addr → Option Nat} {i : Nat} {H : Hp} {a : Addr} (h : own O i H a ≠ none) : O a = some i := by
  unfold own at h
  by_cases q : O a = some i
  · exact q
  · rw [if_neg q] at h; exact absurd rfl h
theorem ownAt {O : Addr → Option Nat} {i : Nat} {H : Hp} {a : Addr} (h : O a = some i) : own O i H a = H a := by unfold own; rw [if_pos h]
def thOf : Option Sl → Option (List Sl)
  | some (.th ρ) => some ρ
  | some (.td ρ) => some ρ
  | _ => none
theorem SlOk.thk {h : Hp} {s : Sl} {v : Option V} {r : List Sl} (x : SlOk K mg τ G h s v) (e : thOf (some s) = some r) (ht : τ.th = some T) : ThOk K mg T G h r := by
  cases s with
  | th r' => obtain ⟨T', h1, _, _, h4⟩ := x; rw [ht] at h1; cases h1; cases e; exact h4
  | td r' => obtain ⟨T', h1, h4⟩ := x; rw [ht] at h1; cases h1; cases e; exact h4
  | _ => cases e
def lendO (i : Nat) (O : Addr → Option Nat) (H Ho : Hp) : Hp := fun a => match O a with
  | some j => if j = i then Ho a else H a
  | none => Ho a
def mixO (i : Nat) (O2 O : Addr → Option Nat) : Addr → Option Nat := fun a => match O2 a with
  | some 0 => some 0
  | some (_ + 1) => some (i + 1)
  | none => match O a with
    | some j => if j = i then none else some (j + 1)
    | none => none
theorem RS.act0 {i : Nat} {ρt : List Sl} {σt : L2.St} (x : RS K mg τ Ho G ρt σt H) (e : thOf ρt[i]? = some ρ) (ht : τ.th = some T) :
    ∃ Ho', Same Ho Ho' ∧ RS K mg T.tau Ho' G ρ T.σ H ∧ ∀ G' s v ρ' H', Gr Ho' G G' → RS K mg T.tau Ho' G' (s :: ρ') (some v :: T.σ) H' → RS K mg τ Ho G' (s.tagged none :: ρt.set i (.td ρ')) (some v :: σt) H' := by
  obtain ⟨O, x, kt⟩ := x.pruned
  cases et : ρt[i]? with
  | none => rw [et] at e; cases e
  | some st =>
    rw [et] at e
    obtain ⟨h1, Oc, h2, h3⟩ := (x.sl i st et).thk e ht
    have oc : ∀ a j, Oc a = some j → O a = some i := fun a j q => ownTh (h2 a j q)
    obtain ⟨Ho', eHo⟩ : ∃ Ho' : Hp, Ho' = lendO i O H Ho := ⟨_, rfl⟩
    have g1 : ∀ a j, j ≠ i → O a = some j → Ho' a = H a := fun a j n q => by rw [eHo]; unfold lendO; rw [q]; exact if_neg n
    have g2 : ∀ a, (∀ j, j ≠ i → O a ≠ some j) → Ho' a = Ho a := fun a q => by
      rw [eHo]; unfold lendO
      cases w : O a with
      | none => rfl
      | some j =>
        by_cases n : j = i
        · exact if_pos n
        · exact absurd w (q j n)
    have cs : ∀ a, (∃ j, j ≠ i ∧ O a = some j) ∨ Ho' a = Ho a := fun a => by
      by_cases q : ∃ j, j ≠ i ∧ O a = some j
      · exact .inl q
      · exact .inr (g2 a fun j n z => q ⟨j, n, z⟩)
    have c1 : ∀ a j, j ≠ i → O a = some j → ∀ o, H a = some o → cl Ho' a = some o := fun a j n q o w => cl_at (by rw [g1 a j n q]; exact w) (kt a j q o w)
    have c2 : ∀ a, (∀ j, j ≠ i → O a ≠ some j) → cl Ho' a = cl Ho a := fun a q => cl_eq (g2 a q)
    have s1 : Same Ho Ho' := fun a o q => by
      rcases cs a with ⟨j, n, w⟩ | w
      · rw [x.ho w (kt a j w)] at q; cases q
      · rw [w]; exact q
    have s2 : Same Ho' H := fun a o q => by
      rcases cs a with ⟨j, n, w⟩ | w
      · rw [g1 a j n w] at q; exact q
      · rw [w] at q; exact x.out _ _ q
    refine ⟨Ho', s1, ⟨Oc, x.gh, fun a j q => ?_, s2, h1, fun j s q => ?_⟩, fun G' s v ρ' H' g y => ?_⟩
    · obtain ⟨z1, z2, z3⟩ := x.oh a i (oc a j q)
      refine ⟨z1, ?_, z3⟩
      rw [c2 a fun k n w => ?_]
      · exact z2
      · rw [oc a j q] at w; cases w; exact n rfl
    · have z : own Oc j H = own Oc j (own O i H) := by
        funext a
        unfold own
        by_cases w : Oc a = some j
        · rw [if_pos w, if_pos w, if_pos (oc a j w)]
        · rw [if_neg w, if_neg w]
      rw [z]
      exact (h3 j s q).of rfl rfl rfl
    · obtain ⟨O2, y⟩ := y
      have dis : ∀ a j, j ≠ i → O a = some j → O2 a = none := fun a j n q => by
        cases w : O2 a with
        | none => rfl
        | some k =>
          have z := (y.oh a k w).2.1
          cases w2 : H a with
          | none => exact absurd w2 (x.oh a j q).2.2
          | some o => rw [c1 a j n q o w2] at z; cases z
      have keep : ∀ a j, j ≠ i → O a = some j → H' a = H a := fun a j n q => by
        cases w : H a with
        | none => exact absurd w (x.oh a j q).2.2
        | some o => exact y.out a o (by rw [g1 a j n q]; exact w)
      obtain ⟨O', eO⟩ : ∃ O' : Addr → Option Nat, O' = mixO i O2 O := ⟨_, rfl⟩
      have p0 : ∀ a, O' a = some 0 ↔ O2 a = some 0 := fun a => by
        rw [eO]; unfold mixO
        cases w : O2 a with
        | none =>
          cases w2 : O a with
          | none => simp
          | some j => by_cases q : j = i <;> simp [q]
        | some k => cases k with
          | zero => simp
          | succ k => simp
      have pi : ∀ a, O' a = some (i + 1) ↔ ∃ k, O2 a = some (k + 1) := fun a => by
        rw [eO]; unfold mixO
        cases w : O2 a with
        | none =>
          cases w2 : O a with
          | none => simp
          | some j => by_cases q : j = i <;> simp [q]
        | some k => cases k with
          | zero => simp
          | succ k => simp
      have pj : ∀ a j, j ≠ i → (O' a = some (j + 1) ↔ O a = some j) := fun a j n => by
        constructor
        · intro z
          rw [eO] at z; unfold mixO at z
          cases w : O2 a with
          | none =>
            rw [w] at z
            cases w2 : O a with
            | none => rw [w2] at z; cases z
            | some k =>
              rw [w2] at z
              by_cases q : k = i
              · simp [q] at z
              · simp [q] at z; rw [z]
          | some k =>
            rw [w] at z
            cases k with
            | zero => simp at z
            | succ k => simp at z; exact absurd z.symm n
        · intro z
          rw [eO]; unfold mixO
          simp only [dis a j n z, z, if_neg n]
      refine ⟨O', y.gh, fun a k q => ?_, s1.trans y.out, by simp [x.len], fun k s' q => ?_⟩
      · have case1 : ∀ k', O2 a = some k' → G' a = none ∧ cl Ho a = none ∧ H' a ≠ none := fun k' w => by
          obtain ⟨z1, z2, z3⟩ := y.oh a k' w
          refine ⟨z1, ?_, z3⟩
          cases w2 : cl Ho a with
          | none => rfl
          | some o => rw [cl_mono s1 a o w2] at z2; cases z2
        cases k with
        | zero => exact case1 _ ((p0 a).mp q)
        | succ k =>
          by_cases hk : k = i
          · subst hk
            obtain ⟨k', w⟩ := (pi a).mp q
            exact case1 _ w
          · have w := (pj a k hk).mp q
            obtain ⟨z1, z2, z3⟩ := x.oh a k w
            have kp := keep a k hk w
            refine ⟨?_, z2, by rw [kp]; exact z3⟩
            cases w3 : H a with
            | none => exact absurd w3 z3
            | some o => rw [g.2 a o (c1 a k hk w o w3)]; exact z1
      · cases k with
        | zero =>
          simp at q
          subst q
          have z : own O' 0 H' = own O2 0 H' := own_of p0
          rw [z]
          exact (y.sl 0 s rfl).tag fun a _ k z => nomatch z
        | succ k =>
          by_cases hk : k = i
          · subst hk
            have lt : k < ρt.length := (List.getElem?_eq_some_iff.mp et).1
            simp only [List.getElem?_cons_succ, List.getElem?_set_self lt] at q
            cases q
            refine ⟨T, ht, by have := y.len; simpa using this, popO O2, fun a j q => ?_, fun j s2 q => ?_⟩
            · have w := popO_some.mp q
              rw [ownAt ((pi a).mpr ⟨j, w⟩)]
              exact (y.oh a _ w).2.2
            · have z : own (popO O2) j (own O' (k + 1) H') = own O2 (j + 1) H' := by
                funext a
                unfold own
                by_cases w : O2 a = some (j + 1)
                · rw [if_pos (popO_some.mpr w), if_pos w, if_pos ((pi a).mpr ⟨j, w⟩)]
                · rw [if_neg fun z => w (popO_some.mp z), if_neg w]
              rw [z]
              have y1 := y.sl (j + 1) s2 (by simpa using q)
              exact y1.one y1.noTh rfl rfl rfl
          · simp only [List.getElem?_cons_succ, List.getElem?_set_ne (Ne.symm hk)] at q
            have z : own O' (k + 1) H' = own O k H := by
              funext a
              unfold own
              by_cases w : O a = some k
              · rw [if_pos ((pj a k hk).mpr w), if_pos w, keep a k hk w]
              · rw [if_neg fun z => w ((pj a k hk).mp z), if_neg w]
            rw [z]
            have y1 := (x.sl k s' q).mono g.1
            simpa using y1
end
end DS
set_option Elab.async false
set_option linter.all false
set_option maxRecDepth 100000
set_option maxHeartbeats 2000000
namespace DS
open PySem PySem.Spec PyProof.Rows L2
def tagL1 (k : Nat) : Sl → Sl
  | .ow _ d => .ow (some k) d
  | .rs _ R => .rs (some k) R
  | .sh d => .sh d
  | .tb => .tb
  | _ => .no
def tagL : Nat → List Sl → List Sl
  | _, [] => []
  | k, s :: ρ => tagL1 k s :: tagL (k + 1) ρ
def rec1 (k : Nat) : Sl → Sl → Sl
  | .sh d, _ => .sh d
  | .ow t _, .ow (some j) d => if j = k then .ow t d else .no
  | .rs t _, .rs (some j) R => if j = k then .rs t R else .no
  | .tb, .tb => .tb
  | _, _ => .no
def recL : Nat → List Sl → List Sl → List Sl
  | _, [], _ => []
  | k, s :: ρ, [] => .no :: recL (k + 1) ρ []
  | k, s :: ρ, r :: ρ' => rec1 k s r :: recL (k + 1) ρ ρ'
theorem tagL_length : ∀ (k : Nat) (ρ : List Sl), (tagL k ρ).length = ρ.length
  | _, [] => rfl
  | k, s :: ρ => by simp [tagL, tagL_length (k + 1) ρ]
theorem tagL_get : ∀ (k : Nat) (ρ : List Sl) (i : Nat), (tagL k ρ)[i]? = ρ[i]?.map (tagL1 (k + i))
  | k, [], i => by simp [tagL]
  | k, s :: ρ, 0 => by simp [tagL]
  | k, s :: ρ, i + 1 => by
    simp only [tagL, List.getElem?_cons_succ]
    rw [tagL_get (k + 1) ρ i, show k + 1 + i = k + (i + 1) by omega]
theorem recL_length : ∀ (k : Nat) (ρ ρ' : List Sl), (recL k ρ ρ').length = ρ.length
  | _, [], _ => by simp [recL]
  | k, s :: ρ, [] => by simp [recL, recL_length (k + 1) ρ []]
  | k, s :: ρ, r :: ρ' => by simp [recL, recL_length (k + 1) ρ ρ']
theorem recL_get : ∀ (k : Nat) (ρ ρ' : List Sl) (i : Nat) (s : Sl), (recL k ρ ρ')[i]? = some s → s = .no ∨ ∃ a b, ρ[i]? = some a ∧ ρ'[i]? = some b ∧ s = rec1 (k + i) a b
  | k, [], ρ', i, s, h => by simp [recL] at h
  | k, a :: ρ, [], 0, s, h => by simp [recL] at h; exact .inl h.symm
  | k, a :: ρ, [], i + 1, s, h => by
    rcases recL_get (k + 1) ρ [] i s (by simpa [recL] using h) with h | ⟨_, b, _, h, _⟩
    · exact .inl h
    · simp at h
  | k, a :: ρ, b :: ρ', 0, s, h => by simp [recL] at h; exact .inr ⟨a, b, rfl, rfl, h.symm⟩
  | k, a :: ρ, b :: ρ', i + 1, s, h => by
    rcases recL_get (k + 1) ρ ρ' i s (by simpa [recL] using h) with h | ⟨a', b', h1, h2, h3⟩
    · exact .inl h
    · exact .inr ⟨a', b', by simpa using h1, by simpa using h2, by rw [h3, show k + 1 + i = k + (i + 1) by omega]⟩
def refN (σ : L2.St) (j : Nat) : Option Addr := match σ[j]? with
  | some (some (.ref a)) => some a
  | _ => none
theorem refN_some {σ : L2.St} {j : Nat} {a : Addr} (h : refN σ j = some a) : σ[j]? = some (some (.ref a)) := by
  unfold refN at h
  split at h
  · rename_i b e; cases h; exact e
  · cases h
theorem refN_of {σ : L2.St} {j : Nat} {a : Addr} (h : (σ[j]?).join = some (.ref a)) : refN σ j = some a := by
  cases q : σ[j]? with
  | none => rw [q] at h; cases h
  | some w =>
    rw [q] at h
    obtain rfl : w = some (.ref a) := h
    unfold refN
    rw [q]
def ThD.tagT (T : ThD) : Tau := ⟨refN T.σ, T.er, none, T.tb⟩
section
variable {K : PySem.W.Frag} {mg : Str → Option Value} {τ τ' : Tau} {Ho G G' : Hp} {ρ ρ' : List Sl} {σ σ' : L2.St} {H H' : Hp} {T : ThD}
theorem RS.tagL (x : RS K mg T.tau Ho G ρ T.σ H) : RS K mg T.tagT Ho G (DS.tagL 0 ρ) T.σ H := by
  refine x.recast (by rw [tagL_length]; exact x.len) fun i s' e => ?_
  rw [tagL_get, Nat.zero_add] at e
  cases q : ρ[i]? with
  | none => rw [q] at e; cases e
  | some s =>
    rw [q] at e
    cases e
    refine .inr ⟨s, rfl, fun hh y => ?_⟩
    cases s with
    | no => trivial
    | sh d => exact y
    | ow t d => obtain ⟨a, o, h1, h2, h3⟩ := y; exact ⟨a, o, h1, fun k e => by cases e; exact refN_of h1, h3⟩
    | rs t R => obtain ⟨a, h1, h2, h3⟩ := y; exact ⟨a, h1, fun k e => by cases e; exact refN_of h1, h3⟩
    | er x => trivial
    | th r => trivial
    | td r => trivial
    | tb => exact y
    | op y ds => trivial
    | pn k => trivial
theorem RS.recL {s : Sl} {v : V} (x0 : RS K mg T.tau Ho G ρ T.σ H) (g : Gr Ho G G') (x : RS K mg T.tagT Ho G' (s :: ρ') (some v :: σ') H') : RS K mg T.tau Ho G' (s.tagged none :: DS.recL 0 ρ ρ') (some v :: T.σ) H' := by
  have l0 := x0.len
  have l1 := x.len
  obtain ⟨O0, x0⟩ := x0
  refine x.recast (by simp [recL_length, l0]) fun i s' e => ?_
  cases i with
  | zero =>
    simp at e
    subst e
    exact .inr ⟨s, rfl, fun hh y => y.tag fun a _ k q => nomatch q⟩
  | succ i =>
    simp only [List.getElem?_cons_succ] at e
    rcases recL_get _ _ _ _ _ e with rfl | ⟨a, b, h1, h2, h3⟩
    · exact .inl rfl
    rw [Nat.zero_add] at h3
    subst h3
    have sa := x0.sl i a h1
    refine .inr ⟨b, by simpa using h2, fun hh y => ?_⟩
    simp only [List.getElem?_cons_succ] at y ⊢
    cases a with
    | sh d =>
      obtain ⟨u, h1, h2⟩ := sa
      exact ⟨u, h1, Rep.mono g.1 _ _ h2⟩
    | ow t d =>
      cases b with
      | ow t' d' =>
        cases t' with
        | none => trivial
        | some j =>
          simp only [rec1]
          by_cases q : j = i
          · subst q
            rw [if_pos rfl]
            obtain ⟨a, o, h4, h5, h6⟩ := y
            obtain ⟨a0, o0, g1, g2, _⟩ := sa
            have h7 := refN_some (h5 j rfl)
            have : a0 = a := by rw [h7] at g1; cases g1; rfl
            subst this
            exact ⟨a0, o, by rw [h7]; rfl, g2, h6⟩
          · rw [if_neg q]; trivial
      | _ => trivial
    | rs t R =>
      cases b with
      | rs t' R' =>
        cases t' with
        | none => trivial
        | some j =>
          simp only [rec1]
          by_cases q : j = i
          · subst q
            rw [if_pos rfl]
            obtain ⟨a, h4, h5, h6⟩ := y
            obtain ⟨a0, g1, g2, _⟩ := sa
            have h7 := refN_some (h5 j rfl)
            have : a0 = a := by rw [h7] at g1; cases g1; rfl
            subst this
            exact ⟨a0, by rw [h7]; rfl, g2, h6⟩
          · rw [if_neg q]; trivial
      | _ => trivial
    | tb =>
      cases b with
      | tb => exact y
      | _ => trivial
    | op y ds => trivial
    | pn k => trivial
    | no => trivial
    | er x => trivial
    | th r => trivial
    | td r => trivial
theorem RS.act {i : Nat} {ρt : List Sl} {σt : L2.St} (x : RS K mg τ Ho G ρt σt H) (e : thOf ρt[i]? = some ρ) (ht : τ.th = some T) :
    ∃ Ho', Same Ho Ho' ∧ RS K mg T.tagT Ho' G (DS.tagL 0 ρ) T.σ H ∧ ∀ G' s v ρ' σ' H', Gr Ho' G G' → RS K mg T.tagT Ho' G' (s :: ρ') (some v :: σ') H' →
      RS K mg τ Ho G' ((s.tagged none).tagged none :: ρt.set i (.td (DS.recL 0 ρ ρ'))) (some v :: σt) H' := by
  obtain ⟨Ho', h1, h2, h3⟩ := x.act0 e ht
  exact ⟨Ho', h1, h2.tagL, fun G' s v ρ' σ' H' g y => h3 G' _ v _ H' g (RS.recL h2 g y)⟩
theorem RS.tab {jt : Nat} {P : Addr} {q : Str} (x : RS K mg τ Ho G ρ σ H) (e : ρ[jt]? = some .tb) (hm : (P, q) ∈ τ.tb) : TabG G H P q := by
  obtain ⟨O, x⟩ := x
  obtain ⟨ps, h1, h2, h3⟩ := x.sl jt _ e _ hm
  have o := ownTh (O := O) (i := jt) (H := H) (a := P) (by rw [h1]; simp)
  rw [ownAt o] at h1
  exact ⟨ps, h1, h2, h3⟩
end
section
variable {X : Cx} {pins : List (Addr × Obj)} {σ : L2.St} {H : Hp} {s : Shared}
end
def actR (i : Nat) (ρ ρc : List Sl) : Res Sl → Res Sl
  | .ok s ρ' => .ok ((s.tagged none).tagged none) (ρ.set i (.td (recL 0 ρc ρ')))
  | .ex x ρ' => .ex x (ρ.set i (.td (recL 0 ρc ρ')))
  | .no => .no
def dAct (i : Nat) (t : M Sl) : M Sl := fun ρ => match ρ[i]? with
  | some (.th ρc) => actR i ρ ρc (t (tagL 0 ρc))
  | _ => .no
section
variable {X : Cx} {pins : List (Addr × Obj)} {σ : L2.St} {H1 : Hp} {s1 : Shared} {T : ThD} {params : Arguments} {body : Expr} {scope : Scope} {t : M Sl} {kl : Nat} {gg : Bool}
def mkT (N : Nat) (body : MS) : M Sl := fun ρ => match body (.th ρ :: List.replicate (N - 1) .no) with
  | .nx ρt => (match thOf ρt[0]? with
    | some ρ' => .ok (.sh .non) ρ'
    | none => .no)
  | .rt s ρt => (match thOf ρt[0]? with
    | some ρ' => .ok (s.tagged none) ρ'
    | none => .no)
  | .ex x ρt => (match thOf ρt[0]? with
    | some ρ' => .ex x ρ'
    | none => .no)
  | _ => .no
def isTb : Option Sl → Bool
  | some .tb => true
  | _ => false
def dLam (jt : Nat) (F : M Sl) : M Sl := fun ρ => if isTb ρ[jt]? && noTh ρ then F ρ else .no
end
section
variable {Z : DC} {params : Arguments} {body : Expr} {scope : Scope} {t : M Sl} {kl : Nat} {gg : Bool} {x a : Str} {st : Stmt} {g : Addr} {fd : FuncData} {Ng : List Str} {bt : MS} {p lpos pos : Pos}
end
section
variable {Z : DC} {m1 m2 m3 m4 : Md} {a b c d : Expr} {ta tb tc td : M D} {pos : Pos} {op op' op'' : CmpOp} {f f' f'' : D → D → Option D}
end
end DS
set_option Elab.async false
set_option linter.all false
set_option maxRecDepth 100000
set_option maxHeartbeats 2000000
namespace DS
open PySem PySem.Spec PyProof.Rows L2
theorem IsK.of {K : PySem.W.Frag} {mg : Str → Option Value} {l : List (Str × Bool)} {cv : Value} (h : ∀ p ∈ l, ∃ a, mg p.1 = some (.ref a) ∧ KxC K a ∧ PySem.W.kitOne K (.ref a) cv = some p.2) (non : PySem.W.kitOne K (.type "NoneType") cv = some false) : IsK K mg (fun x => l.lookup x) cv := ⟨fun x C b hx hb => by
  obtain ⟨a, h1, h2⟩ := h _ (look_mem hb)
  rw [show mg x = some (.ref a) from h1] at hx
  cases hx
  exact h2, non⟩
end DS
set_option Elab.async false
set_option linter.all false
set_option maxRecDepth 100000
set_option maxHeartbeats 1000000
namespace DS
open PySem PySem.Spec PyProof.Rows L2
variable {ρ ρ1 ρ' : List Sl} {x : Exn} {s r : Sl}
@[simp] theorem x_dLam (jt : Nat) (F : M Sl) : dLam jt F ρ = if isTb ρ[jt]? && noTh ρ then F ρ else .no := rfl
@[simp] theorem x_isTb : isTb (some .tb) = true := rfl
@[simp] theorem x_noTh0 : noTh [] = true := rfl
@[simp] theorem x_noTh1 : noTh (s :: ρ) = (noTh1 s && noTh ρ) := rfl
@[simp] theorem x_nt1 : noTh1 .no = true := rfl
@[simp] theorem x_nt2 {d : D} : noTh1 (.sh d) = true := rfl
@[simp] theorem x_nt3 {t : Option Nat} {d : D} : noTh1 (.ow t d) = true := rfl
@[simp] theorem x_nt4 {t : Option Nat} {R : Rsc} : noTh1 (.rs t R) = true := rfl
@[simp] theorem x_nt5 : noTh1 .tb = true := rfl
@[simp] theorem x_thOf1 : thOf (some (.th ρ)) = some ρ := rfl
@[simp] theorem x_thOf2 : thOf (some (.td ρ)) = some ρ := rfl
def tdO (f : List Sl → Res Sl) : Option (List Sl) → Res Sl
  | some ρ' => f ρ'
  | none => .no
@[simp] theorem x_tdO {f : List Sl → Res Sl} : tdO f (some ρ) = f ρ := rfl
def tdF : SR → Res Sl
  | .nx ρt => tdO (.ok (.sh .non)) (thOf ρt[0]?)
  | .rt s ρt => tdO (.ok (s.tagged none)) (thOf ρt[0]?)
  | .ex x ρt => tdO (.ex x) (thOf ρt[0]?)
  | _ => .no
@[simp] theorem x_tdF1 : tdF (.nx ρ) = tdO (.ok (.sh .non)) (thOf ρ[0]?) := rfl
@[simp] theorem x_tdF2 : tdF (.rt s ρ) = tdO (.ok (s.tagged none)) (thOf ρ[0]?) := rfl
@[simp] theorem x_tdF3 : tdF (.ex x ρ) = tdO (.ex x) (thOf ρ[0]?) := rfl
def actF (i : Nat) (t : M Sl) (ρ : List Sl) : Option Sl → Res Sl
  | some (.th ρc) => actR i ρ ρc (t (tagL 0 ρc))
  | _ => .no
@[simp] theorem x_dAct (i : Nat) (t : M Sl) : dAct i t ρ = actF i t ρ ρ[i]? := by
  unfold dAct actF
  cases ρ[i]? with
  | none => rfl
  | some s => cases s <;> rfl
@[simp] theorem x_actF {i : Nat} {t : M Sl} : actF i t ρ (some (.th ρ1)) = actR i ρ ρ1 (t (tagL 0 ρ1)) := rfl
@[simp] theorem x_actR1 {i : Nat} : actR i ρ ρ1 (.ok s ρ') = .ok ((s.tagged none).tagged none) (ρ.set i (.td (recL 0 ρ1 ρ'))) := rfl
@[simp] theorem x_actR2 {i : Nat} : actR i ρ ρ1 (.ex x ρ') = .ex x (ρ.set i (.td (recL 0 ρ1 ρ'))) := rfl
@[simp] theorem x_tagL0 {k : Nat} : tagL k [] = [] := rfl
@[simp] theorem x_tagL1 {k : Nat} : tagL k (s :: ρ) = tagL1 k s :: tagL (k + 1) ρ := rfl
@[simp] theorem x_tg1 {k : Nat} : tagL1 k .no = .no := rfl
@[simp] theorem x_tg2 {k : Nat} {d : D} : tagL1 k (.sh d) = .sh d := rfl
@[simp] theorem x_tg3 {k : Nat} {t : Option Nat} {d : D} : tagL1 k (.ow t d) = .ow (some k) d := rfl
@[simp] theorem x_tg4 {k : Nat} {t : Option Nat} {R : Rsc} : tagL1 k (.rs t R) = .rs (some k) R := rfl
@[simp] theorem x_tg5 {k : Nat} : tagL1 k .tb = .tb := rfl
@[simp] theorem x_recL0 {k : Nat} : recL k [] ρ = [] := by cases ρ <;> rfl
@[simp] theorem x_recL1 {k : Nat} : recL k (s :: ρ) (r :: ρ') = rec1 k s r :: recL (k + 1) ρ ρ' := rfl
@[simp] theorem x_rc1 {k : Nat} {d : D} : rec1 k (.sh d) r = .sh d := by cases r <;> rfl
@[simp] theorem x_rc2 {k : Nat} : rec1 k .no r = .no := by cases r <;> rfl
@[simp] theorem x_rc3 {k j : Nat} {t : Option Nat} {d d' : D} : rec1 k (.ow t d) (.ow (some j) d') = if j = k then .ow t d' else .no := rfl
@[simp] theorem x_rc4 {k j : Nat} {t : Option Nat} {R R' : Rsc} : rec1 k (.rs t R) (.rs (some j) R') = if j = k then .rs t R' else .no := rfl
@[simp] theorem x_rc5 {k : Nat} : rec1 k .tb .tb = .tb := rfl
def tryDF (i : Nat) (tab : Str → Option Bool) (su : MS) : SR → SR
  | .ex x ρ1 => tryD i su x ρ1 (tab x.cls)
  | r => r
@[simp] theorem x_sTryD {i : Nat} {tab : Str → Option Bool} {b su : MS} : sTryD i tab b su ρ = tryDF i tab su (b ρ) := by
  unfold sTryD
  cases b ρ <;> rfl
@[simp] theorem x_tdx {i : Nat} {tab : Str → Option Bool} {su : MS} : tryDF i tab su (.ex x ρ) = tryD i su x ρ (tab x.cls) := rfl
@[simp] theorem x_tdn {i : Nat} {tab : Str → Option Bool} {su : MS} : tryDF i tab su (.nx ρ) = .nx ρ := rfl
@[simp] theorem x_tdr {i : Nat} {tab : Str → Option Bool} {su : MS} : tryDF i tab su (.rt s ρ) = .rt s ρ := rfl
@[simp] theorem x_tryD1 {i : Nat} {su : MS} : tryD i su x ρ (some true) = sEndD i (su (ρ.set i (.sh (.exc x.cls x.fs)))) := rfl
@[simp] theorem x_tryD2 {i : Nat} {su : MS} : tryD i su x ρ (some false) = .ex x ρ := rfl
@[simp] theorem x_sEnd1 {i : Nat} : sEndD i (.nx ρ) = .nx (ρ.set i .no) := rfl
@[simp] theorem x_sEnd2 {i : Nat} : sEndD i (.rt s ρ) = .rt s (ρ.set i .no) := rfl
@[simp] theorem x_fIsK0 {tab : Str → Option Bool} : fIsK tab .non = some (.bl false) := rfl
@[simp] theorem x_fIsK1 {tab : Str → Option Bool} {c : Str} {fs : List (Str × D)} : fIsK tab (.exc c fs) = (tab c).map D.bl := rfl
@[simp] theorem x_fXf {ok : Str → Bool} {f c : Str} {fs : List (Str × D)} : fXf ok f (.exc c fs) = if ok c then fs.lookup f else none := rfl
@[simp] theorem x_isNx {c : Str} {fs : List (Str × D)} : fIsN (.exc c fs) .non = some (.bl false) := rfl
end DS
set_option Elab.async false
set_option linter.all false
set_option maxRecDepth 100000
set_option maxHeartbeats 2000000
namespace DS
open PySem PySem.Spec PyProof.Rows L2
section
variable {Z : DC} {m m1 m2 : Md} {a e : Expr} {ta t : M D} {pos p p2 pp px : Pos}
end
end DS
set_option Elab.async false
set_option linter.all false
set_option maxRecDepth 100000
set_option maxHeartbeats 2000000
namespace DS
open PySem PySem.Spec PyProof.Rows L2
section
variable {Z : DC} {m1 m2 : Md} {a b : Expr} {ta tb : M D} {pos p2 : Pos}
def dLstO (t : M D) : M Sl := bnd t fun d => lft ((fLstT d).map fun d' => Sl.ow none d')
theorem dr_lstO (hm : Z.X.mg "list" = none) (ha : DE Z m1 a ta) (hh : Z.hot = false := by rfl) (hg : Gl Z.X "list" := by rfl) (he : starEach (a :: []) Z.X.env = (false, eval a Z.X.env) :: starEach [] Z.X.env := by rfl) (hpl : (backTo pos (starEach [] Z.X.env)).any (·.1) = false := by rfl) :
    DR Z (.Call (.Name "list" p2) [a] [] pos) (dLstO ta) := by
  obtain ⟨tea, pa, sa⟩ := ha
  refine ⟨_, pe_callTy (CallR.or' call_list_of (call_listS (Z.calm hh))) hg hm (by decide +kernel) (pa_cons pa pa_nil he) (by decide) (by decide) he hpl, fun Ho hw G ρ σ H Q x q => ?_⟩
  refine sa Ho hw G ρ σ H _ x (DE.then (L := fun r => LR Z Ho G σ r Q) (fun _ _ h => h) (fun h => h) q fun d ρ1 v G1 H1 x1 g1 s1 b1 q1 => ?_)
  cases d <;> try (exact q1.elim)
  · rename_i y
    simp only [fLstT] at q1
    by_cases hz : y.length ≤ sizeLine
    · rw [if_pos hz] at q1
      refine .inr ⟨y, by rw [b1.str.1], hz, fun l hl => ?_⟩
      exact q1 (.ref l) G1 _ (x1.pushO (.lst (repL_signs b1.str.2)) hl) g1
    · rw [if_neg hz] at q1; exact q1.elim
  · obtain ⟨l0, vs, rfl, h1, h2⟩ := b1.tup
    exact .inl ⟨l0, vs, rfl, .inr (Same.sqt x1.gh h1), fun l hl => q1 (.ref l) G1 _ (x1.pushO (.lst h2) hl) g1⟩
  · obtain ⟨l0, vs, rfl, h1, h2⟩ := b1.lst x1.gh
    exact .inl ⟨l0, vs, rfl, .inl (SqL.of h1), fun l hl => q1 (.ref l) G1 _ (x1.pushO (.lst h2) hl) g1⟩
end
end DS
set_option Elab.async false
set_option linter.all false
set_option maxRecDepth 100000
set_option maxHeartbeats 2000000
namespace DS
open PySem PySem.Spec PyProof.Rows L2
def pairs2 (xs ys : List D) : List D := (xs.zip ys).map fun p => .tup [p.1, p.2]
section
variable {Z : DC} {Ho : Hp} {m1 m2 : Md} {e1 e2 : Expr} {t1 t2 : M D} {pos p tpos : Pos} {elts : List Expr} {kk : Nat}
def zipD : D → D → Option (List D)
  | .lst xs, .lst ys => some (pairs2 xs ys)
  | .tup xs, .tup ys => some (pairs2 xs ys)
  | _, _ => none
end
end DS
set_option Elab.async false
set_option linter.all false
set_option maxRecDepth 100000
set_option maxHeartbeats 2000000
namespace DS
open PySem PySem.Spec PyProof.Rows L2
def finC (ρ : List Sl) : FR → Res Sl
  | .ok s _ => .ok s ρ
  | .ex x _ => .ex x ρ
  | .no => .no
def dKw (F : FS) (n m : Nat) (arr : List D → List D) (u w : M (List D)) : M Sl := bnd u fun ds => bnd w fun es ρ1 => if ds.length = n ∧ es.length = m then finC ρ1 (F ((arr (ds ++ es)).map Sl.sh)) else .no
section
variable {Z : DC} {Ho : Hp} {e : Expr} {es : List Expr} {kws : List Keyword} {pos p : Pos} {x : Str} {f : Addr} {u w : M (List D)} {k n : Nat} {fd : FuncData} {ps ks : List Str} {F : FS} {arr : List D → List D} {gg : Bool}
theorem pe_callKS {X : Cx} {sp : Sp} {E : L2.St → XK} {ta tk : TA} {g : List Value → List Value → List Value} {gV : List V → List V → List V} (O : FnG gg X.prog X.w X.K X.mg X.base k f fd ps sp) (gd : gg = true → X.A.guards = some []) (hr : Room k X.A) (hg : Gl X x) (hm : X.mg x = some (.ref f)) (hk : PySem.W.keepIn X.K (.ref f) = true) (hb : KBn X.K fd ps n ks g gV)
    (hx : ∀ σ, PassesAt (L2.CX X.prog X.w) X σ (E σ)) (ha : PA X (e :: es) ta) (hkw : PK X kws tk) (hall : (backToKw pos (keywordEach kws X.env)).all (·.1.isSome) = true) (hks : (backToKw pos (keywordEach kws X.env)).filterMap (·.1) = ks)
    (hdb : (x == ("__debug__" : Str)) = false) (he : starEach (e :: es) X.env = (false, eval e X.env) :: starEach es X.env) (hpl : ((backTo pos (starEach (e :: es) X.env)).any (·.1) || (backToKw pos (keywordEach kws X.env)).any (·.1.isNone)) = false) :
    PE X (.Call (.Name x p) (e :: es) kws pos) (fun σ H Q => ta σ H fun vs H1 => tk σ H1 fun zs H2 => vs.length = n ∧ zs.length = ks.length ∧ sp (gV vs zs) H2 Q (E σ)) := by
  refine ⟨fun pins s σ H Q I h => wpAny_Call_Name_kw (ld_glob I hg hm ?_ hdb)⟩
  refine PySem.W.callWith_KW (h₀ := X.base) I.ok.mod.kin hk hall (thn (ha.run pos pins s σ H _ I h) fun us s1 ⟨vs, H1, I1, ra, qa⟩ => ?_) hpl he
  refine thn (hkw.run pos pins s1 σ H1 _ I1 qa) fun ws s2 ⟨zs, H2, I2, rz, lv, lz, qz⟩ => ⟨I2.kIn, ?_⟩
  rw [hks]
  have run := O.run X.A gd X.stack s2 H2 ⟨us, ks.zip ws⟩ (g us ws) (gV vs zs) Q (E σ) hr I2.env0 (hb.to s2 us ws I2.kIn (ra.length.symm.trans lv) (rz.length.symm.trans lz)) (hb.rel ra rz) qz
  refine wpAny_call (codeAny_mono run fun r s' z => ?_)
  cases r with
  | error er => exact hx σ pins H2 s2 er s' I2 z
  | ok fl =>
    cases fl with
    | ret y => exact I2.after z
    | next => exact z.elim
    | brk => exact z.elim
    | cont => exact z.elim
theorem pe_callKS0 {X : Cx} {sp : Sp} {E : L2.St → XK} {tk : TA} {g : List Value → List Value → List Value} {gV : List V → List V → List V} (O : FnG gg X.prog X.w X.K X.mg X.base k f fd ps sp) (gd : gg = true → X.A.guards = some []) (hr : Room k X.A) (hg : Gl X x) (hm : X.mg x = some (.ref f)) (hk : PySem.W.keepIn X.K (.ref f) = true) (hb : KBn X.K fd ps 0 ks g gV)
    (hx : ∀ σ, PassesAt (L2.CX X.prog X.w) X σ (E σ)) (hkw : PK X kws tk) (hall : (backToKw pos (keywordEach kws X.env)).all (·.1.isSome) = true) (hks : (backToKw pos (keywordEach kws X.env)).filterMap (·.1) = ks)
    (hdb : (x == ("__debug__" : Str)) = false) (hpl : ((backTo pos (starEach [] X.env)).any (·.1) || (backToKw pos (keywordEach kws X.env)).any (·.1.isNone)) = false) :
    PE X (.Call (.Name x p) [] kws pos) (fun σ H Q => tk σ H fun zs H2 => zs.length = ks.length ∧ sp (gV [] zs) H2 Q (E σ)) := by
  refine ⟨fun pins s σ H Q I h => wpAny_Call_Name_kw (ld_glob I hg hm ?_ hdb)⟩
  refine PySem.W.callWith_KW0 (h₀ := X.base) I.ok.mod.kin hk hall ?_ hpl
  refine thn (hkw.run pos pins s σ H _ I h) fun ws s2 ⟨zs, H2, I2, rz, lz, qz⟩ => ⟨I2.kIn, ?_⟩
  rw [hks]
  have run := O.run X.A gd X.stack s2 H2 ⟨[] ++ [], ks.zip ws⟩ (g [] ws) (gV [] zs) Q (E σ) hr I2.env0 (hb.to s2 [] ws I2.kIn rfl (rz.length.symm.trans lz)) (hb.rel .nil rz) qz
  refine wpAny_call (codeAny_mono run fun r s' z => ?_)
  cases r with
  | error er => exact hx σ pins H2 s2 er s' I2 z
  | ok fl =>
    cases fl with
    | ret y => exact I2.after z
    | next => exact z.elim
    | brk => exact z.elim
    | cont => exact z.elim
theorem kw_sp {G : Hp} {σ : L2.St} {ds' : List D} {rest : List V} {ρ2 : List Sl} {G2 H2 : Hp} {Q : VK} (hw : Same Z.Ho Ho) (x2 : Z.R Ho G2 ρ2 σ H2) (g2 : Gr Ho G G2) (r1 : RepL Z.X.K Z.X.mg G2 ds' rest) (l1 : rest.length = ps.length) (q : LR Z Ho G σ (finC ρ2 (F (ds'.map Sl.sh))) Q) :
    liftSp Z.X.K Z.X.mg ps.length F rest H2 Q (WE Z.W σ) := by
  have rl : ds'.length = rest.length := r1.length.symm
  obtain ⟨Ho', h1, z, bk⟩ := RS.split (ss := ds'.map Sl.sh) (us := rest.map some) (ρ := ρ2) (σ := σ) (x2.rs.pushes r1) (by simp [rl])
  refine ⟨l1, Z.τ, Ho', G2, _, z, ?_⟩
  unfold finC at q
  cases ef : F (ds'.map Sl.sh) with
  | no => rw [ef] at q; exact q.elim
  | ex y' ss' =>
    rw [ef] at q
    intro cls d G' H' r gr rx
    have t := bk G' ss' _ H' gr r
    have g' : Gr Ho G2 G' := gr.anti h1
    have lt := t.len
    simp only [List.length_append, List.length_map] at lt
    have l2 := x2.rs.len
    have t2 := RS.dropFront t (by simp only [List.length_map]; omega)
    exact ⟨G', _, y', t2.anti hw, x2.g0.trans (g'.anti hw), rx, q⟩
  | ok s ss' =>
    rw [ef] at q
    intro v G' H' r gr
    have t := bk G' (s :: ss') (some v :: rest.map some) H' gr r
    have g' : Gr Ho G2 G' := gr.anti h1
    have lt := t.len
    simp only [List.cons_append, List.length_cons, List.length_append, List.length_map] at lt
    have l2 := x2.rs.len
    have t2 := RS.dropMid (mid := ss') (mv := rest.map some) (by simpa using t) (by simp only [List.length_map]; omega)
    exact q v G' H' (x2.to t2 g') (g2.trans g')
theorem dr_kw (O : FnG gg Z.X.prog Z.X.w Z.X.K Z.X.mg Z.X.base k f fd ps (liftSp Z.X.K Z.X.mg ps.length F)) (hgg : gg = true → Z.g = true) (hk : k ≤ Z.k) (hm : Z.X.mg x = some (.ref f)) (kp : PySem.W.keepIn Z.X.K (.ref f) = true) (B : KwF Z.X.K Z.X.mg fd ps n ks arr) (ha : DA Z (e :: es) u) (hw' : DK Z kws w)
    (hg : Gl Z.X x := by first | rfl | decide) (hall : (backToKw pos (keywordEach kws Z.X.env)).all (·.1.isSome) = true := by rfl) (hks : (backToKw pos (keywordEach kws Z.X.env)).filterMap (·.1) = ks := by rfl)
    (hdb : (x == ("__debug__" : Str)) = false := by decide) (he : starEach (e :: es) Z.X.env = (false, eval e Z.X.env) :: starEach es Z.X.env := by rfl) (hpl : ((backTo pos (starEach (e :: es) Z.X.env)).any (·.1) || (backToKw pos (keywordEach kws Z.X.env)).any (·.1.isNone)) = false := by rfl) (hh : Z.hot = false := by rfl) :
    DR Z (.Call (.Name x p) (e :: es) kws pos) (dKw F n ks.length arr u w) := by
  obtain ⟨ta, pa, sa⟩ := ha
  obtain ⟨tk, pk, sk⟩ := hw'
  obtain ⟨g, gV, hb, hr⟩ := B.ex
  refine ⟨_, pe_callKS (E := WE Z.W) O (fun h => Z.gd (hgg h)) ((Z.room hh).mono hk) hg hm kp hb (passAt Z.tk) pa pk hall hks hdb he hpl, fun Ho hw G ρ σ H Q x q => ?_⟩
  refine sa Ho hw G ρ σ H _ x (DA.then (L := fun r => LR Z Ho G σ r Q) (fun _ _ h => h) (fun h => h) q fun ds ρ1 vs G1 H1 x1 g1 b1 q1 => ?_)
  refine sk Ho hw G1 ρ1 σ H1 _ x1 (DA.then (L := fun r => LR Z Ho G σ r Q) (fun _ _ h => h) (fun h => h) q1 fun es' ρ2 zs G2 H2 x2 g2 b2 q2 => ?_)
  by_cases hl : ds.length = n ∧ es'.length = ks.length
  · rw [if_pos hl] at q2
    have lv : vs.length = n := b1.length.trans hl.1
    have lz : zs.length = ks.length := b2.length.trans hl.2
    obtain ⟨r1, l1⟩ := hr G2 ds es' vs zs (RepL.mono g2.1 _ _ b1) b2 lv lz
    exact ⟨lv, lz, kw_sp hw x2 (g1.trans g2) r1 l1 q2⟩
  · rw [if_neg hl] at q2; exact q2.elim
theorem dr_kw0 (O : FnG gg Z.X.prog Z.X.w Z.X.K Z.X.mg Z.X.base k f fd ps (liftSp Z.X.K Z.X.mg ps.length F)) (hgg : gg = true → Z.g = true) (hk : k ≤ Z.k) (hm : Z.X.mg x = some (.ref f)) (kp : PySem.W.keepIn Z.X.K (.ref f) = true) (B : KwF Z.X.K Z.X.mg fd ps 0 ks arr) (hw' : DK Z kws w)
    (hg : Gl Z.X x := by first | rfl | decide) (hall : (backToKw pos (keywordEach kws Z.X.env)).all (·.1.isSome) = true := by rfl) (hks : (backToKw pos (keywordEach kws Z.X.env)).filterMap (·.1) = ks := by rfl)
    (hdb : (x == ("__debug__" : Str)) = false := by decide) (hpl : ((backTo pos (starEach [] Z.X.env)).any (·.1) || (backToKw pos (keywordEach kws Z.X.env)).any (·.1.isNone)) = false := by rfl) (hh : Z.hot = false := by rfl) :
    DR Z (.Call (.Name x p) [] kws pos) (dKw F 0 ks.length arr dNil w) := by
  obtain ⟨tk, pk, sk⟩ := hw'
  obtain ⟨g, gV, hb, hr⟩ := B.ex
  refine ⟨_, pe_callKS0 (E := WE Z.W) O (fun h => Z.gd (hgg h)) ((Z.room hh).mono hk) hg hm kp hb (passAt Z.tk) pk hall hks hdb hpl, fun Ho hw G ρ σ H Q x q => ?_⟩
  refine sk Ho hw G ρ σ H _ x (DA.then (L := fun r => LR Z Ho G σ r Q) (fun _ _ h => h) (fun h => h) (show LR Z Ho G σ ((w ρ).bind fun es ρ1 => if ([] : List D).length = 0 ∧ es.length = ks.length then finC ρ1 (F ((arr ([] ++ es)).map Sl.sh)) else .no) Q from q) fun es' ρ2 zs G2 H2 x2 g2 b2 q2 => ?_)
  by_cases hl : ([] : List D).length = 0 ∧ es'.length = ks.length
  · rw [if_pos hl] at q2
    have lz : zs.length = ks.length := b2.length.trans hl.2
    obtain ⟨r1, l1⟩ := hr G2 [] es' [] zs RepL.nil b2 rfl lz
    exact ⟨lz, kw_sp hw x2 g2 r1 l1 q2⟩
  · rw [if_neg hl] at q2; exact q2.elim
end
end DS
set_option Elab.async false
set_option linter.all false
set_option maxRecDepth 100000
set_option maxHeartbeats 2000000
namespace DS
open PySem PySem.Spec PyProof.Rows L2
section
variable {Z : DC} {m1 m2 : Md} {a b : Expr} {ta tb : M D} {pos : Pos}
end
end DS
set_option Elab.async false
set_option linter.all false
set_option maxRecDepth 100000
set_option maxHeartbeats 2000000
namespace DS
open PySem PySem.Spec PyProof.Rows L2
def perm {α : Type} (ix : List Nat) (l : List α) : List α := ix.filterMap fun i => l[i]?
theorem perm_len {α : Type} {l : List α} : ∀ {ix : List Nat}, (∀ i ∈ ix, i < l.length) → (perm ix l).length = ix.length
  | [], _ => rfl
  | i :: ix, h => by
    have hi := h i List.mem_cons_self
    have ih := perm_len (l := l) (ix := ix) fun j hj => h j (List.mem_cons_of_mem _ hj)
    unfold perm at ih ⊢
    rw [List.filterMap_cons, List.getElem?_eq_getElem hi]
    simp [ih]
theorem vals_at : ∀ {vs : List V} {us : List Value} (i : Nat), Vals vs us → (vs[i]? = none ∧ us[i]? = none) ∨ ∃ v u, vs[i]? = some v ∧ us[i]? = some u ∧ RelV v u
  | _, _, i, .nil => .inl ⟨by simp, by simp⟩
  | _, _, 0, .cons r _ => .inr ⟨_, _, rfl, rfl, r⟩
  | _, _, i + 1, .cons _ t => by simpa using vals_at i t
theorem vals_perm {vs : List V} {us : List Value} (h : Vals vs us) : ∀ ix : List Nat, Vals (perm ix vs) (perm ix us)
  | [] => .nil
  | i :: ix => by
    have ih := vals_perm h ix
    unfold perm at ih ⊢
    rcases vals_at i h with ⟨e1, e2⟩ | ⟨v, u, e1, e2, r⟩
    · simp only [List.filterMap_cons, e1, e2]; exact ih
    · simp only [List.filterMap_cons, e1, e2]; exact .cons r ih
theorem repL_perm {K : PySem.W.Frag} {mg : Str → Option Value} {G : Hp} {ds : List D} {vs : List V} (h : RepL K mg G ds vs) : ∀ ix : List Nat, RepL K mg G (perm ix ds) (perm ix vs)
  | [] => RepL.nil
  | i :: ix => by
    have ih := repL_perm h ix
    unfold perm at ih ⊢
    cases e : ds[i]? with
    | none =>
      have hl := h.length
      have : vs[i]? = none := by
        rw [List.getElem?_eq_none_iff] at e ⊢
        omega
      simp only [List.filterMap_cons, e, this]; exact ih
    | some d =>
      obtain ⟨v, e1, r⟩ := h.get e
      simp only [List.filterMap_cons, e, e1]; exact RepL.cons r ih
structure FdA (g : Bool) (P : Program) (w : World) (K : PySem.W.Frag) (mg : Str → Option Value) (base : Heap) (x : Str) (st : Stmt) (ps : List Str) (k : Nat) (F : FS) : Prop where
  ex : ∃ f fd, FnAt K mg x st ps f fd ∧ FnG g P w K mg base k f fd ps (liftSp K mg ps.length F)
theorem FdA.fd {g : Bool} {P : Program} {w : World} {K : PySem.W.Frag} {mg : Str → Option Value} {base : Heap} {x : Str} {st : Stmt} {ps : List Str} {k : Nat} {F : FS} (O : FdA g P w K mg base x st ps k F) : Fd g P w K mg base x k ps.length F := by
  obtain ⟨f, fd, A, G⟩ := O.ex
  exact ⟨f, fd, ps, A.mg, A.fn.kp, A.bi, G⟩
section
variable {Z : DC} {e : Expr} {es : List Expr} {kws : List Keyword} {pos p : Pos} {x : Str} {u w : M (List D)} {k n : Nat} {ps ks : List Str} {F : FS} {gg : Bool} {st : Stmt}
end
end DS
set_option Elab.async false
set_option linter.all false
set_option maxRecDepth 100000
set_option maxHeartbeats 2000000
namespace DS
open PySem PySem.Spec PyProof.Rows L2
structure FunB (K : PySem.W.Frag) (x qual : Str) (st : Stmt) (dV : Value) (f : Addr) (fd : FuncData) : Prop where
  ex : ∃ (oc : Value) (od : Option Addr) (kV doc pm : Value) (an : Option Addr) (cdv ct : Value) (osl : Array (Option Value)),
    fd = PySem.W.fnOf x qual (defArgs st) (defBody st) (defScope st) dV kV doc pm an cdv ct ∧ K.lookup f = some ⟨oc, od, .func fd, osl⟩ ∧ PySem.W.codeIn K cdv qual = true
  kp : PySem.W.keepIn K (.ref f) = true
theorem fnG_ofB {g : Bool} {P : Program} {w : World} {K : PySem.W.Frag} {mg : Str → Option Value} {base : Heap} {k : Nat} {x qual : Str} {st : Stmt} {dV : Value} {f : Addr} {fd : FuncData} {N ps : List Str} {sp : Sp} (F : FunB K x qual st dV f fd) (S : FnScope N ps (defScope st))
    (len : ∀ vs H Q E, sp vs H Q E → vs.length = ps.length)
    (hbody : ∀ (cdv : Value) (A : Around), (g = true → A.guards = some []) → ∀ (outer : List Env) (s : Shared) (H : Hp) (vs : List V) (Q : VK) (E : XK), Room k (A.deeper (envOfC qual (defScope st) s.heap.objs.size f cdv)) → sp vs H Q E →
      ∃ t, PSs (cxOf (L2.CX P w) P w K mg base N qual (defScope st) f cdv A outer s H E) (defBody st) t ∧ t { nx := fun _ H' => Q .non H', rt := Q } (L2.start N vs) H) : FnG g P w K mg base (k + 1) f fd ps sp := by
  obtain ⟨oc, od, kV, doc, pm, an, cdv, ct, osl, rfl, lk, hcd⟩ := F.ex
  refine ⟨len, fun A hg outer s H args us vs Q E hr e0 hb r hsp => ?_⟩
  have kIn : K.In s.heap := e0.mod.kin.keeps fun b o e => (e0.bs b o e).1
  have noL : s.heap.NoLimit := e0.mod.nolimit.keeps fun b o e => (e0.bs b o e).1
  have hkind : ∀ y ∈ ps.zip us, (defScope st).names.lookup y.1 = some .local ∨ ((defScope st).names.lookup y.1 = some .cell ∧ ((cellsFrom (s.heap.objs.size + 1) (defScope st).names []).lookup y.1).isSome = true) := by
    rintro ⟨n, v⟩ hy
    rcases S.par n (List.of_mem_zip hy).1 with q | q
    · exact .inl q
    · exact .inr ⟨q, PySem.W.cellsFrom_some _ _ _ (.inl q)⟩
  refine codeAny_call_function hr.depth (kIn _ _ lk) rfl S.co S.gen rfl (PySem.W.codeRec_of kIn hcd) (hb _ _ _ _ ?_)
  refine wpAny_newFunctionEnv_cells S.kind hkind fun env he s1 x => ?_
  subst he
  refine ⟨noL.keeps x.toInCall.keep, codeAny_func ?_⟩
  obtain ⟨t, ht, hq⟩ := hbody cdv A hg outer s H vs Q E (hr.deeper _) hsp
  have I : Inv (cxOf (L2.CX P w) P w K mg base N qual (defScope st) f cdv A outer s H E) [] (L2.start N vs) H s1 := inv_start S hr.hd e0 (len _ _ _ _ hsp) r x
  refine wpAny_mono (ht.run [] s1 (L2.start N vs) H _ I hq) (fun fl s' hs => ?_) fun e s' hs => hs
  cases fl with
  | ret u =>
    obtain ⟨v, σ', H', J, rv, q⟩ := hs
    exact ⟨v, H', J.os, J.bare, J.base, J.hok, rv, q⟩
  | next =>
    obtain ⟨σ', H', J, q⟩ := hs
    exact ⟨V.non, H', J.os, J.bare, J.base, J.hok, rfl, q⟩
  | brk =>
    obtain ⟨_, _, _, z⟩ := hs
    exact z.elim
  | cont =>
    obtain ⟨_, _, _, z⟩ := hs
    exact z.elim
theorem fn_dsB {g : Bool} {P : Program} {w : World} {K : PySem.W.Frag} {mg : Str → Option Value} {base : Heap} {x qual : Str} {st : Stmt} {dV : Value} {f : Addr} {fd : FuncData} {N ps : List Str} {k : Nat} {body : MS} (F : FunB K x qual st dV f fd) (S : FnScope N ps (defScope st))
    (hb : ∀ cdv A outer s H E τ Ho G0 Ex hg room tk, DSs (mkZ P w K mg base N qual (defScope st) f cdv A outer s H E τ Ho G0 Ex k g hg room tk) (defBody st) body) : FnG g P w K mg base (k + 1) f fd ps (liftSp K mg ps.length (mkF ps.length N.length body)) := by
  refine fnG_ofB F S (fun vs H Q E h => h.1) fun cdv A hg outer s H vs Q E hr h => ?_
  obtain ⟨hl, τ, Ho, G, ss, r, h⟩ := h
  have r0 := r.enter (N := N)
  rw [hl] at r0
  have tk : Takes (cxOf (L2.CX P w) P w K mg base N qual (defScope st) f cdv A outer s H E) (fun cls d σ H => ∃ G1 ρ x, RS K mg (tags vs) Ho G1 ρ σ H ∧ Gr Ho G G1 ∧ RepX K mg G1 x cls d ∧ body (tagFrom 0 ss ++ List.replicate (N.length - ps.length) .no) = .ex x ρ) := by
    refine (takes_of rfl rfl rfl rfl).imp fun cls d σ H' ⟨G1, ρ1, x, h1, h2, h3, h4⟩ => ?_
    unfold mkF at h
    rw [h4] at h
    have y := (h1.push (d := .non) (v := .non) rep_non).exit (τ := τ)
    rw [hl] at y
    exact h cls d G1 H' y.pop h2 h3
  obtain ⟨ts, pt, ht⟩ := hb cdv A outer s H E (tags vs) Ho G (fun x ρ => body (tagFrom 0 ss ++ List.replicate (N.length - ps.length) .no) = .ex x ρ) hg hr tk
  refine ⟨ts, pt, ht Ho (Same.refl _) G _ _ H _ ⟨r0, Same.refl _, Gr.refl⟩ ?_⟩
  unfold mkF at h
  suffices z : ∀ r1, r1 = body (tagFrom 0 ss ++ List.replicate (N.length - ps.length) .no) → LX _ Ho G r1 _ from z _ rfl
  intro r1 e
  cases r1 with
  | nx ρ =>
    rw [← e] at h
    intro σ' G' H' x' g'
    have y := (x'.rs.push (d := .non) (v := .non) rep_non).exit (τ := τ)
    rw [hl] at y
    exact h _ _ _ y g'
  | rt s1 ρ =>
    rw [← e] at h
    intro v σ' G' H' x' g'
    have y := x'.rs.exit (τ := τ)
    rw [hl] at y
    exact h _ _ _ y g'
  | bk ρ => rw [← e] at h; exact h.elim
  | ct ρ => rw [← e] at h; exact h.elim
  | ex y ρ => exact e.symm
  | no => rw [← e] at h; exact h.elim
structure Pr (P : Program) (w : World) (K : PySem.W.Frag) (mg : Str → Option Value) (base : Heap) (c f : Str) (k : Nat) (F : FS) : Prop where
  ex : ∃ C pp g fd ps, KlAt K mg c C ∧ PropOf K C f pp g ∧ Binds K fd ps [] ∧ FnG false P w K mg base k g fd ps (liftSp K mg 1 F)
structure PrAt (K : PySem.W.Frag) (mg : Str → Option Value) (c f : Str) (st : Stmt) (ps : List Str) (C pp g : Addr) (fd : FuncData) : Prop where
  kl : KlAt K mg c C
  pr : PropOf K C f pp g
  fn : Fun K f (c ++ "." ++ f) st g fd
  bi : Binds K fd ps []
def DfV (K : PySem.W.Frag) (dV : Value) : Option Nat → Prop
  | none => dV = .none
  | some d => ∃ T o its n, dV = .ref T ∧ K.lookup T = some o ∧ o.data = .seq its n ∧ its.size = d
structure Ct (P : Program) (w : World) (K : PySem.W.Frag) (mg : Str → Option Value) (base : Heap) (c : Str) (st : Stmt) (ps : List Str) (nd : Option Nat) (k : Nat) (F : FS) : Prop where
  ex : ∃ C g fd dV, KlAt K mg c C ∧ Mk K C g ∧ FunB K "__init__" (c ++ ".__init__") st dV g fd ∧ DfV K dV nd ∧ FnG false P w K mg base k g fd ps (liftSp K mg ps.length F)
structure CtAt (K : PySem.W.Frag) (mg : Str → Option Value) (c : Str) (st : Stmt) (nd : Option Nat) (C g : Addr) (fd : FuncData) (dV : Value) : Prop where
  kl : KlAt K mg c C
  mkr : Mk K C g
  fn : FunB K "__init__" (c ++ ".__init__") st dV g fd
  df : DfV K dV nd
end DS
set_option Elab.async false
set_option linter.all false
set_option maxRecDepth 100000
set_option maxHeartbeats 2000000
namespace DS
open PySem PySem.Spec PyProof.Rows L2
def extR (ρ : List Sl) (i : Nat) (d : D) : Option Sl → SR
  | some (.ow t (.lst ds)) => match d with
    | .lst es => if ds.length + es.length ≤ sizeLine then .nx (ρ.set i (.ow t (.lst (ds ++ es)))) else .no
    | _ => .no
  | _ => .no
def sExt (i : Nat) (t : M D) : MS := fun ρ => if isL ρ[i]? then (t ρ).andS fun d ρ1 => extR ρ1 i d ρ1[i]? else .no
section
variable {Z : DC} {Ho : Hp} {m m1 m2 : Md} {e a b : Expr} {es : List Expr} {t : M D} {pos pos' p px apos : Pos}
end
structure Me (g : Bool) (P : Program) (w : World) (K : PySem.W.Frag) (mg : Str → Option Value) (base : Heap) (c m : Str) (k n : Nat) (F : FS) : Prop where
  ex : ∃ C f fd ps, KlAt K mg c C ∧ Meth K C m f ∧ Binds K fd ps [] ∧ FnG g P w K mg base k f fd ps (liftSp K mg n F)
structure MeAt (K : PySem.W.Frag) (mg : Str → Option Value) (c m : Str) (st : Stmt) (ps : List Str) (C f : Addr) (fd : FuncData) : Prop where
  kl : KlAt K mg c C
  me : Meth K C m f
  fn : Fun K m (c ++ "." ++ m) st f fd
  bi : Binds K fd ps []
section
variable {X : Cx} {k n : Nat} {f C : Addr} {fd : FuncData} {ps : List Str} {sp : Sp} {m : Str} {p pos apos : Pos} {o e : Expr} {es : List Expr} {g : Bool}
end
def callK (F : FS) (rs : List (Option Nat)) (ds : List D) (ρ1 : List Sl) : Res Sl := match mk rs ds ρ1 with
  | none => .no
  | some (ss, ρ2) => match F ss with
    | .ok s ss' => if ss'.length = ss.length then .ok s (back rs ss' ρ1 ρ2) else .no
    | .ex x ss' => if ss'.length = ss.length then .ex x (back rs ss' ρ1 ρ2) else .no
    | .no => .no
def isOM (c m : Str) : Option Sl → Bool
  | some (.ow _ (.obj c' fs)) => decide (c' = c) && (fs.lookup m).isNone
  | _ => false
def dMethR (F : FS) (c m : Str) (i : Nat) (rs : List (Option Nat)) (u : M (List D)) : M Sl := fun ρ => if isOM c m ρ[i]? then (u ρ).bind fun ds ρ1 => callK F (some i :: rs) ds ρ1 else .no
def isOD (c m : Str) : D → Bool
  | .obj c' fs => decide (c' = c) && (fs.lookup m).isNone
  | _ => false
def dMethD (F : FS) (c m : Str) (t : M D) (rs : List (Option Nat)) (u : M (List D)) : M Sl := bnd t fun d ρ1 => if isOD c m d then (u ρ1).bind fun ds ρ2 => callK F (none :: rs) (d :: ds) ρ2 else .no
section
variable {Z : DC} {Ho : Hp} {md : Md} {o e : Expr} {es : List Expr} {t : M D} {pos p px apos : Pos} {rs : List (Option Nat)} {u : M (List D)} {x c m : Str} {k n : Nat} {F : FS} {g : Bool} {pl : Sem Bool}
end
section
variable {α : Type} {ρ : List Sl}
@[simp] theorem x_ext (i : Nat) (t : M D) : sExt i t ρ = if isL ρ[i]? then (t ρ).andS fun d ρ1 => extR ρ1 i d ρ1[i]? else .no := rfl
@[simp] theorem x_callK (F : FS) (rs : List (Option Nat)) (ds : List D) : callK F rs ds ρ = callM F rs ρ (mk rs ds ρ) := by
  unfold callK
  cases h : mk rs ds ρ with
  | none => rfl
  | some p =>
    obtain ⟨ss, ρ2⟩ := p
    cases h2 : F ss <;> simp [callM, callR, h2]
@[simp] theorem x_methR (F : FS) (c m : Str) (i : Nat) (rs : List (Option Nat)) (u : M (List D)) : dMethR F c m i rs u ρ = if isOM c m ρ[i]? then (u ρ).bind fun ds ρ1 => callK F (some i :: rs) ds ρ1 else .no := rfl
@[simp] theorem x_methD (F : FS) (c m : Str) (t : M D) (rs : List (Option Nat)) (u : M (List D)) : dMethD F c m t rs u ρ = (t ρ).bind fun d ρ1 => if isOD c m d then (u ρ1).bind fun ds ρ2 => callK F (none :: rs) (d :: ds) ρ2 else .no := rfl
@[simp] theorem x_isOM {c c' m : Str} {t : Option Nat} {fs : List (Str × D)} : isOM c m (some (.ow t (.obj c' fs))) = (decide (c' = c) && (fs.lookup m).isNone) := rfl
@[simp] theorem x_isOD {c c' m : Str} {fs : List (Str × D)} : isOD c m (.obj c' fs) = (decide (c' = c) && (fs.lookup m).isNone) := rfl
end
end DS
set_option Elab.async false
set_option linter.all false
set_option maxRecDepth 100000
set_option maxHeartbeats 2000000
namespace DS
open PySem PySem.Spec PyProof.Rows L2
def kV : D → V
  | .non => .non
  | .bl b => .bl b
  | .int i => .int i
  | .str x => .str x
  | _ => .non
def kOk : D → Bool
  | .non => true
  | .bl _ => true
  | .int _ => true
  | .str x => PyData.strOk x
  | _ => false
theorem kRep {K : PySem.W.Frag} {mg : Str → Option Value} {G : Hp} : ∀ {d : D}, kOk d = true → Rep K mg G d (kV d)
  | .non, _ => by unfold Rep; rfl
  | .bl b, _ => by unfold Rep; rfl
  | .int i, _ => by unfold Rep; rfl
  | .str x, h => by unfold Rep; exact ⟨rfl, h⟩
theorem kRepL {K : PySem.W.Frag} {mg : Str → Option Value} {G : Hp} : ∀ {ms : List (Str × D)}, (∀ q ∈ ms, kOk q.2 = true) → RepL K mg G (ms.map (·.2)) (ms.map fun q => kV q.2)
  | [], _ => RepL.nil
  | q :: ms, h => RepL.cons (kRep (h q List.mem_cons_self)) (kRepL fun p hp => h p (List.mem_cons_of_mem _ hp))
structure FnDf (K : PySem.W.Frag) (mg : Str → Option Value) (x : Str) (st : Stmt) (kws : List (Str × D)) (f : Addr) (fd : FuncData) : Prop where
  mg : mg x = some (.ref f)
  ex : ∃ (oc : Value) (od : Option Addr) (kd doc pm : Value) (an : Option Addr) (cdv ct : Value) (osl : Array (Option Value)),
    fd = PySem.W.fnOf x x (defArgs st) (defBody st) (defScope st) .none kd doc pm an cdv ct ∧ K.lookup f = some ⟨oc, od, .func fd, osl⟩ ∧ PySem.W.codeIn K cdv x = true ∧ ∃ D : Addr, kd = .ref D ∧ ∀ q ∈ kws, ∃ u, PySem.W.nsIn K D q.1 = some (some u) ∧ RelV (kV q.2) u
  kp : PySem.W.keepIn K (.ref f) = true
  ok : ∀ q ∈ kws, kOk q.2 = true
theorem FnDf.funB {K : PySem.W.Frag} {mg : Str → Option Value} {x : Str} {st : Stmt} {kws : List (Str × D)} {f : Addr} {fd : FuncData} (A : FnDf K mg x st kws f fd) : FunB K x x st .none f fd := by
  obtain ⟨oc, od, kd, doc, pm, an, cdv, ct, osl, h1, h2, h3, _⟩ := A.ex
  exact ⟨⟨oc, od, kd, doc, pm, an, cdv, ct, osl, h1, h2, h3⟩, A.kp⟩
theorem FnDf.funD {K : PySem.W.Frag} {mg : Str → Option Value} {x : Str} {st : Stmt} {kws : List (Str × D)} {f : Addr} {fd : FuncData} (A : FnDf K mg x st kws f fd) : FunD K x x (defArgs st) (defBody st) (defScope st) [] (kws.map fun q => (q.1, kV q.2)) f fd := by
  obtain ⟨oc, od, kd, doc, pm, an, cdv, ct, osl, h1, h2, h3, D, h4, h5⟩ := A.ex
  refine ⟨⟨oc, od, .none, kd, doc, pm, an, cdv, ct, osl, h1, h2, h3, .inl ⟨rfl, rfl⟩, .inr ⟨D, h4, fun q hq => ?_⟩⟩, A.kp⟩
  obtain ⟨p, hp, rfl⟩ := List.mem_map.mp hq
  exact h5 p hp
def BdK (x : Str) (st : Stmt) (ps ks : List Str) (ms : List Str) (n : Nat) (ix : List Nat) : Prop := ∀ (D : Addr) (doc pm : Value) (an : Option Addr) (cdv ct : Value) (us mv ws : List Value), us.length = n → mv.length = ms.length → ws.length = ks.length →
  KwChain D (ms.zip mv) (bindArgs (PySem.W.fnOf x x (defArgs st) (defBody st) (defScope st) .none (.ref D) doc pm an cdv ct) ⟨us, ks.zip ws⟩) (ps.zip (perm ix (us ++ ws ++ mv)))
theorem kwF_df {K : PySem.W.Frag} {mg : Str → Option Value} {x : Str} {st : Stmt} {kws : List (Str × D)} {ps ks : List Str} {f : Addr} {fd : FuncData} {n : Nat} (ms : List (Str × D)) (ix : List Nat) (A : FnDf K mg x st kws f fd) (hk : kws ≠ []) (hms : ∀ q ∈ ms, q ∈ kws) (hi : ix.length = ps.length) (hr : ∀ i ∈ ix, i < n + ks.length + ms.length)
    (h : BdK x st ps ks (ms.map (·.1)) n ix) : KwF K mg fd ps n ks (fun l => perm ix (l ++ ms.map (·.2))) := by
  obtain ⟨mv, B⟩ := A.funD.kbinds0 (ps := ps) n ks (ms.map fun q => (q.1, kV q.2)) (fun us mv ws => perm ix (us ++ ws ++ mv)) (by simpa using hk) (fun q hq => by
    obtain ⟨p, hp, rfl⟩ := List.mem_map.mp hq
    exact List.mem_map.mpr ⟨p, hms p hp, rfl⟩) (fun r1 r2 r3 => vals_perm ((r1.append r3).append r2) ix) (fun D doc pm an cdv ct us mv ws l1 l2 l3 => by
    have := h D doc pm an cdv ct us mv ws l1 (by simpa using l2) l3
    rw [show (ms.map fun q => (q.1, kV q.2)).map (·.1) = ms.map (·.1) from by rw [List.map_map]; rfl]
    exact this)
  refine ⟨_, _, B, fun G ds es vs zs r1 r2 l1 l2 => ⟨?_, ?_⟩⟩
  · have r3 : RepL K mg G (ms.map (·.2)) (ms.map fun q => kV q.2) := kRepL fun q hq => A.ok q (hms q hq)
    have := repL_perm ((r1.append r2).append r3) ix
    rw [show (ms.map fun q => (q.1, kV q.2)).map (·.2) = ms.map fun q => kV q.2 from by rw [List.map_map]; rfl]
    exact this
  · show (perm ix (vs ++ zs ++ (ms.map fun q => (q.1, kV q.2)).map (·.2))).length = ps.length
    rw [perm_len fun i hm => ?_, hi]
    simp only [List.length_append, List.length_map, l1, l2]
    exact hr i hm
structure FdK (g : Bool) (P : Program) (w : World) (K : PySem.W.Frag) (mg : Str → Option Value) (base : Heap) (x : Str) (st : Stmt) (kws : List (Str × D)) (ps : List Str) (k : Nat) (F : FS) : Prop where
  ex : ∃ f fd, FnDf K mg x st kws f fd ∧ FnG g P w K mg base k f fd ps (liftSp K mg ps.length F)
theorem fdk_of {g : Bool} {P : Program} {w : World} {K : PySem.W.Frag} {mg : Str → Option Value} {base : Heap} {x : Str} {st : Stmt} {kws : List (Str × D)} {f : Addr} {fd : FuncData} {N ps : List Str} {k : Nat} {body : MS} (A : FnDf K mg x st kws f fd) (S : FnScope N ps (defScope st))
    (hb : ∀ cdv A outer s H E τ Ho G0 Ex hg room tk, DSs (mkZ P w K mg base N x (defScope st) f cdv A outer s H E τ Ho G0 Ex k g hg room tk) (defBody st) body) : FdK g P w K mg base x st kws ps (k + 1) (mkF ps.length N.length body) :=
  ⟨f, fd, A, fn_dsB A.funB S hb⟩
section
variable {Z : DC} {e : Expr} {es : List Expr} {kws : List Keyword} {pos p : Pos} {x : Str} {u w : M (List D)} {k n : Nat} {ps ks : List Str} {F : FS} {gg : Bool} {st : Stmt} {kd : List (Str × D)}
theorem dr_fk (n : Nat) (ix : List Nat) (ms : List (Str × D)) (O : FdK gg Z.X.prog Z.X.w Z.X.K Z.X.mg Z.X.base x st kd ps k F) (ha : DA Z (e :: es) u) (hw' : DK Z kws w) (hk0 : kd ≠ []) (hms : ∀ q ∈ ms, q ∈ kd) (hi : ix.length = ps.length) (hr : ∀ i ∈ ix, i < n + ks.length + ms.length)
    (h : BdK x st ps ks (ms.map (·.1)) n ix) (hgg : gg = true → Z.g = true := by first | exact fun h => nomatch h | exact fun h => h | exact fun _ => rfl) (hk : k ≤ Z.k := by exact Nat.le_of_ble_eq_true rfl)
    (hg : Gl Z.X x := by first | rfl | decide) (hall : (backToKw pos (keywordEach kws Z.X.env)).all (·.1.isSome) = true := by rfl) (hks : (backToKw pos (keywordEach kws Z.X.env)).filterMap (·.1) = ks := by rfl)
    (hdb : (x == ("__debug__" : Str)) = false := by decide) (he : starEach (e :: es) Z.X.env = (false, eval e Z.X.env) :: starEach es Z.X.env := by rfl) (hpl : ((backTo pos (starEach (e :: es) Z.X.env)).any (·.1) || (backToKw pos (keywordEach kws Z.X.env)).any (·.1.isNone)) = false := by rfl) (hh : Z.hot = false := by rfl) :
    DR Z (.Call (.Name x p) (e :: es) kws pos) (dKw F n ks.length (fun l => perm ix (l ++ ms.map (·.2))) u w) := by
  obtain ⟨f, fd, A, G⟩ := O.ex
  exact dr_kw G hgg hk A.mg A.kp (kwF_df ms ix A hk0 hms hi hr h) ha hw' hg hall hks hdb he hpl hh
theorem dr_fk0 (ix : List Nat) (ms : List (Str × D)) (O : FdK gg Z.X.prog Z.X.w Z.X.K Z.X.mg Z.X.base x st kd ps k F) (hw' : DK Z kws w) (hk0 : kd ≠ []) (hms : ∀ q ∈ ms, q ∈ kd) (hi : ix.length = ps.length) (hr : ∀ i ∈ ix, i < 0 + ks.length + ms.length)
    (h : BdK x st ps ks (ms.map (·.1)) 0 ix) (hgg : gg = true → Z.g = true := by first | exact fun h => nomatch h | exact fun h => h | exact fun _ => rfl) (hk : k ≤ Z.k := by exact Nat.le_of_ble_eq_true rfl)
    (hg : Gl Z.X x := by first | rfl | decide) (hall : (backToKw pos (keywordEach kws Z.X.env)).all (·.1.isSome) = true := by rfl) (hks : (backToKw pos (keywordEach kws Z.X.env)).filterMap (·.1) = ks := by rfl)
    (hdb : (x == ("__debug__" : Str)) = false := by decide) (hpl : ((backTo pos (starEach [] Z.X.env)).any (·.1) || (backToKw pos (keywordEach kws Z.X.env)).any (·.1.isNone)) = false := by rfl) (hh : Z.hot = false := by rfl) :
    DR Z (.Call (.Name x p) [] kws pos) (dKw F 0 ks.length (fun l => perm ix (l ++ ms.map (·.2))) dNil w) := by
  obtain ⟨f, fd, A, G⟩ := O.ex
  exact dr_kw0 G hgg hk A.mg A.kp (kwF_df ms ix A hk0 hms hi hr h) hw' hg hall hks hdb hpl hh
end
end DS
set_option Elab.async false
set_option linter.all false
set_option maxRecDepth 100000
set_option maxHeartbeats 1000000
namespace DS
open PySem PySem.Spec PyProof.Rows L2
def fIndex (ds : List D) (e : D) : Option D := if e.flat && (D.lst ds).flat then (ds.findIdx? fun z => z.eqv e).map fun j => .int (j : Nat) else none
def dIndex (ta tb : M D) : M D := bnd ta fun d => match d with
  | .lst ds => bnd tb fun e => lft (fIndex ds e)
  | _ => fun _ => .no
section
variable {Z : DC} {m1 m2 : Md} {a b : Expr} {ta tb : M D} {pos apos : Pos}
end
@[simp] theorem x_index (ta tb : M D) (ρ : List Sl) : dIndex ta tb ρ = (ta ρ).bind fun d => match d with
  | .lst ds => bnd tb fun e => lft (fIndex ds e)
  | _ => fun _ => .no := rfl
theorem blkZ_N {Z : DC} {s : Shared} {H : Hp} {scope : Scope} {cenv : Env} {fp : List Addr} : (blkZ Z s H scope cenv fp).X.N = Z.X.N := rfl
theorem relabel_id {scope : Scope} {env : Env} (h : scope.names.all (fun p => !(p.2 == NameKind.free)) = true) : relabel scope env = scope := by
  obtain ⟨kd, names, g, c⟩ := scope
  unfold relabel
  simp only at h ⊢
  congr 1
  have : ∀ l : List (Str × NameKind), l.all (fun p => !(p.2 == NameKind.free)) = true → (l.map fun (n, k) => if (k == NameKind.free && env.scope.kind == .function && env.kindOf n == some .cell) then (n, NameKind.cell) else (n, k)) = l := by
    intro l
    induction l with
    | nil => intro _; rfl
    | cons p l ih =>
      intro h
      simp only [List.all_cons, Bool.and_eq_true, Bool.not_eq_true'] at h
      rw [List.map_cons, ih h.2]
      simp [h.1]
  exact this names h
theorem blkZ_sc {Z : DC} {s : Shared} {H : Hp} {scope : Scope} {cl : List (Str × Addr)} {C : Addr} {env : Env} {fp : List Addr} (h : scope.names.all (fun p => !(p.2 == NameKind.free)) = true) : (blkZ Z s H scope (compEnvC scope cl C env) fp).X.env.scope = scope := relabel_id h
end DS
set_option Elab.async false
set_option linter.all false
set_option maxRecDepth 100000
set_option maxHeartbeats 4000000
namespace DS
open PySem PySem.Spec PyProof.Rows L2
def EnS (w : World) (e : Int × Value) : Prop := ∃ x tk, e.2 = Value.str x tk ∧ e.1 = hashStr w x
def enX (e : Int × Value) : Str := match e.2 with
  | .str x _ => x
  | _ => Str.empty
def SetX (w : World) (h : Heap) (a : Addr) (xs : List Str) : Prop :=
  ∃ o es ep t, h.get? a = some o ∧ o.ExactSet ∧ o.data = .set es ep t ∧ (∀ e ∈ es.toList, EnS w e) ∧ (es.toList.map enX).Perm xs ∧ xs.Nodup ∧
    es.size < scanBound ∧ t.fits es.size = true ∧ Ris t.place.toList ∧ (w.params.followText "set-order" = true ∨ t.led = true)
section
variable {P : Program} {w : World} {h h' : Heap} {a : Addr} {xs : List Str}
theorem SetX.go (R : SetX w h a xs) (k : ∀ o, h.get? a = some o → h'.get? a = some o) : SetX w h' a xs := by
  obtain ⟨ob, es, ep, t, h1, rest⟩ := R
  exact ⟨ob, es, ep, t, k ob h1, rest⟩
end
section
variable {P : Program} {w : World} {A : Around} {E : Value → Shared → Prop} {s : Shared} {a : Addr} {xs : List Str}
end
section
variable {P : Program} {w : World} {A : Around} {E : Value → Shared → Prop} {s : Shared}
end
section
variable {X : Cx}
end
end DS
set_option Elab.async false
set_option linter.all false
set_option maxRecDepth 100000
set_option maxHeartbeats 1000000
namespace DS
open PySem PySem.Spec PyProof.Rows L2
def leS (a b : Str) : Bool := !ltCps b.cps.toList a.cps.toList
def insS (x : Str) : List Str → List Str
  | [] => [x]
  | y :: r => if leS x y then x :: y :: r else y :: insS x r
def srtS : List Str → List Str
  | [] => []
  | x :: r => insS x (srtS r)
def ded : List Str → List Str
  | [] => []
  | x :: r => if x ∈ r then ded r else x :: ded r
def strsOf : List D → Option (List Str)
  | [] => some []
  | .str x :: r => (strsOf r).map (x :: ·)
  | _ :: _ => none
def intsOf : List D → Option (List Int)
  | [] => some []
  | .int x :: r => (intsOf r).map (x :: ·)
  | _ :: _ => none
def insI (x : Int) : List Int → List Int
  | [] => [x]
  | y :: r => if x ≤ y then x :: y :: r else y :: insI x r
def srtI : List Int → List Int
  | [] => []
  | x :: r => insI x (srtI r)
def fSorted : D → Option D
  | .lst ds => match strsOf ds with
    | some xs => if xs.length < 64 then some (.lst ((srtS xs).map .str)) else none
    | none => (intsOf ds).map fun ns => .lst ((srtI ns).map .int)
  | _ => none
def dSortO (t : M D) : M Sl := bnd t fun d => lft ((fSorted d).map fun d' => Sl.ow none d')
def fSortSet : D → Option D
  | .lst ds => match strsOf ds with
    | some xs => if xs.length < 64 then some (.lst ((srtS (ded xs)).map .str)) else none
    | none => none
  | _ => none
def dSortSetO (t : M D) : M Sl := bnd t fun d => lft ((fSortSet d).map fun d' => Sl.ow none d')
section
variable {Z : DC} {m1 m2 : Md} {a b : Expr} {ta tb : M D} {pos p2 p3 p4 : Pos}
end
@[simp] theorem x_sortO (t : M D) (ρ : List Sl) : dSortO t ρ = (t ρ).bind fun d => lft ((fSorted d).map fun d' => Sl.ow none d') := rfl
@[simp] theorem x_sortSetO (t : M D) (ρ : List Sl) : dSortSetO t ρ = (t ρ).bind fun d => lft ((fSortSet d).map fun d' => Sl.ow none d') := rfl
end DS
set_option Elab.async false
set_option linter.all false
set_option maxRecDepth 100000
set_option maxHeartbeats 1000000
namespace DS
open PySem PySem.Spec PyProof.Rows L2
section
variable {X : Cx}
end
def fCount (ds : List D) (e : D) : Option D := if e.flat && (D.lst ds).flat then some (.int (ds.countP fun z => z.eqv e : Nat)) else none
def dCount (ta tb : M D) : M D := bnd ta fun d => match d with
  | .lst ds => bnd tb fun e => lft (fCount ds e)
  | _ => fun _ => .no
section
variable {Z : DC} {m1 m2 : Md} {a b : Expr} {ta tb : M D} {pos apos : Pos}
end
@[simp] theorem x_count (ta tb : M D) (ρ : List Sl) : dCount ta tb ρ = (ta ρ).bind fun d => match d with
  | .lst ds => bnd tb fun e => lft (fCount ds e)
  | _ => fun _ => .no := rfl
section
variable {X : Cx} {dp apos cpos : Pos} {keys : List (Option Expr)} {values : List Expr} {trs : List (TE × TE)} {o e f : Expr} {td ty tx : TE}
end
def keyN : D → Option (Option Key)
  | .non => some none
  | .int i => some (some (.inl i))
  | .str x => some (some (.inr x))
  | _ => none
def dPairs : List (M D × M D) → M (List (D × D))
  | [] => ret []
  | (k, v) :: r => bnd k fun x => bnd v fun y => bnd (dPairs r) fun ps => ret ((x, y) :: ps)
def putN (kvs : List (Option Key × D)) (k : Option Key) (v : D) : List (Option Key × D) :=
  if (kvs.any fun kv => decide (kv.1 = k)) = true then kvs.map (fun kv => if kv.1 = k then (kv.1, v) else kv) else kvs ++ [(k, v)]
def dispN (acc : List (Option Key × D)) : List (D × D) → Option (List (Option Key × D))
  | [] => some acc
  | (x, y) :: r => match keyN x with
    | some k => dispN (putN acc k y) r
    | none => none
def lookN (kvs : List (Option Key × D)) (k : Option Key) : Option D := (kvs.find? fun kv => decide (kv.1 = k)).map (·.2)
def dGetN (trs : List (M D × M D)) (ty tx : M D) : M D := bnd (dPairs trs) fun ps => match dispN [] ps with
  | some kvs => if ps.length ≤ 15 then bnd ty fun y => bnd tx fun z => lft ((keyN y).map fun k => (lookN kvs k).getD z) else fun _ => .no
  | none => fun _ => .no
def LPs (Z : DC) (Ho : Hp) (G : Hp) (σ : L2.St) (r : Res (List (D × D))) (Q : List (V × V) → Hp → Prop) : Prop := match r with
  | .ok ps ρ => ∀ vs G' H', Z.R Ho G' ρ σ H' → Gr Ho G G' → vs.length = ps.length → (∀ (i : Nat) (p : D × D) (v : V × V), ps[i]? = some p → vs[i]? = some v → Z.rep G' p.1 v.1 ∧ Z.rep G' p.2 v.2) → Q vs H'
  | .ex x ρ => Z.Ex x ρ
  | .no => False
def DPs (Z : DC) (pos : Pos) (keys : List (Option Expr)) (values : List Expr) (t : M (List (D × D))) : Prop :=
  ∃ trs, PPs Z.X pos keys values trs ∧ ∀ Ho, Same Z.Ho Ho → ∀ G ρ σ H Q, Z.R Ho G ρ σ H → LPs Z Ho G σ (t ρ) Q → tPairs trs σ H Q
section
variable {Z : DC} {m1 m2 m3 : Md} {k v e f : Expr} {ks : List (Option Expr)} {vs : List Expr} {tk tv ty tx : M D} {dp apos pos : Pos}
theorem dps_nil : DPs Z dp [] [] (dPairs []) := ⟨[], pps_nil, fun Ho hw G ρ σ H Q x q => q [] G H x Gr.refl rfl (fun i p v h => by simp at h)⟩
theorem dps_cons {r : List (M D × M D)} (hk : DE Z m1 k tk) (hv : DE Z m2 v tv) (hr : DPs Z dp ks vs (dPairs r)) (hb : m1.b = false := by rfl) (hb2 : m2.b = false := by rfl) : DPs Z dp (some k :: ks) (v :: vs) (dPairs ((tk, tv) :: r)) := by
  obtain ⟨tek, pk, sk⟩ := hk
  obtain ⟨tev, pv, sv⟩ := hv
  obtain ⟨trs, pr, sr⟩ := hr
  refine ⟨(tek, tev) :: trs, pps_cons pk pv pr, fun Ho hw G ρ σ H Q x q => ?_⟩
  refine sk Ho hw G ρ σ H _ x (DE.then (L := fun r => LPs Z Ho G σ r Q) (fun _ _ h => h) (fun h => h) q fun d ρ1 u1 G1 H1 x1 g1 s1 b1 q1 => ?_)
  refine sv Ho hw G1 ρ1 σ H1 _ x1 (DE.then (L := fun r => LPs Z Ho G σ r Q) (fun _ _ h => h) (fun h => h) q1 fun d2 ρ2 u2 G2 H2 x2 g2 s2 b2 q2 => ?_)
  refine sr Ho hw G2 ρ2 σ H2 _ x2 ?_
  rw [hb] at b1
  rw [hb2] at b2
  unfold bnd at q2
  cases er : dPairs r ρ2 with
  | no => rw [er] at q2; exact q2
  | ex x ρ => rw [er] at q2; exact q2
  | ok ps ρ3 =>
    rw [er] at q2
    refine fun us G3 H3 x3 g3 hl hu => q2 ((u1, u2) :: us) G3 H3 x3 ((g1.trans g2).trans g3) (by simp [hl]) fun i p w hp hw' => ?_
    cases i with
    | zero =>
      simp at hp hw'
      subst hp hw'
      exact ⟨Rep.mono (g2.1.trans g3.1) _ _ b1.rep, Rep.mono g3.1 _ _ b2.rep⟩
    | succ i => exact hu i p w (by simpa using hp) (by simpa using hw')
end
section
variable {Z : DC} {m1 m2 m3 : Md} {k v e f : Expr} {ks : List (Option Expr)} {vs : List Expr} {tk tv ty tx : M D} {dp apos pos : Pos}
theorem LPs.then {α : Type} {r : Res (List (D × D))} {u : List (D × D) → M α} {L : Res α → Prop} {Ho G : Hp} {σ : L2.St} {Q : List (V × V) → Hp → Prop} (hex : ∀ x ρ, L (.ex x ρ) → Z.Ex x ρ) (hno : L .no → False)
    (h : L (r.bind u)) (hq : ∀ ps ρ vs G' H', Z.R Ho G' ρ σ H' → Gr Ho G G' → vs.length = ps.length → (∀ (i : Nat) (p : D × D) (v : V × V), ps[i]? = some p → vs[i]? = some v → Z.rep G' p.1 v.1 ∧ Z.rep G' p.2 v.2) → L (u ps ρ) → Q vs H') : LPs Z Ho G σ r Q := by
  cases r with
  | ok d ρ => exact fun v G' H' x g b c => hq d ρ v G' H' x g b c h
  | ex x ρ => exact hex x ρ h
  | no => exact hno h
end
section
variable {K : PySem.W.Frag} {mg : Str → Option Value} {τ : Tau} {Ho G : Hp} {ρ : List Sl} {σ : L2.St} {H : Hp} {p : Addr} {o o' : HO}
theorem own_off {O : Addr → Option Nat} {i : Nat} (h : O p = none) : own O i (upd H p o) = own O i H := by
  funext a
  unfold own
  by_cases q : O a = some i
  · rw [if_pos q, if_pos q, upd_ne]
    rintro rfl; rw [h] at q; cases q
  · rw [if_neg q, if_neg q]
theorem RS.outer (x : RS K mg τ Ho G ρ σ H) (h : H p = none) : RS K mg τ (upd Ho p o) G ρ σ (upd H p o) := by
  obtain ⟨O, x⟩ := x
  have op : O p = none := by
    cases e : O p with
    | none => rfl
    | some i => exact absurd h (x.oh p i e).2.2
  have ne : ∀ a i, O a = some i → a ≠ p := fun a i e z => by rw [z, op] at e; cases e
  refine ⟨O, x.gh.trans (same_upd h), fun a i e => ?_, fun a u e => ?_, x.len, fun i s e => ?_⟩
  · obtain ⟨z1, z2, z3⟩ := x.oh a i e
    exact ⟨z1, by rw [cl_eq (upd_ne (ne a i e))]; exact z2, by rw [upd_ne (ne a i e)]; exact z3⟩
  · by_cases q : a = p
    · subst q; rw [upd_same] at e ⊢; exact e
    · rw [upd_ne q] at e ⊢; exact x.out a u e
  · rw [own_off op]; exact x.sl i s e
end
section
variable {Z : DC} {m1 m2 m3 : Md} {k v e f : Expr} {ks : List (Option Expr)} {vs : List Expr} {tk tv ty tx : M D} {dp apos pos : Pos}
theorem DC.R.outer {Ho G : Hp} {ρ : List Sl} {σ : L2.St} {H : Hp} {p : Addr} {o : HO} (x : Z.R Ho G ρ σ H) (h : H p = none) : Z.R (upd Ho p o) G ρ σ (upd H p o) :=
  ⟨x.rs.outer h, x.ho.trans (same_upd (x.freeHo h)), x.g0⟩
end
@[simp] theorem x_getN (trs : List (M D × M D)) (ty tx : M D) (ρ : List Sl) : dGetN trs ty tx ρ = (dPairs trs ρ).bind fun ps => match dispN [] ps with
  | some kvs => if ps.length ≤ 15 then bnd ty fun y => bnd tx fun z => lft ((keyN y).map fun k => (lookN kvs k).getD z) else fun _ => .no
  | none => fun _ => .no := rfl
@[simp] theorem x_pairs0 (ρ : List Sl) : dPairs [] ρ = .ok [] ρ := rfl
@[simp] theorem x_pairs1 (k v : M D) (r : List (M D × M D)) (ρ : List Sl) : dPairs ((k, v) :: r) ρ = (k ρ).bind fun x => bnd v fun y => bnd (dPairs r) fun ps => ret ((x, y) :: ps) := rfl
end DS
set_option Elab.async false
set_option linter.all false
set_option maxRecDepth 100000
set_option maxHeartbeats 1000000
namespace DS
open PySem PySem.Spec PyProof.Rows L2
def addO : D → D → Option Sl
  | .lst x, .lst y => if x.length + y.length ≤ sizeLine then some (.ow none (.lst (x ++ y))) else none
  | _, _ => none
def dAddO (ta tb : M D) : M Sl := bnd ta fun d => bnd tb fun e => lft (addO d e)
section
variable {Z : DC} {m1 m2 : Md} {a b : Expr} {ta tb : M D} {pos : Pos}
theorem dr_addO (ha : DE Z m1 a ta) (hb : DE Z m2 b tb) (hm : (!m1.b || m2.p) = true := by rfl) : DR Z (.BinOp a .Add b pos) (dAddO ta tb) := by
  obtain ⟨tea, pa, sa⟩ := ha
  obtain ⟨teb, pb, sb⟩ := hb
  refine ⟨_, pe_op op_cat pa pb, fun Ho hw G ρ σ H Q x q => ?_⟩
  refine sa Ho hw G ρ σ H _ x (DE.then (L := fun r => LR Z Ho G σ r Q) (fun _ _ h => h) (fun h => h) q fun d ρ1 v G1 H1 x1 g1 s1 b1 q1 => ?_)
  refine sb Ho hw G1 ρ1 σ H1 _ x1 (DE.then (L := fun r => LR Z Ho G σ r Q) (fun _ _ h => h) (fun h => h) q1 fun e ρ2 w G2 H2 x2 g2 s2 b2 q2 => ?_)
  have b1' : Z.BR m1.b G2 H2 d v := b1.go g2.1 fun hb => s2 (by rw [hb] at hm; simpa using hm)
  cases d <;> try (exact q2.elim)
  cases e <;> try (exact q2.elim)
  rename_i xs ys
  simp only [lft, addO] at q2
  by_cases hz : xs.length + ys.length ≤ sizeLine
  · rw [if_pos hz] at q2
    obtain ⟨p1, vs, rfl, h1, h2⟩ := b1'.up.lst x2.gh
    obtain ⟨p2, ws, rfl, h3, h4⟩ := b2.up.lst x2.gh
    have l1 := h2.length
    have l2 := h4.length
    refine ⟨p1, p2, vs, ws, rfl, rfl, h1, h3, by omega, fun p hp => ?_⟩
    exact q2 (.ref p) G2 _ (x2.pushO (.lst (h2.append h4)) hp) (g1.trans g2)
  · rw [if_neg hz] at q2; exact q2.elim
end
@[simp] theorem x_addO (ta tb : M D) (ρ : List Sl) : dAddO ta tb ρ = (ta ρ).bind fun d => bnd tb fun e => lft (addO d e) := rfl
@[simp] theorem x_addO1 {x y : List D} : addO (.lst x) (.lst y) = if x.length + y.length ≤ sizeLine then some (.ow none (.lst (x ++ y))) else none := rfl
end DS
set_option Elab.async false
set_option linter.all false
set_option maxRecDepth 100000
set_option maxHeartbeats 2000000
namespace DS
open PySem PySem.Spec PyProof.Rows L2
structure ZxAt (z U O k j b : Addr) (x : Str) (t : Tok) (n i : Nat) (h : Heap) : Prop where
  le : i ≤ x.cps.size ∧ i ≤ n
  zip : IsZip h z U O .none
  two : IsTupOf2 h U (.ref k) (.ref j)
  out : ∃ p q, IsTupOf2 h O p q
  str : h.IsStrIter k (strIterType x) x t i
  lst : h.IsListIter j b i
section
variable {Z : DC} {Ho : Hp} {m1 m2 : Md} {e1 e2 : Expr} {t1 t2 : M D} {pos p tpos : Pos} {elts : List Expr} {kk : Nat}
end
section
open DS.Drw
variable {c : M Bool} {u w : MS} {ρ ρ' : List Sl} {r : SR}
theorem sFor_to {t : M (List D)} {g : D → List Sl → Option (List Sl)} {b : MS} {kl : List Nat} {ds : List D} {ρ1 : List Sl} (h : t ρ = .ok ds ρ1) (h2 : sEach g b kl ds ρ1 = r) : sFor t g b kl ρ = r := by
  unfold sFor Res.andS
  rw [h]
  exact h2
end
end DS
set_option Elab.async false
set_option linter.all false
set_option maxRecDepth 100000
set_option maxHeartbeats 2000000
namespace DS
open PySem PySem.Spec PyProof.Rows L2
section
variable {Z : DC} {m : Md} {e : Expr} {t : M D} {pos p p2 p3 p4 : Pos}
end
end DS
set_option Elab.async false
set_option linter.all false
set_option maxRecDepth 100000
set_option maxHeartbeats 2000000
namespace DS
open PySem PySem.Spec PyProof.Rows L2
structure StAt (K : PySem.W.Frag) (mg : Str → Option Value) (x : Str) (st : Stmt) (pv : Str) (f : Addr) (fd : FuncData) : Prop where
  mg : mg x = some (.ref f)
  fn : Fun K x x st f fd
  bi : ∀ us : List Value, bindArgs fd ⟨us, []⟩ = (newTuple us >>= fun t => pure [(pv, t)])
structure FdV (P : Program) (w : World) (K : PySem.W.Frag) (mg : Str → Option Value) (base : Heap) (x : Str) (k : Nat) (F : FS) : Prop where
  ex : ∃ f, mg x = some (.ref f) ∧ PySem.W.keepIn K (.ref f) = true ∧ FnR P w K mg base (L2.CX P w) k f fun vs H Q E => vs.length ≤ sizeLine ∧ ∀ p, H p = none → liftSp K mg 1 F [.ref p] (upd H p (.tup vs)) Q E
section
variable {Z : DC} {e : Expr} {es : List Expr} {pos p : Pos} {x : Str} {f : Addr} {k : Nat} {F : FS} {u : M (List D)}
def dCallV (F : FS) (u : M (List D)) : M Sl := bnd u fun ds ρ1 => if ds.length < 64 then finC ρ1 (F [.sh (.tup ds)]) else .no
def dCallV0 (F : FS) : M Sl := fun ρ => finC ρ (F [.sh (.tup [])])
@[simp] theorem x_callV0 (F : FS) (ρ : List Sl) : dCallV0 F ρ = finC ρ (F [.sh (.tup [])]) := rfl
@[simp] theorem x_callV (F : FS) (u : M (List D)) (ρ : List Sl) : dCallV F u ρ = (u ρ).bind fun ds ρ1 => if ds.length < 64 then finC ρ1 (F [.sh (.tup ds)]) else .no := rfl
end
end DS
set_option Elab.async false
set_option linter.all false
set_option maxRecDepth 100000
set_option maxHeartbeats 2000000
namespace DS
open PySem PySem.Spec PyProof.Rows L2
section
variable {Z : DC} {Ho : Hp} {pos : Pos}
end
def isB : Option Sl → Bool
  | some (.sh _) => true
  | some (.ow _ _) => true
  | _ => false
def sdB : Option Sl → Option D
  | some (.sh d) => some d
  | some (.ow _ d) => some d
  | _ => none
def d2V (f : D → D → Option D) (i : Nat) (tb : M D) : M D := fun ρ => if isB ρ[i]? then (tb ρ).bind fun e ρ1 => lft ((sdB ρ1[i]?).bind fun d => f d e) ρ1 else .no
section
variable {Z : DC} {m2 : Md} {b : Expr} {tb : M D} {pos p : Pos} {x : Str}
@[simp] theorem x_d2V (f : D → D → Option D) (i : Nat) (tb : M D) (ρ : List Sl) : d2V f i tb ρ = if isB ρ[i]? then (tb ρ).bind fun e ρ1 => lft ((sdB ρ1[i]?).bind fun d => f d e) ρ1 else .no := rfl
@[simp] theorem x_isB1 {d : D} : isB (some (.sh d)) = true := rfl
@[simp] theorem x_isB2 {t : Option Nat} {d : D} : isB (some (.ow t d)) = true := rfl
@[simp] theorem x_sdB1 {d : D} : sdB (some (.sh d)) = some d := rfl
@[simp] theorem x_sdB2 {t : Option Nat} {d : D} : sdB (some (.ow t d)) = some d := rfl
end
section
variable {Z : DC} {pos p : Pos} {x : Str} {k n : Nat} {F : FS} {f : Addr} {fd : FuncData} {ps : List Str}
end
end DS
set_option Elab.async false
set_option linter.all false
set_option maxRecDepth 100000
set_option maxHeartbeats 2000000
namespace DS
open PySem PySem.Spec PyProof.Rows L2
def D.seqOf : D → Option (List D)
  | .tup ds => some ds
  | .lst ds => some ds
  | _ => none
section
variable {Z : DC} {m : Md} {e : Expr} {t : M D} {pos p p2 : Pos} {x : Str} {f : Addr} {k : Nat} {F : FS}
def dCallS (F : FS) (t : M D) : M Sl := bnd t fun d ρ1 => match d.seqOf with
  | some ds => if ds.length < 64 then finC ρ1 (F [.sh (.tup ds)]) else .no
  | none => .no
@[simp] theorem x_callS (F : FS) (t : M D) (ρ : List Sl) : dCallS F t ρ = (t ρ).bind fun d ρ1 => match d.seqOf with
  | some ds => if ds.length < 64 then finC ρ1 (F [.sh (.tup ds)]) else .no
  | none => .no := rfl
end
end DS
set_option Elab.async false
set_option linter.all false
set_option maxRecDepth 100000
set_option maxHeartbeats 4000000
namespace L2
open PySem PySem.Spec PyProof.Rows HT
section
variable {prog : Program} {w : World} {A : Around} {E : Value → Shared → Prop} {s : Shared}
end
section
variable {X : Cx}
end
end L2
namespace DS
open PySem PySem.Spec PyProof.Rows L2
theorem RepL.reverse {K : PySem.W.Frag} {mg : Str → Option Value} {G : Hp} : ∀ {ds : List D} {vs : List V}, RepL K mg G ds vs → RepL K mg G ds.reverse vs.reverse
  | [], [], _ => by simpa using RepL.nil
  | [], _ :: _, h => by unfold RepL at h; exact nomatch h
  | d :: ds, [], h => by have := h.length; simp at this
  | d :: ds, v :: vs, h => by
    unfold RepL at h
    rw [List.reverse_cons, List.reverse_cons]
    obtain ⟨v', vs', e, h1, h2⟩ := h
    cases e
    exact (RepL.reverse h2).append (RepL.one h1)
section
variable {Z : DC} {a : Expr} {ta : M D} {m1 : Md} {k : Nat} {p1 p2 p3 pos : Pos}
end
end DS
set_option Elab.async false
set_option linter.all false
set_option maxRecDepth 100000
set_option maxHeartbeats 4000000
namespace DS
open PySem PySem.Spec PyProof.Rows L2
def txs : List D → Option (List Str)
  | [] => some []
  | .str x :: ds => (txs ds).map (x :: ·)
  | _ :: _ => none
def fIndexT (ds : List D) (e : D) : Option D := match txs ds, e with
  | some ys, .str z => (ys.findIdx? fun y => decide (y = z)).map fun j => .int (j : Nat)
  | _, _ => none
def dIndexT (ta tb : M D) : M D := bnd ta fun d => match d with
  | .tup ds => bnd tb fun e => lft (fIndexT ds e)
  | _ => fun _ => .no
section
variable {Z : DC} {m1 m2 : Md} {b : Expr} {tb : M D} {pos apos p0 : Pos}
end
@[simp] theorem x_indexT (ta tb : M D) (ρ : List Sl) : dIndexT ta tb ρ = (ta ρ).bind fun d => match d with
  | .tup ds => bnd tb fun e => lft (fIndexT ds e)
  | _ => fun _ => .no := rfl
end DS
set_option Elab.async false
set_option linter.all false
set_option maxRecDepth 100000
set_option maxHeartbeats 2000000
namespace DS
open PySem PySem.Spec PyProof.Rows L2
section
variable {K : PySem.W.Frag} {mg : Str → Option Value} {τ τ' : Tau} {Ho G : Hp} {ρ ρ' : List Sl} {σ σ' : L2.St} {H : Hp}
end
def LFT (K : PySem.W.Frag) (mg : Str → Option Value) (τ : Tau) (Ho G : Hp) (vs : List V) (Q : VK) (E : XK) : FR → Prop
  | .ok s ss => ∀ v G' H, RS K mg τ Ho G' (s :: (ss ++ [.tb])) (some v :: (vs.map some ++ [none])) H → Gr Ho G G' → Q v H
  | .ex x ss => ∀ cls d G' H, RS K mg τ Ho G' (ss ++ [.tb]) (vs.map some ++ [none]) H → Gr Ho G G' → RepX K mg G' x cls d → E cls d H
  | .no => False
def liftSpT (K : PySem.W.Frag) (mg : Str → Option Value) (n : Nat) (T : List (Addr × Str)) (F : FS) : Sp := fun vs H Q E => vs.length = n ∧ ∃ τ Ho G ss, τ.tb = T ∧ ss.length = n ∧ RS K mg τ Ho G (ss ++ [.tb]) (vs.map some ++ [none]) H ∧ LFT K mg τ Ho G vs Q E (F ss)
def finT (n N : Nat) : SR → FR
  | .nx ρ => if isTb ρ[N - 1]? then .ok (.sh .non) (keepL 0 n ρ) else .no
  | .rt s ρ => if isTb ρ[N - 1]? then .ok (s.tagged none) (keepL 0 n ρ) else .no
  | .ex x ρ => if isTb ρ[N - 1]? then .ex x (keepL 0 n ρ) else .no
  | _ => .no
section
variable {K : PySem.W.Frag} {mg : Str → Option Value} {τ τ' : Tau} {Ho G : Hp} {ρ ρ' : List Sl} {σ σ' : L2.St} {H : Hp} {T : List (Addr × Str)}
end
structure FdT (g : Bool) (P : Program) (w : World) (K : PySem.W.Frag) (mg : Str → Option Value) (base : Heap) (x : Str) (T : List (Addr × Str)) (k n : Nat) (F : FS) : Prop where
  ex : ∃ f fd ps, mg x = some (.ref f) ∧ PySem.W.keepIn K (.ref f) = true ∧ Binds K fd ps [] ∧ FnG g P w K mg base k f fd ps (liftSpT K mg n T F)
section
variable {K : PySem.W.Frag} {mg : Str → Option Value} {τ : Tau} {Ho G : Hp} {ρ2 ss : List Sl} {σ : L2.St} {H : Hp} {vs : List V} {jt : Nat}
end
def gTb (jt : Nat) (u : M (List D)) : M (List D) := bnd u fun ds ρ => if isTb ρ[jt]? then .ok ds ρ else .no
section
variable {Z : DC} {Ho : Hp} {e : Expr} {es : List Expr} {pos p : Pos} {rs : List (Option Nat)} {u : M (List D)} {x : Str} {k n : Nat} {F : FS} {T : List (Addr × Str)}
end
@[simp] theorem x_gTb {jt : Nat} {u : M (List D)} {ρ : List Sl} : gTb jt u ρ = (u ρ).bind fun ds ρ => if isTb ρ[jt]? then .ok ds ρ else .no := rfl
@[simp] theorem x_finT1 {n N : Nat} {ρ : List Sl} : finT n N (.nx ρ) = if isTb ρ[N - 1]? then .ok (.sh .non) (keepL 0 n ρ) else .no := rfl
@[simp] theorem x_finT2 {n N : Nat} {ρ : List Sl} {s : Sl} : finT n N (.rt s ρ) = if isTb ρ[N - 1]? then .ok (s.tagged none) (keepL 0 n ρ) else .no := rfl
@[simp] theorem x_finT3 {n N : Nat} {ρ : List Sl} {x : Exn} : finT n N (.ex x ρ) = if isTb ρ[N - 1]? then .ex x (keepL 0 n ρ) else .no := rfl
end DS
set_option Elab.async false
set_option linter.all false
set_option maxRecDepth 100000
set_option maxHeartbeats 2000000
namespace DS
open PySem PySem.Spec PyProof.Rows L2
mutual
theorem eqv_pur : ∀ d : D, d.pur = true → PyData.eqv d.py d.py = true
  | .non, _ => rfl
  | .bl b, _ => by simp [D.py, PyData.eqv]
  | .int i, _ => by simp [D.py, PyData.eqv]
  | .str x, _ => by simp [D.py, PyData.eqv]
  | .tup ds, h => by rw [D.py, PyData.eqv]; exact eqvL_pur ds (by rw [D.pur] at h; exact h)
  | .lst ds, h => by rw [D.py, PyData.eqv]; exact eqvL_pur ds (by rw [D.pur] at h; exact h)
  | .ty _, h => by rw [D.pur] at h <;> first | cases h | simp
  | .dct _, h => by rw [D.pur] at h <;> first | cases h | simp
  | .obj _ _, h => by rw [D.pur] at h <;> first | cases h | simp
  | .exc _ _, h => by rw [D.pur] at h <;> first | cases h | simp
  | .glo _, h => by rw [D.pur] at h <;> first | cases h | simp
  | .scr _, h => by rw [D.pur] at h <;> first | cases h | simp
  | .hup ds, h => by rw [D.py, PyData.eqv]; exact eqvL_pur ds (by rw [D.pur] at h; exact h)
  | .dcu _, h => by rw [D.pur] at h <;> first | cases h | simp
  | .ol _, h => by rw [D.pur] at h <;> first | cases h | simp
  | .obo _ _, h => by rw [D.pur] at h <;> first | cases h | simp
  | .dcl _, h => by rw [D.pur] at h <;> first | cases h | simp
theorem eqvL_pur : ∀ ds : List D, purL ds = true → PyData.eqvAll (pyL ds) (pyL ds) = true
  | [], _ => rfl
  | d :: ds, h => by
    rw [purL, Bool.and_eq_true] at h
    rw [pyL, PyData.eqvAll, eqv_pur d h.1, eqvL_pur ds h.2]; rfl
end
theorem flat_pur {d : D} (h : d.flat = true) : d.pur = true := by
  unfold D.flat at h
  rw [Bool.and_eq_true] at h
  exact h.1
theorem eqv_self {d : D} (h : d.flat = true) : d.eqv d = true := eqv_pur d (flat_pur h)
theorem ne_self {d : D} (h : d.flat = true) : fNe d d = some (.bl false) := by simp [fNe, h, eqv_self h]
theorem eq_self {d : D} (h : d.flat = true) : fEq d d = some (.bl true) := by simp [fEq, h, eqv_self h]
end DS
set_option Elab.async false
set_option linter.all false
set_option maxRecDepth 100000
set_option maxHeartbeats 2000000
namespace DS
open PySem PySem.Spec PyProof.Rows L2
section
variable {Z : DC} {kws : List Keyword} {pos p : Pos} {c x : Str} {C g0 : Addr} {u w : M (List D)} {k n : Nat} {fd : FuncData} {ps ks : List Str} {F : FS} {arr : List D → List D}
end
structure CdAt (K : PySem.W.Frag) (mg : Str → Option Value) (c : Str) (st : Stmt) (pds : List D) (kds : List (Str × D)) (C g : Addr) (fd : FuncData) : Prop where
  kl : KlAt K mg c C
  mkr : Mk K C g
  fn : FunD K "__init__" (c ++ ".__init__") (defArgs st) (defBody st) (defScope st) (pds.map kV) (kds.map fun q => (q.1, kV q.2)) g fd
  okp : ∀ d ∈ pds, kOk d = true
  okk : ∀ q ∈ kds, kOk q.2 = true
theorem CdAt.funB {K : PySem.W.Frag} {mg : Str → Option Value} {c : Str} {st : Stmt} {pds : List D} {kds : List (Str × D)} {C g : Addr} {fd : FuncData} (A : CdAt K mg c st pds kds C g fd) : ∃ dV, FunB K "__init__" (c ++ ".__init__") st dV g fd := by
  obtain ⟨oc, od, dV, kV, doc, pm, an, cdv, ct, osl, h1, h2, h3, _⟩ := A.fn.ex
  exact ⟨dV, ⟨oc, od, kV, doc, pm, an, cdv, ct, osl, h1, h2, h3⟩, A.fn.kp⟩
structure CtD (P : Program) (w : World) (K : PySem.W.Frag) (mg : Str → Option Value) (base : Heap) (c : Str) (st : Stmt) (ps : List Str) (pds : List D) (kds : List (Str × D)) (k : Nat) (F : FS) : Prop where
  ex : ∃ C g fd, CdAt K mg c st pds kds C g fd ∧ FnG false P w K mg base k g fd ps (liftSp K mg ps.length F)
section
variable {Z : DC} {e : Expr} {es : List Expr} {kws : List Keyword} {pos p : Pos} {c : Str} {u w : M (List D)} {k n : Nat} {ps ks : List Str} {st : Stmt} {F : FS} {pds : List D} {kds : List (Str × D)} {arr : List D → List D}
end
end DS
set_option Elab.async false
set_option linter.all false
set_option maxRecDepth 100000
set_option maxHeartbeats 2000000
namespace DS
open PySem PySem.Spec PyProof.Rows L2
inductive GEs : List (Str × D) → List DictEntry → Prop
  | nil : GEs [] []
  | cons {x : Str} {d : D} {h : Int} {t : Tok} {u : Value} {kvs : List (Str × D)} {es : List DictEntry} : kOk d = true → RelV (kV d) u → GEs kvs es → GEs ((x, d) :: kvs) (⟨h, .str x t, u⟩ :: es)
section
variable {X : Cx} {e f : Expr} {x : Str} {a : Addr} {es : List DictEntry} {n : Nat} {ty tx : TE} {apos cpos p0 : Pos}
end
section
variable {Z : DC} {m1 m2 : Md} {e f : Expr} {t1 t2 : M D} {pos apos p0 : Pos} {x : Str} {kvs : List (Str × D)}
end
def fSplit : D → D → Option D
  | .str a, .str b => if (b.length == 0) = false ∧ a.length + 2 ≤ sizeLine ∧ (Txt.split a b).all PyData.strOk = true then some (.lst ((Txt.split a b).map D.str)) else none
  | _, _ => none
def dSplit (t1 t2 : M D) : M Sl := bnd t1 fun d => match d with
  | .str a => bnd t2 fun e => lft ((fSplit (.str a) e).map fun l => Sl.ow none l)
  | _ => fun _ => .no
section
variable {Z : DC} {m1 m2 : Md} {a b : Expr} {ta tb : M D} {pos apos : Pos}
end
@[simp] theorem x_split (t1 t2 : M D) (ρ : List Sl) : dSplit t1 t2 ρ = (t1 ρ).bind fun d => match d with
  | .str a => bnd t2 fun e => lft ((fSplit (.str a) e).map fun l => Sl.ow none l)
  | _ => fun _ => .no := rfl
def gUl (n : Nat) (gs : List D → List Sl → Option (List Sl)) : D → List Sl → Option (List Sl) := fun d ρ => match d with
  | .lst ds => if ds.length = n then gs ds ρ else none
  | _ => none
section
variable {Z : DC} {es : List Expr} {pos : Pos}
end
@[simp] theorem x_gUl (n : Nat) (gs : List D → List Sl → Option (List Sl)) (ds : List D) (ρ : List Sl) : gUl n gs (.lst ds) ρ = if ds.length = n then gs ds ρ else none := rfl
end DS
set_option Elab.async false
set_option linter.all false
set_option maxRecDepth 100000
set_option maxHeartbeats 2000000
namespace DS
open PySem PySem.Spec PyProof.Rows L2
section
variable {Z : DC} {Ho : Hp} {m1 m2 : Md} {e1 e2 : Expr} {t1 t2 : M D} {pos p tpos : Pos} {elts : List Expr} {kk : Nat}
end
end DS
set_option Elab.async false
set_option linter.all false
set_option maxRecDepth 100000
set_option maxHeartbeats 2000000
namespace DS
open PySem PySem.Spec PyProof.Rows L2
def addI : D → D → Option D
  | .int i, .int j => some (.int (i + j))
  | _, _ => none
def fldS (c f : Str) : Option Sl → Option D
  | some (.ow _ (.obj c' fs)) => if c' = c then fs.lookup f else none
  | _ => none
def sFldA (c f : Str) (i : Nat) (t : M D) : MS := fun ρ => match fldS c f ρ[i]? with
  | some v => (t ρ).andS fun d ρ1 => match addI v d with
    | some z => putR c f ρ1 i z ρ1[i]?
    | none => .no
  | none => .no
section
variable {Z : DC} {Ho : Hp} {m : Md} {e : Expr} {t : M D} {pos pos' px : Pos} {c f : Str} {C : Addr}
end
@[simp] theorem x_fldA (c f : Str) (i : Nat) (t : M D) (ρ : List Sl) : sFldA c f i t ρ = match fldS c f ρ[i]? with
  | some v => (t ρ).andS fun d ρ1 => match addI v d with
    | some z => putR c f ρ1 i z ρ1[i]?
    | none => .no
  | none => .no := rfl
@[simp] theorem x_fldS (c f : Str) (t : Option Nat) (fs : List (Str × D)) : fldS c f (some (.ow t (.obj c fs))) = fs.lookup f := by simp [fldS]
@[simp] theorem x_addI (i j : Int) : addI (.int i) (.int j) = some (.int (i + j)) := rfl
structure MeA (g : Bool) (P : Program) (w : World) (K : PySem.W.Frag) (mg : Str → Option Value) (base : Heap) (c m : Str) (st : Stmt) (ps : List Str) (k : Nat) (F : FS) : Prop where
  ex : ∃ C f fd, MeAt K mg c m st ps C f fd ∧ FnG g P w K mg base k f fd ps (liftSp K mg ps.length F)
theorem MeA.me {g : Bool} {P : Program} {w : World} {K : PySem.W.Frag} {mg : Str → Option Value} {base : Heap} {c m : Str} {st : Stmt} {ps : List Str} {k : Nat} {F : FS} (O : MeA g P w K mg base c m st ps k F) : Me g P w K mg base c m k ps.length F := by
  obtain ⟨C, f, fd, A, G⟩ := O.ex
  exact ⟨C, f, fd, ps, A.kl, A.me, A.bi, G⟩
section
variable {X : Cx} {k : Nat} {f C : Addr} {fd : FuncData} {ps ks : List Str} {sp : Sp} {m : Str} {pos apos : Pos} {o : Expr} {kws : List Keyword} {gg : Bool}
end
def finO (ρ : List Sl) : FR → Res Sl
  | .ok s _ => .ok s ρ
  | .ex x _ => .ex x ρ
  | .no => .no
def isT (c m : Str) : Sl → Bool
  | .ow none (.obj c' fs) => decide (c' = c) && (fs.lookup m).isNone
  | _ => false
def dMethT (F : FS) (c m : Str) (n : Nat) (to : M Sl) (w : M (List D)) : M Sl := bnd to fun s ρ1 => if isT c m s = true then (w ρ1).bind fun es ρ2 => if es.length = n then finO ρ2 (F (s :: es.map Sl.sh)) else .no else .no
section
variable {Z : DC} {o : Expr} {kws : List Keyword} {to : M Sl} {pos apos : Pos} {w : M (List D)} {c m : Str} {ps ks : List Str} {st : Stmt} {k : Nat} {F : FS} {g : Bool} {pl : Sem Bool}
end
def isOw : Sl → Bool
  | .ow none _ => true
  | _ => false
def dCallO (F : FS) (n : Nat) (to : M Sl) (u : M (List D)) : M Sl := bnd to fun s ρ1 => if isOw s = true then (u ρ1).bind fun es ρ2 => if es.length + 1 = n then finO ρ2 (F (s :: es.map Sl.sh)) else .no else .no
@[simp] theorem x_callO (F : FS) (n : Nat) (to : M Sl) (u : M (List D)) (ρ : List Sl) : dCallO F n to u ρ = (to ρ).bind fun s ρ1 => if isOw s = true then (u ρ1).bind fun es ρ2 => if es.length + 1 = n then finO ρ2 (F (s :: es.map Sl.sh)) else .no else .no := rfl
@[simp] theorem x_isOw {d : D} : isOw (.ow none d) = true := rfl
def isOC (c : Str) : Option Sl → Bool
  | some (.ow _ (.obj c' _)) => decide (c' = c)
  | _ => false
def propK (F : FS) (i : Nat) (ρ1 : List Sl) : Res Sl := match mk [some i] [] ρ1 with
  | none => .no
  | some (ss, ρ2) => match F ss with
    | .ok s ss' => if ss'.length = ss.length then .ok s (back [some i] ss' ρ1 ρ2) else .no
    | _ => .no
def dPropR (F : FS) (c : Str) (i : Nat) : M Sl := fun ρ => if isOC c ρ[i]? then propK F i ρ else .no
@[simp] theorem x_propR' (F : FS) (c : Str) (i : Nat) (ρ : List Sl) : dPropR F c i ρ = if isOC c ρ[i]? then propK F i ρ else .no := rfl
@[simp] theorem x_isOC {c : Str} {t : Option Nat} {fs : List (Str × D)} : isOC c (some (.ow t (.obj c fs))) = true := by simp [isOC]
@[simp] theorem x_propK (F : FS) (i : Nat) (ρ : List Sl) : propK F i ρ = match mk [some i] [] ρ with
  | none => .no
  | some (ss, ρ2) => match F ss with
    | .ok s ss' => if ss'.length = ss.length then .ok s (back [some i] ss' ρ ρ2) else .no
    | _ => .no := rfl
@[simp] theorem x_finO1 {s : Sl} {ss ρ : List Sl} : finO ρ (.ok s ss) = .ok s ρ := rfl
@[simp] theorem x_finO2 {x : Exn} {ss ρ : List Sl} : finO ρ (.ex x ss) = .ex x ρ := rfl
@[simp] theorem x_methT (F : FS) (c m : Str) (n : Nat) (to : M Sl) (w : M (List D)) (ρ : List Sl) : dMethT F c m n to w ρ = (to ρ).bind fun s ρ1 => if isT c m s = true then (w ρ1).bind fun es ρ2 => if es.length = n then finO ρ2 (F (s :: es.map Sl.sh)) else .no else .no := rfl
end DS
set_option Elab.async false
set_option linter.all false
set_option maxRecDepth 100000
set_option maxHeartbeats 2000000
namespace DS
open PySem PySem.Spec PyProof.Rows L2
abbrev MGn := List D → List Sl → List D × SR
def LXG (Z : DC) (Ho G : Hp) (r : List D × SR) (E : GEnds) : Prop := match r.2 with
  | .nx ρ => ∀ ys σ G' H, Z.R Ho G' ρ σ H → Gr Ho G G' → RepL Z.X.K Z.X.mg G' r.1 ys → E.nx ys σ H
  | .rt s ρ => ∀ ys v σ G' H, Z.R Ho G' (s :: ρ) (some v :: σ) H → Gr Ho G G' → RepL Z.X.K Z.X.mg G' r.1 ys → E.rt ys v H
  | .bk ρ => ∀ ys σ G' H, Z.R Ho G' ρ σ H → Gr Ho G G' → RepL Z.X.K Z.X.mg G' r.1 ys → E.bk ys σ H
  | .ct ρ => ∀ ys σ G' H, Z.R Ho G' ρ σ H → Gr Ho G G' → RepL Z.X.K Z.X.mg G' r.1 ys → E.ct ys σ H
  | .ex x ρ => Z.Ex x ρ
  | .no => False
theorem LXG.from {Z : DC} {Ho G G1 : Hp} {r : List D × SR} {E : GEnds} (g : Gr Ho G G1) (q : LXG Z Ho G r E) : LXG Z Ho G1 r E := by
  obtain ⟨a, r⟩ := r
  cases r with
  | nx ρ => exact fun ys σ G' H x g' y => q ys σ G' H x (g.trans g') y
  | rt s ρ => exact fun ys v σ G' H x g' y => q ys v σ G' H x (g.trans g') y
  | bk ρ => exact fun ys σ G' H x g' y => q ys σ G' H x (g.trans g') y
  | ct ρ => exact fun ys σ G' H x g' y => q ys σ G' H x (g.trans g') y
  | ex x ρ => exact q
  | no => exact q
def gNil : MGn := fun acc ρ => (acc, .nx ρ)
section
variable {Z : DC} {st : Stmt} {sts : List Stmt} {e : Expr} {m : Md} {p : Bool} {pos yp : Pos} {t u : MGn}
end
end DS
set_option Elab.async false
set_option linter.all false
set_option maxRecDepth 100000
set_option maxHeartbeats 2000000
namespace DS
open PySem PySem.Spec PyProof.Rows L2
inductive GO where
  | ok (ys : List D)
  | ex (x : Exn)
  | no
abbrev FGn := List D → GO
def LGo (K : PySem.W.Frag) (mg : Str → Option Value) (τ : Tau) (Ho G : Hp) (vs : List V) (Q : List V → Hp → Prop) (E : XK) : GO → Prop
  | .ok ys => ∀ us ss G' H, ss.length = vs.length → RS K mg τ Ho G' ss (vs.map some) H → Gr Ho G G' → RepL K mg G' ys us → Q us H
  | .ex x => ∀ cls d ss G' H, ss.length = vs.length → RS K mg τ Ho G' ss (vs.map some) H → Gr Ho G G' → RepX K mg G' x cls d → E cls d H
  | .no => False
def liftG (K : PySem.W.Frag) (mg : Str → Option Value) (n : Nat) (F : FGn) : SpG := fun vs H Q E => vs.length = n ∧ ∃ τ Ho G as, RS K mg τ Ho G (as.map Sl.sh) (vs.map some) H ∧ LGo K mg τ Ho G vs Q E (F as)
end DS
set_option Elab.async false
set_option linter.all false
set_option maxRecDepth 100000
set_option maxHeartbeats 2000000
namespace DS
open PySem PySem.Spec PyProof.Rows L2
section
variable {X : Cx} {k : Nat} {f : Addr} {fd : FuncData} {ps : List Str} {sp : SpG} {x nm : Str} {p p2 pos pos' : Pos} {e : Expr} {es : List Expr} {t : TA}
end
end DS
set_option Elab.async false
set_option linter.all false
set_option maxRecDepth 100000
set_option maxHeartbeats 2000000
namespace DS
open PySem PySem.Spec PyProof.Rows L2
structure Gd (P : Program) (w : World) (K : PySem.W.Frag) (mg : Str → Option Value) (base : Heap) (x : Str) (k n : Nat) (F : FGn) : Prop where
  ex : ∃ f fd ps, mg x = some (.ref f) ∧ PySem.W.keepIn K (.ref f) = true ∧ Binds K fd ps [] ∧ GFn P w K mg base k f fd ps (liftG K mg n F)
section
variable {Z : DC} {e : Expr} {es : List Expr} {pos pos' p p2 : Pos} {u : M (List D)} {x : Str} {k n : Nat} {F : FGn} {L : List Str}
end
end DS
set_option Elab.async false
set_option linter.all false
set_option maxRecDepth 100000
set_option maxHeartbeats 2000000
namespace DS
open PySem PySem.Spec PyProof.Rows L2
def truX : D → Option Bool
  | .non => some false
  | .bl b => some b
  | .int i => some (i != 0)
  | .str y => if y.length ≤ sizeLine then some ((y.length : Int) != 0) else none
  | _ => none
def dOrX (ta tb : M D) : M D := bnd ta fun d => match truX d with
  | some true => ret d
  | some false => tb
  | none => fun _ => .no
section
variable {Z : DC} {m m1 m2 : Md} {a b : Expr} {rest : List Expr} {ta tb : M D} {pos : Pos}
end
@[simp] theorem x_orX {ρ : List Sl} (ta tb : M D) : dOrX ta tb ρ = (ta ρ).bind fun d => match truX d with
  | some true => ret d
  | some false => tb
  | none => fun _ => .no := rfl
@[simp] theorem truX_non : truX .non = some false := rfl
end DS
set_option Elab.async false
set_option linter.all false
set_option maxRecDepth 100000
set_option maxHeartbeats 2000000
namespace DS
open PySem PySem.Spec PyProof.Rows L2
section
variable {Z : DC} {m1 : Md} {a : Expr} {ta : M D} {pos p2 : Pos}
end
end DS
set_option Elab.async false
set_option linter.all false
set_option maxRecDepth 100000
set_option maxHeartbeats 2000000
namespace DS
open PySem PySem.Spec PyProof.Rows L2
section
variable {X : Cx} {CX : CXT} {k : Nat} {C p g : Addr} {mc : Value} {sp : Sp} {E : XK} {o : Expr} {m : Str} {pos apos : Pos} {ta : TE} {pl : Sem Bool}
end
section
variable {Z : DC} {c m : Str} {C pp g0 : Addr} {mc : Value} {k : Nat} {fd : FuncData} {ps : List Str} {F : FS} {pos p1 p2 : Pos}
def dClsM (F : FS) (c : Str) : M Sl := fun ρ => match F [.sh (.glo c)] with
  | .ok s [_] => .ok s ρ
  | _ => .no
end
end DS
namespace DS
open PySem PySem.Spec PyProof.Rows L2
structure CmC (P : Program) (w : World) (K : PySem.W.Frag) (mg : Str → Option Value) (base : Heap) (c m : Str) (k : Nat) (F : FS) : Prop where
  ex : ∃ C mc pp g fd ps, KlAt K mg c C ∧ ClX.CRead K C mc ∧ ClX.CMet K C mc m pp g ∧ Binds K fd ps [] ∧ FnG false P w K mg base k g fd ps (liftSp K mg 1 F)
structure CmCAt (K : PySem.W.Frag) (mg : Str → Option Value) (c m : Str) (st : Stmt) (ps : List Str) (C pp g : Addr) (fd : FuncData) : Prop where
  kl : KlAt K mg c C
  rd : ClX.CRead K C (.type "type")
  cm : ClX.CMet K C (.type "type") m pp g
  fn : Fun K m (c ++ "." ++ m) st g fd
  bi : Binds K fd ps []
@[simp] theorem x_clsM {F : FS} {c : Str} {ρ : List Sl} : dClsM F c ρ = match F [.sh (.glo c)] with
  | .ok s [_] => .ok s ρ
  | _ => .no := rfl
end DS
set_option Elab.async false
set_option linter.all false
set_option maxRecDepth 100000
set_option maxHeartbeats 2000000
namespace DS
open PySem PySem.Spec PyProof.Rows L2
def dMkL (t0 : M D) (c : Str) (t : M Sl) : M Sl := bnd t0 fun d => match d with
  | .glo c' => if c' = c then t else fun _ => .no
  | _ => fun _ => .no
section
variable {Z : DC} {e : Expr} {es : List Expr} {kws : List Keyword} {pos p : Pos} {c x : Str} {C g0 : Addr} {u w : M (List D)} {t0 : M D} {mf : Md} {k n : Nat} {fd : FuncData} {ps ks : List Str} {F : FS} {arr : List D → List D} {st : Stmt} {pds : List D} {kds : List (Str × D)}
end
@[simp] theorem x_mkL {ρ : List Sl} (t0 : M D) (c : Str) (t : M Sl) : dMkL t0 c t ρ = (t0 ρ).bind fun d => match d with
  | .glo c' => if c' = c then t else fun _ => .no
  | _ => fun _ => .no := rfl
end DS
set_option Elab.async false
set_option linter.all false
set_option maxRecDepth 100000
set_option maxHeartbeats 2000000
namespace DS
open PySem PySem.Spec PyProof.Rows L2
def fRevL : D → Option D
  | .lst ds => some (.lst ds.reverse)
  | _ => none
section
variable {Z : DC} {a : Expr} {ta : M D} {m1 : Md} {k : Nat} {p1 p2 p3 pos : Pos}
end
@[simp] theorem x_revL (ds : List D) : fRevL (.lst ds) = some (.lst ds.reverse) := rfl
end DS
set_option Elab.async false
set_option linter.all false
set_option maxRecDepth 100000
set_option maxHeartbeats 2000000
namespace ONe
open PySem PySem.Spec PyProof.Rows PySem.SeqAt
section
variable {M : Model} {prog : Program} {w : World} {A : Around} {E : Value → Shared → Prop} {s : Shared} {K : PySem.W.Frag} {x C f L : Addr} {b tb : Value} {ox : Obj} {od : Option Obj} {h₀ : Heap} {m : Str → Option Value}
end
end ONe
set_option Elab.async false
set_option linter.all false
set_option maxRecDepth 100000
set_option maxHeartbeats 2000000
namespace DS
open PySem PySem.Spec PyProof.Rows L2
structure OEq (K : PySem.W.Frag) (C f : Addr) : Prop where
  eq : PySem.W.findIn K (.ref C) "__eq__" = some (some (.ref f))
  fn : PySem.W.isFn K (.ref f) = true
  ne : PySem.W.findIn K (.ref C) "__ne__" = some (some (.builtin "object.__ne__"))
  ob : PySem.W.mroIn K C (.type "object") = some true
section
variable {X : Cx} {C f : Addr} {fd : FuncData} {ps : List Str} {sp : Sp} {k : Nat}
end
def cmpOR (F : FS) (c : Str) (neg : Bool) (ρ : List Sl) (d e : D) : Res D := match d, e with
  | .obj c1 _, .obj c2 _ => if c1 = c ∧ c2 = c then (match F [.sh d, .sh e] with
    | .ok (.sh (.bl r)) [_, _] => .ok (.bl (if neg then !r else r)) ρ
    | _ => .no) else .no
  | _, _ => .no
def dCmpO (F : FS) (c : Str) (neg : Bool) (ta tb : M D) : M D := bnd ta fun d => bnd tb fun e ρ => cmpOR F c neg ρ d e
section
variable {Z : DC} {m1 m2 : Md} {a b : Expr} {ta tb : M D} {pos : Pos} {c : Str} {C f : Addr} {fd : FuncData} {ps : List Str} {k : Nat} {F : FS} {neg : Bool}
end
structure EqC (P : Program) (w : World) (K : PySem.W.Frag) (mg : Str → Option Value) (base : Heap) (c : Str) (k : Nat) (F : FS) : Prop where
  ex : ∃ C f fd ps, KlAt K mg c C ∧ OEq K C f ∧ Binds K fd ps [] ∧ FnG false P w K mg base k f fd ps (liftSp K mg 2 F)
structure EqCAt (K : PySem.W.Frag) (mg : Str → Option Value) (c : Str) (st : Stmt) (ps : List Str) (C f : Addr) (fd : FuncData) : Prop where
  kl : KlAt K mg c C
  oe : OEq K C f
  fn : Fun K "__eq__" (c ++ ".__eq__") st f fd
  bi : Binds K fd ps []
section
variable {Z : DC} {m1 m2 : Md} {a b : Expr} {ta tb : M D} {pos : Pos} {c : Str} {k : Nat} {F : FS}
end
@[simp] theorem x_cmpO {F : FS} {c : Str} {neg : Bool} {ρ : List Sl} (ta tb : M D) : dCmpO F c neg ta tb ρ = (ta ρ).bind fun d => bnd tb fun e ρ => cmpOR F c neg ρ d e := rfl
end DS
set_option Elab.async false
set_option linter.all false
set_option maxRecDepth 100000
set_option maxHeartbeats 2000000
namespace DS
open PySem PySem.Spec PyProof.Rows L2
structure IsO (K : PySem.W.Frag) (C : Addr) : Prop where
  ok : ∀ (H : Hp) (a dx : Addr) (fs : List (Str × V)), H a = some (.ins C dx fs) → TyOf K H (.ref a) (.ref C)
def fIsO (c : Str) : D → Option D
  | .obj c' _ => if c' = c then some (.bl true) else none
  | _ => none
section
variable {Z : DC} {m : Md} {e : Expr} {t : M D} {cn : Str} {C : Addr} {p p2 pos : Pos}
end
@[simp] theorem x_isO (c : Str) (fs : List (Str × D)) : fIsO c (.obj c fs) = some (.bl true) := by simp [fIsO]
end DS
set_option Elab.async false
set_option linter.all false
set_option maxRecDepth 100000
set_option maxHeartbeats 2000000
namespace DS
open PySem PySem.Spec PyProof.Rows L2
def kOf : D → Option Key
  | .int i => some (.inl i)
  | .str x => some (.inr x)
  | _ => none
theorem kOf_key (k : Key) : kOf (keyD k) = some k := by cases k <;> rfl
def getDk (kvs : List (D × D)) (k : Key) : Option D := (kvs.find? fun kv => decide (kOf kv.1 = some k)).map (·.2)
def putDk (kvs : List (D × D)) (k : Key) (v : D) : List (D × D) :=
  if (kvs.any fun kv => decide (kOf kv.1 = some k)) = true then kvs.map (fun kv => if kOf kv.1 = some k then (kv.1, v) else kv) else kvs ++ [(keyD k, v)]
section
variable {K : PySem.W.Frag} {mg : Str → Option Value} {G : Hp}
theorem RepK.get : ∀ {kvs : List (D × D)} {ws : List (Key × V)} (k : Key), RepK K mg G kvs ws → (getDk kvs k = none ∧ valV ws k = none) ∨ ∃ d v, getDk kvs k = some d ∧ valV ws k = some v ∧ Rep K mg G d v
  | [], ws, k, h => by
    unfold RepK at h; subst h
    exact .inl ⟨rfl, rfl⟩
  | (kd, d) :: r, ws, k, h => by
    unfold RepK at h
    obtain ⟨kk, v, ws', rfl, rfl, h1, h2⟩ := h
    by_cases e : kk = k
    · refine .inr ⟨d, v, ?_, valV_pos e, h1⟩
      simp [getDk, List.find?_cons, kOf_key, e]
    · have g : getDk ((keyD kk, d) :: r) k = getDk r k := by simp [getDk, List.find?_cons, kOf_key, e]
      rw [g, valV_neg e]
      exact RepK.get k h2
theorem RepK.any : ∀ {kvs : List (D × D)} {ws : List (Key × V)} (k : Key), RepK K mg G kvs ws → (kvs.any fun kv => decide (kOf kv.1 = some k)) = (ws.any fun kv => decide (kv.1 = k))
  | [], ws, k, h => by unfold RepK at h; subst h; rfl
  | (kd, d) :: r, ws, k, h => by
    unfold RepK at h
    obtain ⟨kk, v, ws', rfl, rfl, h1, h2⟩ := h
    simp only [List.any_cons, kOf_key, Option.some.injEq, RepK.any k h2]
theorem RepK.put1 {d0 : D} {v0 : V} (h0 : Rep K mg G d0 v0) : ∀ {kvs : List (D × D)} {ws : List (Key × V)} (k : Key), RepK K mg G kvs ws → RepK K mg G (kvs.map (fun kv => if kOf kv.1 = some k then (kv.1, d0) else kv)) (ws.map (fun kv => if kv.1 = k then (kv.1, v0) else kv))
  | [], ws, k, h => by unfold RepK at h; subst h; unfold RepK; rfl
  | (kd, d) :: r, ws, k, h => by
    unfold RepK at h
    obtain ⟨kk, v, ws', rfl, rfl, h1, h2⟩ := h
    have ih := RepK.put1 h0 k h2
    rw [List.map_cons, List.map_cons]
    unfold RepK
    by_cases e : kk = k
    · simp only [kOf_key, e, if_true]
      exact ⟨k, v0, _, rfl, rfl, h0, ih⟩
    · have e' : ¬ kOf (keyD kk) = some k := by rw [kOf_key]; simpa using e
      simp only [if_neg e', if_neg e]
      exact ⟨kk, v, _, rfl, rfl, h1, ih⟩
theorem RepK.app1 {d0 : D} {v0 : V} (h0 : Rep K mg G d0 v0) (k : Key) : ∀ {kvs : List (D × D)} {ws : List (Key × V)}, RepK K mg G kvs ws → RepK K mg G (kvs ++ [(keyD k, d0)]) (ws ++ [(k, v0)])
  | [], ws, h => by
    unfold RepK at h; subst h
    show RepK K mg G [(keyD k, d0)] [(k, v0)]
    unfold RepK
    exact ⟨k, v0, [], rfl, rfl, h0, by unfold RepK; rfl⟩
  | (kd, d) :: r, ws, h => by
    unfold RepK at h
    obtain ⟨kk, v, ws', rfl, rfl, h1, h2⟩ := h
    have ih := RepK.app1 h0 k h2
    rw [List.cons_append, List.cons_append]
    unfold RepK
    exact ⟨kk, v, _, rfl, rfl, h1, ih⟩
theorem RepK.put {d0 : D} {v0 : V} (h0 : Rep K mg G d0 v0) {kvs : List (D × D)} {ws : List (Key × V)} (k : Key) (h : RepK K mg G kvs ws) : RepK K mg G (putDk kvs k d0) (putK ws k v0) := by
  unfold putDk putK
  rw [RepK.any k h]
  split
  · exact RepK.put1 h0 k h
  · exact RepK.app1 h0 k h
theorem kOf_rep {k : D} {kk : Key} {v : V} (e : kOf k = some kk) (h : Rep K mg G k v) : v = L2.kV kk := by
  cases k <;> try (cases e; done)
  · cases e; unfold Rep at h; exact h
  · cases e; unfold Rep at h; exact h.1
end
def isDc : Option Sl → Bool
  | some (.ow _ (.dct _)) => true
  | _ => false
theorem isDc_some {o : Option Sl} (h : isDc o = true) : ∃ t kvs, o = some (.ow t (.dct kvs)) := by
  match o, h with
  | some (.ow t (.dct kvs)), _ => exact ⟨t, kvs, rfl⟩
def setDR (i : Nat) (d k : D) (ρ : List Sl) : Option Sl → SR
  | some (.ow t (.dct kvs)) => match kOf k with
    | some kk => if kvs.length < sizeLine then .nx (ρ.set i (.ow t (.dct (putDk kvs kk d)))) else .no
    | none => .no
  | _ => .no
def sPutD (i : Nat) (tk tv : M D) : MS := fun ρ => if isDc ρ[i]? then (tv ρ).andS fun d ρ1 => if isDc ρ1[i]? then (tk ρ1).andS fun k ρ2 => setDR i d k ρ2 ρ2[i]? else .no else .no
def getDR (z k : D) (ρ : List Sl) : Option Sl → Res D
  | some (.ow _ (.dct kvs)) => match kOf k with
    | some kk => .ok ((getDk kvs kk).getD z) ρ
    | none => .no
  | _ => .no
def dGetD (i : Nat) (tk tx : M D) : M D := fun ρ => if isDc ρ[i]? then (tk ρ).bind fun k ρ1 => (tx ρ1).bind fun z ρ2 => getDR z k ρ2 ρ2[i]? else .no
section
variable {Z : DC} {Ho : Hp} {m1 m2 : Md} {tk tv tx : M D} {ek ev ex : Expr} {pos px pp apos : Pos} {x : Str}
theorem DC.R.ownD {G H : Hp} {ρ : List Sl} {σ : L2.St} (x : Z.R Ho G ρ σ H) {i : Nat} {t : Option Nat} {kvs : List (D × D)} (e : ρ[i]? = some (.ow t (.dct kvs))) : ∃ a ws, σ[i]? = some (some (.ref a)) ∧ H a = some (.dK ws) ∧ RepK Z.X.K Z.X.mg G kvs ws ∧
    ∀ ws' kvs', RepK Z.X.K Z.X.mg G kvs' ws' → Z.R Ho G (ρ.set i (.ow t (.dct kvs'))) σ (upd H a (.dK ws')) := by
  obtain ⟨a, o, h1, h2, h3, h4⟩ := x.mut e
  cases h3 with
  | dct h3 => exact ⟨a, _, h1, h2, h3, fun ws' kvs' r => h4 _ _ (.dct r)⟩
theorem st_putD (i : Nat) (hk : DE Z m1 ek tk) (hv : DE Z m2 ev tv) (hb1 : m1.b = false := by rfl) (hb2 : m2.b = false := by rfl) (hN : Z.X.N[i]? = some x := by rfl) (hvis : Vis Z.X.env.scope x := by first | exact Or.inl rfl | exact Or.inr (Or.inl rfl) | exact Or.inr (Or.inr rfl))
    (hd : (x == ("__debug__" : Str)) = false := by decide) (hcd : (x == ("__classdict__" : Str)) = false := by decide)
    (hs : swapsWith ev (some (.Subscript (.Name x px) ek pp)) pos.line Z.X.env = pure false := by rfl) :
    DSt Z (.Assign [.Subscript (.Name x px) ek pp] ev pos) (sPutD i tk tv) := by
  obtain ⟨tek, pk, sk⟩ := hk
  obtain ⟨tev, pv, sv⟩ := hv
  refine ⟨_, ps_dput (Nat.lt_of_le_of_lt (by omega) Z.units) (pe_var (i := i) hN hvis hd hcd) pk pv hs, fun Ho hw G ρ σ H E x q => ?_⟩
  unfold sPutD at q
  by_cases hi : isDc ρ[i]? = true
  · rw [if_pos hi] at q
    refine sv Ho hw G ρ σ H _ x (DE.thenS q fun d ρ1 v G1 H1 x1 g1 s1 b1 q1 => ?_)
    rw [hb2] at b1
    by_cases hi1 : isDc ρ1[i]? = true
    · rw [if_pos hi1] at q1
      obtain ⟨t0, ds0, e0⟩ := isDc_some hi1
      obtain ⟨l, vs0, z1, z2, _, _⟩ := x1.ownD e0
      refine ⟨.ref l, z1, ?_⟩
      refine sk Ho hw G1 ρ1 σ H1 _ x1 (DE.thenS (q1.from g1) fun k ρ2 kv G2 H2 x2 g2 s2 b2 q2 => ?_)
      rw [hb1] at b2
      cases e1 : ρ2[i]? with
      | none => rw [e1] at q2; exact q2.elim
      | some s =>
        rw [e1] at q2
        cases s <;> try (exact q2.elim)
        rename_i t1 dd
        cases dd <;> try (exact q2.elim)
        rename_i kvs
        obtain ⟨l', ws, z1', z2', z3', z4'⟩ := x2.ownD e1
        rw [z1] at z1'
        cases z1'
        simp only [setDR] at q2
        cases ek' : kOf k with
        | none => rw [ek'] at q2; exact q2.elim
        | some kk =>
          rw [ek'] at q2
          simp only at q2
          by_cases hz : kvs.length < sizeLine
          · rw [if_pos hz] at q2
            have hkv := kOf_rep ek' b2.rep
            subst hkv
            have hl : ws.length < sizeLine := by rw [RepK.length z3']; exact hz
            refine ⟨l, _, rfl, DPut.k (k := kk) z2' hl, ?_⟩
            exact q2 σ G2 _ (z4' _ _ (RepK.put (Rep.mono g2.1 _ _ b1.rep) kk z3')) g2
          · rw [if_neg hz] at q2; exact q2.elim
    · rw [if_neg hi1] at q1; exact q1.elim
  · rw [if_neg hi] at q; exact q.elim
end
@[simp] theorem x_putD {ρ : List Sl} (i : Nat) (tk tv : M D) : sPutD i tk tv ρ = if isDc ρ[i]? then (tv ρ).andS fun d ρ1 => if isDc ρ1[i]? then (tk ρ1).andS fun k ρ2 => setDR i d k ρ2 ρ2[i]? else .no else .no := rfl
@[simp] theorem x_getD {ρ : List Sl} (i : Nat) (tk tx : M D) : dGetD i tk tx ρ = if isDc ρ[i]? then (tk ρ).bind fun k ρ1 => (tx ρ1).bind fun z ρ2 => getDR z k ρ2 ρ2[i]? else .no := rfl
@[simp] theorem x_isDc (t : Option Nat) (kvs : List (D × D)) : isDc (some (.ow t (.dct kvs))) = true := rfl
@[simp] theorem x_kOfS (x : Str) : kOf (.str x) = some (.inr x) := rfl
@[simp] theorem x_kOfI (x : Int) : kOf (.int x) = some (.inl x) := rfl
end DS
set_option Elab.async false
set_option linter.all false
set_option maxRecDepth 100000
set_option maxHeartbeats 2000000
namespace DS
open PySem PySem.Spec PyProof.Rows L2
def kOfL : List D → Option (List Key)
  | [] => some []
  | d :: ds => match kOf d, kOfL ds with
    | some k, some ks => some (k :: ks)
    | _, _ => none
def kOfU : D → Option (List Key)
  | .hup ds => kOfL ds
  | _ => none
theorem kOfL_key : ∀ ks : List Key, kOfL (ks.map keyD) = some ks
  | [] => rfl
  | k :: ks => by simp only [List.map_cons, kOfL, kOf_key, kOfL_key ks]
theorem kOfU_key (ks : List Key) : kOfU (.hup (ks.map keyD)) = some ks := kOfL_key ks
def keyU (ks : List Key) : D := .hup (ks.map keyD)
def getDu (kvs : List (D × D)) (k : List Key) : Option D := (kvs.find? fun kv => decide (kOfU kv.1 = some k)).map (·.2)
def putDu (kvs : List (D × D)) (k : List Key) (v : D) : List (D × D) :=
  if (kvs.any fun kv => decide (kOfU kv.1 = some k)) = true then kvs.map (fun kv => if kOfU kv.1 = some k then (kv.1, v) else kv) else kvs ++ [(keyU k, v)]
section
variable {K : PySem.W.Frag} {mg : Str → Option Value} {G : Hp}
theorem RepU.length : ∀ {ds : List (D × D)} {vs : List (List Key × V)}, RepU K mg G ds vs → vs.length = ds.length
  | [], vs, h => by unfold RepU at h; subst h; rfl
  | (k, d) :: ds, vs, h => by
    unfold RepU at h
    obtain ⟨kk, v, vs', rfl, _, _, h3⟩ := h
    simp [RepU.length h3]
theorem RepU.get : ∀ {kvs : List (D × D)} {ws : List (List Key × V)} (k : List Key), RepU K mg G kvs ws → (getDu kvs k = none ∧ valV ws k = none) ∨ ∃ d v, getDu kvs k = some d ∧ valV ws k = some v ∧ Rep K mg G d v
  | [], ws, k, h => by
    unfold RepU at h; subst h
    exact .inl ⟨rfl, rfl⟩
  | (kd, d) :: r, ws, k, h => by
    unfold RepU at h
    obtain ⟨kk, v, ws', rfl, rfl, h1, h2⟩ := h
    by_cases e : kk = k
    · refine .inr ⟨d, v, ?_, valV_pos e, h1⟩
      simp [getDu, List.find?_cons, kOfU_key, e]
    · have g : getDu ((.hup (kk.map keyD), d) :: r) k = getDu r k := by simp [getDu, List.find?_cons, kOfU_key, e]
      rw [g, valV_neg e]
      exact RepU.get k h2
theorem RepU.any : ∀ {kvs : List (D × D)} {ws : List (List Key × V)} (k : List Key), RepU K mg G kvs ws → (kvs.any fun kv => decide (kOfU kv.1 = some k)) = (ws.any fun kv => decide (kv.1 = k))
  | [], ws, k, h => by unfold RepU at h; subst h; rfl
  | (kd, d) :: r, ws, k, h => by
    unfold RepU at h
    obtain ⟨kk, v, ws', rfl, rfl, h1, h2⟩ := h
    simp only [List.any_cons, kOfU_key, Option.some.injEq, RepU.any k h2]
theorem RepU.put1 {d0 : D} {v0 : V} (h0 : Rep K mg G d0 v0) : ∀ {kvs : List (D × D)} {ws : List (List Key × V)} (k : List Key), RepU K mg G kvs ws → RepU K mg G (kvs.map (fun kv => if kOfU kv.1 = some k then (kv.1, d0) else kv)) (ws.map (fun kv => if kv.1 = k then (kv.1, v0) else kv))
  | [], ws, k, h => by unfold RepU at h; subst h; unfold RepU; rfl
  | (kd, d) :: r, ws, k, h => by
    unfold RepU at h
    obtain ⟨kk, v, ws', rfl, rfl, h1, h2⟩ := h
    have ih := RepU.put1 h0 k h2
    rw [List.map_cons, List.map_cons]
    unfold RepU
    by_cases e : kk = k
    · simp only [kOfU_key, e, if_true]
      exact ⟨k, v0, _, rfl, rfl, h0, ih⟩
    · have e' : ¬ kOfU (.hup (kk.map keyD)) = some k := by rw [kOfU_key]; simpa using e
      simp only [if_neg e', if_neg e]
      exact ⟨kk, v, _, rfl, rfl, h1, ih⟩
theorem RepU.app1 {d0 : D} {v0 : V} (h0 : Rep K mg G d0 v0) (k : List Key) : ∀ {kvs : List (D × D)} {ws : List (List Key × V)}, RepU K mg G kvs ws → RepU K mg G (kvs ++ [(keyU k, d0)]) (ws ++ [(k, v0)])
  | [], ws, h => by
    unfold RepU at h; subst h
    show RepU K mg G [(keyU k, d0)] [(k, v0)]
    unfold RepU
    exact ⟨k, v0, [], rfl, rfl, h0, by unfold RepU; rfl⟩
  | (kd, d) :: r, ws, h => by
    unfold RepU at h
    obtain ⟨kk, v, ws', rfl, rfl, h1, h2⟩ := h
    have ih := RepU.app1 h0 k h2
    rw [List.cons_append, List.cons_append]
    unfold RepU
    exact ⟨kk, v, _, rfl, rfl, h1, ih⟩
theorem RepU.put {d0 : D} {v0 : V} (h0 : Rep K mg G d0 v0) {kvs : List (D × D)} {ws : List (List Key × V)} (k : List Key) (h : RepU K mg G kvs ws) : RepU K mg G (putDu kvs k d0) (putK ws k v0) := by
  unfold putDu putK
  rw [RepU.any k h]
  split
  · exact RepU.put1 h0 k h
  · exact RepU.app1 h0 k h
theorem RS.adopt {τ : Tau} {Ho : Hp} {ρ : List Sl} {σ : L2.St} {H : Hp} {p : Addr} {o o' : HO} (x : RS K mg τ (upd Ho p o) G ρ σ H) (gp : G p = none) (hp : Ho p = none) {d : D} (r : TopOk K mg G E0 d o') :
    RS K mg τ Ho G (.ow none d :: ρ) (some (.ref p) :: σ) (upd H p o') := by
  obtain ⟨O, x, kt⟩ := x.pruned
  have on : O p = none := by
    cases e : O p with
    | none => rfl
    | some i =>
      have := x.ho e (kt p i e)
      rw [upd_same] at this; cases this
  refine ⟨fun a => if a = p then some 0 else shO O a, fun b u e => ?_, fun a i e => ?_, fun b u e => ?_, by simp [x.len], fun i s e => ?_⟩
  · have q : b ≠ p := fun z => by rw [z, gp] at e; cases e
    rw [upd_ne q]
    exact x.gh b u e
  · by_cases q : a = p
    · subst q; rw [upd_same]; exact ⟨gp, cl_none hp, by simp⟩
    · simp only [if_neg q] at e
      cases i with
      | zero => exact absurd e shO_zero
      | succ i =>
        obtain ⟨z1, z2, z3⟩ := x.oh a i (shO_some.mp e)
        exact ⟨z1, by rw [cl_eq (upd_ne q)] at z2; exact z2, by rw [upd_ne q]; exact z3⟩
  · have q : b ≠ p := fun z => by rw [z, hp] at e; cases e
    rw [upd_ne q]
    exact x.out b u (by rw [upd_ne q]; exact e)
  · cases i with
    | zero =>
      simp at e; subst e
      refine ⟨p, o', rfl, (fun _ q => nomatch q), ?_, r.mono2 (Same.refl _) same_E0⟩
      unfold own
      rw [if_pos (if_pos rfl), upd_same]
    | succ i =>
      have z : own (fun a => if a = p then some 0 else shO O a) (i + 1) (upd H p o') = own O i H := by
        funext a
        unfold own
        by_cases q : a = p
        · subst q; simp [on]
        · simp only [if_neg q, upd_ne q]
          by_cases q2 : O a = some i
          · rw [if_pos q2, if_pos (shO_some.mpr q2)]
          · rw [if_neg q2, if_neg fun z => q2 (shO_some.mp z)]
      rw [z]
      simpa using x.sl i s (by simpa using e)
end
theorem DC.R.adopt {Z : DC} {Ho G : Hp} {ρ : List Sl} {σ : L2.St} {H : Hp} {p : Addr} {o o' : HO} (x : Z.R (upd Ho p o) G ρ σ H) (gp : G p = none) (hp : Ho p = none) (hw : Same Z.Ho Ho) {d : D} (r : TopOk Z.X.K Z.X.mg G E0 d o') :
    Z.R Ho G (.ow none d :: ρ) (some (.ref p) :: σ) (upd H p o') := ⟨RS.adopt x.rs gp hp r, hw, x.g0⟩
def dTupH (u : M (List D)) : M D := bnd u fun ds => lft (if ds.length ≤ sizeLine then some (.hup ds) else none)
def dDisp1 (tk tv : M D) : M Sl := bnd tk fun k => bnd tv fun v => lft ((kOfU k).map fun kk => Sl.ow none (.dcu [(keyU kk, v)]))
def isDu : Option Sl → Bool
  | some (.ow _ (.dcu _)) => true
  | _ => false
def setUR (i : Nat) (d k : D) (ρ : List Sl) : Option Sl → SR
  | some (.ow t (.dcu kvs)) => match kOfU k with
    | some kk => if kvs.length < sizeLine then .nx (ρ.set i (.ow t (.dcu (putDu kvs kk d)))) else .no
    | none => .no
  | _ => .no
def sPutU (i : Nat) (tk tv : M D) : MS := fun ρ => (tv ρ).andS fun d ρ1 => if isDu ρ1[i]? then (tk ρ1).andS fun k ρ2 => setUR i d k ρ2 ρ2[i]? else .no
def getUR (k : D) (ρ : List Sl) : Option Sl → Res D
  | some (.ow _ (.dcu kvs)) => match kOfU k with
    | some kk => match getDu kvs kk with
      | some d => .ok d ρ
      | none => .no
    | none => .no
  | _ => .no
def dGetU (i : Nat) (tk : M D) : M D := fun ρ => if isDu ρ[i]? then (tk ρ).bind fun k ρ1 => getUR k ρ1 ρ1[i]? else .no
def ninUR (k : D) (ρ : List Sl) : Option Sl → Res Bool
  | some (.ow _ (.dcu kvs)) => match kOfU k with
    | some kk => .ok (!(getDu kvs kk).isSome) ρ
    | none => .no
  | _ => .no
def tNinU (i : Nat) (tk : M D) : M Bool := fun ρ => (tk ρ).bind fun k ρ1 => ninUR k ρ1 ρ1[i]?
section
variable {Z : DC} {Ho : Hp} {m1 m2 : Md} {tk tv : M D} {ek ev : Expr} {pos px pp : Pos} {x : Str}
end
@[simp] theorem x_tupH (u : M (List D)) (ρ : List Sl) : dTupH u ρ = (u ρ).bind fun ds => lft (if ds.length ≤ sizeLine then some (.hup ds) else none) := rfl
@[simp] theorem x_disp1 (tk tv : M D) (ρ : List Sl) : dDisp1 tk tv ρ = (tk ρ).bind fun k => bnd tv fun v => lft ((kOfU k).map fun kk => Sl.ow none (.dcu [(keyU kk, v)])) := rfl
@[simp] theorem x_putU {ρ : List Sl} (i : Nat) (tk tv : M D) : sPutU i tk tv ρ = (tv ρ).andS fun d ρ1 => if isDu ρ1[i]? then (tk ρ1).andS fun k ρ2 => setUR i d k ρ2 ρ2[i]? else .no := rfl
@[simp] theorem x_getU {ρ : List Sl} (i : Nat) (tk : M D) : dGetU i tk ρ = if isDu ρ[i]? then (tk ρ).bind fun k ρ1 => getUR k ρ1 ρ1[i]? else .no := rfl
@[simp] theorem x_ninU {ρ : List Sl} (i : Nat) (tk : M D) : tNinU i tk ρ = (tk ρ).bind fun k ρ1 => ninUR k ρ1 ρ1[i]? := rfl
@[simp] theorem x_isDu (t : Option Nat) (kvs : List (D × D)) : isDu (some (.ow t (.dcu kvs))) = true := rfl
@[simp] theorem x_kOfU (ds : List D) : kOfU (.hup ds) = kOfL ds := rfl
@[simp] theorem x_kOfL0 : kOfL [] = some [] := rfl
@[simp] theorem x_ixH (ds : List D) (i : Int) : fIx (.hup ds) (.int i) = atI ds i := rfl
end DS
set_option Elab.async false
set_option linter.all false
set_option maxRecDepth 100000
set_option maxHeartbeats 2000000
namespace DS
open PySem PySem.Spec PyProof.Rows L2
section
variable {K : PySem.W.Frag} {mg : Str → Option Value} {τ : Tau} {Ho G : Hp} {ρ : List Sl} {σ : L2.St} {H : Hp}
end
def dPairO (i : Nat) (s : Str) : M Sl := fun ρ => match ρ[i]? with
  | some (.ow _ (.lst ds)) => .ok (.op s ds) (ρ.set i .no)
  | _ => .no
section
variable {Z : DC} {Ho : Hp} {pos px p1 p2 p3 apos pos' : Pos} {x s : Str} {j k : Nat}
end
@[simp] theorem x_pairO (i : Nat) (s : Str) (t : Option Nat) (ds : List D) (ρ : List Sl) (h : ρ[i]? = some (.ow t (.lst ds))) : dPairO i s ρ = .ok (.op s ds) (ρ.set i .no) := by unfold dPairO; rw [h]
end DS
set_option Elab.async false
set_option linter.all false
set_option maxRecDepth 100000
set_option maxHeartbeats 2000000
namespace DS
open PySem PySem.Spec PyProof.Rows L2
def rDG : R2 := fun x y H Q => ∃ a v, x = .ref a ∧ DGet H a y (some v) ∧ Q v H
def fDg : D → D → Option D := fun d k => match d with
  | .dct kvs => match kOf k with
    | some kk => getDk kvs kk
    | none => none
  | _ => none
section
variable {Z : DC} {m1 m2 : Md} {a b : Expr} {ta tb : M D} {pos apos : Pos}
theorem opd_dg : OpD Z rDG fDg := by
  refine ⟨?_⟩
  intro Ho G ρ σ H d e z x y Q hR hx hy hf hq
  cases d <;> try (cases hf; done)
  rename_i kvs
  unfold fDg at hf
  cases ek : kOf e with
  | none => simp only [ek] at hf; cases hf
  | some kk =>
    simp only [ek] at hf
    obtain ⟨p, ws, rfl, h1, h2⟩ := hx.dct hR.gh
    have hy' : y = L2.kV kk := kOf_rep ek (hy.inH hR.gh)
    subst hy'
    rcases RepK.get kk h2 with ⟨n, _⟩ | ⟨d1, v, g1, g2, g3⟩
    · rw [n] at hf; cases hf
    · rw [g1] at hf; cases hf
      refine ⟨p, v, rfl, ?_, hq _ _ _ hR Gr.refl (Same.refl _) g3⟩
      rw [← g2]
      exact DGet.k h1
theorem de_dget (ha : DE Z m1 a ta) (hb : DE Z m2 b tb) (hm : (!m1.b || m2.p) = true := by rfl) (hs : NoSl b := by exact fun _ _ => rfl) : DE Z ⟨m1.p && m2.p, false⟩ (.Subscript a b pos) (d2 fDg ta tb) := by
  obtain ⟨tea, pa, sa⟩ := ha
  obtain ⟨teb, pb, sb⟩ := hb
  exact ⟨_, pe_dget (Nat.lt_of_le_of_lt (by omega) Z.units) pa pb hs, fun Ho hw G ρ σ H Q x q => op2 opd_dg sa sb hm hw x q⟩
end
def dispK (acc : List (D × D)) : List (D × D) → Option (List (D × D))
  | [] => some acc
  | (x, y) :: r => match kOf x with
    | some k => dispK (putDk acc k y) r
    | none => none
theorem dispK_rep {K : PySem.W.Frag} {mg : Str → Option Value} {G : Hp} : ∀ (ps : List (D × D)) (vs : List (V × V)) (acc : List (D × D)) (bcc : List (Key × V)) (kvs : List (D × D)),
    vs.length = ps.length → (∀ (i : Nat) (p : D × D) (v : V × V), ps[i]? = some p → vs[i]? = some v → Rep K mg G p.1 v.1 ∧ Rep K mg G p.2 v.2) → RepK K mg G acc bcc → dispK acc ps = some kvs →
    ∃ rs : List (Key × V), vs = rs.map (fun kv => (L2.kV kv.1, kv.2)) ∧ RepK K mg G kvs (mergeK bcc rs)
  | [], vs, acc, bcc, kvs, hl, hr, hp, h => by
    have : vs = [] := List.length_eq_zero_iff.mp hl
    subst this
    simp only [dispK, Option.some.injEq] at h
    subst h
    exact ⟨[], rfl, hp⟩
  | (x, y) :: ps, [], acc, bcc, kvs, hl, hr, hp, h => by simp at hl
  | (x, y) :: ps, (u, v) :: vs, acc, bcc, kvs, hl, hr, hp, h => by
    unfold dispK at h
    cases ek : kOf x with
    | none => rw [ek] at h; cases h
    | some k =>
      rw [ek] at h
      obtain ⟨r1, r2⟩ := hr 0 (x, y) (u, v) rfl rfl
      have eu : u = L2.kV k := kOf_rep ek r1
      obtain ⟨rs, e1, e2⟩ := dispK_rep ps vs _ _ kvs (by simpa using hl) (fun i p w hp hw => hr (i + 1) p w (by simpa using hp) (by simpa using hw)) (RepK.put r2 k hp) h
      exact ⟨(k, v) :: rs, by rw [List.map_cons, ← e1, eu], e2⟩
def dDispK (trs : List (M D × M D)) : M Sl := bnd (dPairs trs) fun ps => match dispK [] ps with
  | some kvs => if ps.length ≤ 15 then ret (.ow none (.dct kvs)) else fun _ => .no
  | none => fun _ => .no
section
variable {Z : DC} {ks : List (Option Expr)} {vs : List Expr} {dp : Pos}
theorem dr_dispK {r : List (M D × M D)} (h : DPs Z dp ks vs (dPairs r)) (hall : ks.all (·.isSome) = true := by rfl) (hl : ks.length = vs.length := by rfl) (h0 : ks ≠ [] := by exact fun h => nomatch h) (h15 : ks.length ≤ 15 := by exact Nat.le_of_ble_eq_true rfl) :
    DR Z (.Dict ks vs dp) (dDispK r) := by
  obtain ⟨trs, pp, sp⟩ := h
  refine ⟨_, pe_disp pp hall hl h0 h15, fun Ho hw G ρ σ H Q x q => ?_⟩
  intro p hp
  have ho := x.freeHo hp
  have gp := x.freeG hp
  have x0 := x.outer (o := .dK []) hp
  have sm : Same Ho (upd Ho p (.dK [])) := same_upd ho
  refine sp _ (hw.trans sm) G ρ σ _ _ x0 (LPs.then (L := fun r => LR Z Ho G σ r Q) (fun _ _ h => h) (fun h => h) q fun ps ρ1 ws G1 H1 x1 g1 hlen hrep q1 => ?_)
  have gp1 : G1 p = none := by rw [g1.2 p _ (cl_at upd_same (fun ⟨_, e⟩ => nomatch e))]; exact gp
  cases ed : dispK [] ps with
  | none => rw [ed] at q1; exact q1.elim
  | some kvs =>
    simp only [ed] at q1
    by_cases h15' : ps.length ≤ 15
    · rw [if_pos h15'] at q1
      refine ⟨x1.out p _ upd_same, ?_⟩
      obtain ⟨rs, e1, e2⟩ := dispK_rep (K := Z.X.K) (mg := Z.X.mg) (G := G1) ps ws [] [] kvs hlen hrep (by unfold RepK; rfl) ed
      refine ⟨rs, e1, by rw [show rs.length = ps.length from by rw [← hlen, e1, List.length_map]]; exact h15', ?_⟩
      exact q1 _ G1 _ (x1.adopt gp1 ho hw (.dct e2)) (g1.anti sm)
    · rw [if_neg h15'] at q1; exact q1.elim
end
@[simp] theorem x_dispK (trs : List (M D × M D)) (ρ : List Sl) : dDispK trs ρ = (dPairs trs ρ).bind fun ps => match dispK [] ps with
  | some kvs => if ps.length ≤ 15 then ret (.ow none (.dct kvs)) else fun _ => .no
  | none => fun _ => .no := rfl
def idxS (x y : Str) : Option Nat := (Builtin.Str.occurrences x y 0 x.length 1).head?
def dIdxS (ta tb : M D) : M D := bnd ta fun d => match d with
  | .str x => bnd tb fun e => lft (match e with
    | .str y => (idxS x y).map fun k => .int (k : Nat)
    | _ => none)
  | _ => fun _ => .no
section
variable {Z : DC} {m1 m2 : Md} {a b : Expr} {ta tb : M D} {pos apos : Pos}
end
@[simp] theorem x_dIdxS (ta tb : M D) (ρ : List Sl) : dIdxS ta tb ρ = (ta ρ).bind fun d => match d with
  | .str x => bnd tb fun e => lft (match e with
    | .str y => (idxS x y).map fun k => .int (k : Nat)
    | _ => none)
  | _ => fun _ => .no := rfl
end DS
set_option Elab.async false
set_option linter.all false
set_option maxRecDepth 100000
set_option maxHeartbeats 2000000
namespace DS
open PySem PySem.Spec PyProof.Rows L2
def noEx : SR → SR
  | .ex _ _ => .no
  | r => r
def tryO (su : MS) (x : Exn) (ρ1 : List Sl) : Option Bool → SR
  | some true => noEx (su ρ1)
  | some false => .ex x ρ1
  | none => .no
def sTryO (tab : Str → Option Bool) (b su : MS) : MS := fun ρ => match b ρ with
  | .ex x ρ1 => tryO su x ρ1 (tab x.cls)
  | r => r
section
variable {Z : DC} {x : Str} {c : Value} {body suite : List Stmt} {b0 : Stmt} {np pos pos' : Pos} {b su : MS}
end
section
variable {tab : Str → Option Bool} {b su : MS} {ρ ρ1 : List Sl} {x : Exn} {s : Sl}
def tryOF (tab : Str → Option Bool) (su : MS) : SR → SR
  | .ex x ρ1 => tryO su x ρ1 (tab x.cls)
  | r => r
@[simp] theorem x_sTryO : sTryO tab b su ρ = tryOF tab su (b ρ) := by unfold sTryO tryOF; cases b ρ <;> rfl
@[simp] theorem x_toN : tryOF tab su (.nx ρ) = .nx ρ := rfl
@[simp] theorem x_toR : tryOF tab su (.rt s ρ) = .rt s ρ := rfl
@[simp] theorem x_toX : tryOF tab su (.ex x ρ1) = tryO su x ρ1 (tab x.cls) := rfl
@[simp] theorem x_toT : tryO su x ρ1 (some true) = noEx (su ρ1) := rfl
@[simp] theorem x_toF : tryO su x ρ1 (some false) = .ex x ρ1 := rfl
@[simp] theorem x_neN : noEx (.nx ρ) = .nx ρ := rfl
@[simp] theorem x_neR : noEx (.rt s ρ) = .rt s ρ := rfl
end
end DS
set_option Elab.async false
set_option linter.all false
set_option maxRecDepth 100000
set_option maxHeartbeats 2000000
namespace DS
open PySem PySem.Spec PyProof.Rows L2
def dcRun (g : D → List Sl → Option (List Sl)) (tt : M Bool) (tk tv : M D) (own : List Nat) : List D → List (D × D) → List Sl → Option (List (D × D) × List Sl)
  | [], acc, ρ => some (acc, ρ)
  | d :: ds, acc, ρ => match g d ρ with
    | none => none
    | some ρ1 => match tt ρ1 with
      | .ok true ρ2 => match tk ρ2 with
        | .ok k ρ3 => match tv ρ3 with
          | .ok y ρ4 => match kOf k with
            | some kk => if acc.length < sizeLine then dcRun g tt tk tv own ds (putDk acc kk y) (drops own ρ4) else none
            | none => none
          | _ => none
        | _ => none
      | .ok false ρ2 => dcRun g tt tk tv own ds acc (drops own ρ2)
      | _ => none
def dDc (t : M (List D)) (g : D → List Sl → Option (List Sl)) (tt : M Bool) (tk tv : M D) (own : List Nat) : M Sl := bnd t fun ds ρ1 => match dcRun g tt tk tv own ds [] (drops own ρ1) with
  | some (acc, ρe) => .ok (.ow none (.dct acc)) (mend own ρ1 ρe)
  | none => .no
section
variable {Z : DC} {Ho : Hp} {pos : Pos}
theorem dc_sem {own : List (Str × Nat)} {t : M (List D)} {g : D → List Sl → Option (List Sl)} {tt : M Bool} {tk tv : M D} {wi : TI} {tgt : TG} {ttt : TT} {tke tve : TE}
    (si : ∀ Ho, Same Z.Ho Ho → ∀ G ρ σ H Q, Z.R Ho G ρ σ H → LI Z Ho G σ (t ρ) Q → wi σ H Q)
    (sg : ∀ Ho G ρ σ H v d Q, Z.R Ho G ρ σ H → Z.rep G d v → (∃ ρ', g d ρ = some ρ' ∧ ∀ σ', Z.R Ho G ρ' σ' H → wipe σ' (own.map (·.2)) = wipe σ (own.map (·.2)) → Q σ' H) → tgt v σ H Q)
    (st : ∀ Ho, Same Z.Ho Ho → ∀ G ρ σ H Q, Z.R Ho G ρ σ H → (∃ c ρ', tt ρ = .ok c ρ' ∧ ∀ G' H', Z.R Ho G' ρ' σ H' → Gr Ho G G' → Q c H') → ttt σ H Q)
    (sk : ∀ Ho, Same Z.Ho Ho → ∀ G ρ σ H Q, Z.R Ho G ρ σ H → (∃ d ρ', tk ρ = .ok d ρ' ∧ ∀ v G' H', Z.R Ho G' ρ' σ H' → Gr Ho G G' → Z.rep G' d v → Q v H') → tke σ H Q)
    (sv : ∀ Ho, Same Z.Ho Ho → ∀ G ρ σ H Q, Z.R Ho G ρ σ H → (∃ d ρ', tv ρ = .ok d ρ' ∧ ∀ v G' H', Z.R Ho G' ρ' σ H' → Gr Ho G G' → Z.rep G' d v → Q v H') → tve σ H Q)
    (hw : Same Z.Ho Ho) {G : Hp} {ρ : List Sl} {σ : L2.St} {H : Hp} {Q : VK} (x : Z.R Ho G ρ σ H) (q : LR Z Ho G σ (dDc t g tt tk tv (own.map (·.2)) ρ) Q) : tDc wi tgt ttt tke tve (own.map (·.2)) σ H Q := by
  refine si Ho hw G ρ σ H _ x (LI.then (L := fun r => LR Z Ho G σ r Q) (fun _ _ h => h) (fun h => h) q fun ds ρ1 J G1 H1 x1 g1 it q1 => ?_)
  obtain ⟨vs, hvs⟩ : ∃ vs, vs = own.map (·.2) := ⟨_, rfl⟩
  rw [← hvs] at q1 sg ⊢
  intro Da hD
  have x2 : Z.R Ho G1 (.ow none (.dct []) :: drops vs ρ1) (some (.ref Da) :: wipe σ vs) (upd H1 Da (.dK [])) := x1.to ((x1.pushO (.dct (by unfold RepK; rfl)) hD).rs.wiped vs) Gr.refl
  cases er : dcRun g tt tk tv vs ds [] (drops vs ρ1) with
  | none => rw [er] at q1; exact q1.elim
  | some ae =>
    obtain ⟨accE, ρE⟩ := ae
    rw [er] at q1
    refine ⟨fun i m H => m = ds.length - i ∧ i ≤ ds.length ∧ ∃ G' ρ' acc, Z.R Ho G' (.ow none (.dct acc) :: ρ') (some (.ref Da) :: wipe σ vs) H ∧ Gr Ho G1 G' ∧ dcRun g tt tk tv vs (ds.drop i) acc ρ' = some (accE, ρE), ⟨ds.length, by simp, Nat.zero_le _, G1, _, [], x2, Gr.refl, er⟩, ?_⟩
    rintro i m H2 ⟨rfl, hi, G2, ρ2, acc, x3, g2, e2⟩
    by_cases hlt : i < ds.length
    · refine .inr ⟨it.go i H2 hlt (g2.1.trans x3.gh), fun H' => ∃ G' ρ' acc, Z.R Ho G' (.ow none (.dct acc) :: ρ') (some (.ref Da) :: wipe σ vs) H' ∧ Gr Ho G1 G' ∧ dcRun g tt tk tv vs (ds.drop (i + 1)) acc ρ' = some (accE, ρE), fun H' h => ⟨ds.length - (i + 1), by omega, rfl, hlt, h⟩, fun v H' y => ?_⟩
      have hd : ds[i]? = some ds[i] := by simp [hlt]
      rw [List.drop_eq_getElem_cons hlt] at e2
      obtain ⟨G3, x4, g3, r3⟩ := it.yld i _ G2 _ _ H2 v H' hd x3 g2.1 y
      unfold dcRun at e2
      cases eg : g ds[i] ρ2 with
      | none => rw [eg] at e2; cases e2
      | some ρ3 =>
        rw [eg] at e2
        obtain ⟨Ho', hh, x5, bk⟩ := x4.lend
        refine sg Ho' G3 ρ2 _ H' v _ _ x5 r3 ⟨ρ3, eg, fun σ3 x6 w6 => ⟨?_, ?_⟩⟩
        · rw [w6, wipe_wipe]
        · simp only at e2
          cases et : tt ρ3 with
          | ex y ρ4 => rw [et] at e2; cases e2
          | no => rw [et] at e2; cases e2
          | ok c ρ4 =>
            rw [et] at e2
            refine st Ho' (hw.trans hh) G3 ρ3 σ3 H' _ x6 ⟨c, ρ4, et, fun G4 H4 x7 g4 => ?_⟩
            cases c with
            | false =>
              rw [if_neg Bool.false_ne_true]
              have x8 := bk G4 ρ4 σ3 H4 g4 x7
              have x9 := x8.rs.wiped vs
              rw [w6, wipe_wipe] at x9
              exact ⟨G4, drops vs ρ4, acc, x8.to x9 Gr.refl, (g2.trans g3).trans (g4.anti hh), e2⟩
            | true =>
              rw [if_pos rfl]
              simp only at e2
              cases ek : tk ρ4 with
              | ex y ρ5 => rw [ek] at e2; cases e2
              | no => rw [ek] at e2; cases e2
              | ok k ρ5 =>
                rw [ek] at e2
                simp only at e2
                refine sk Ho' (hw.trans hh) G4 ρ4 σ3 H4 _ x7 ⟨k, ρ5, ek, fun vk G5 H5 x8 g5 r5 => ?_⟩
                cases ev : tv ρ5 with
                | ex y ρ6 => rw [ev] at e2; cases e2
                | no => rw [ev] at e2; cases e2
                | ok d ρ6 =>
                  rw [ev] at e2
                  simp only at e2
                  refine sv Ho' (hw.trans hh) G5 ρ5 σ3 H5 _ x8 ⟨d, ρ6, ev, fun v5 G6 H6 x9 g6 r6 => ?_⟩
                  cases eo : kOf k with
                  | none => rw [eo] at e2; cases e2
                  | some kk =>
                    rw [eo] at e2
                    simp only at e2
                    by_cases hz : acc.length < sizeLine
                    · rw [if_pos hz] at e2
                      have hk := kOf_rep eo r5
                      have x10 := bk G6 ρ6 σ3 H6 ((g4.trans g5).trans g6) x9
                      obtain ⟨a, ws, h1, h2, h3, h4⟩ := x10.ownD (i := 0) rfl
                      simp only [List.getElem?_cons_zero, Option.some.injEq, V.ref.injEq] at h1
                      subst h1
                      refine ⟨ws, kk, hk, h2, by rw [RepK.length h3]; exact hz, ?_⟩
                      have x11 := h4 _ _ (RepK.put r6 kk h3)
                      simp only [List.set_cons_zero] at x11
                      have x12 := x11.rs.wiped vs
                      rw [w6, wipe_wipe] at x12
                      exact ⟨G6, drops vs ρ6, _, x11.to x12 Gr.refl, (g2.trans g3).trans (((g4.trans g5).trans g6).anti hh), e2⟩
                    · rw [if_neg hz] at e2; cases e2
    · have e : i = ds.length := by omega
      subst e
      refine .inl ⟨it.stop H2 (g2.1.trans x3.gh), ?_⟩
      rw [List.drop_length] at e2
      cases e2
      exact q1 _ G2 H2 (x3.to (x1.rs.mended g2.1 x3.rs) Gr.refl) (g1.trans g2)
end
@[simp] theorem x_dDc {ρ : List Sl} (t : M (List D)) (g : D → List Sl → Option (List Sl)) (tt : M Bool) (tk tv : M D) (own : List Nat) : dDc t g tt tk tv own ρ = (t ρ).bind fun ds ρ1 => match dcRun g tt tk tv own ds [] (drops own ρ1) with
  | some (acc, ρe) => .ok (.ow none (.dct acc)) (mend own ρ1 ρe)
  | none => .no := rfl
def flatK (kvs : List (D × D)) : Bool := kvs.all fun p => p.2.flat
def eqK (kd ld : List (D × D)) : Bool := (kd.length == ld.length) && kd.all fun p => match kOf p.1 with
  | some k => match getDk ld k with
    | some e => p.2.eqv e
    | none => false
  | none => false
section
variable {K : PySem.W.Frag} {mg : Str → Option Value}
end
section
variable {X : Cx}
end
def fEqK (neg : Bool) : D → D → Option D := fun d e => match d, e with
  | .dct kd, .dct ld => if flatK kd && flatK ld then some (.bl (if neg then !(eqK kd ld) else eqK kd ld)) else none
  | _, _ => none
section
variable {Z : DC} {m1 m2 : Md} {a b : Expr} {ta tb : M D} {pos : Pos}
end
end DS
set_option Elab.async false
set_option linter.all false
set_option maxRecDepth 100000
set_option maxHeartbeats 2000000
namespace OLen
open PySem PySem.Spec PyProof.Rows L2
section
variable {M : Model} {prog : Program} {w : World} {A : Around} {E : Value → Shared → Prop} {s : Shared} {K : PySem.W.Frag} {x C f : Addr} {ox : Obj} {od : Option Obj}
end
end OLen
namespace DS
open PySem PySem.Spec PyProof.Rows L2
section
variable {X : Cx} {C f : Addr} {fd : FuncData} {ps : List Str} {sp : Sp} {k : Nat}
end
structure LnC (P : Program) (w : World) (K : PySem.W.Frag) (mg : Str → Option Value) (base : Heap) (c : Str) (k : Nat) (F : FS) : Prop where
  ex : ∃ C f fd ps, KlAt K mg c C ∧ PySem.W.findIn K (.ref C) "__len__" = some (some (.ref f)) ∧ PySem.W.isFn K (.ref f) = true ∧ Binds K fd ps [] ∧ FnG false P w K mg base k f fd ps (liftSp K mg 1 F)
structure LnCAt (K : PySem.W.Frag) (mg : Str → Option Value) (c : Str) (st : Stmt) (ps : List Str) (C f : Addr) (fd : FuncData) : Prop where
  kl : KlAt K mg c C
  ln : PySem.W.findIn K (.ref C) "__len__" = some (some (.ref f))
  fo : PySem.W.isFn K (.ref f) = true
  fn : Fun K "__len__" (c ++ ".__len__") st f fd
  bi : Binds K fd ps []
def lenOR (F : FS) (c : Str) (ρ : List Sl) (d : D) : Res D := match d with
  | .obj c1 _ => if c1 = c then (match F [.sh d] with
    | .ok (.sh (.int n)) [_] => if 0 ≤ n ∧ n < 2 ^ 63 then .ok (.int n) ρ else .no
    | _ => .no) else .no
  | _ => .no
def dLenO (F : FS) (c : Str) (ta : M D) : M D := bnd ta fun d ρ => lenOR F c ρ d
section
variable {Z : DC} {m1 : Md} {a : Expr} {ta : M D} {pos p : Pos} {c : Str} {k : Nat} {F : FS}
end
@[simp] theorem x_lenO {F : FS} {c : Str} {ρ : List Sl} (ta : M D) : dLenO F c ta ρ = (ta ρ).bind fun d ρ => lenOR F c ρ d := rfl
structure IsP (K : PySem.W.Frag) (C : Addr) : Prop where
  st : PySem.W.subIn K (.type "str") (.ref C) = some false
  tp : PySem.W.subIn K (.type "tuple") (.ref C) = some false
  ic : PySem.W.isClsIn K C = true
  ty : PySem.W.typeIn K (.ref C) = some (.type "type")
def plT : D → Option String
  | .str _ => some "str"
  | .tup _ => some "tuple"
  | _ => none
theorem IsP.sub {K : PySem.W.Frag} {C : Addr} (P : IsP K C) {d : D} {T : String} (h : plT d = some T) : PySem.W.subIn K (.type T) (.ref C) = some false := by
  cases d <;> cases h
  · exact P.st
  · exact P.tp
theorem IsP.one {K : PySem.W.Frag} {C : Addr} (P : IsP K C) {d : D} {T : String} (h : plT d = some T) : PySem.W.kitOne K (.type T) (.ref C) = some false := by
  have h2' : (PySem.W.clsIn K C).isSome = true := P.ic
  unfold PySem.W.kitOne PySem.W.kitCls
  simp [h2', P.ty, P.sub h]
def fIsO2 (c : Str) : D → Option D := fun d => match plT d with
  | some _ => some (.bl false)
  | none => fIsO c d
section
variable {Z : DC} {m : Md} {e : Expr} {t : M D} {cn : Str} {C : Addr} {p p2 pos : Pos}
end
@[simp] theorem x_isO2o (c : Str) (fs : List (Str × D)) : fIsO2 c (.obj c fs) = some (.bl true) := by simp [fIsO2, plT]
@[simp] theorem x_isO2s (c x : Str) : fIsO2 c (.str x) = some (.bl false) := rfl
@[simp] theorem x_isO2t (c : Str) (xs : List D) : fIsO2 c (.tup xs) = some (.bl false) := rfl
section
variable {X : Cx} {C f : Addr} {fd : FuncData} {ps : List Str} {sp : Sp} {k : Nat}
end
def cmpPR (F : FS) (c : Str) (neg : Bool) (ρ : List Sl) (d e : D) : Res D := match d, plT e with
  | .obj c1 _, some _ => if c1 = c then (match F [.sh d, .sh e] with
    | .ok (.sh (.bl r)) [_, _] => .ok (.bl (if neg then !r else r)) ρ
    | _ => .no) else .no
  | _, _ => .no
def dCmpP (F : FS) (c : Str) (neg : Bool) (ta tb : M D) : M D := bnd ta fun d => bnd tb fun e ρ => cmpPR F c neg ρ d e
section
variable {Z : DC} {m1 m2 : Md} {a b : Expr} {ta tb : M D} {pos : Pos} {c : Str} {C f : Addr} {fd : FuncData} {ps : List Str} {k : Nat} {F : FS} {neg : Bool}
end
@[simp] theorem x_cmpP {F : FS} {c : Str} {neg : Bool} {ρ : List Sl} (ta tb : M D) : dCmpP F c neg ta tb ρ = (ta ρ).bind fun d => bnd tb fun e ρ => cmpPR F c neg ρ d e := rfl
def dClsA (F : FS) (c : Str) (u : M (List D)) : M Sl := bnd u fun ds ρ => match F (.sh (.glo c) :: ds.map Sl.sh) with
  | .ok s ss => if ss.length = ds.length + 1 then .ok s ρ else .no
  | _ => .no
def dClsN (F : FS) (c : Str) (n : Nat) (u : M (List D)) : M Sl := bnd u fun ds ρ1 => if ds.length = n then dClsA F c (ret ds) ρ1 else .no
structure CmN (P : Program) (w : World) (K : PySem.W.Frag) (mg : Str → Option Value) (base : Heap) (c m : Str) (k n : Nat) (F : FS) : Prop where
  ex : ∃ C mc pp g fd ps, KlAt K mg c C ∧ ClX.CRead K C mc ∧ ClX.CMet K C mc m pp g ∧ Binds K fd ps [] ∧ FnG false P w K mg base k g fd ps (liftSp K mg n F)
section
variable {Z : DC} {pos p1 p2 : Pos} {c m : Str} {k n : Nat} {F : FS} {pl : Sem Bool} {e : Expr} {es : List Expr} {u : M (List D)}
end
@[simp] theorem x_clsN {F : FS} {c : Str} {n : Nat} {ρ : List Sl} (u : M (List D)) : dClsN F c n u ρ = (u ρ).bind fun ds ρ1 => if ds.length = n then (match F (.sh (.glo c) :: ds.map Sl.sh) with
  | .ok s ss => if ss.length = ds.length + 1 then .ok s ρ1 else .no
  | _ => .no) else .no := rfl
end DS
set_option Elab.async false
set_option linter.all false
set_option maxRecDepth 100000
set_option maxHeartbeats 2000000
namespace DS
open PySem PySem.Spec PyProof.Rows L2
structure MeW (P : Program) (w : World) (K : PySem.W.Frag) (mg : Str → Option Value) (base : Heap) (c m : Str) (st : Stmt) (p1 p2 : Str) (k : Nat) (F : FS) : Prop where
  ex : ∃ (C f : Addr) (fd : FuncData) (N : List Str), KlAt K mg c C ∧ Meth K C m f ∧ Fun K m (c ++ "." ++ m) st f fd ∧ FnScope N [p1, p2] (defScope st) ∧
    ∀ (cdv : Value) (A : Around) (outer : List Env) (s : Shared) (H : Hp) (vs : List V) (Q : VK) (E : XK), Room k (A.deeper (envOfC (c ++ "." ++ m) (defScope st) s.heap.objs.size f cdv)) → liftSp K mg 2 F vs H Q E →
      ∃ t, PSs (cxOf (L2.CX P w) P w K mg base N (c ++ "." ++ m) (defScope st) f cdv A outer s H E) (defBody st) t ∧ t { nx := fun _ H' => Q .non H', rt := Q } (L2.start N vs) H
structure MeWAt (K : PySem.W.Frag) (mg : Str → Option Value) (c m : Str) (st : Stmt) (C f : Addr) (fd : FuncData) : Prop where
  kl : KlAt K mg c C
  me : Meth K C m f
  fn : Fun K m (c ++ "." ++ m) st f fd
end DS
set_option Elab.async false
set_option linter.all false
set_option maxRecDepth 100000
set_option maxHeartbeats 2000000
namespace DS
open PySem PySem.Spec PyProof.Rows L2
section
variable {X : Cx} {k : Nat} {f C : Addr} {fd : FuncData} {ks N : List Str} {m c p1 p2 : Str} {st : Stmt} {F : FS} {pos apos : Pos} {o : Expr} {kws : List Keyword}
end
def dMethW (F : FS) (c m : Str) (ks : List Str) (t : M D) (w : M (List D)) : M Sl := bnd t fun d ρ1 => if isOD c m d = true then (w ρ1).bind fun es ρ2 => if es.length = ks.length then finO ρ2 (F [.sh d, .ow none (.dct ((ks.map D.str).zip es))]) else .no else .no
section
variable {Z : DC} {md : Md} {o : Expr} {kws : List Keyword} {t : M D} {pos apos : Pos} {w : M (List D)} {c m p1 p2 : Str} {ks : List Str} {st : Stmt} {k : Nat} {F : FS} {pl : Sem Bool}
end
@[simp] theorem x_methW (F : FS) (c m : Str) (ks : List Str) (t : M D) (w : M (List D)) (ρ : List Sl) : dMethW F c m ks t w ρ = (t ρ).bind fun d ρ1 => if isOD c m d = true then (w ρ1).bind fun es ρ2 => if es.length = ks.length then finO ρ2 (F [.sh d, .ow none (.dct ((ks.map D.str).zip es))]) else .no else .no := rfl
end DS
set_option Elab.async false
set_option linter.all false
set_option maxRecDepth 100000
set_option maxHeartbeats 2000000
namespace DS
open PySem PySem.Spec PyProof.Rows L2
section
variable {Z : DC}
end
section
variable {K : PySem.W.Frag} {mg : Str → Option Value} {τ : Tau} {Ho G : Hp} {ρ : List Sl} {σ : L2.St} {H : Hp}
end
def isPn (k : Nat) : Option Sl → Bool
  | some (.pn j) => decide (j = k)
  | _ => false
def unK (i k : Nat) (kvs : List (D × D)) : SR → SR
  | .nx ρ => if isPn k ρ[i]? then .nx (ρ.set i (.ow (some k) (.dct kvs))) else .no
  | .ex x ρ => .ex x ρ
  | _ => .no
def forK (i : Nat) (g : D → List Sl → Option (List Sl)) (b : MS) (kl : List Nat) (ρ : List Sl) : Option Sl → SR
  | some (.ow (some k) (.dct kvs)) => unK i k kvs (sEach g b kl (kvs.map (·.1)) (ρ.set i (.pn k)))
  | _ => .no
def sForK (i : Nat) (g : D → List Sl → Option (List Sl)) (b : MS) (kl : List Nat) : MS := fun ρ => forK i g b kl ρ ρ[i]?
theorem RepK.key {K : PySem.W.Frag} {mg : Str → Option Value} {G : Hp} : ∀ {kvs : List (D × D)} {ws : List (Key × V)} {j : Nat} {k : Key} {v : V}, RepK K mg G kvs ws → ws[j]? = some (k, v) → (kvs.map (·.1))[j]? = some (keyD k)
  | [], ws, j, k, v, h, e => by unfold RepK at h; subst h; simp at e
  | (kd, d) :: r, ws, j, k, v, h, e => by
    unfold RepK at h
    obtain ⟨kk, w, ws', rfl, rfl, h1, h2⟩ := h
    cases j with
    | zero => simp only [List.getElem?_cons_zero, Option.some.injEq, Prod.mk.injEq] at e; rw [e.1]; rfl
    | succ j => simpa using RepK.key (j := j) h2 (by simpa using e)
def keysOk (kvs : List (D × D)) : Bool := kvs.all fun p => match p.1 with
  | .str x => PyData.strOk x
  | .int _ => true
  | _ => false
section
variable {Z : DC} {Ho : Hp} {tg : Expr} {body : List Stmt} {g : D → List Sl → Option (List Sl)} {u : MS} {pos px : Pos} {x : Str}
end
@[simp] theorem x_forK (i : Nat) (g : D → List Sl → Option (List Sl)) (b : MS) (kl : List Nat) (ρ : List Sl) : sForK i g b kl ρ = forK i g b kl ρ ρ[i]? := rfl
end DS
set_option Elab.async false
set_option linter.all false
set_option maxRecDepth 100000
set_option maxHeartbeats 2000000
namespace DS
open PySem PySem.Spec PyProof.Rows L2
section
variable {Z : DC} {kws : List Keyword} {pos p : Pos} {c x : Str} {C g0 : Addr} {w : M (List D)} {t0 : M D} {mf : Md} {k : Nat} {fd : FuncData} {ps ks : List Str} {F : FS} {arr : List D → List D} {st : Stmt} {pds : List D} {kds : List (Str × D)}
end
end DS
set_option Elab.async false
set_option linter.all false
set_option maxRecDepth 100000
set_option maxHeartbeats 2000000
namespace DS
open PySem PySem.Spec PyProof.Rows L2
def D.ob : D → Option (Str × List (Str × D))
  | .obo c fs => some (c, fs)
  | .obj c fs => if fs.all (fun p => !p.2.isOl) = true then some (c, fs) else none
  | _ => none
@[simp] theorem x_ob1 {c : Str} {fs : List (Str × D)} : (D.obo c fs).ob = some (c, fs) := rfl
@[simp] theorem x_ob2 {c : Str} : (D.obj c []).ob = some (c, []) := rfl
section
variable {K : PySem.W.Frag} {mg : Str → Option Value} {G h h' : Hp} {c f : Str} {fs : List (Str × D)} {ws : List (Str × V)} {qs : List Addr}
theorem FldO.of_rep : ∀ {fs : List (Str × D)} {ws : List (Str × V)}, RepF K mg G fs ws → fs.all (fun p => !p.2.isOl) = true → FldO K mg G h fs ws []
  | [], ws, r, _ => by unfold RepF at r; subst r; exact .nil
  | (f, d) :: fs, ws, r, q => by
    unfold RepF at r
    obtain ⟨v, vs, rfl, h2, h3⟩ := r
    simp only [List.all_cons, Bool.and_eq_true, Bool.not_eq_true'] at q
    exact .dt q.1 h2 (FldO.of_rep h3 q.2)
theorem TopOk.ob {d : D} {o : HO} (x : TopOk K mg G h d o) (e : d.ob = some (c, fs)) : ∃ C dx ws qs, o = .ins C dx ws ∧ mg c = some (.ref C) ∧ FldO K mg G h fs ws qs ∧ qs.Nodup := by
  cases x <;> try (simp only [D.ob] at e; cases e; done)
  case obj c' C dx fs' ws h1 h2 =>
    simp only [D.ob] at e
    split at e
    · rename_i hq
      cases e
      exact ⟨C, dx, ws, [], rfl, h1, FldO.of_rep h2 hq, .nil⟩
    · cases e
  case obo c' C dx fs' ws qs h1 h2 h3 =>
    simp only [D.ob] at e
    cases e
    exact ⟨C, dx, ws, qs, rfl, h1, h2, h3⟩
theorem FldO.on (x : FldO K mg G h fs ws qs) (e : ∀ q ∈ qs, h' q = h q) : FldO K mg G h' fs ws qs := by
  induction x with
  | nil => exact .nil
  | dt h1 h2 _ ih => exact .dt h1 h2 (ih e)
  | ol h1 h2 _ ih => exact .ol ((e _ List.mem_cons_self).trans h1) h2 (ih fun q hq => e q (List.mem_cons_of_mem _ hq))
theorem FldO.lists (x : FldO K mg G h fs ws qs) : ∀ q ∈ qs, ∃ vs, h q = some (.lst vs) := by
  induction x with
  | nil => exact fun q hq => nomatch hq
  | dt h1 h2 _ ih => exact ih
  | ol h1 h2 _ ih =>
    intro q hq
    rcases List.mem_cons.mp hq with rfl | hq
    · exact ⟨_, h1⟩
    · exact ih q hq
theorem FldO.length (x : FldO K mg G h fs ws qs) : ws.length = fs.length := by
  induction x with
  | nil => rfl
  | dt h1 h2 _ ih => simp [ih]
  | ol h1 h2 _ ih => simp [ih]
theorem FldO.none (x : FldO K mg G h fs ws qs) (e : fs.lookup f = none) : ws.lookup f = none := by
  induction x with
  | nil => rfl
  | dt h1 h2 hr ih =>
    rename_i g d v fs ws qs
    simp only [List.lookup] at e ⊢
    cases hb : f == g with
    | true => rw [hb] at e; cases e
    | false => rw [hb] at e; exact ih e
  | ol h1 h2 hr ih =>
    rename_i g ds q vs fs ws qs
    simp only [List.lookup] at e ⊢
    cases hb : f == g with
    | true => rw [hb] at e; cases e
    | false => rw [hb] at e; exact ih e
theorem FldO.put (x : FldO K mg G h fs ws qs) {d : D} {v : V} (hd : d.isOl = false) (r : Rep K mg G d v) : ∃ qs', FldO K mg G h (putD f d fs) (putF f v ws) qs' ∧ qs'.Sublist qs := by
  induction x with
  | nil => exact ⟨[], .dt hd r .nil, .slnil⟩
  | dt h1 h2 hr ih =>
    rename_i g d0 v0 fs ws qs
    unfold putD putF
    by_cases q : g = f
    · rw [if_pos q, if_pos q]
      subst q
      exact ⟨_, .dt hd r hr, List.Sublist.refl _⟩
    · rw [if_neg q, if_neg q]
      obtain ⟨qs', l1, l2⟩ := ih
      exact ⟨qs', .dt h1 h2 l1, l2⟩
  | ol h1 h2 hr ih =>
    rename_i g ds q0 vs fs ws qs
    unfold putD putF
    by_cases q : g = f
    · rw [if_pos q, if_pos q]
      subst q
      exact ⟨_, .dt hd r hr, List.sublist_cons_self _ _⟩
    · rw [if_neg q, if_neg q]
      obtain ⟨qs', l1, l2⟩ := ih
      exact ⟨_, .ol h1 h2 l1, l2.cons₂ _⟩
theorem FldO.putO (x : FldO K mg G h fs ws qs) {ds : List D} {p : Addr} {vs : List V} (hp : h p = some (.lst vs)) (r : RepL K mg G ds vs) (np : p ∉ qs) (nd : qs.Nodup) : ∃ qs', FldO K mg G h (putD f (.ol ds) fs) (putF f (.ref p) ws) qs' ∧ qs'.Nodup ∧ ∀ q ∈ qs', q = p ∨ q ∈ qs := by
  induction x with
  | nil => exact ⟨[p], .ol hp r .nil, by simp, fun q hq => .inl (by simpa using hq)⟩
  | dt h1 h2 hr ih =>
    rename_i g d0 v0 fs ws qs
    unfold putD putF
    by_cases q : g = f
    · rw [if_pos q, if_pos q]
      subst q
      exact ⟨p :: qs, .ol hp r hr, List.nodup_cons.mpr ⟨np, nd⟩, fun q hq => List.mem_cons.mp hq⟩
    · rw [if_neg q, if_neg q]
      obtain ⟨qs', l1, l2, l3⟩ := ih np nd
      exact ⟨qs', .dt h1 h2 l1, l2, l3⟩
  | ol h1 h2 hr ih =>
    rename_i g ds0 q0 vs0 fs ws qs
    obtain ⟨n1, n2⟩ := List.nodup_cons.mp nd
    have np2 : p ∉ qs := fun z => np (List.mem_cons_of_mem _ z)
    unfold putD putF
    by_cases q : g = f
    · rw [if_pos q, if_pos q]
      subst q
      exact ⟨p :: qs, .ol hp r hr, List.nodup_cons.mpr ⟨np2, n2⟩, fun q hq => (List.mem_cons.mp hq).imp_right (List.mem_cons_of_mem _)⟩
    · rw [if_neg q, if_neg q]
      obtain ⟨qs', l1, l2, l3⟩ := ih np2 n2
      refine ⟨q0 :: qs', .ol h1 h2 l1, List.nodup_cons.mpr ⟨fun z => ?_, l2⟩, fun q hq => ?_⟩
      · rcases l3 _ z with z | z
        · exact np (z ▸ List.mem_cons_self)
        · exact n1 z
      · rcases List.mem_cons.mp hq with rfl | hq
        · exact .inr List.mem_cons_self
        · exact (l3 q hq).imp_right (List.mem_cons_of_mem _)
end
section
variable {K : PySem.W.Frag} {mg : Str → Option Value} {τ : Tau} {Ho G : Hp} {ρ : List Sl} {σ : L2.St} {H : Hp}
end
end DS
set_option Elab.async false
set_option linter.all false
set_option maxRecDepth 100000
set_option maxHeartbeats 2000000
namespace DS
open PySem PySem.Spec PyProof.Rows L2
def fObF (c f : Str) : Option (Str × List (Str × D)) → Option D
  | some (c', fs) => if c' = c then fs.lookup f else none
  | none => none
def fFldO (c f : Str) (d : D) : Option D := (fObF c f d.ob).bind fun d' => if d'.isOl then none else some d'
def olD : D → Option D
  | .ol ds => some (.lst ds)
  | _ => none
def fFldL (c f : Str) (d : D) : Option D := (fObF c f d.ob).bind olD
section
variable {Z : DC} {Ho : Hp} {m m1 m2 : Md} {p : Bool} {e a b : Expr} {es : List Expr} {t : M D} {tr : M Sl} {pos pos' p2 px apos : Pos} {u w : MS} {c f : Str} {C : Addr}
def slOb : Option Sl → Option (Option Nat × Str × List (Str × D))
  | some (.ow t d) => d.ob.map fun p => (t, p.1, p.2)
  | _ => none
def putO (c f : Str) (ρ : List Sl) (i : Nat) (d : D) : Option (Option Nat × Str × List (Str × D)) → SR
  | some (t, c', fs) => if c' = c ∧ fs.length < 1000 then .nx (ρ.set i (.ow t (.obo c' (putD f d fs)))) else .no
  | none => .no
def sFldO (c f : Str) (i : Nat) (t : M D) : MS := fun ρ => (t ρ).andS fun d ρ => if d.isOl then .no else putO c f ρ i d (slOb ρ[i]?)
def lstSl : Sl → Option (List D)
  | .ow _ (.lst ds) => some ds
  | _ => none
def sFldN (c f : Str) (i : Nat) (t : M Sl) : MS := fun ρ => (t ρ).andS fun s ρ => match lstSl s with
  | some ds => putO c f ρ i (.ol ds) (slOb ρ[i]?)
  | none => .no
def intO : D → Option D
  | .int i => some (.int i)
  | _ => none
def fld1 (c f : Str) : Option (Option Nat × Str × List (Str × D)) → Option D
  | some (_, c', fs) => if c' = c then (fs.lookup f).bind intO else none
  | none => none
def sFldAO (c f : Str) (i : Nat) (t : M D) : MS := fun ρ => match fld1 c f (slOb ρ[i]?) with
  | some v => (t ρ).andS fun d ρ1 => match addI v d with
    | some z => putO c f ρ1 i z (slOb ρ1[i]?)
    | none => .no
  | none => .no
end
end DS
set_option Elab.async false
set_option linter.all false
set_option maxRecDepth 100000
set_option maxHeartbeats 2000000
namespace DS
open PySem PySem.Spec PyProof.Rows L2
def fldOl (c f : Str) : Option (Option Nat × Str × List (Str × D)) → Option (Option Nat × List (Str × D) × List D)
  | some (t, c', fs) => if c' = c then (match fs.lookup f with
    | some (.ol ds) => some (t, fs, ds)
    | _ => none) else none
  | none => none
def appOb (c f : Str) (ρ : List Sl) (i : Nat) (d : D) : Option (Option Nat × List (Str × D) × List D) → SR
  | some (t, fs, ds) => if ds.length < sizeLine then .nx (ρ.set i (.ow t (.obo c (putD f (.ol (ds ++ [d])) fs)))) else .no
  | none => .no
def sAppF (c f : Str) (i : Nat) (t : M D) : MS := fun ρ => if (fldOl c f (slOb ρ[i]?)).isSome then (t ρ).andS fun d ρ1 => appOb c f ρ1 i d (fldOl c f (slOb ρ1[i]?)) else .no
def LAp (Z : DC) (Ho : Hp) (G H : Hp) (σ : L2.St) (r : Res (List D)) (Q : List V → Hp → Prop) : Prop := match r with
  | .ok ds ρ => ∀ vs G' H', Z.R Ho G' ρ σ H' → Gr Ho G G' → Same H H' → RepL Z.X.K Z.X.mg G' ds vs → Q vs H'
  | .ex x ρ => Z.Ex x ρ
  | .no => False
def DAp (Z : DC) (es : List Expr) (t : M (List D)) : Prop := ∃ te, PA Z.X es te ∧ ∀ Ho, Same Z.Ho Ho → ∀ G ρ σ H Q, Z.R Ho G ρ σ H → LAp Z Ho G H σ (t ρ) Q → te σ H Q
def dLsF (u : M (List D)) : M D := bnd u fun ds => lft (if ds.length ≤ sizeLine then some (.lst ds) else none)
@[simp] theorem x_lsF (u : M (List D)) (ρ : List Sl) : dLsF u ρ = (u ρ).bind fun ds => lft (if ds.length ≤ sizeLine then some (.lst ds) else none) := rfl
section
variable {Z : DC} {Ho : Hp} {m : Md} {e : Expr} {es : List Expr} {t : M D} {u : M (List D)} {pos : Pos}
theorem DAp.then {α : Type} {r : Res (List D)} {u : List D → M α} {L : Res α → Prop} {G H : Hp} {σ : L2.St} {Q : List V → Hp → Prop} (hex : ∀ x ρ, L (.ex x ρ) → Z.Ex x ρ) (hno : L .no → False)
    (h : L (r.bind u)) (hq : ∀ ds ρ vs G' H', Z.R Ho G' ρ σ H' → Gr Ho G G' → Same H H' → RepL Z.X.K Z.X.mg G' ds vs → L (u ds ρ) → Q vs H') : LAp Z Ho G H σ r Q := by
  cases r with
  | ok d ρ => exact fun v G' H' x g s b => hq d ρ v G' H' x g s b h
  | ex x ρ => exact hex x ρ h
  | no => exact hno h
end
section
variable {Z : DC} {Ho : Hp} {m m1 m2 : Md} {p : Bool} {e a b o : Expr} {es : List Expr} {t : M D} {tr : M Sl} {pos pos' p2 px apos fpos : Pos} {u w : MS} {c f x : Str} {C : Addr}
end
end DS
set_option Elab.async false
set_option linter.all false
set_option maxRecDepth 100000
set_option maxHeartbeats 2000000
namespace DS
open PySem PySem.Spec PyProof.Rows L2
def isMb (c m : Str) : Option (Option Nat × Str × List (Str × D)) → Bool
  | some (_, c', fs) => decide (c' = c) && (fs.lookup m).isNone
  | none => false
def dMethB (F : FS) (c m : Str) (i : Nat) (rs : List (Option Nat)) (u : M (List D)) : M Sl := fun ρ => if isMb c m (slOb ρ[i]?) then (u ρ).bind fun ds ρ1 => callK F (some i :: rs) ds ρ1 else .no
def dMethBK (F : FS) (c m : Str) (i n : Nat) (ix : List Nat) (w : M (List D)) : M Sl := fun ρ => if isMb c m (slOb ρ[i]?) then (w ρ).bind fun ds ρ1 => if ds.length = n then callK F (some i :: ix.map fun _ => none) (perm ix ds) ρ1 else .no else .no
section
variable {Z : DC} {Ho : Hp} {md : Md} {o e : Expr} {es : List Expr} {kws : List Keyword} {t : M D} {pos p px apos : Pos} {rs : List (Option Nat)} {u w : M (List D)} {x c m : Str} {k n : Nat} {F : FS} {g : Bool} {pl : Sem Bool} {st : Stmt} {ps ks : List Str}
def isCb (c : Str) : Option (Option Nat × Str × List (Str × D)) → Bool
  | some (_, c', _) => decide (c' = c)
  | none => false
end
end DS
set_option Elab.async false
set_option linter.all false
set_option maxRecDepth 100000
set_option maxHeartbeats 2000000
namespace DS
open PySem PySem.Spec PyProof.Rows L2
section
variable {X : Cx} {k : Nat} {C p g a dx : Addr} {fs : List (Str × V)} {f : Str} {fd : FuncData} {ps : List Str} {sp : Sp} {E : L2.St → XK} {e : Expr} {pos : Pos} {ta : TE}
end
def onlyX (L : List Str) : Res Sl → Res Sl
  | .ex x ρ => if x.cls ∈ L then .ex x ρ else .no
  | r => r
def dPropB (F : FS) (c : Str) (L : List Str) (i : Nat) : M Sl := fun ρ => if isCb c (slOb ρ[i]?) then onlyX L (callK F [some i] [] ρ) else .no
def dPropD (F : FS) (c : Str) (L : List Str) (t : M D) : M Sl := bnd t fun d ρ1 => match d.ob with
  | some (c', _) => if c' = c then onlyX L (callK F [none] [d] ρ1) else .no
  | none => .no
def putOs (c : Str) (ρ : List Sl) (i : Nat) : List (Str × D) → SR
  | [] => .nx ρ
  | (f, d) :: r => if d.isOl then .no else match slOb ρ[i]? with
    | some (t, c', fs) => if c' = c ∧ fs.length < 1000 then putOs c (ρ.set i (.ow t (.obo c' (putD f d fs)))) i r else .no
    | none => .no
def sFldT (c f g : Str) (i : Nat) (t : M D) : MS := fun ρ => (t ρ).andS fun d ρ => match d with
  | .tup [a, b] => putOs c ρ i [(f, a), (g, b)]
  | _ => .no
section
variable {Z : DC} {Ho : Hp} {m : Md} {e : Expr} {t : M D} {pos tp p1 p2 q1 q2 : Pos} {c f g y : Str} {C : Addr} {kt : Nat}
end
structure CV (K : PySem.W.Frag) (mg : Str → Option Value) (c f : Str) (n : Int) : Prop where
  ex : ∃ C mc u, mg c = some (.ref C) ∧ ClX.CRead K C mc ∧ ClX.CVal K C mc f (.int n) u
end DS
set_option Elab.async false
set_option linter.all false
set_option maxRecDepth 100000
set_option maxHeartbeats 2000000
namespace DS
open PySem PySem.Spec PyProof.Rows L2
def fIsOb (c : Str) (d : D) : Option D := match plT d with
  | some _ => some (.bl false)
  | none => match d.ob with
    | some (c', _) => if c' = c then some (.bl true) else none
    | none => none
section
variable {Z : DC} {m : Md} {e : Expr} {t : M D} {cn : Str} {C : Addr} {p p2 pos : Pos}
end
def eqOb (F : FS) (neg : Bool) (rs : List (Option Nat)) (ds : List D) (ρ1 : List Sl) : Res D := match mk rs ds ρ1 with
  | none => .no
  | some (ss, ρ2) => match F ss with
    | .ok (.sh (.bl r)) ss' => if ss'.length = ss.length then .ok (.bl (if neg then !r else r)) (back rs ss' ρ1 ρ2) else .no
    | _ => .no
def okB (c : Str) (d : D) : Bool := (plT d).isSome || (match d.ob with
  | some (c', _) => decide (c' = c)
  | none => false)
def dEqBD (F : FS) (c : Str) (neg : Bool) (i : Nat) (t : M D) : M D := fun ρ => if isCb c (slOb ρ[i]?) then (t ρ).bind fun d ρ1 => if okB c d && isCb c (slOb ρ1[i]?) then eqOb F neg [some i, none] [d] ρ1 else .no else .no
def dEqBB (F : FS) (c : Str) (neg : Bool) (i j : Nat) : M D := fun ρ => if isCb c (slOb ρ[i]?) && isCb c (slOb ρ[j]?) then eqOb F neg [some i, some j] [] ρ else .no
section
variable {Z : DC} {Ho : Hp} {m1 m2 : Md} {a b : Expr} {tb : M D} {pos px py : Pos} {x y c : Str} {C f : Addr} {fd : FuncData} {ps : List Str} {k : Nat} {F : FS} {neg : Bool}
end
end DS
set_option Elab.async false
set_option linter.all false
set_option maxRecDepth 100000
set_option maxHeartbeats 2000000
namespace DS
open PySem PySem.Spec PyProof.Rows L2
section
variable {ρ : List Sl} {c c' f m : Str} {fs : List (Str × D)} {i j n : Nat} {t : Option Nat} {d : D}
@[simp] theorem o_non : D.isOl .non = false := rfl
@[simp] theorem o_bl {b : Bool} : D.isOl (.bl b) = false := rfl
@[simp] theorem o_int {i : Int} : D.isOl (.int i) = false := rfl
@[simp] theorem o_str {x : Str} : D.isOl (.str x) = false := rfl
@[simp] theorem o_tup {xs : List D} : D.isOl (.tup xs) = false := rfl
@[simp] theorem o_hup {xs : List D} : D.isOl (.hup xs) = false := rfl
@[simp] theorem o_lst {xs : List D} : D.isOl (.lst xs) = false := rfl
@[simp] theorem o_obj {fs : List (Str × D)} : D.isOl (.obj c fs) = false := rfl
@[simp] theorem o_glo : D.isOl (.glo c) = false := rfl
@[simp] theorem o_ol {xs : List D} : D.isOl (.ol xs) = true := rfl
@[simp] theorem slOb_1 : slOb (some (.ow t (.obo c fs))) = some (t, c, fs) := rfl
@[simp] theorem slOb_2 : slOb (some (.ow t (.obj c []))) = some (t, c, []) := rfl
@[simp] theorem x_putO : putO c f ρ i d (some (t, c', fs)) = if c' = c ∧ fs.length < 1000 then .nx (ρ.set i (.ow t (.obo c' (putD f d fs)))) else .no := rfl
@[simp] theorem x_putOn : putO c f ρ i d none = .no := rfl
@[simp] theorem x_sFldO (u : M D) : sFldO c f i u ρ = (u ρ).andS fun d ρ => if d.isOl then .no else putO c f ρ i d (slOb ρ[i]?) := rfl
@[simp] theorem x_sFldN (u : M Sl) : sFldN c f i u ρ = (u ρ).andS fun s ρ => match lstSl s with
  | some ds => putO c f ρ i (.ol ds) (slOb ρ[i]?)
  | none => .no := rfl
@[simp] theorem x_lstSl {ds : List D} : lstSl (.ow t (.lst ds)) = some ds := rfl
@[simp] theorem x_fld1 : fld1 c f (some (t, c', fs)) = if c' = c then (fs.lookup f).bind intO else none := rfl
@[simp] theorem x_intO {k : Int} : intO (.int k) = some (.int k) := rfl
@[simp] theorem x_sFldAO (u : M D) : sFldAO c f i u ρ = match fld1 c f (slOb ρ[i]?) with
  | some v => (u ρ).andS fun d ρ1 => match addI v d with
    | some z => putO c f ρ1 i z (slOb ρ1[i]?)
    | none => .no
  | none => .no := rfl
@[simp] theorem x_fObF : fObF c f (some (c', fs)) = if c' = c then fs.lookup f else none := rfl
@[simp] theorem x_fFldO : fFldO c f d = (fObF c f d.ob).bind fun d' => if d'.isOl then none else some d' := rfl
@[simp] theorem x_fFldL : fFldL c f d = (fObF c f d.ob).bind olD := rfl
@[simp] theorem x_olD {xs : List D} : olD (.ol xs) = some (.lst xs) := rfl
def olL : D → Option (List D)
  | .ol ds => some ds
  | _ => none
@[simp] theorem x_olL {xs : List D} : olL (.ol xs) = some xs := rfl
@[simp] theorem x_fldOl : fldOl c f (some (t, c', fs)) = if c' = c then ((fs.lookup f).bind olL).map (fun ds => (t, fs, ds)) else none := by
  show (if c' = c then (match fs.lookup f with
    | some (.ol ds) => some (t, fs, ds)
    | _ => none) else none) = _
  by_cases h : c' = c
  · rw [if_pos h, if_pos h]
    cases fs.lookup f with
    | none => rfl
    | some z => cases z <;> rfl
  · rw [if_neg h, if_neg h]
@[simp] theorem x_appOb {xs : List D} : appOb c f ρ i d (some (t, fs, xs)) = if xs.length < sizeLine then .nx (ρ.set i (.ow t (.obo c (putD f (.ol (xs ++ [d])) fs)))) else .no := rfl
@[simp] theorem x_sAppF (u : M D) : sAppF c f i u ρ = if (fldOl c f (slOb ρ[i]?)).isSome then (u ρ).andS fun d ρ1 => appOb c f ρ1 i d (fldOl c f (slOb ρ1[i]?)) else .no := rfl
@[simp] theorem x_isMb : isMb c m (some (t, c', fs)) = (decide (c' = c) && (fs.lookup m).isNone) := rfl
@[simp] theorem x_isCb : isCb c (some (t, c', fs)) = decide (c' = c) := rfl
@[simp] theorem x_methB (F : FS) (rs : List (Option Nat)) (u : M (List D)) : dMethB F c m i rs u ρ = if isMb c m (slOb ρ[i]?) then (u ρ).bind fun ds ρ1 => callK F (some i :: rs) ds ρ1 else .no := rfl
@[simp] theorem x_methBK (F : FS) (ix : List Nat) (w : M (List D)) : dMethBK F c m i n ix w ρ = if isMb c m (slOb ρ[i]?) then (w ρ).bind fun ds ρ1 => if ds.length = n then callK F (some i :: ix.map fun _ => none) (perm ix ds) ρ1 else .no else .no := rfl
@[simp] theorem x_onlyX1 {L : List Str} {s : Sl} : onlyX L (.ok s ρ) = .ok s ρ := rfl
@[simp] theorem x_onlyX2 {L : List Str} {x : Exn} : onlyX L (.ex x ρ) = if x.cls ∈ L then .ex x ρ else .no := rfl
@[simp] theorem x_propB (F : FS) (L : List Str) : dPropB F c L i ρ = if isCb c (slOb ρ[i]?) then onlyX L (callK F [some i] [] ρ) else .no := rfl
def propDR (F : FS) (c : Str) (L : List Str) (d : D) (ρ : List Sl) : Option (Str × List (Str × D)) → Res Sl
  | some (c', _) => if c' = c then onlyX L (callK F [none] [d] ρ) else .no
  | none => .no
@[simp] theorem x_propDR (F : FS) (L : List Str) : propDR F c L d ρ (some (c', fs)) = if c' = c then onlyX L (callK F [none] [d] ρ) else .no := rfl
@[simp] theorem x_propD (F : FS) (L : List Str) (u : M D) : dPropD F c L u ρ = (u ρ).bind fun d ρ1 => propDR F c L d ρ1 d.ob := by
  unfold dPropD bnd
  cases u ρ with
  | ok d ρ1 =>
    simp only [Res.bind]
    cases d.ob <;> rfl
  | ex x ρ1 => rfl
  | no => rfl
@[simp] theorem x_putOs0 : putOs c ρ i [] = .nx ρ := rfl
def putOsR (c : Str) (ρ : List Sl) (i : Nat) (f : Str) (d : D) (r : List (Str × D)) : Option (Option Nat × Str × List (Str × D)) → SR
  | some (t, c', fs) => if c' = c ∧ fs.length < 1000 then putOs c (ρ.set i (.ow t (.obo c' (putD f d fs)))) i r else .no
  | none => .no
@[simp] theorem x_putOsR {r : List (Str × D)} : putOsR c ρ i f d r (some (t, c', fs)) = if c' = c ∧ fs.length < 1000 then putOs c (ρ.set i (.ow t (.obo c' (putD f d fs)))) i r else .no := rfl
@[simp] theorem x_putOs {r : List (Str × D)} : putOs c ρ i ((f, d) :: r) = if d.isOl then .no else putOsR c ρ i f d r (slOb ρ[i]?) := by
  rw [putOs]
  split
  · rfl
  · cases slOb ρ[i]? <;> rfl
def fldTR (c f g : Str) (i : Nat) (ρ : List Sl) : D → SR
  | .tup [a, b] => putOs c ρ i [(f, a), (g, b)]
  | _ => .no
@[simp] theorem x_fldTR {g : Str} {a b : D} : fldTR c f g i ρ (.tup [a, b]) = putOs c ρ i [(f, a), (g, b)] := rfl
@[simp] theorem x_sFldT {g : Str} (u : M D) : sFldT c f g i u ρ = (u ρ).andS fun d ρ => fldTR c f g i ρ d := rfl
def eqR (neg : Bool) (rs : List (Option Nat)) (ρ1 ss ρ2 : List Sl) : FR → Res D
  | .ok (.sh (.bl r)) ss' => if ss'.length = ss.length then .ok (.bl (if neg then !r else r)) (back rs ss' ρ1 ρ2) else .no
  | _ => .no
def eqM (F : FS) (neg : Bool) (rs : List (Option Nat)) (ρ1 : List Sl) : Option (List Sl × List Sl) → Res D
  | some (ss, ρ2) => eqR neg rs ρ1 ss ρ2 (F ss)
  | none => .no
@[simp] theorem x_eqM {F : FS} {neg : Bool} {rs : List (Option Nat)} {ss ρ2 : List Sl} : eqM F neg rs ρ (some (ss, ρ2)) = eqR neg rs ρ ss ρ2 (F ss) := rfl
@[simp] theorem x_eqR {neg r : Bool} {rs : List (Option Nat)} {ss ρ2 ss' : List Sl} : eqR neg rs ρ ss ρ2 (.ok (.sh (.bl r)) ss') = if ss'.length = ss.length then .ok (.bl (if neg then !r else r)) (back rs ss' ρ ρ2) else .no := rfl
@[simp] theorem x_eqOb {F : FS} {neg : Bool} {rs : List (Option Nat)} {ds : List D} : eqOb F neg rs ds ρ = eqM F neg rs ρ (mk rs ds ρ) := by
  unfold eqOb
  cases h : mk rs ds ρ with
  | none => rfl
  | some p => rfl
@[simp] theorem x_eqBD (F : FS) (neg : Bool) (u : M D) : dEqBD F c neg i u ρ = if isCb c (slOb ρ[i]?) then (u ρ).bind fun d ρ1 => if okB c d && isCb c (slOb ρ1[i]?) then eqOb F neg [some i, none] [d] ρ1 else .no else .no := rfl
@[simp] theorem x_eqBB (F : FS) (neg : Bool) : dEqBB F c neg i j ρ = if isCb c (slOb ρ[i]?) && isCb c (slOb ρ[j]?) then eqOb F neg [some i, some j] [] ρ else .no := rfl
@[simp] theorem x_okB1 {x : Str} : okB c (.str x) = true := rfl
@[simp] theorem x_okB2 {xs : List D} : okB c (.tup xs) = true := rfl
@[simp] theorem x_okB3 : okB c (.obo c fs) = true := by simp [okB, plT]
@[simp] theorem x_isOb1 {x : Str} : fIsOb c (.str x) = some (.bl false) := rfl
@[simp] theorem x_isOb2 : fIsOb c (.obo c fs) = some (.bl true) := by simp [fIsOb, plT]
@[simp] theorem x_fput0 : putD f d [] = [(f, d)] := rfl
@[simp] theorem x_fput {g : Str} {e : D} {r : List (Str × D)} : putD f d ((g, e) :: r) = if g = f then (f, d) :: r else (g, e) :: putD f d r := rfl
end
end DS
set_option Elab.async false
set_option linter.all false
set_option maxRecDepth 100000
set_option maxHeartbeats 2000000
namespace DS
open PySem PySem.Spec PyProof.Rows L2
section
variable {Z : DC} {a b c : Expr} {u : M (List D)} {p pos tpos : Pos} {tg : Expr}
end
end DS
set_option Elab.async false
set_option linter.all false
set_option maxRecDepth 100000
set_option maxHeartbeats 2000000
namespace DS
open PySem PySem.Spec PyProof.Rows L2
def popFR (c f : Str) (ρ : List Sl) (i : Nat) : Option (Option Nat × List (Str × D) × List D) → Res D
  | some (t, fs, ds) => match ds[ds.length - 1]? with
    | some y => .ok y (ρ.set i (.ow t (.obo c (putD f (.ol ds.dropLast) fs))))
    | none => .no
  | none => .no
def dPopF (c f : Str) (i : Nat) : M D := fun ρ => popFR c f ρ i (fldOl c f (slOb ρ[i]?))
section
variable {Z : DC} {px fpos apos pos : Pos} {c f x : Str} {C : Addr}
end
section
variable {ρ : List Sl} {c f : Str} {fs : List (Str × D)} {i : Nat} {t : Option Nat} {xs : List D}
@[simp] theorem x_popF : dPopF c f i ρ = popFR c f ρ i (fldOl c f (slOb ρ[i]?)) := rfl
def popY (c f : Str) (ρ : List Sl) (i : Nat) (t : Option Nat) (fs : List (Str × D)) (xs : List D) : Option D → Res D
  | some y => .ok y (ρ.set i (.ow t (.obo c (putD f (.ol xs.dropLast) fs))))
  | none => .no
@[simp] theorem x_popFR : popFR c f ρ i (some (t, fs, xs)) = popY c f ρ i t fs xs xs[xs.length - 1]? := by
  simp only [popFR]
  cases xs[xs.length - 1]? <;> rfl
@[simp] theorem x_popY {y : D} : popY c f ρ i t fs xs (some y) = .ok y (ρ.set i (.ow t (.obo c (putD f (.ol xs.dropLast) fs)))) := rfl
end
end DS
set_option Elab.async false
set_option linter.all false
set_option maxRecDepth 100000
set_option maxHeartbeats 1000000
namespace DS
open PySem PySem.Spec PyProof.Rows L2
section
variable {Z : DC} {m1 : Md} {a : Expr} {ta : M D} {pos p2 p3 : Pos}
def fLR (d : D) : Option Sl := match d with
  | .int j => if 0 ≤ j ∧ j ≤ 16777216 then some (.ow none (.lst ((List.range j.toNat).map fun i => D.int (0 + (i : Nat))))) else none
  | _ => none
def dLstR (t : M D) : M Sl := bnd t fun d => lft (fLR d)
@[simp] theorem x_lstR (t : M D) (ρ : List Sl) : dLstR t ρ = (t ρ).bind fun d => lft (fLR d) := rfl
end
end DS
set_option Elab.async false
set_option linter.all false
set_option maxRecDepth 100000
set_option maxHeartbeats 2000000
namespace DS
open PySem PySem.Spec PyProof.Rows L2
def fEqN : D → D → Option D := fun d e => match d, e with
  | .lst ds, .lst [] => some (.bl ds.isEmpty)
  | _, _ => none
section
variable {Z : DC}
end
@[simp] theorem x_fEqN0 : fEqN (.lst []) (.lst []) = some (.bl true) := rfl
@[simp] theorem x_fEqN1 {d : D} {ds : List D} : fEqN (.lst (d :: ds)) (.lst []) = some (.bl false) := rfl
end DS
set_option Elab.async false
set_option linter.all false
set_option maxRecDepth 100000
set_option maxHeartbeats 2000000
namespace DS
open PySem PySem.Spec PyProof.Rows L2
section
variable {K : PySem.W.Frag} {mg : Str → Option Value} {τ : Tau} {Ho G : Hp} {ρ : List Sl} {σ : L2.St} {H : Hp}
end
structure ItOkB (Z : DC) (L : Hp) (J : It) (ds : List D) (G1 : Hp) : Prop where
  go : ∀ i H, i < ds.length → Same L H → J.go i H
  stop : ∀ H, Same L H → J.stop ds.length H
  yld : ∀ {Hb : Hp} (i : Nat) (d : D) (G : Hp) (ρ : List Sl) (σ : L2.St) (H : Hp) (x : V) (H' : Hp), ds[i]? = some d → Z.R Hb G ρ σ H → Same L Hb → Same G1 G → J.yld i H x H' → ∃ G', Z.R Hb G' ρ σ H' ∧ Gr Hb G G' ∧ Z.rep G' d x
def selL : Sl → Option (List D)
  | .ow _ (.lst ds) => some ds
  | _ => none
def selF (c f : Str) (s : Sl) : Option (List D) := (fldOl c f (slOb (some s))).map fun p => p.2.2
def dLcB (i : Nat) (sel : Sl → Option (List D)) (g : D → List Sl → Option (List Sl)) (tt : M Bool) (te : M D) (own : List Nat) : M Sl := fun ρ => match ρ[i]? with
  | some s => match sel s with
    | some ds => match lcRun g tt te own ds [] (drops own (ρ.set i .no)) with
      | some (acc, ρe) => .ok (.ow none (.lst acc)) ((mend own (ρ.set i .no) ρe).set i s)
      | none => .no
    | none => .no
  | none => .no
section
variable {Z : DC} {Ho : Hp} {tg e : Expr} {px fpos : Pos} {c f x : Str} {C : Addr}
end
section
variable {ρ ρ1 : List Sl} {c f : Str} {fs : List (Str × D)} {i : Nat} {t : Option Nat} {ds : List D} {d : D} {s : Sl} {g : D → List Sl → Option (List Sl)} {tt : M Bool} {te : M D} {own : List Nat} {sel : Sl → Option (List D)}
def lcBR (i : Nat) (own : List Nat) (ρ1 : List Sl) (s : Sl) : Option (List D × List Sl) → Res Sl
  | some (acc, ρe) => .ok (.ow none (.lst acc)) ((mend own ρ1 ρe).set i s)
  | none => .no
def lcBS (i : Nat) (g : D → List Sl → Option (List Sl)) (tt : M Bool) (te : M D) (own : List Nat) (ρ : List Sl) (s : Sl) : Option (List D) → Res Sl
  | some ds => lcBR i own (ρ.set i .no) s (lcRun g tt te own ds [] (drops own (ρ.set i .no)))
  | none => .no
def lcB (i : Nat) (sel : Sl → Option (List D)) (g : D → List Sl → Option (List Sl)) (tt : M Bool) (te : M D) (own : List Nat) (ρ : List Sl) : Option Sl → Res Sl
  | some s => lcBS i g tt te own ρ s (sel s)
  | none => .no
@[simp] theorem x_lcB : dLcB i sel g tt te own ρ = lcB i sel g tt te own ρ ρ[i]? := by
  unfold dLcB lcB
  cases ρ[i]? with
  | none => rfl
  | some s =>
    simp only
    unfold lcBS
    cases sel s <;> rfl
@[simp] theorem x_lcB1 : lcB i sel g tt te own ρ (some s) = lcBS i g tt te own ρ s (sel s) := rfl
@[simp] theorem x_lcBS : lcBS i g tt te own ρ s (some ds) = lcBR i own (ρ.set i .no) s (lcRun g tt te own ds [] (drops own (ρ.set i .no))) := rfl
@[simp] theorem x_lcBR {acc : List D} {ρe : List Sl} : lcBR i own ρ1 s (some (acc, ρe)) = .ok (.ow none (.lst acc)) ((mend own ρ1 ρe).set i s) := rfl
@[simp] theorem x_selL : selL (.ow t (.lst ds)) = some ds := rfl
@[simp] theorem x_selF : selF c f (.ow t d) = (fldOl c f (slOb (some (.ow t d)))).map fun p => p.2.2 := rfl
end
end DS
set_option Elab.async false
set_option linter.all false
set_option maxRecDepth 100000
set_option maxHeartbeats 2000000
namespace DS
open PySem PySem.Spec PyProof.Rows L2
section
variable {K : PySem.W.Frag} {mg : Str → Option Value} {τ : Tau} {Ho G : Hp} {ρ : List Sl} {σ : L2.St} {H : Hp}
end
theorem RepK.at {K : PySem.W.Frag} {mg : Str → Option Value} {G : Hp} : ∀ {kvs : List (D × D)} {ws : List (Key × V)} {j : Nat} {k : Key} {v : V}, RepK K mg G kvs ws → ws[j]? = some (k, v) → ∃ d, kvs[j]? = some (keyD k, d) ∧ Rep K mg G d v
  | [], ws, j, k, v, h, e => by unfold RepK at h; subst h; simp at e
  | (kd, d) :: r, ws, j, k, v, h, e => by
    unfold RepK at h
    obtain ⟨kk, w, ws', rfl, rfl, h1, h2⟩ := h
    cases j with
    | zero => simp only [List.getElem?_cons_zero, Option.some.injEq, Prod.mk.injEq] at e; obtain ⟨rfl, rfl⟩ := e; exact ⟨d, rfl, h1⟩
    | succ j => simpa using RepK.at (j := j) h2 (by simpa using e)
theorem RepU.at {K : PySem.W.Frag} {mg : Str → Option Value} {G : Hp} : ∀ {kvs : List (D × D)} {ws : List (List Key × V)} {j : Nat} {k : List Key} {v : V}, RepU K mg G kvs ws → ws[j]? = some (k, v) → ∃ d, kvs[j]? = some (.hup (k.map keyD), d) ∧ Rep K mg G d v
  | [], ws, j, k, v, h, e => by unfold RepU at h; subst h; simp at e
  | (kd, d) :: r, ws, j, k, v, h, e => by
    unfold RepU at h
    obtain ⟨kk, w, ws', rfl, rfl, h1, h2⟩ := h
    cases j with
    | zero => simp only [List.getElem?_cons_zero, Option.some.injEq, Prod.mk.injEq] at e; obtain ⟨rfl, rfl⟩ := e; exact ⟨d, rfl, h1⟩
    | succ j => simpa using RepU.at (j := j) h2 (by simpa using e)
theorem RepU.len {K : PySem.W.Frag} {mg : Str → Option Value} {G : Hp} : ∀ {kvs : List (D × D)} {ws : List (List Key × V)}, RepU K mg G kvs ws → ws.length = kvs.length
  | [], ws, h => by unfold RepU at h; subst h; rfl
  | (kd, d) :: r, ws, h => by
    unfold RepU at h
    obtain ⟨kk, w, ws', rfl, rfl, h1, h2⟩ := h
    simp [RepU.len h2]
section
variable {Z : DC} {Ho : Hp} {tg e : Expr} {apos cpos : Pos} {t : M Sl}
theorem DR.thenI {r : Res Sl} {u : Sl → M (List D)} {G : Hp} {σ : L2.St} {Q : VK} {R : It → Hp → Prop} (h : LI Z Ho G σ (r.bind u) R)
    (hq : ∀ s ρ v G' H', Z.R Ho G' (s :: ρ) (some v :: σ) H' → Gr Ho G G' → LI Z Ho G σ (u s ρ) R → Q v H') : LR Z Ho G σ r Q := by
  cases r with
  | ok s ρ => exact fun v G' H' x g => hq s ρ v G' H' x g h
  | ex x ρ => exact h
  | no => exact h
end
end DS
set_option Elab.async false
set_option linter.all false
set_option maxRecDepth 100000
set_option maxHeartbeats 2000000
namespace DS
open PySem PySem.Spec PyProof.Rows L2
structure ItOkC (Z : DC) (L : Hp) (J : It) (ds : List D) (G1 : Hp) : Prop where
  go : ∀ i H, i < ds.length → Same G1 H → Same L H → J.go i H
  stop : ∀ H, Same G1 H → Same L H → J.stop ds.length H
  yld : ∀ {Hb : Hp} (i : Nat) (d : D) (G : Hp) (ρ : List Sl) (σ : L2.St) (H : Hp) (x : V) (H' : Hp), ds[i]? = some d → Z.R Hb G ρ σ H → Same L Hb → Same G1 G → J.yld i H x H' → ∃ G', Z.R Hb G' ρ σ H' ∧ Gr Hb G G' ∧ Z.rep G' d x
def okK : D → Bool
  | .str x => PyData.strOk x
  | .int _ => true
  | _ => false
def okU (kvs : List (D × D)) : Bool := kvs.all fun p => match p.1 with
  | .hup ds => ds.all okK
  | _ => false
def selU : Sl → Option (List D)
  | .ow _ (.dcu kvs) => if okU kvs = true then some (kvs.map (·.1)) else none
  | _ => none
section
variable {Z : DC} {Ho : Hp} {tg : Expr} {px : Pos} {x : Str}
end
@[simp] theorem x_selU {t : Option Nat} {kvs : List (D × D)} : selU (.ow t (.dcu kvs)) = if okU kvs = true then some (kvs.map (·.1)) else none := rfl
end DS
set_option Elab.async false
set_option linter.all false
set_option maxRecDepth 100000
set_option maxHeartbeats 2000000
namespace DS
open PySem PySem.Spec PyProof.Rows L2
def dicP (acc : List (D × D)) : List D → Option (List (D × D))
  | [] => some acc
  | .tup [x, y] :: r => match kOf x with
    | some k => dicP (putDk acc k y) r
    | none => none
  | _ => none
theorem dicP_rep {K : PySem.W.Frag} {mg : Str → Option Value} {G : Hp} : ∀ (ds : List D) (vs : List V) (acc out : List (D × D)) (bcc : List (Key × V)), RepL K mg G ds vs → RepK K mg G acc bcc → dicP acc ds = some out →
    ∃ (as : List Addr) (kvs : List (Key × V)), vs = as.map V.ref ∧ Paired (fun p kv => SqT K G p [L2.kV kv.1, kv.2]) as kvs ∧ RepK K mg G out (mergeK bcc kvs)
  | [], vs, acc, out, bcc, h, hb, e => by
    unfold RepL at h; subst h
    simp only [dicP, Option.some.injEq] at e
    subst e
    exact ⟨[], [], rfl, .nil, hb⟩
  | d :: ds, vs, acc, out, bcc, h, hb, e => by
    unfold RepL at h
    obtain ⟨v, vs', rfl, h1, h2⟩ := h
    match d, e, h1 with
    | .tup [x, y], e, h1 =>
      simp only [dicP] at e
      cases ek : kOf x with
      | none => rw [ek] at e; cases e
      | some k =>
        rw [ek] at e
        unfold Rep at h1
        obtain ⟨a, us, rfl, hs, hr⟩ := h1
        unfold RepL at hr
        obtain ⟨u1, us1, rfl, r1, hr⟩ := hr
        unfold RepL at hr
        obtain ⟨u2, us2, rfl, r2, hr⟩ := hr
        unfold RepL at hr
        subst hr
        have eu := kOf_rep ek r1
        subst eu
        obtain ⟨as, kvs, e1, e2, e3⟩ := dicP_rep ds vs' _ out _ h2 (RepK.put r2 k hb) e
        exact ⟨a :: as, (k, u2) :: kvs, by rw [List.map_cons, e1], .cons hs e2, e3⟩
def fDic : D → Option D
  | .dct kvs => some (.dct kvs)
  | .lst ds => (dicP [] ds).map .dct
  | _ => none
def dDic (t : M D) : M Sl := bnd t fun d => lft ((fDic d).map fun d' => Sl.ow none d')
def fLsK : D → Option D
  | .dct kvs => if keysOk kvs = true then some (.lst (kvs.map (·.1))) else none
  | _ => none
def dLsK (t : M D) : M Sl := bnd t fun d => lft ((fLsK d).map fun d' => Sl.ow none d')
def fLsI : D → Option D
  | .dct kvs => if keysOk kvs = true then some (.lst (kvs.map fun p => .tup [p.1, p.2])) else none
  | _ => none
def dLsI (t : M D) : M Sl := bnd t fun d => lft ((fLsI d).map fun d' => Sl.ow none d')
def gDg2 (kvs : List (D × D)) (k x : D) : Option D := (kOf k).map fun kk => (getDk kvs kk).getD x
def tDg2 (u w : M D) : D → M D
  | .dct kvs => bnd u fun k => bnd w fun x => lft (gDg2 kvs k x)
  | _ => fun _ => .no
def dDg2 (t u w : M D) : M D := bnd t (tDg2 u w)
theorem RepK.keys {K : PySem.W.Frag} {mg : Str → Option Value} {G G' : Hp} : ∀ {kvs : List (D × D)} {ws : List (Key × V)}, RepK K mg G kvs ws → keysOk kvs = true → RepL K mg G' (kvs.map (·.1)) (ws.map fun kv => L2.kV kv.1)
  | [], ws, h, _ => by unfold RepK at h; subst h; unfold RepL; rfl
  | (kd, d) :: r, ws, h, hk => by
    unfold RepK at h
    obtain ⟨kk, w, ws', rfl, rfl, h1, h2⟩ := h
    simp only [keysOk, List.all_cons, Bool.and_eq_true] at hk
    refine RepL.cons ?_ (RepK.keys h2 hk.2)
    cases kk with
    | inl n => exact rep_int
    | inr z => exact rep_str (by simpa [keyD] using hk.1)
theorem keyOk1 {K : PySem.W.Frag} {mg : Str → Option Value} {G : Hp} {kk : Key} {d : D} {r : List (D × D)} (h : keysOk ((keyD kk, d) :: r) = true) : Rep K mg G (keyD kk) (L2.kV kk) ∧ keysOk r = true := by
  simp only [keysOk, List.all_cons, Bool.and_eq_true] at h
  refine ⟨?_, h.2⟩
  cases kk with
  | inl n => exact rep_int
  | inr z => exact rep_str (by simpa [keyD] using h.1)
section
variable {K : PySem.W.Frag} {mg : Str → Option Value} {τ : Tau} {Ho G : Hp} {ρ : List Sl} {σ : L2.St} {H H' : Hp}
theorem RS.newL (x : RS K mg τ Ho G ρ σ H) {p : Addr} {ts : List Addr} {o : HO} (k1 : Same H H') (k2 : H p = none) (k3 : ∀ t ∈ ts, H t = none) (k4 : p ∉ ts) (k5 : H' p = some o) :
    ∃ G', Gr Ho G G' ∧ (∀ t ∈ ts, G' t = H' t) ∧ ∀ d, TopOk K mg G' E0 d o → RS K mg τ Ho G' (.ow none d :: ρ) (some (.ref p) :: σ) H' := by
  have gp := x.freeG k2
  have hp := x.freeHo k2
  obtain ⟨O, x⟩ := x
  have op : ∀ a, H a = none → O a = none := fun a h => by
    cases e : O a with
    | none => rfl
    | some i => exact absurd h (x.oh a i e).2.2
  obtain ⟨G', eG⟩ : ∃ G' : Hp, G' = fun b => if b ∈ ts then H' b else G b := ⟨_, rfl⟩
  have g0 : ∀ b, b ∈ ts → G' b = H' b := fun b q => by rw [eG]; simp only [if_pos q]
  have g1 : ∀ b, b ∉ ts → G' b = G b := fun b q => by rw [eG]; simp only [if_neg q]
  have sg : Same G G' := fun b u q => by
    by_cases w : b ∈ ts
    · have := x.gh _ _ q
      rw [k3 b w] at this; cases this
    · rw [g1 b w]; exact q
  refine ⟨G', ⟨sg, fun a u q => g1 a fun w => ?_⟩, g0, fun d r => ⟨fun a => if a = p then some 0 else shO O a, fun b u q => ?_, fun a i q => ?_, x.out.trans k1, by simp [x.len], fun i s q => ?_⟩⟩
  · have := x.out _ _ (cl_some.mp q).1
    rw [k3 a w] at this; cases this
  · by_cases w : b ∈ ts
    · rw [g0 b w] at q; exact q
    · rw [g1 b w] at q; exact k1 _ _ (x.gh b u q)
  · by_cases w : a = p
    · subst w
      exact ⟨by rw [g1 _ k4]; exact gp, cl_none hp, by rw [k5]; simp⟩
    · simp only [if_neg w] at q
      cases i with
      | zero => exact absurd q shO_zero
      | succ i =>
        obtain ⟨z1, z2, z3⟩ := x.oh a i (shO_some.mp q)
        have nt : a ∉ ts := fun h => z3 (k3 a h)
        refine ⟨by rw [g1 a nt]; exact z1, z2, fun h => ?_⟩
        cases w2 : H a with
        | none => exact z3 w2
        | some u => rw [k1 _ _ w2] at h; cases h
  · cases i with
    | zero =>
      simp at q; subst q
      refine ⟨p, o, rfl, (fun _ q => nomatch q), ?_, r.mono2 (Same.refl _) same_E0⟩
      unfold own
      rw [if_pos (if_pos rfl)]; exact k5
    | succ i =>
      have z : own (fun a => if a = p then some 0 else shO O a) (i + 1) H' = own O i H := by
        funext a
        unfold own
        by_cases q : a = p
        · subst q; simp [op _ k2]
        · simp only [if_neg q]
          by_cases q2 : O a = some i
          · rw [if_pos q2, if_pos (shO_some.mpr q2)]
            cases w2 : H a with
            | none => exact absurd w2 (x.oh a i q2).2.2
            | some u => exact k1 _ _ w2
          · rw [if_neg q2, if_neg fun z => q2 (shO_some.mp z)]
      rw [z]
      exact (x.sl i s (by simpa using q)).mono sg
end
theorem pairs_rep {K : PySem.W.Frag} {mg : Str → Option Value} {G G' H' : Hp} (sg : Same G G') : ∀ {kvs : List (D × D)} {ws : List (Key × V)} {ts : List Addr}, RepK K mg G kvs ws → keysOk kvs = true → Paired (fun (t : Addr) (q : Key × V) => H' t = some (.tup [L2.kV q.1, q.2])) ts ws → (∀ t ∈ ts, G' t = H' t) →
    RepL K mg G' (kvs.map fun p => D.tup [p.1, p.2]) (ts.map V.ref)
  | [], ws, ts, h, _, hp, _ => by
    unfold RepK at h; subst h
    cases hp
    unfold RepL; rfl
  | (kd, d) :: r, ws, ts, h, hk, hp, hg => by
    unfold RepK at h
    obtain ⟨kk, w, ws', rfl, rfl, h1, h2⟩ := h
    cases hp with
    | @cons t _ ts' _ e1 e2 =>
      obtain ⟨k1, k2⟩ := keyOk1 (K := K) (mg := mg) (G := G') hk
      refine RepL.cons ?_ (pairs_rep sg h2 k2 e2 fun t ht => hg t (List.mem_cons_of_mem _ ht))
      unfold Rep
      exact ⟨t, [L2.kV kk, w], rfl, SqT.of (by rw [hg t List.mem_cons_self]; exact e1), RepL.cons k1 (RepL.one (Rep.mono sg _ _ h1))⟩
section
variable {Z : DC} {m1 m2 m3 : Md} {a b c : Expr} {ta tb tc : M D} {pos p2 apos cpos : Pos}
theorem dr_dic (hm : Z.X.mg "dict" = none) (ha : DE Z m1 a ta) (hb : m1.b = false := by rfl) (hh : Z.hot = false := by rfl) (hg : Gl Z.X "dict" := by rfl) (he : starEach (a :: []) Z.X.env = (false, eval a Z.X.env) :: starEach [] Z.X.env := by rfl) (hpl : (backTo pos (starEach [] Z.X.env)).any (·.1) = false := by rfl) :
    DR Z (.Call (.Name "dict" p2) [a] [] pos) (dDic ta) := by
  obtain ⟨tea, pa, sa⟩ := ha
  refine ⟨_, pe_callTy (CallR.or' call_dictD (call_dictP (Z.calm hh))) hg hm (by decide +kernel) (pa_cons pa pa_nil he) (by decide) (by decide) he hpl, fun Ho hw G ρ σ H Q x q => ?_⟩
  refine sa Ho hw G ρ σ H _ x (DE.then (L := fun r => LR Z Ho G σ r Q) (fun _ _ h => h) (fun h => h) q fun d ρ1 v G1 H1 x1 g1 s1 b1 q1 => ?_)
  rw [hb] at b1
  replace b1 := b1.rep
  cases d <;> try (exact q1.elim)
  · rename_i ds
    unfold Rep at b1
    obtain ⟨a0, vs, rfl, h1, h2⟩ := b1
    simp only [fDic] at q1
    cases e : dicP [] ds with
    | none => rw [e] at q1; exact q1.elim
    | some out =>
      rw [e] at q1
      obtain ⟨as, kvs, rfl, e2, e3⟩ := dicP_rep ds vs [] out [] h2 (by unfold RepK; rfl) e
      refine .inr ⟨a0, as, kvs, rfl, SqL.of (x1.gh _ _ h1), L2.Paired.mapP e2 fun _ _ h => Same.sqt x1.gh h, fun l hl => ?_⟩
      exact q1 (.ref l) G1 _ (x1.pushO (.dct e3) hl) g1
  · rename_i kvs
    unfold Rep at b1
    obtain ⟨a0, ws, rfl, h1, h2⟩ := b1
    exact .inl ⟨a0, ws, rfl, .inl (x1.gh _ _ h1), fun l hl => q1 (.ref l) G1 _ (x1.pushO (.dct h2) hl) g1⟩
theorem dr_lsI (hm : Z.X.mg "list" = none) (ha : DE Z m1 a ta) (hh : Z.hot = false := by rfl) (hg : Gl Z.X "list" := by rfl) (hbase : attributeBase a "items" Z.X.env (eval a Z.X.env) = eval a Z.X.env := by rfl) (hline : (apos.endLine == cpos.line) = true := by rfl)
    (hs : starEach [.Call (.Attribute a "items" apos) [] [] cpos] Z.X.env = (false, eval (.Call (.Attribute a "items" apos) [] [] cpos) Z.X.env) :: starEach [] Z.X.env := by rfl) :
    DR Z (.Call (.Name "list" p2) [.Call (.Attribute a "items" apos) [] [] cpos] [] pos) (dLsI ta) := by
  obtain ⟨tea, pa, sa⟩ := ha
  refine ⟨_, LiI.pe_listItems (Z.calm hh) pa hg hm (by decide +kernel) hbase hline hs, fun Ho hw G ρ σ H Q x q => ?_⟩
  refine sa Ho hw G ρ σ H _ x (DE.then (L := fun r => LR Z Ho G σ r Q) (fun _ _ h => h) (fun h => h) q fun d ρ1 v G1 H1 x1 g1 s1 b1 q1 => ?_)
  cases d <;> try (exact q1.elim)
  rename_i kvs
  obtain ⟨a0, ws, rfl, h1, h2⟩ := b1.dct x1.gh
  simp only [fLsI] at q1
  by_cases hk : keysOk kvs = true
  · simp only [if_pos hk] at q1
    refine ⟨a0, ws, rfl, h1, fun H' p ts k1 k2 k3 k4 k5 k6 => ?_⟩
    obtain ⟨G2, g2, hg, rs⟩ := x1.rs.newL (ts := ts) k1 k2 k3 k4 k5
    exact q1 _ G2 _ (x.to (rs _ (.lst (pairs_rep g2.1 h2 hk k6 hg))) (g1.trans g2)) (g1.trans g2)
  · simp only [if_neg hk] at q1; exact q1.elim
end
def rInKN (neg : Bool) : R2 := fun x y H Q => ∃ a, y = .ref a ∧ ((∃ o, DGet H a x o ∧ Q (.bl (if neg then !o.isSome else o.isSome)) H) ∨ ∃ kvs, x = .non ∧ Rd H a (.dK kvs) ∧ Q (.bl neg) H)
theorem op_inKN {X : Cx} (neg : Bool) (hu : X.A.units + 1 < cLine) : OpR X (compareOp (if neg then .NotIn else .In)) (rInKN neg) := by
  intro pins s σ H x y v u Q I rx ry h
  obtain ⟨a, rfl, h⟩ := h
  obtain rfl : u = Value.ref a := ry
  rcases h with ⟨o, g, q⟩ | ⟨kvs, rfl, g, q⟩
  · cases neg with
    | false => exact d_in hu I g rx fun s' I' => ⟨.bl _, H, I', rfl, q⟩
    | true => exact d_notIn hu I g rx fun s' I' => ⟨.bl _, H, I', rfl, q⟩
  · obtain rfl : v = Value.none := rx
    cases neg with
    | false => exact d_inNone I g fun s' I' => ⟨.bl _, H, I', rfl, q⟩
    | true => exact d_notInNone I g fun s' I' => ⟨.bl _, H, I', rfl, q⟩
def fInKN (neg : Bool) : D → D → Option D := fun d e => match e with
  | .dct kvs => match d with
    | .non => some (.bl neg)
    | d => (kOf d).map fun k => .bl (if neg then !(getDk kvs k).isSome else (getDk kvs k).isSome)
  | _ => none
section
variable {Z : DC}
theorem opd_inKN (neg : Bool) : OpD Z (rInKN neg) (fInKN neg) := by
  refine ⟨?_⟩
  intro Ho G ρ σ H d e z x y Q hR hx hy hf hq
  cases e <;> try (cases hf; done)
  rename_i kvs
  obtain ⟨p, ws, rfl, h1, h2⟩ := hy.dct hR.gh
  refine ⟨p, rfl, ?_⟩
  by_cases dn : d = .non
  · subst dn
    simp only [fInKN, Option.some.injEq] at hf
    subst hf
    have hx' : x = .non := by have := hx.inH hR.gh; unfold Rep at this; exact this
    exact .inr ⟨ws, hx', .inl h1, hq _ _ _ hR Gr.refl (Same.refl _) rep_bl⟩
  · left
    have hf2 : (kOf d).map (fun k => D.bl (if neg then !(getDk kvs k).isSome else (getDk kvs k).isSome)) = some z := by
      cases d <;> first | exact absurd rfl dn | exact hf
    cases ek : kOf d with
    | none => rw [ek] at hf2; cases hf2
    | some kk =>
      rw [ek] at hf2
      simp only [Option.map_some, Option.some.injEq] at hf2
      subst hf2
      have hx' : x = L2.kV kk := kOf_rep ek (hx.inH hR.gh)
      subst hx'
      refine ⟨_, DGet.k h1, ?_⟩
      rcases RepK.get kk h2 with ⟨n, n2⟩ | ⟨d1, v, g1, g2, g3⟩
      · rw [n] at hq; rw [n2]; exact hq _ _ _ hR Gr.refl (Same.refl _) rep_bl
      · rw [g1] at hq; rw [g2]; exact hq _ _ _ hR Gr.refl (Same.refl _) rep_bl
theorem cInKN : Cm Z .In (fInKN false) := ⟨_, op_inKN false (by have := Z.un; omega), opd_inKN false⟩
theorem cNotInKN : Cm Z .NotIn (fInKN true) := ⟨_, op_inKN true (by have := Z.un; omega), opd_inKN true⟩
end
end DS
set_option Elab.async false
set_option linter.all false
set_option maxRecDepth 100000
set_option maxHeartbeats 2000000
namespace DS
open PySem PySem.Spec PyProof.Rows L2
section
variable {Z : DC}
end
mutual
def D.df : D → Bool
  | .non => true
  | .bl _ => true
  | .int _ => true
  | .str _ => true
  | .ty _ => true
  | .glo _ => true
  | .tup ds => dfL ds
  | .lst ds => dfL ds
  | .hup ds => dfL ds
  | _ => false
def dfL : List D → Bool
  | [] => true
  | d :: ds => d.df && dfL ds
end
def TL (u : HO) : Prop := ∃ vs, u = .tup vs ∨ u = .lst vs ∨ ∃ o, u = .frz o (.tup vs)
mutual
theorem Rep.minus {K : PySem.W.Frag} {mg : Str → Option Value} {G G1 : Hp} (k : ∀ b u, G b = some u → TL u → G1 b = some u) : ∀ (d : D) (v : V), d.df = true → Rep K mg G d v → Rep K mg G1 d v
  | .non, v, _, r => by unfold Rep at r ⊢; exact r
  | .bl _, v, _, r => by unfold Rep at r ⊢; exact r
  | .int _, v, _, r => by unfold Rep at r ⊢; exact r
  | .str _, v, _, r => by unfold Rep at r ⊢; exact r
  | .ty _, v, _, r => by unfold Rep at r ⊢; exact r
  | .glo _, v, _, r => by unfold Rep at r ⊢; exact r
  | .tup ds, v, h, r => by
    unfold Rep at r ⊢
    obtain ⟨a, vs, rfl, h1, h2⟩ := r
    refine ⟨a, vs, rfl, ?_, RepL.minus k ds vs (by simpa [D.df] using h) h2⟩
    rcases h1 with (h1 | ⟨o, h1⟩) | h1
    · exact .inl (.inl (k _ _ h1 ⟨vs, .inl rfl⟩))
    · exact .inl (.inr ⟨o, k _ _ h1 ⟨vs, .inr (.inr ⟨o, rfl⟩)⟩⟩)
    · exact .inr h1
  | .lst ds, v, h, r => by
    unfold Rep at r ⊢
    obtain ⟨a, vs, rfl, h1, h2⟩ := r
    exact ⟨a, vs, rfl, k _ _ h1 ⟨vs, .inr (.inl rfl)⟩, RepL.minus k ds vs (by simpa [D.df] using h) h2⟩
  | .hup ds, v, h, r => by
    unfold Rep at r ⊢
    obtain ⟨a, vs, rfl, h1, h2⟩ := r
    exact ⟨a, vs, rfl, k _ _ h1 ⟨vs, .inl rfl⟩, RepL.minus k ds vs (by simpa [D.df] using h) h2⟩
  | .dct _, v, h, r => nomatch h
  | .obj _ _, v, h, r => nomatch h
  | .exc _ _, v, h, r => nomatch h
  | .scr _, v, h, r => nomatch h
  | .dcu _, v, h, r => nomatch h
  | .ol _, v, h, r => nomatch h
  | .obo _ _, v, h, r => nomatch h
  | .dcl _, v, h, r => nomatch h
theorem RepL.minus {K : PySem.W.Frag} {mg : Str → Option Value} {G G1 : Hp} (k : ∀ b u, G b = some u → TL u → G1 b = some u) : ∀ (ds : List D) (vs : List V), dfL ds = true → RepL K mg G ds vs → RepL K mg G1 ds vs
  | [], vs, _, r => by unfold RepL at r ⊢; exact r
  | d :: ds, vs, h, r => by
    unfold RepL at r ⊢
    obtain ⟨v, vs', rfl, h1, h2⟩ := r
    simp only [dfL, Bool.and_eq_true] at h
    exact ⟨v, vs', rfl, Rep.minus k d v h.1 h1, RepL.minus k ds vs' h.2 h2⟩
end
def keepS : Sl → Sl
  | .sh d => if d.df = true then .sh d else .no
  | _ => .no
section
variable {K : PySem.W.Frag} {mg : Str → Option Value} {τ : Tau} {Ho G : Hp} {ρ : List Sl} {σ : L2.St} {H : Hp}
end
def lcDR (ρ : List Sl) : Option (List D × List Sl) → Res Sl
  | some (acc, _) => if dfL acc = true then .ok (.ow none (.lst acc)) ρ else .no
  | none => .no
def lcD (g : D → List Sl → Option (List Sl)) (tt : M Bool) (te : M D) (own : List Nat) (ρ : List Sl) : Option Sl → Res Sl
  | some (.sh (.dct kvs)) => if keysOk kvs = true then lcDR ρ (lcRun g tt te own (kvs.map (·.1)) [] (drops own (ρ.map keepS))) else .no
  | _ => .no
def dLcD (i : Nat) (g : D → List Sl → Option (List Sl)) (tt : M Bool) (te : M D) (own : List Nat) : M Sl := fun ρ => lcD g tt te own ρ ρ[i]?
section
variable {Z : DC} {tg : Expr} {px : Pos} {x : Str}
end
section
variable {ρ : List Sl} {i : Nat} {g : D → List Sl → Option (List Sl)} {tt : M Bool} {te : M D} {own : List Nat} {kvs : List (D × D)}
@[simp] theorem x_lcD : dLcD i g tt te own ρ = lcD g tt te own ρ ρ[i]? := rfl
@[simp] theorem x_lcD1 : lcD g tt te own ρ (some (.sh (.dct kvs))) = if keysOk kvs = true then lcDR ρ (lcRun g tt te own (kvs.map (·.1)) [] (drops own (ρ.map keepS))) else .no := rfl
@[simp] theorem x_lcDR {acc : List D} {ρe : List Sl} : lcDR ρ (some (acc, ρe)) = if dfL acc = true then .ok (.ow none (.lst acc)) ρ else .no := rfl
end
end DS
set_option Elab.async false
set_option linter.all false
set_option maxRecDepth 100000
set_option maxHeartbeats 2000000
namespace DS
open PySem PySem.Spec PyProof.Rows L2
def dropDk (kvs : List (D × D)) (k : Key) : List (D × D) := kvs.filter fun kv => decide (kOf kv.1 ≠ some k)
theorem RepK.drop {K : PySem.W.Frag} {mg : Str → Option Value} {G : Hp} : ∀ {kvs : List (D × D)} {ws : List (Key × V)} (k : Key), RepK K mg G kvs ws → RepK K mg G (dropDk kvs k) (dropK ws k)
  | [], ws, k, h => by
    unfold RepK at h; subst h
    unfold dropDk dropK RepK; rfl
  | (kd, d) :: r, ws, k, h => by
    unfold RepK at h
    obtain ⟨kk, v, ws', rfl, rfl, h1, h2⟩ := h
    have h3 := RepK.drop k h2
    by_cases e : kk = k
    · subst e
      have a1 : dropDk ((keyD kk, d) :: r) kk = dropDk r kk := by simp [dropDk, List.filter_cons, kOf_key]
      have a2 : dropK ((kk, v) :: ws') kk = dropK ws' kk := by simp [dropK, List.filter_cons]
      rw [a1, a2]; exact h3
    · have a1 : dropDk ((keyD kk, d) :: r) k = (keyD kk, d) :: dropDk r k := by simp [dropDk, List.filter_cons, kOf_key, e]
      have a2 : dropK ((kk, v) :: ws') k = (kk, v) :: dropK ws' k := by simp [dropK, List.filter_cons, e]
      rw [a1, a2]
      unfold RepK
      exact ⟨kk, v, _, rfl, rfl, h1, h3⟩
def popDR (i : Nat) (k : D) (ρ : List Sl) : Option Sl → Res D
  | some (.ow t (.dct kvs)) => match kOf k with
    | some kk => match getDk kvs kk with
      | some d => .ok d (ρ.set i (.ow t (.dct (dropDk kvs kk))))
      | none => .no
    | none => .no
  | _ => .no
def dPopD (i : Nat) (tk : M D) : M D := fun ρ => if isDc ρ[i]? then (tk ρ).bind fun k ρ1 => popDR i k ρ1 ρ1[i]? else .no
section
variable {Z : DC} {m1 : Md} {tk : M D} {ek : Expr} {pos px apos : Pos} {x : Str}
end
section
variable {ρ ρ' : List Sl} {i : Nat} {t : M D} {tk tx : M D} {k x : D} {kvs : List (D × D)} {d : D} {e : D}
@[simp] theorem x_dDic : dDic t ρ = (t ρ).bind fun d => lft ((fDic d).map fun d' => Sl.ow none d') := rfl
@[simp] theorem x_dLsK : dLsK t ρ = (t ρ).bind fun d => lft ((fLsK d).map fun d' => Sl.ow none d') := rfl
@[simp] theorem x_dLsI : dLsI t ρ = (t ρ).bind fun d => lft ((fLsI d).map fun d' => Sl.ow none d') := rfl
@[simp] theorem x_dPopD : dPopD i tk ρ = if isDc ρ[i]? then (tk ρ).bind fun k ρ1 => popDR i k ρ1 ρ1[i]? else .no := rfl
@[simp] theorem x_popDR {r : Option Nat} : popDR i k ρ (some (.ow r (.dct kvs))) = match kOf k with
    | some kk => match getDk kvs kk with
      | some d => .ok d (ρ.set i (.ow r (.dct (dropDk kvs kk))))
      | none => .no
    | none => .no := rfl
@[simp] theorem x_fDic1 : fDic (.dct kvs) = some (.dct kvs) := rfl
@[simp] theorem x_fDic2 {ds : List D} : fDic (.lst ds) = (dicP [] ds).map .dct := rfl
@[simp] theorem x_fLsK : fLsK (.dct kvs) = if keysOk kvs = true then some (.lst (kvs.map (·.1))) else none := rfl
@[simp] theorem x_fLsI : fLsI (.dct kvs) = if keysOk kvs = true then some (.lst (kvs.map fun p => .tup [p.1, p.2])) else none := rfl
@[simp] theorem x_dDg2 : dDg2 t tk tx ρ = (t ρ).bind (tDg2 tk tx) := rfl
@[simp] theorem x_tDg2 : tDg2 tk tx (.dct kvs) ρ = (tk ρ).bind fun k ρ1 => (tx ρ1).bind fun x => lft (gDg2 kvs k x) := rfl
@[simp] theorem x_gDg2a {z : Str} : gDg2 kvs (.str z) x = some ((getDk kvs (.inr z)).getD x) := rfl
@[simp] theorem x_gDg2b {z : Int} : gDg2 kvs (.int z) x = some ((getDk kvs (.inl z)).getD x) := rfl
@[simp] theorem x_fInKN1 {neg : Bool} : fInKN neg .non (.dct kvs) = some (.bl neg) := rfl
@[simp] theorem x_fInKN2 {neg : Bool} {z : Str} : fInKN neg (.str z) (.dct kvs) = some (.bl (if neg then !(getDk kvs (.inr z)).isSome else (getDk kvs (.inr z)).isSome)) := rfl
@[simp] theorem x_fInKN3 {neg : Bool} {z : Int} : fInKN neg (.int z) (.dct kvs) = some (.bl (if neg then !(getDk kvs (.inl z)).isSome else (getDk kvs (.inl z)).isSome)) := rfl
end
section
variable {Z : DC} {tg : Expr} {px : Pos} {x : Str}
end
def relS (scope sc : Scope) : Scope := { scope with names := scope.names.map fun (n, k) => if (k == .free && sc.kind == .function && sc.names.lookup n == some .cell) then (n, .cell) else (n, k) }
theorem blkZ_scR {Z : DC} {s : Shared} {H : Hp} {scope : Scope} {cl : List (Str × Addr)} {C : Addr} {env : Env} {fp : List Addr} : (blkZ Z s H scope (compEnvC scope cl C env) fp).X.env.scope = relS scope env.scope := rfl
end DS
set_option Elab.async false
set_option linter.all false
set_option maxRecDepth 100000
set_option maxHeartbeats 2000000
namespace DS
open PySem PySem.Spec PyProof.Rows L2
def gStar (K : PySem.W.Frag) (t : TGs) : TG := fun v σ H Q => ∃ a x xs, v = .ref a ∧ SqL K H a (x :: xs) ∧ xs.length ≤ 100000 ∧ ∀ D, H D = none → t [x, .ref D] σ (upd H D (.lst xs)) Q
theorem star_items {X : Cx} {pins : List (Addr × Obj)} {s : Shared} {σ : L2.St} {H : Hp} {l : Addr} {x : V} {xs : List V} {Q : List Value → Shared → Prop} (hc : X.calm = true) (I : Inv X pins σ H s) (hq : SqL X.K H l (x :: xs)) (hz : xs.length ≤ 100000)
    (h : ∀ D us s', H D = none → Vals [x, .ref D] us → Inv X pins σ (upd H D (.lst xs)) s' → Q us s') : wpAny (model X.prog X.w) X.A (unpackItems (.ref l) 2 (some 1)) Q X.xe s := by
  obtain ⟨its, rv, pl, hz1⟩ := I.list hq
  have hl := pl.isList
  cases rv with
  | @cons _ v0 _ vr r0 rr =>
  have hlt : l ≠ s.heap.objs.size := by obtain ⟨o, ho, _⟩ := hl; exact Nat.ne_of_lt (Heap.lt_size ho)
  have hsz : (v0 :: vr).toArray.size = xs.length + 1 := by simp [rr.length]
  unfold unpackItems
  refine wpAny_bind ?_
  unfold notIterableAtAll
  refine wpAny_bind (wpAny_specialOf hl.typeIs slot_list_iter.lookup ?_)
  refine wpAny_pure ?_
  simp only [Bool.false_eq_true, if_false]
  refine wpAny_bind (wpAny_holding (wpAny_pyIter_list hl ?_))
  refine wpAny_bind (wpAny_holding (PySem.W.kun_draw hlt 1 0 _ _ ⟨_, Heap.get?_push_size _ rfl, rfl, rfl⟩ (hl.push _) (by rw [hsz]; omega) fun h₁ hit₁ hs₁ => ?_))
  have hl₁ : h₁.IsList l (v0 :: vr).toArray := (hl.push _).extBut hs₁.extBut hlt
  rw [Nat.zero_add] at hit₁
  have hit₁' := hit₁
  obtain ⟨oi, hoi, _⟩ := hit₁'
  have hl₁' := hl₁
  obtain ⟨ol, hol, _⟩ := hl₁'
  have e1 : List.take 1 (List.drop 0 (v0 :: vr).toArray.toList) = [v0] := by simp
  rw [e1]
  rw [if_neg (show ¬ ([v0].length < 1) by simp)]
  refine wpAny_bind (wpAny_holding (PySem.W.kun_collect (s := { s with heap := h₁ }) (T := "list_iterator") (.inr (.inr (.inl rfl))) (Walks.list (A := X.A.in1) (I.ok.hd hc) s.heap.objs.size l hlt (v0 :: vr).toArray) (fun j u st => st.1.typeIs) (k := 1) (by rw [hsz]; omega) ⟨hit₁, hl₁⟩ (Heap.lt_size hoi) (Heap.lt_size hol) (fun h₂ tk hk => ?_) (by rw [hsz, sizeLine_eq]; omega)))
  have e2 : List.drop 1 (v0 :: vr).toArray.toList = vr := by simp
  rw [e2]
  show wpAny _ _ (if vr.length < 0 then _ else _) _ _ _
  rw [if_neg (by omega)]
  show wpAny _ _ (newList (vr.take (vr.length - 0)) >>= fun d => pure ([v0] ++ [d] ++ vr.drop (vr.length - 0))) _ _ _
  rw [Nat.sub_zero, List.take_of_length_le (Nat.le_refl _), List.drop_of_length_le (Nat.le_refl _)]
  have I1 : Inv X pins σ H { s with heap := h₂, toks := tk } := I.kept (t' := tk) fun b o e => hk b o (Nat.ne_of_lt (Heap.lt_size e)) (hs₁.extBut b o (Nat.ne_of_lt (Heap.lt_size e)) (Heap.get?_push_of_some _ e))
  have lv : vr.length ≤ sizeLine := by rw [← rr.length, sizeLine_eq]; omega
  refine wpAny_bind (wpAny_newList ?_ lv)
  have hoL : (h₂.push (seqObj "list" vr.toArray 0)).get? h₂.objs.size = some (seqObj "list" vr.toArray 0) := Heap.get?_push_size _ rfl
  refine wpAny_pure ?_
  rw [List.append_nil]
  refine h h₂.objs.size _ _ (I1.hok.fresh (Nat.le_refl _)) (.cons r0 (.cons rfl .nil)) ?_
  refine I1.laid (t' := tk) (fun b u e => Heap.get?_push_of_some _ e) (Nat.le_refl _) ?_
  exact ⟨by rw [rr.length]; exact lv, vr, 0, rr, hoL⟩
theorem pg_star {X : Cx} {es es' : List Expr} {k : Nat} {t : TGs} {pos : Pos} (hc : X.calm = true) (h : PGs X es' t) (hn : (assignEach es X.env).length = 2 := by rfl) (hst : (assignEach es X.env).findIdx? (·.1) = some 1 := by rfl)
    (he : (assignEach es X.env).map (·.2) = (assignEach es' X.env).map (·.2) := by rfl) : PG X (.Tuple es k pos) (gStar X.K t) := by
  refine ⟨fun pins s σ H v u Q I r hw => ?_⟩
  obtain ⟨a, x, xs, e1, hq, hl, hw⟩ := hw
  subst e1
  cases r
  rw [PyProof.Rows.assign_Tuple]
  refine wpAny_bind (wpAny_standAt ?_)
  unfold unpack
  rw [hn, hst, he]
  refine wpAny_bind (wpAny_holding (star_items hc I hq hl fun D us s' hD rv I' => ?_))
  exact h.run pins _ σ _ _ _ Q I' rv (hw D hD)
def starR (i j : Nat) (ρ : List Sl) : D → SR
  | .lst (x :: xs) => if xs.length ≤ 100000 then .nx ((ρ.set i (.sh x)).set j (.ow none (.lst xs))) else .no
  | _ => .no
def sStar (i j : Nat) (t : M D) : MS := fun ρ => (t ρ).andS fun d ρ1 => starR i j ρ1 d
section
variable {Z : DC} {e : Expr} {t : M D} {m : Md} {pos px py ps pt : Pos} {x y : Str} {kt : Nat}
theorem st_star (i j : Nat) (h : DE Z m e t) (hN : Z.X.N.Nodup) (hb : m.b = false := by rfl) (hi : Z.X.N[i]? = some x := by rfl) (hx : Loc Z.X.env.scope x := by first | exact Or.inl rfl | exact Or.inr rfl) (hfx : Z.X.fn x = true ∨ Z.X.env.scope.names.lookup x = some .local := by first | exact .inl rfl | exact .inr rfl)
    (hj : Z.X.N[j]? = some y := by rfl) (hy : Loc Z.X.env.scope y := by first | exact Or.inl rfl | exact Or.inr rfl) (hfy : Z.X.fn y = true ∨ Z.X.env.scope.names.lookup y = some .local := by first | exact .inl rfl | exact .inr rfl)
    (hs : swapsWithSole [.Tuple [.Name x px, .Starred (.Name y py) ps] kt pt] e pos.line Z.X.env = pure false := by rfl) (hw : swappedStores [.Tuple [.Name x px, .Starred (.Name y py) ps] kt pt] e Z.X.env = pure none := by rfl) (hh : Z.hot = false := by rfl) :
    DSt Z (.Assign [.Tuple [.Name x px, .Starred (.Name y py) ps] kt pt] e pos) (sStar i j t) := by
  obtain ⟨te, pa, sa⟩ := h
  have pg := pg_star (es := [.Name x px, .Starred (.Name y py) ps]) (es' := [.Name x px, .Name y py]) (k := kt) (pos := pt) (Z.calm hh) (pgs_cons (pg_name hN hi hx hfx) (pgs_cons (pg_name hN hj hy hfy) pgs_nil))
  refine ⟨_, ps_asg pa pg hs hw rfl, fun Ho hw G ρ σ H E x q => ?_⟩
  refine sa Ho hw G ρ σ H _ x (DE.thenS q fun d ρ1 v G1 H1 x1 g1 s1 b1 q1 => ?_)
  rw [hb] at b1
  replace b1 := b1.rep
  cases d <;> try (exact q1.elim)
  rename_i ds
  cases ds with
  | nil => exact q1.elim
  | cons d0 ds =>
    simp only [starR] at q1
    by_cases hz : ds.length ≤ 100000
    · rw [if_pos hz] at q1
      unfold Rep at b1
      obtain ⟨a, vs, rfl, h1, h2⟩ := b1
      unfold RepL at h2
      obtain ⟨v0, vs', rfl, r1, r2⟩ := h2
      refine ⟨a, v0, vs', rfl, SqL.of (x1.gh _ _ h1), by rw [r2.length]; exact hz, fun D hD => ?_⟩
      refine ⟨v0, _, rfl, ⟨.ref D, _, rfl, ⟨rfl, ?_⟩⟩⟩
      have x2 := (x1.push r1).assign i
      exact q1 _ G1 _ ((x2.pushO (.lst r2) hD).assign j) g1
    · rw [if_neg hz] at q1; exact q1.elim
end
section
variable {ρ : List Sl} {i j : Nat} {t : M D} {d : D} {ds : List D}
@[simp] theorem x_sStar : sStar i j t ρ = (t ρ).andS fun d ρ1 => starR i j ρ1 d := rfl
@[simp] theorem x_starR : starR i j ρ (.lst (d :: ds)) = if ds.length ≤ 100000 then .nx ((ρ.set i (.sh d)).set j (.ow none (.lst ds))) else .no := rfl
end
end DS
set_option Elab.async false
set_option linter.all false
set_option maxRecDepth 100000
set_option maxHeartbeats 2000000
namespace PySem.SeqAt
open AutoSeq1 (wpAny_loadPart')
open MeetsSeq MeetsSeq2 MeetsSeq3 SeqRoads2
section
variable {P : Program} {W : World}
theorem dsn_loop (a c : Addr) (xs ys : Array Value) (p q : Nat) (da dc : Option Addr) (sa sc : Array (Option Value)) (same : xs.size = ys.size) : ∀ m i : Nat, xs.size = i + m →
    MeetsIn P W (Builtin.«list.__eq__.loop» ⟨[.ref a, .ref c, rawInt i, rawInt 3], []⟩) (fun B R u =>
      u.heap.get? a = some ⟨.type "list", da, .seq xs p, sa⟩ ∧ u.heap.get? c = some ⟨.type "list", dc, .seq ys q, sc⟩ ∧ (∀ j (y1 : j < xs.size) (y2 : j < ys.size), EqP P W B.in1 u xs[j] ys[j] true) ∧ R (.ok (.ret (.bool false))) u)
  | 0, i, hm => fun B R u hu => by
    obtain ⟨h0, g0, d0, t0, o0⟩ := u
    obtain ⟨ha, hc, _, hr⟩ := hu
    wp_walk using wpAny_loadPart' ha, wpAny_loadPart' hc
    have n1 : xs[((i : Nat) : Int).toNat]? = none := Array.getElem?_eq_none (by simp; omega)
    have n2 : ys[((i : Nat) : Int).toNat]? = none := Array.getElem?_eq_none (by simp; omega)
    rw [n1, n2]
    wp_walk using wpAny_loadPart' ha, wpAny_loadPart' hc
    show R (.ok (.ret (.bool (xs.size != ys.size)))) _
    rw [same, bne_self_eq_false]
    exact hr
  | m + 1, i, hm => fun B R u hu => by
    obtain ⟨h0, g0, d0, t0, o0⟩ := u
    obtain ⟨ha, hc, hq, hr⟩ := hu
    wp_walk using wpAny_loadPart' ha, wpAny_loadPart' hc
    have y1 : i < xs.size := by omega
    have y2 : i < ys.size := by omega
    have n1 : xs[((i : Nat) : Int).toNat]? = some xs[i] := by simp [y1]
    have n2 : ys[((i : Nat) : Int).toNat]? = some ys[i] := by simp [y2]
    rw [n1, n2]
    refine wpAny_bind (hq i y1 y2 _ _ ?_)
    have up : ((i : Int) + 1) = ((i + 1 : Nat) : Int) := by omega
    wp_walk
    rw [up]
    refine ⟨plainId_quiet plain_eq_loop _, codeAny_builtin entry_eq_loop ?_⟩
    rw [Around.under_plainId plain_eq_loop _]
    exact dsn_loop a c xs ys p q da dc sa sc same m (i + 1) (by omega) B R _ ⟨ha, hc, hq, hr⟩
theorem dsn_ne (a c : Addr) (xs ys : Array Value) (p q : Nat) (da dc : Option Addr) (sa sc : Array (Option Value)) (same : xs.size = ys.size) :
    MeetsIn P W (Builtin.«list.__ne__» ⟨[.ref a, .ref c], []⟩) (fun B R u =>
      u.heap.get? a = some ⟨.type "list", da, .seq xs p, sa⟩ ∧ u.heap.get? c = some ⟨.type "list", dc, .seq ys q, sc⟩ ∧ (∀ j (y1 : j < xs.size) (y2 : j < ys.size), EqP P W B.in1 u xs[j] ys[j] true) ∧ R (.ok (.ret (.bool false))) u) := fun B R u hu => by
  obtain ⟨h0, g0, d0, t0, o0⟩ := u
  obtain ⟨ha, hc, hq, hr⟩ := hu
  have k := AutoSeq1.sub_list_list
  have sz : (xs.size != ys.size) = false := by rw [same, bne_self_eq_false]
  have sz' : ¬ (xs.size != ys.size) = true := by rw [sz]; decide
  wp_walk using wpAny_loadPart' ha, wpAny_loadPart' hc
  refine ⟨plainId_quiet plain_eq_loop _, codeAny_builtin entry_eq_loop ?_⟩
  rw [Around.under_plainId plain_eq_loop _]
  exact dsn_loop a c xs ys p q da dc sa sc same xs.size 0 (by omega) B R _ ⟨ha, hc, hq, hr⟩
theorem dsn_rc {B : Around} {u : Shared} {a c : Addr} {xs ys : Array Value} (ha : u.heap.IsList a xs) (hc : u.heap.IsList c ys) (same : xs.size = ys.size) (room : B.units < cLine)
    (hq : ∀ j (y1 : j < xs.size) (y2 : j < ys.size), EqP P W B.in1 u xs[j] ys[j] true) (E Q : Value → Shared → Prop) (hr : Q (.bool false) u) : wpAny (model P W) B (richCompare .NotEq (.ref a) (.ref c)) Q E u := by
  obtain ⟨⟨c1, d1, x1, s1⟩, o1, e1, p, f1⟩ := id ha
  obtain ⟨⟨c2, d2, x2, s2⟩, o2, e2, q, f2⟩ := id hc
  simp only at e1 f1 e2 f2
  subst e1 f1 e2 f2
  have t1 : u.TypeIs (.ref a) "list" := ⟨_, o1, rfl⟩
  have t2 : u.TypeIs (.ref c) "list" := ⟨_, o2, rfl⟩
  refine wpAny_richCompare_same_room (op := .NotEq) t1 t2 F.slot_list_ne (call_meetsIn F.slot_list_ne t1 F.entry_list_ne (F.args_list_ne_2 _ _) (dsn_ne a c xs ys p q d1 d2 s1 s2 same) ⟨o1, o2, hq, ?_⟩) room
  exact ⟨(fun z => nomatch z), hr⟩
end
end PySem.SeqAt
namespace DS
open PySem PySem.Spec PyProof.Rows L2
def rNeV (K : PySem.W.Frag) : R2 := fun x y H Q => ∃ n a b xs ys, n ≤ 60 ∧ x = .ref a ∧ y = .ref b ∧ SqL K H a xs ∧ SqL K H b ys ∧ Paired (EqV K H n) xs ys ∧ Q (.bl false) H
theorem op_neV {X : Cx} (hu : X.A.units + 64 < cLine) : OpR X (compareOp .NotEq) (rNeV X.K) := by
  intro pins s σ H x y v u Q I rx ry h
  obtain ⟨n, a, b, xs, ys, hn, rfl, rfl, ha, hb, hp, q⟩ := h
  obtain rfl : v = Value.ref a := rx
  obtain rfl : u = Value.ref b := ry
  obtain ⟨us, r1, p1, _⟩ := I.list ha
  obtain ⟨ws, r2, p2, _⟩ := I.list hb
  have hsz : us.toArray.size = ws.toArray.size := by
    rw [List.size_toArray, List.size_toArray, ← r1.length, ← r2.length]
    exact Paired.length hp
  refine SeqAt.dsn_rc p1.isList p2.isList hsz (by omega) (fun j h1 h2 => ?_) _ _ ⟨.bl false, H, I, rfl, q⟩
  have k := items_run (A := X.A.in1) (eqV_run I n X.A.in1 (by show X.A.units + 1 + n < cLine; omega)) hp r1 r2 j (by simpa using h1) (by simpa using h2)
  simpa using k
def deq : Nat → D → D → Bool
  | 0, _, _ => false
  | n + 1, d, e => match d, e with
    | .str x, .str y => x == y
    | .int i, .int j => i == j
    | .bl a, .bl b => a == b
    | .non, .non => true
    | .lst xs, .lst ys => xs.length == ys.length && (xs.zip ys).all fun p => deq n p.1 p.2
    | .dct ks, .dct ls => ks.length == ls.length && ks.all fun p => match kOf p.1 with
      | some k => match getDk ls k with
        | some u => deq n p.2 u
        | none => false
      | none => false
    | _, _ => false
theorem deq_L {K : PySem.W.Frag} {mg : Str → Option Value} {G H : Hp} {n : Nat} (ih : ∀ d e x y, deq n d e = true → Rep K mg G d x → Rep K mg G e y → EqV K H n x y) : ∀ (ds es : List D) (xs ys : List V), (ds.length == es.length && (ds.zip es).all fun p => deq n p.1 p.2) = true → RepL K mg G ds xs → RepL K mg G es ys → Paired (EqV K H n) xs ys
  | [], [], xs, ys, _, h1, h2 => by
    unfold RepL at h1 h2
    subst h1 h2
    exact .nil
  | [], _ :: _, _, _, h, _, _ => by simp at h
  | _ :: _, [], _, _, h, _, _ => by simp at h
  | d :: ds, e :: es, xs, ys, h, h1, h2 => by
    unfold RepL at h1 h2
    obtain ⟨x, xs', rfl, r1, r2⟩ := h1
    obtain ⟨y, ys', rfl, t1, t2⟩ := h2
    simp only [List.length_cons, List.zip_cons_cons, List.all_cons, Bool.and_eq_true, beq_iff_eq, Nat.add_right_cancel_iff] at h
    exact .cons (ih _ _ _ _ h.2.1 r1 t1) (deq_L ih ds es xs' ys' (by rw [Bool.and_eq_true, beq_iff_eq]; exact ⟨h.1, h.2.2⟩) r2 t2)
theorem deq_K {K : PySem.W.Frag} {mg : Str → Option Value} {G H : Hp} {n : Nat} (ih : ∀ d e x y, deq n d e = true → Rep K mg G d x → Rep K mg G e y → EqV K H n x y) {ld : List (D × D)} {ls : List (Key × V)} (rl : RepK K mg G ld ls) : ∀ (kd : List (D × D)) (ks : List (Key × V)), (kd.all fun p => match kOf p.1 with
      | some k => match getDk ld k with
        | some u => deq n p.2 u
        | none => false
      | none => false) = true → RepK K mg G kd ks → ∀ p ∈ ks, ∃ u, valV ls p.1 = some u ∧ EqV K H n p.2 u
  | [], ks, _, h1 => by
    unfold RepK at h1
    subst h1
    exact fun p hp => nomatch hp
  | (kk, d) :: kd, ks, h, h1 => by
    unfold RepK at h1
    obtain ⟨k, v, ks', rfl, rfl, r1, r2⟩ := h1
    rw [List.all_cons, Bool.and_eq_true] at h
    obtain ⟨h2, h3⟩ := h
    simp only [kOf_key] at h2
    intro p hp
    rcases List.mem_cons.mp hp with rfl | hp
    · rcases RepK.get k rl with ⟨g0, g1⟩ | ⟨e, w, g0, g1, g2⟩
      · rw [g0] at h2; cases h2
      · rw [g0] at h2
        exact ⟨w, g1, ih _ _ _ _ h2 r1 g2⟩
    · exact deq_K ih rl kd ks' h3 r2 p hp
theorem deq_V {K : PySem.W.Frag} {mg : Str → Option Value} {G H : Hp} (sm : Same G H) : ∀ (n : Nat) (d e : D) (x y : V), deq n d e = true → Rep K mg G d x → Rep K mg G e y → EqV K H n x y
  | 0, _, _, _, _, h, _, _ => by cases h
  | n + 1, d, e, x, y, h, h1, h2 => by
    have ih := deq_V (K := K) (mg := mg) sm n
    cases d <;> cases e <;> try (cases h; done)
    · unfold Rep at h1 h2; subst h1 h2; exact .inl ⟨rfl, rfl⟩
    · unfold Rep at h1 h2; subst h1 h2
      simp only [deq, beq_iff_eq] at h
      subst h; exact .inl ⟨rfl, rfl⟩
    · unfold Rep at h1 h2; subst h1 h2
      simp only [deq, beq_iff_eq] at h
      subst h; exact .inl ⟨rfl, rfl⟩
    · unfold Rep at h1 h2
      obtain ⟨rfl, _⟩ := h1
      obtain ⟨rfl, _⟩ := h2
      simp only [deq, beq_iff_eq] at h
      subst h; exact .inl ⟨rfl, rfl⟩
    · unfold Rep at h1 h2
      obtain ⟨a, vs, rfl, a1, a2⟩ := h1
      obtain ⟨b, ws, rfl, b1, b2⟩ := h2
      simp only [deq] at h
      exact .inr (.inr (.inl ⟨a, b, vs, ws, rfl, rfl, SqL.of (sm _ _ a1), SqL.of (sm _ _ b1), deq_L ih _ _ _ _ h a2 b2⟩))
    · unfold Rep at h1 h2
      obtain ⟨a, vs, rfl, a1, a2⟩ := h1
      obtain ⟨b, ws, rfl, b1, b2⟩ := h2
      simp only [deq, Bool.and_eq_true, beq_iff_eq] at h
      exact .inr (.inr (.inr ⟨a, b, vs, ws, rfl, rfl, sm _ _ a1, sm _ _ b1, by rw [RepK.length a2, RepK.length b2]; exact h.1, deq_K ih b2 _ _ h.2 a2⟩))
def fNeV : D → D → Option D := fun d e => match d, e with
  | .lst xs, .lst ys => if (xs.length == ys.length && (xs.zip ys).all fun p => deq 8 p.1 p.2) = true then some (.bl false) else none
  | _, _ => none
section
variable {Z : DC}
theorem opd_neV : OpD Z (rNeV Z.X.K) fNeV := by
  refine ⟨?_⟩
  intro Ho G ρ σ H d e z x y Q hR hx hy hf hq
  cases d <;> try (cases hf; done)
  cases e <;> try (cases hf; done)
  rename_i ds es
  simp only [fNeV] at hf
  by_cases f : (ds.length == es.length && (ds.zip es).all fun p => deq 8 p.1 p.2) = true
  · rw [if_pos f] at hf
    cases hf
    have h1 := hx.inH hR.gh
    have h2 := hy.inH hR.gh
    unfold Rep at h1 h2
    obtain ⟨a, vs, rfl, a1, a2⟩ := h1
    obtain ⟨b, ws, rfl, b1, b2⟩ := h2
    exact ⟨8, a, b, vs, ws, by omega, rfl, rfl, SqL.of a1, SqL.of b1, deq_L (deq_V (Same.refl _) 8) _ _ _ _ f a2 b2, hq _ _ _ hR Gr.refl (Same.refl _) rep_bl⟩
  · rw [if_neg f] at hf; cases hf
theorem cNeV : Cm Z .NotEq fNeV := ⟨_, op_neV Z.units, opd_neV⟩
end
end DS
set_option Elab.async false
set_option linter.all false
set_option maxRecDepth 100000
set_option maxHeartbeats 2000000
namespace DS
open PySem PySem.Spec PyProof.Rows L2
mutual
def D.pk : D → PyData
  | .non => .none
  | .bl b => .bool b
  | .int i => .int i
  | .str x => .str x
  | .tup ds => .tuple (pkL ds)
  | .lst ds => .list (pkL ds)
  | .dct kvs => .dict (pkK kvs)
  | _ => .none
def pkL : List D → List PyData
  | [] => []
  | d :: ds => d.pk :: pkL ds
def pkK : List (D × D) → List (PyData × PyData)
  | [] => []
  | (k, d) :: r => (match k with | .int i => .int i | .str x => .str x | _ => .none, d.pk) :: pkK r
end
mutual
def D.okk : D → Bool
  | .non => true
  | .bl _ => true
  | .int _ => true
  | .str _ => true
  | .tup ds => okkL ds
  | .lst ds => okkL ds
  | .dct kvs => okkK kvs
  | _ => false
def okkL : List D → Bool
  | [] => true
  | d :: ds => d.okk && okkL ds
def okkK : List (D × D) → Bool
  | [] => true
  | (_, d) :: r => d.okk && okkK r
end
section
variable {X : Cx} {pins : List (Addr × Obj)} {σ : L2.St} {H G : Hp} {s : Shared}
theorem keyR {h : Heap} {k : Key} {v : Value} (e : keyIs k v = true) : Reads h v (match keyD k with | .int i => .int i | .str x => .str x | _ => .none) [] := by
  rcases keyIs_shape e with ⟨i, t, rfl, rfl⟩ | ⟨x, t, rfl, rfl⟩
  · exact .int i t
  · exact .str x t
mutual
theorem reads_pk (I : Inv X pins σ H s) (sm : Same G H) (sy : H sysModules = none) : ∀ (d : D) (v : V) (u : Value), d.okk = true → Rep X.K X.mg G d v → RelV v u → ∃ as, Reads s.heap u d.pk as ∧ sysModules ∉ as
  | .non, v, u, _, h, r => by
    unfold Rep at h; subst h
    cases (show u = Value.none from r)
    exact ⟨[], by unfold D.pk; exact .none, by simp⟩
  | .bl b, v, u, _, h, r => by
    unfold Rep at h; subst h
    cases (show u = Value.bool b from r)
    exact ⟨[], by unfold D.pk; exact .bool b, by simp⟩
  | .int i, v, u, _, h, r => by
    unfold Rep at h; subst h
    obtain ⟨t, rfl⟩ := r
    exact ⟨[], by unfold D.pk; exact .int i t, by simp⟩
  | .str x, v, u, _, h, r => by
    unfold Rep at h
    obtain ⟨rfl, _⟩ := h
    obtain ⟨t, rfl⟩ := r
    exact ⟨[], by unfold D.pk; exact .str x t, by simp⟩
  | .tup ds, v, u, ok, h, r => by
    unfold Rep at h
    unfold D.okk at ok
    obtain ⟨a, vs, rfl, h1, h2⟩ := h
    obtain rfl : u = Value.ref a := r
    obtain ⟨its, rv, ⟨o, e1, e2, n, e3⟩, _⟩ := I.tuple (Same.sqt sm h1)
    obtain ⟨as, q1, q2⟩ := reads_pkL I sm sy ds vs its ok h2 rv
    exact ⟨as, by unfold D.pk; exact .tuple e1 e2 e3 (by simpa using q1), q2⟩
  | .lst ds, v, u, ok, h, r => by
    unfold Rep at h
    unfold D.okk at ok
    obtain ⟨a, vs, rfl, h1, h2⟩ := h
    obtain rfl : u = Value.ref a := r
    obtain ⟨its, rv, pl, _⟩ := I.list (SqL.of (sm _ _ h1))
    obtain ⟨o, e1, e2, n, e3⟩ := pl.isList
    obtain ⟨as, q1, q2⟩ := reads_pkL I sm sy ds vs its ok h2 rv
    refine ⟨a :: as, by unfold D.pk; exact .list e1 e2 e3 (by simpa using q1), fun hm => ?_⟩
    rcases List.mem_cons.mp hm with e | hm
    · have := sm _ _ h1
      rw [← e, sy] at this
      cases this
    · exact q2 hm
  | .dct kvs, v, u, ok, h, r => by
    unfold Rep at h
    unfold D.okk at ok
    obtain ⟨a, ws, rfl, h1, h2⟩ := h
    obtain rfl : u = Value.ref a := r
    obtain ⟨_, _, vs, kv, o, es, ep, e1, e2, e3, _, pr, _⟩ := dk_rd I.hok (.inl (sm _ _ h1))
    obtain ⟨as, bs, q1, q2, q3, q4⟩ := reads_pkK I sm sy kvs ws vs es.toList ok h2 kv pr
    refine ⟨a :: as ++ bs, by unfold D.pk; exact .dict e1 e2.1 e3 q1 q2, fun hm => ?_⟩
    rcases List.mem_cons.mp hm with e | hm
    · have := sm _ _ h1
      rw [← e, sy] at this
      cases this
    · rcases List.mem_append.mp hm with hm | hm
      · exact q3 hm
      · exact q4 hm
  | .obj _ _, _, _, ok, _, _ => by simp [D.okk] at ok
  | .exc _ _, _, _, ok, _, _ => by simp [D.okk] at ok
  | .glo _, _, _, ok, _, _ => by simp [D.okk] at ok
  | .scr _, _, _, ok, _, _ => by simp [D.okk] at ok
  | .hup _, _, _, ok, _, _ => by simp [D.okk] at ok
  | .dcu _, _, _, ok, _, _ => by simp [D.okk] at ok
  | .ol _, _, _, ok, _, _ => by simp [D.okk] at ok
  | .obo _ _, _, _, ok, _, _ => by simp [D.okk] at ok
  | .dcl _, _, _, ok, _, _ => by simp [D.okk] at ok
  | .ty _, _, _, ok, _, _ => by simp [D.okk] at ok
theorem reads_pkL (I : Inv X pins σ H s) (sm : Same G H) (sy : H sysModules = none) : ∀ (ds : List D) (vs : List V) (us : List Value), okkL ds = true → RepL X.K X.mg G ds vs → Vals vs us → ∃ as, ReadsAll s.heap us (pkL ds) as ∧ sysModules ∉ as
  | [], vs, us, _, h, r => by
    unfold RepL at h; subst h
    cases r
    exact ⟨[], by unfold pkL; exact .nil, by simp⟩
  | d :: ds, vs, us, ok, h, r => by
    unfold RepL at h
    obtain ⟨v, vs', rfl, h1, h2⟩ := h
    unfold okkL at ok
    rw [Bool.and_eq_true] at ok
    cases r with
    | cons r1 r2 =>
      obtain ⟨as, q1, q2⟩ := reads_pk I sm sy d _ _ ok.1 h1 r1
      obtain ⟨bs, q3, q4⟩ := reads_pkL I sm sy ds _ _ ok.2 h2 r2
      refine ⟨as ++ bs, by unfold pkL; exact .cons q1 q3, fun hm => ?_⟩
      rcases List.mem_append.mp hm with hm | hm
      · exact q2 hm
      · exact q4 hm
theorem reads_pkK (I : Inv X pins σ H s) (sm : Same G H) (sy : H sysModules = none) : ∀ (kvs : List (D × D)) (ws : List (Key × V)) (vs : List (Key × Value)) (es : List DictEntry), okkK kvs = true → RepK X.K X.mg G kvs ws → KV ws vs → Pairs (mixKind X.prog X.w) es vs →
    ∃ as bs, ReadsAll s.heap (es.map (·.key)) ((pkK kvs).map (·.1)) as ∧ ReadsAll s.heap (es.map (·.val)) ((pkK kvs).map (·.2)) bs ∧ sysModules ∉ as ∧ sysModules ∉ bs
  | [], ws, vs, es, _, h, kv, pr => by
    unfold RepK at h; subst h
    unfold KV at kv
    cases kv
    cases pr
    exact ⟨[], [], by unfold pkK; exact .nil, by unfold pkK; exact .nil, by simp, by simp⟩
  | (kd, d) :: r, ws, vs, es, ok, h, kv, pr => by
    unfold RepK at h
    obtain ⟨k, v, ws', rfl, rfl, h1, h2⟩ := h
    unfold okkK at ok
    rw [Bool.and_eq_true] at ok
    unfold KV at kv
    cases kv with
    | @cons _ q _ vs' kv1 kv2 =>
      cases pr with
      | @cons e _ es' _ p1 p2 p3 =>
        obtain ⟨e1, e2⟩ := kv1
        obtain ⟨a1, b1, q1, q2, q3, q4⟩ := reads_pkK I sm sy r ws' _ es' ok.2 h2 kv2 p3
        have ek : k = q.1 := e1
        have e2' : RelV v q.2 := e2
        rw [← p2] at e2'
        obtain ⟨a2, r1, r2⟩ := reads_pk I sm sy d v e.val ok.1 h1 e2'
        have kr : Reads s.heap e.key (match keyD k with | .int i => .int i | .str x => .str x | _ => .none) [] := keyR (by rw [ek]; exact p1)
        refine ⟨[] ++ a1, a2 ++ b1, ?_, ?_, by simpa using q3, fun hm => ?_⟩
        · unfold pkK
          rw [List.map_cons, List.map_cons]
          exact .cons kr q1
        · unfold pkK
          rw [List.map_cons, List.map_cons]
          exact .cons r1 q2
        · rcases List.mem_append.mp hm with hm | hm
          · exact r2 hm
          · exact q4 hm
end
end
def fReprK : D → Option D := fun d => if d.okk = true ∧ d.pk.showable = true ∧ d.pk.shown.length ≤ sizeLine ∧ d.pk.depth ≤ 40 ∧ PyData.strOk d.pk.shown = true then some (.str d.pk.shown) else none
theorem call_repr_K {X : Cx} (hg : X.A.guards = some []) (hu : X.A.units + 64 < cLine) (hsy : ∃ o, X.K.lookup sysModules = some o) : CallR X (.builtin "repr") (fun xs H Q => ∃ x d G, xs = [x] ∧ Same G H ∧ Rep X.K X.mg G d x ∧ d.okk = true ∧ d.pk.showable = true ∧ d.pk.shown.length ≤ sizeLine ∧ d.pk.depth ≤ 40 ∧ Q (.str d.pk.shown) H) := by
  intro pins s σ H xs us Q I r h
  obtain ⟨x, d, G, rfl, sm, hr, ok, hs, hz, hp, q⟩ := h
  obtain ⟨u, rfl, ru⟩ := r.one
  have sy : H sysModules = none := by
    obtain ⟨o, e⟩ := hsy
    exact (I.bs _ _ (I.mod.kin _ _ e)).2
  obtain ⟨as, rd, hn⟩ := reads_pk I sm sy d x u ok hr ru
  generalize d.pk = p at *
  cases rd with
  | none => exact PySem.P.repr_of_none ⟨.str _, H, I.tok _, ⟨_, rfl⟩, q⟩
  | bool b => exact PySem.P.repr_of_bool ⟨.str _, H, I.tok _, ⟨_, rfl⟩, q⟩
  | int i t => exact PySem.P.repr_of_int (by simpa [PyData.showable] using hs) ⟨.str _, H, I.tok _, ⟨_, rfl⟩, q⟩
  | str y t => exact PySem.P.repr_of_str ⟨.str _, H, I.tok _, ⟨_, rfl⟩, q⟩ hz
  | list h1 h2 h3 h4 => exact repr_of_reads' (.list h1 h2 h3 h4) hs (fun _ => hn) hg (by omega) (fun _ _ e => e) (fun h' u tk hk => ⟨.str _, H, I.kept (t' := tk) hk, ⟨_, rfl⟩, q⟩) hz
  | tuple h1 h2 h3 h4 => exact repr_of_reads' (.tuple h1 h2 h3 h4) hs (fun _ => hn) hg (by omega) (fun _ _ e => e) (fun h' u tk hk => ⟨.str _, H, I.kept (t' := tk) hk, ⟨_, rfl⟩, q⟩) hz
  | dict h1 h2 h3 h4 h5 => exact repr_of_reads' (.dict h1 h2 h3 h4 h5) hs (fun _ => hn) hg (by omega) (fun _ _ e => e) (fun h' u tk hk => ⟨.str _, H, I.kept (t' := tk) hk, ⟨_, rfl⟩, q⟩) hz
theorem cld_reprK {Z : DC} : ClD Z (fun xs H Q => ∃ x d G, xs = [x] ∧ Same G H ∧ Rep Z.X.K Z.X.mg G d x ∧ d.okk = true ∧ d.pk.showable = true ∧ d.pk.shown.length ≤ sizeLine ∧ d.pk.depth ≤ 40 ∧ Q (.str d.pk.shown) H) fReprK := by
  refine ⟨?_⟩
  intro Ho G ρ σ H d z x Q hR hx hf hq
  unfold fReprK at hf
  split at hf
  · rename_i hh
    obtain ⟨h1, h2, h3, h4, h5⟩ := hh
    cases hf
    exact ⟨x, d, H, rfl, Same.refl _, hx.inH hR.gh, h1, h2, h3, h4, hq _ _ _ hR Gr.refl (Same.refl _) (rep_str h5)⟩
  · cases hf
section
variable {Z : DC} {m1 m2 m3 : Md} {a b c : Expr} {ta tb tc : M D} {pos p2 apos cpos : Pos}
theorem de_reprK (hgd : Z.g = true) (hsy : ∃ o, Z.X.K.lookup sysModules = some o) (hm : Z.X.mg "repr" = none) (ha : DE Z m1 a ta) (hg : Gl Z.X "repr" := by rfl) (he : starEach (a :: []) Z.X.env = (false, eval a Z.X.env) :: starEach [] Z.X.env := by rfl) :
    DE Z ⟨m1.p, false⟩ (.Call (.Name "repr" p2) [a] [] pos) (d1 fReprK ta) := de_blt1 (call_repr_K (Z.gd hgd) Z.units hsy) cld_reprK PyProof.Rows.bootS_repr hm ha hg (he := he)
def tDGetN (td ty tx : TE) : TE := fun σ H Q => td σ H fun x H1 => ∃ a, x = .ref a ∧ IsD H1 a ∧ ty σ H1 fun y H2 => tx σ H2 fun z H3 => (∃ o, DGet H3 a y o ∧ Q (o.getD z) H3) ∨ ∃ kvs, y = .non ∧ Rd H3 a (.dK kvs) ∧ Q z H3
theorem pe_dgetN {X : Cx} {o e f : Expr} {td ty tx : TE} (hu : X.A.units + 1 < cLine) (ho : PE X o td) (he : PE X e ty) (hf : PE X f tx) (m : M2 X o "get" apos e f cpos) : PE X (.Call (.Attribute o "get" apos) [e, f] [] cpos) (tDGetN td ty tx) := by
  refine ⟨fun pins s σ H Q I h => ?_⟩
  refine wpAny_Call_method m.base m.few m.line PySem.F.plainAttrs_dict PySem.F.slot_dict_get PySem.F.type_dict_get (thn (ho.run pins s σ H _ I h) fun u s1 ⟨x, H1, I1, rx, d, ex, dd, q1⟩ => ?_)
  subst ex
  obtain rfl : u = Value.ref d := rx
  obtain ⟨k1, k2, _⟩ := isD_at I1 dd
  refine ⟨k1, k2, ?_⟩
  rw [m.trees]
  refine Calls.callWith_builtin rfl (Calls.evalArgs_plain (Calls.spliced_cons (thn (he.run pins s1 σ H1 _ I1 q1) fun iv s2 ⟨y, H2, I2, ry, q2⟩ => Calls.spliced_cons (thn (hf.run pins s2 σ H2 _ I2 q2) fun fv s3 ⟨z, H3, I3, rz, q3⟩ => Calls.spliced_nil ?_))))
  rcases q3 with ⟨ov, g, q3⟩ | ⟨kvs, rfl, g, q3⟩
  · exact d_get2 hu I3 g ry rz fun w' s4 I4 rw' => ⟨_, H3, I4, rw', q3⟩
  · obtain rfl : iv = Value.none := ry
    obtain ⟨_, hd, vs, _, dd⟩ := dk_rd I3.hok g
    obtain ⟨fm, hm, hn⟩ := none_map dd
    refine call_meetsIn PySem.F.slot_dict_get dd.typeIs PySem.F.entry_dict_get (PySem.F.args_dict_get_3 _ _ _) (meets_dict_get_default (noneKind X.prog X.w) d (show (noneKind X.prog X.w).is none .none = true from rfl) hd fv) ⟨_, hm, ?_⟩
    rw [hn]
    exact ⟨z, H3, I3.tok _, rz, q3⟩
end
def gDgN (kvs : List (D × D)) (k x : D) : Option D := match k with
  | .non => some x
  | k => gDg2 kvs k x
def tDgN (u w : M D) : D → M D
  | .dct kvs => bnd u fun k => bnd w fun x => lft (gDgN kvs k x)
  | _ => fun _ => .no
def dDgN (t u w : M D) : M D := bnd t (tDgN u w)
section
variable {Z : DC} {m1 m2 m3 : Md} {a b c : Expr} {ta tb tc : M D} {pos p2 apos cpos : Pos}
theorem de_dgetN (hu : True) (ha : DE Z m1 a ta) (hb : DE Z m2 b tb) (hc : DE Z m3 c tc) (m : M2 Z.X a "get" apos b c cpos := by exact ⟨rfl, rfl, rfl, rfl⟩) (h1 : m1.b = false := by rfl) (h2 : m2.b = false := by rfl) (h3 : m3.b = false := by rfl) :
    DE Z ⟨false, false⟩ (.Call (.Attribute a "get" apos) [b, c] [] cpos) (dDgN ta tb tc) := by
  obtain ⟨tea, pa, sa⟩ := ha
  obtain ⟨teb, pb, sb⟩ := hb
  obtain ⟨tec, pc, sc⟩ := hc
  refine ⟨_, pe_dgetN (Nat.lt_of_le_of_lt (by omega) Z.units) pa pb pc m, fun Ho hw G ρ σ H Q x q => ?_⟩
  refine sa Ho hw G ρ σ H _ x (DE.then (L := fun r => LJ Z Ho ⟨false, false⟩ G H σ r Q) (fun _ _ h => h) (fun h => h) q fun d ρ1 v G1 H1 x1 g1 s1 b1 q1 => ?_)
  rw [h1] at b1
  replace b1 := b1.rep
  cases d <;> try (exact q1.elim)
  rename_i kvs
  unfold Rep at b1
  obtain ⟨a0, ws, rfl, e1, e2⟩ := b1
  refine ⟨a0, rfl, .inl ⟨ws, .inl (x1.gh _ _ e1)⟩, ?_⟩
  refine sb Ho hw G1 ρ1 σ H1 _ x1 (DE.then (L := fun r => LJ Z Ho ⟨false, false⟩ G H σ r Q) (fun _ _ h => h) (fun h => h) q1 fun k ρ2 u G2 H2 x2 g2 s2 b2 q2 => ?_)
  rw [h2] at b2
  replace b2 := b2.rep
  refine sc Ho hw G2 ρ2 σ H2 _ x2 (DE.then (L := fun r => LJ Z Ho ⟨false, false⟩ G H σ r Q) (fun _ _ h => h) (fun h => h) q2 fun y ρ3 w G3 H3 x3 g3 s3 b3 q3 => ?_)
  rw [h3] at b3
  replace b3 := b3.rep
  have e3 : H3 a0 = some (.dK ws) := x3.gh _ _ (g3.1 _ _ (g2.1 _ _ e1))
  have gg : Gr Ho G G3 := (g1.trans g2).trans g3
  by_cases kn : k = .non
  · subst kn
    simp only [gDgN, lft] at q3
    have hx' : u = .non := by unfold Rep at b2; exact b2
    exact .inr ⟨ws, hx', .inl e3, q3 _ _ _ x3 gg (fun z => nomatch z) (.inl b3)⟩
  · have ge : gDgN kvs k y = gDg2 kvs k y := by cases k <;> first | rfl | exact absurd rfl kn
    unfold lft at q3
    rw [ge] at q3
    unfold gDg2 at q3
    cases ek : kOf k with
    | none => rw [ek] at q3; exact q3.elim
    | some kk =>
      rw [ek] at q3
      have eu := kOf_rep ek b2
      subst eu
      refine .inl ⟨valV ws kk, DGet.k e3, ?_⟩
      rcases RepK.get kk e2 with ⟨n, n2⟩ | ⟨d1, v1, r1, r2, r3⟩
      · rw [n2]
        simp only [n, Option.map_some, Option.getD_none] at q3
        exact q3 _ _ _ x3 gg (fun z => nomatch z) (.inl b3)
      · rw [r2]
        simp only [r1, Option.map_some, Option.getD_some] at q3
        exact q3 _ _ _ x3 gg (fun z => nomatch z) (.inl (Rep.mono (g2.1.trans g3.1) _ _ r3))
end
section
variable {ρ : List Sl} {t tk tx : M D} {kvs : List (D × D)} {x : D}
@[simp] theorem x_dDgN : dDgN t tk tx ρ = (t ρ).bind (tDgN tk tx) := rfl
@[simp] theorem x_tDgN : tDgN tk tx (.dct kvs) ρ = (tk ρ).bind fun k ρ1 => (tx ρ1).bind fun x => lft (gDgN kvs k x) := rfl
@[simp] theorem x_gDgN0 : gDgN kvs .non x = some x := rfl
@[simp] theorem x_gDgN1 {z : Str} : gDgN kvs (.str z) x = some ((getDk kvs (.inr z)).getD x) := rfl
end
end DS
set_option Elab.async false
set_option linter.all false
set_option maxRecDepth 100000
set_option maxHeartbeats 2000000
namespace DS
open PySem PySem.Spec PyProof.Rows L2
abbrev AllB (X : Cx) (scope : Scope) (p : Cx → Prop) : Prop := ∀ (s : Shared) (H : Hp) (C : Addr) (cl : List (Str × Addr)) (fp : List Addr), p (X.blk s H scope (compEnvC scope cl C X.env) fp)
theorem ps_setDc {X : Cx} {j : Nat} {z : Str} {pz cpos apos : Pos} {ke ve tgt src : Expr} {conds : List Expr} {sc : Scope} {own : List (Str × Nat)} {wi : TI} {gt : TG} {ct : TT} {t1 t2 : TE} (calm : X.calm = true) (nd : X.N.Nodup) (at_ : X.N[j]? = some z) (loc : X.env.scope.names.lookup z = some .local)
    (sw : swapsWith (.DictComp ke ve [⟨tgt, src, conds, 0⟩] sc cpos) (some (.Name z pz)) apos.line X.env = pure true) (hsrc : PI X tgt src wi) (blk : BlkOk X.N X.env.scope sc own)
    (h1 : AllB X sc fun Y => PG Y tgt gt) (h2 : AllB X sc fun Y => PTs Y conds ct) (h3 : AllB X sc fun Y => PE Y ke t1) (h4 : AllB X sc fun Y => PE Y ve t2) (fs : ∀ x, foldedSetIterable src X.env x = pure x) :
    PS X (.Assign [.Name z pz] (.DictComp ke ve [⟨tgt, src, conds, 0⟩] sc cpos) apos) (tAsg (tDc wi gt ct t1 t2 (own.map (·.2))) (gName j)) := by
  refine ⟨fun pins u σ H D I w => ?_⟩
  rw [exec_Assign_Name_used _ _ _ _ sw]
  refine wpAny_bind (wpAny_standAt (wpAny_bind ?_))
  show wpAny _ X.A (do let _ ← comprehension (.DictComp ke ve [⟨tgt, src, conds, 0⟩] sc cpos) sc X.env (firstIterPos [⟨tgt, src, conds, 0⟩] cpos) newDict false (eval src X.env) (some (assign (.Name z pz) X.env))) _ _ u
  have w : tDc wi gt ct t1 t2 (own.map (·.2)) σ H (fun x H1 => gName j x σ H1 D.nx) := w
  have core := dc_core (Qf := fun _ u' => SP X pins D .next u') (pos := cpos) (pos' := firstIterPos [⟨tgt, src, conds, 0⟩] cpos) (use := some (assign (.Name z pz) X.env)) calm nd I hsrc blk h1 h2 h3 h4 fs w
  refine wpAny_bind (thn (core fun A0 C u' m H' J q ns fp => ?_) fun _ u' done => wpAny_pure (wpAny_pure done))
  show wpAny _ _ (assign (.Name z pz) X.env (.ref A0)) _ _ _
  obtain ⟨g0, g1, g2, g3, g4, g5⟩ := fp
  refine wpAny_assign_Name (store_ok2 (v := V.ref A0) J nd at_ (.inl loc) rfl (fun v2 J2 ⟨b, sb, hb⟩ => ?_) (.inr loc))
  have apart : C ≠ b := by
    rcases hb with e | e
    · exact fun k => g1 (k.trans e)
    · exact fun k => g4 z b e k.symm
  exact ⟨m, ns.sameBut sb apart, fun h9 sb9 => ⟨_, H', J2.turned (t' := v2.toks) (fun c o hc e => (sb9.2 c hc).trans e) g0 g1 g3 g4 g5, q⟩⟩
section
variable {Z : DC} {tg : Expr} {iter ke ve : Expr} {ifs : List Expr} {scope : Scope} {m1 m2 : Md} {t : M (List D)} {g : D → List Sl → Option (List Sl)} {tt : M Bool} {tk tv : M D} {pos spos py : Pos} {y : Str}
theorem st_setDc (i : Nat) (own : List (Str × Nat)) (hN : Z.X.N.Nodup) (hi : DI Z tg iter t)
    (hg : ∀ (s : Shared) (H : Hp) (C : Addr) (cl : List (Str × Addr)) (fp : List Addr), DGo (blkZ Z s H scope (compEnvC scope cl C Z.X.env) fp) (own.map (·.2)) tg g)
    (ht : ∀ (s : Shared) (H : Hp) (C : Addr) (cl : List (Str × Addr)) (fp : List Addr), DTs (blkZ Z s H scope (compEnvC scope cl C Z.X.env) fp) ifs tt)
    (hk : ∀ (s : Shared) (H : Hp) (C : Addr) (cl : List (Str × Addr)) (fp : List Addr), DE (blkZ Z s H scope (compEnvC scope cl C Z.X.env) fp) m1 ke tk)
    (hv : ∀ (s : Shared) (H : Hp) (C : Addr) (cl : List (Str × Addr)) (fp : List Addr), DE (blkZ Z s H scope (compEnvC scope cl C Z.X.env) fp) m2 ve tv) (hb1 : m1.b = false := by rfl) (hb2 : m2.b = false := by rfl)
    (hy : Z.X.N[i]? = some y := by rfl) (hyl : Z.X.env.scope.names.lookup y = some .local := by rfl)
    (hsw : swapsWith (.DictComp ke ve [⟨tg, iter, ifs, 0⟩] scope pos) (some (.Name y py)) spos.line Z.X.env = pure true := by rfl)
    (ok : blkC Z.X.N Z.X.env.scope scope own = true := by first | (simp only [mkZ_N, mkZ_sc]; decide +kernel) | decide +kernel) (hs : ∀ x, foldedSetIterable iter Z.X.env x = pure x := by intro _; rfl) (hh : Z.hot = false := by rfl) :
    DSt Z (.Assign [.Name y py] (.DictComp ke ve [⟨tg, iter, ifs, 0⟩] scope pos) spos) (sSet i (dDc t g tt tk tv (own.map (·.2)))) := by
  obtain ⟨wi, pi, si⟩ := hi
  obtain ⟨tgt, pg, sg⟩ := blk_pg hg
  obtain ⟨ttt, pt, st⟩ := blk_pt ht
  obtain ⟨tke, pk, sk⟩ := blk_pe hb1 hk
  obtain ⟨tve, pv, sv⟩ := blk_pe hb2 hv
  refine ⟨_, ps_setDc (Z.calm hh) hN hy hyl hsw pi (blkOk_by ok) pg pt pk pv hs, fun Ho hw G ρ σ H E x q => ?_⟩
  exact dc_sem si sg st sk sv hw x (DR.thenS q fun s ρ1 v G1 H1 x1 g1 q1 => q1 _ G1 H1 (x1.assign i) g1)
end
end DS
set_option Elab.async false
set_option linter.all false
set_option maxRecDepth 100000
set_option maxHeartbeats 4000000
namespace CMA
open PySem PySem.Spec PyProof.Rows L2 DS DS.Drw
def g_ALPHABET : D := (.str ("\t\n !\"#$&'()*+,-./0123456789:;<=>?@ABCDEFGHIJKLMNOPQRSTUVWXYZ[\\]^_`abcdefghijklmnopqrstuvwxyz{|}~" : Str))
def g_MOST_SIGNS : D := (.int 4000)
noncomputable def e1_is_text : M D := (d2 fIn1 (dVarB 1) (ret g_ALPHABET))
noncomputable def b_is_text : MS := (sRet (dSh (dAndV (d1 (fIsi ["str"]) (dVarB 0)) (dAndV (d2 fLe (d1 fLen (dVarB 0)) (ret g_MOST_SIGNS)) (d1 fAll (dFz (dLc (lItems (dVar 0)) (gN 1) (ret true) e1_is_text [1])))))))
noncomputable def F_is_text : FS := mkF 1 2 b_is_text
noncomputable def b_need_text : MS := (sIf (dNotT (dB (dFz (dCall F_is_text [none] (dCons (dVar 0) dNil))))) (fun ρ => .ex ⟨("BadText" : Str), []⟩ ρ) sNil)
noncomputable def F_need_text : FS := mkF 1 1 b_need_text
end CMA
set_option Elab.async false
set_option linter.all false
set_option maxRecDepth 100000
set_option maxHeartbeats 4000000
namespace CMB
open PySem PySem.Spec PyProof.Rows L2 DS DS.Drw CMA
end CMB
set_option Elab.async false
set_option linter.all false
set_option maxRecDepth 100000
set_option maxHeartbeats 4000000
namespace CMC
open PySem PySem.Spec PyProof.Rows L2 DS DS.Drw CMA CMB
end CMC
set_option Elab.async false
set_option linter.all false
set_option maxRecDepth 100000
set_option maxHeartbeats 4000000
namespace CMD
open PySem PySem.Spec PyProof.Rows L2 DS DS.Drw CMA CMB CMC
end CMD
set_option Elab.async false
set_option linter.all false
set_option maxRecDepth 100000
set_option maxHeartbeats 4000000
namespace CME
open PySem PySem.Spec PyProof.Rows L2 DS DS.Drw CMA CMB CMC CMD
noncomputable def e1_is_table : M D := (dFz (dCall F_is_text [none] (dCons (dVar 2) dNil)))
noncomputable def e2_is_table : M D := (dAndV (d1 (fIsi ["tuple"]) (dVarB 1)) (d1 fAll (dFz (dLc (lItems (dVar 1)) (gN 2) (ret true) e1_is_table [2]))))
noncomputable def b_is_table : MS := (sSeq (sIf (dNotT (dB (d1 (fIsi ["list", "tuple"]) (dVarB 0)))) (sRet (dSh (ret (.bl false)))) sNil)
    (sRet (dSh (d1 fAll (dFz (dLc (lItems (dVar 0)) (gN 1) (ret true) e2_is_table [1]))))))
noncomputable def F_is_table : FS := mkF 1 3 b_is_table
noncomputable def b_need_table : MS := (sIf (dNotT (dB (dFz (dCall F_is_table [none] (dCons (dVar 0) dNil))))) (fun ρ => .ex ⟨("BadTable" : Str), []⟩ ρ) sNil)
noncomputable def F_need_table : FS := mkF 1 1 b_need_table
end CME
set_option Elab.async false
set_option linter.all false
set_option maxRecDepth 100000
set_option maxHeartbeats 4000000
namespace CMF
open PySem PySem.Spec PyProof.Rows L2 DS DS.Drw CMA CMB CMC CMD CME
end CMF
set_option Elab.async false
set_option linter.all false
set_option maxRecDepth 100000
set_option maxHeartbeats 4000000
namespace CMG
open PySem PySem.Spec PyProof.Rows L2 DS DS.Drw CMA CMB CMC CMD CME CMF
end CMG
set_option Elab.async false
set_option linter.all false
set_option maxRecDepth 100000
set_option maxHeartbeats 4000000
namespace CMH
open PySem PySem.Spec PyProof.Rows L2 DS DS.Drw CMA CMB CMC CMD CME CMF CMG
end CMH
set_option Elab.async false
set_option linter.all false
set_option maxRecDepth 100000
set_option maxHeartbeats 4000000
namespace CMI
open PySem PySem.Spec PyProof.Rows L2 DS DS.Drw CMA CMB CMC CMD CME CMF CMG CMH
noncomputable def l1__law_shuffled : MS := (sAppG 3 (dPopAt 2 (dFz (dCall F__law_take [some 0, none] (dRef 0 (dCons (d1 fLen (dVarB 2)) dNil))))))
noncomputable def w1__law_shuffled : M Bool := (dB (d2 fNe (dVarB 2) (ret (.lst []))))
noncomputable def b__law_shuffled : MS := (sSeq (sPar2 2 3 (sCons (dLstO (dVarB 1)) (sCons (dLst dNil) (ret []))))
    (sSeq (sWhile w1__law_shuffled l1__law_shuffled [])
    (sRet (dMove 3))))
noncomputable def F__law_shuffled : FS := mkF 2 4 b__law_shuffled
noncomputable def e2__law_partner : M D := (dIf (dB (d2 fIsN (dVarB 7) (ret .non))) (d2 fIx (dVarB 4) (dVarB 8)) (dVar 7))
noncomputable def g1__law_partner : D → List Sl → Option (List Sl) := (gTp 2 (gsCons (gN 8) (gsCons (gN 7) gsNil)))
noncomputable def t1__law_partner : M Bool := (dB (d2 fNotIn1 (dVarB 7) (dVarB 3)))
end CMI
set_option Elab.async false
set_option linter.all false
set_option maxRecDepth 100000
set_option maxHeartbeats 4000000
namespace K57
open PySem PySem.Spec PyProof.Rows L2 DS DS.Drw CMA CME CMI
noncomputable def b_need_choice : MS := (sIf (dB (d2 fNotN (dVarB 0) (ret .non))) (sDrop (dFz (dCall F_need_text [none] (dCons (dVar 0) dNil)))) sNil)
noncomputable def F_need_choice : FS := mkF 1 1 b_need_choice
noncomputable def l1_need_names : MS := (sIf (dOrT (dB (d2 fIn1 (dVarB 3) (dSl (dVarB 0) (ret none) (dPart (dVarB 2))))) (dB (d2 fEq (dVarB 3) (dVarB 1)))) (sRaise ("BadHeader" : Str) [("column" : Str)] (dCons (dVar 2) dNil)) sNil)
noncomputable def g1_need_names : D → List Sl → Option (List Sl) := (gTp 2 (gsCons (gN 2) (gsCons (gN 3) gsNil)))
noncomputable def b_need_names : MS := (sFor (lEnum (dVar 0)) g1_need_names l1_need_names [2, 3])
noncomputable def F_need_names : FS := mkF 2 4 b_need_names
noncomputable def e1_record_of : M D := (dIf (dB (d2 fLt (dVarB 6) (d1 fLen (dVarB 1)))) (d2 fIx (dVarB 1) (dVarB 6)) (dVar 4))
noncomputable def g1_record_of : D → List Sl → Option (List Sl) := (gTp 2 (gsCons (gN 6) (gsCons (gN 7) gsNil)))
noncomputable def b_record_of : MS := (sSeq (sIf (dOrT (dAndT (dB (d2 fGt (d1 fLen (dVarB 1)) (d1 fLen (dVarB 0)))) (dB (d2 fIsN (dVarB 3) (ret .non)))) (dAndT (dB (d2 fLt (d1 fLen (dVarB 1)) (d1 fLen (dVarB 0)))) (dB (d2 fIsN (dVarB 4) (ret .non))))) (sRaise ("Ragged" : Str) [("row" : Str)] (dCons (dVar 2) dNil)) sNil)
    (sSeq (sSet 5 (dDc (lEnum (dVar 0)) g1_record_of (ret true) (dVar 7) e1_record_of [6, 7]))
    (sSeq (sIf (dB (d2 fGt (d1 fLen (dVarB 1)) (d1 fLen (dVarB 0)))) (sPutD 5 (dVar 3) (d1 fLstT (dSl (dVarB 1) (dPart (d1 fLen (dVarB 0))) (ret none)))) sNil)
    (sRet (dMove 5)))))
noncomputable def F_record_of : FS := mkF 5 8 b_record_of
noncomputable def e1_records : M D := (dFz (dCall F_record_of [none, none, none, none, none] (dCons (d2 fIx (dVarB 4) (ret (.int 1))) (dCons (dVar 7) (dCons (dVar 6) (dCons (dVar 1) (dCons (dVar 2) dNil)))))))
noncomputable def g1_records : D → List Sl → Option (List Sl) := (gTp 2 (gsCons (gN 6) (gsCons (gN 7) gsNil)))
noncomputable def t1_records : M Bool := (dB (d2 fNe (dVar 7) (dTup dNil)))
noncomputable def e2_records : M D := (dTup (dCons (dVar 6) (dCons (dVar 7) dNil)))
noncomputable def b_records : MS := (sSeq (sDrop (dFz (dCall F_need_table [none] (dCons (dVar 0) dNil))))
    (sSeq (sDrop (dFz (dCall F_need_choice [none] (dCons (dVar 1) dNil))))
    (sSeq (sDrop (dFz (dCall F_need_choice [none] (dCons (dVar 2) dNil))))
    (sSeq (sSet 3 (dLc (lEnum (dVar 0)) g1_records t1_records e2_records [6, 7]))
    (sSeq (sIf (dB (d2 fEq (dVarB 3) (ret (.lst [])))) (sRet (dLst dNil)) sNil)
    (sSeq (sStar 4 5 (dVar 3))
    (sSeq (sDrop (dFz (dCall F_need_names [none, none] (dCons (d2 fIx (dVarB 4) (ret (.int 1))) (dCons (dVar 1) dNil)))))
    (sRet (dLc (lItems (dVar 5)) g1_records (ret true) e1_records [6, 7])))))))))
noncomputable def F_records : FS := mkF 3 8 b_records
noncomputable def e1_is_record : M D := (dFz (dCall F_is_text [none] (dCons (dVar 4) dNil)))
noncomputable def e2_is_record : M D := (dAndV (d2 (fInKN false) (dVarB 3) (dVarB 2)) (dFz (dCall F_is_text [none] (dCons (d2 fDg (dVarB 2) (dVarB 3)) dNil))))
noncomputable def b_is_record : MS := (sSeq (sIf (dOrT (dNotT (dB (d1 (fIsi ["dict"]) (dVarB 2)))) (dB (d2 fNotIn1 (d1 fLen (dVarB 2)) (dTup (dCons (d1 fLen (dVarB 0)) (dCons (d2 fAdd (d1 fLen (dVarB 0)) (ret (.int 1))) dNil)))))) (sRet (dSh (ret (.bl false)))) sNil)
    (sSeq (sIf (dNotT (dB (d1 fAll (dFz (dLc (lItems (dVar 0)) (gN 3) (ret true) e2_is_record [3]))))) (sRet (dSh (ret (.bl false)))) sNil)
    (sSeq (sIf (dB (d2 fEq (d1 fLen (dVarB 2)) (d1 fLen (dVarB 0)))) (sRet (dSh (ret (.bl true)))) sNil)
    (sSeq (sIf (dOrT (dB (d2 fIsN (dVarB 1) (ret .non))) (dOrT (dB (d2 (fInKN true) (dVarB 1) (dVarB 2))) (dNotT (dB (d1 (fIsi ["list", "tuple"]) (d2 fDg (dVarB 2) (dVarB 1))))))) (sRet (dSh (ret (.bl false)))) sNil)
    (sRet (dSh (dAndV (d2 fGt (d1 fLen (d2 fDg (dVarB 2) (dVarB 1))) (ret (.int 0))) (d1 fAll (dFz (dLc (lItems (d2 fDg (dVarB 2) (dVarB 1))) (gN 4) (ret true) e1_is_record [4]))))))))))
noncomputable def F_is_record : FS := mkF 3 5 b_is_record
noncomputable def w1_fields_of : M Bool := (dAndT (dB (d2 fNotN (dVarB 3) (ret .non))) (dAndT (dB (d2 fGt (d1 fLen (dVarB 4)) (ret (.int 1)))) (dB (d2 fEq (d2 fIx (dVarB 4) (d1 fNeg (ret (.int 1)))) (dVarB 3)))))
noncomputable def e1_fields_of : M D := (d2 fDg (dVarB 1) (dVarB 5))
noncomputable def b_fields_of : MS := (sSeq (sSet 4 (dLc (lItems (dVar 0)) (gN 5) (ret true) e1_fields_of [5]))
    (sSeq (sIf (dB (d2 (fInKN false) (dVarB 2) (dVarB 1))) (sRet (dSh (d2 fAdd (d1 fTupOf (dVarB 4)) (d1 fTupOf (d2 fDg (dVarB 1) (dVarB 2)))))) sNil)
    (sSeq (sWhile w1_fields_of (sDrop (dPop 4)) [])
    (sRet (dSh (d1 fTupOf (dVarB 4)))))))
noncomputable def F_fields_of : FS := mkF 4 6 b_fields_of
noncomputable def e1_unrecorded : M D := (dFz (dCall F_fields_of [none, none, none, none] (dCons (dVar 0) (dCons (dVar 6) (dCons (dVar 2) (dCons (dVar 3) dNil))))))
noncomputable def l1_unrecorded : MS := (sIf (dNotT (dB (dFz (dCall F_is_record [none, none, none] (dCons (dVar 0) (dCons (dVar 2) (dCons (dVar 6) dNil))))))) (sRaise ("BadRecord" : Str) [("index" : Str)] (dCons (dVar 5) dNil)) sNil)
noncomputable def g1_unrecorded : D → List Sl → Option (List Sl) := (gTp 2 (gsCons (gN 5) (gsCons (gN 6) gsNil)))
noncomputable def b_unrecorded : MS := (sSeq (sIf (dNotT (dB (dFz (dCall F_is_table [none] (dCons (dFz (dLst (dCons (dVar 0) dNil))) dNil))))) (fun ρ => .ex ⟨("BadTable" : Str), []⟩ ρ) sNil)
    (sSeq (sSet 4 (dSh (d1 (fIsi ["list", "tuple"]) (dVarB 1))))
    (sSeq (sDrop (dFz (dCall F_need_choice [none] (dCons (dVar 2) dNil))))
    (sSeq (sDrop (dFz (dCall F_need_choice [none] (dCons (dVar 3) dNil))))
    (sSeq (sDrop (dFz (dCall F_need_names [none, none] (dCons (dVar 0) (dCons (dVar 2) dNil)))))
    (sSeq (sIf (dAndT (dB (d2 fEq (dVar 0) (dTup dNil))) (dAndT (dB (dVar 4)) (dB (d2 fGt (d1 fLen (dVarB 1)) (ret (.int 0)))))) (sRaise ("BadHeader" : Str) [("column" : Str)] (dCons (ret (.int 0)) dNil)) sNil)
    (sSeq (sIf (dNotT (dB (dVar 4))) (sRaise ("BadRecord" : Str) [("index" : Str)] (dCons (ret (.int 0)) dNil)) sNil)
    (sSeq (sFor (lEnum (dVar 1)) g1_unrecorded l1_unrecorded [5])
    (sRet (dSh (d2 fAdd (d2 fMul (dFz (dLst (dCons (dVar 0) dNil))) (d1 fInt (d2 fNe (dVar 0) (dTup dNil)))) (dFz (dLc (lItems (dVar 1)) (gN 6) (ret true) e1_unrecorded [6])))))))))))))
noncomputable def F_unrecorded : FS := mkF 4 7 b_unrecorded
noncomputable def w1__law_fields : M Bool := (dAndT (dB (d2 fNotN (dVarB 3) (ret .non))) (dAndT (dB (d2 (fInKN true) (dVarB 2) (dVarB 1))) (dAndT (dB (d2 fGt (d1 fLen (dVarB 4)) (ret (.int 1)))) (dB (d2 fEq (d2 fIx (dVarB 4) (d1 fNeg (ret (.int 1)))) (dVarB 3))))))
noncomputable def e1__law_fields : M D := (d2 fDg (dVarB 1) (dVarB 5))
noncomputable def b__law_fields : MS := (sSeq (sSet 4 (dAddO (dFz (dLc (lItems (dVar 0)) (gN 5) (ret true) e1__law_fields [5])) (dDgN (dVar 1) (dVar 2) (ret (.lst [])))))
    (sSeq (sWhile w1__law_fields (sDrop (dPop 4)) [])
    (sRet (dSh (d1 fTupOf (dVarB 4))))))
noncomputable def F__law_fields : FS := mkF 4 6 b__law_fields
noncomputable def e1_law : M D := (dFz (dCall F__law_fields [none, none, none, none] (dCons (dVar 3) (dCons (dVar 9) (dCons (dVar 4) (dCons (dVar 5) dNil))))))
noncomputable def e2_law : M D := (dFz (dCall F__law_pick [some 1, none] (dRef 1 (dCons (dVar 6) dNil))))
noncomputable def e3_law : M D := (dTup (dCons (dVar 13) (dCons (dFz (dCall F__law_pick [some 1, none] (dRef 1 (dCons (dVar 6) dNil)))) dNil)))
noncomputable def l1_law : MS := (sSeq (sSet 9 (dDic (dFz (dLc (lItems (dVar 3)) (gN 13) (ret true) e3_law [13]))))
    (sSeq (sIf (dAndT (dB (d2 fNotN (dVarB 4) (ret .non))) (dB (d2 fEq (dFz (dCall F__law_take [some 1, none] (dRef 1 (dCons (ret (.int 3)) dNil)))) (ret (.int 0))))) (sPutD 9 (dVar 4) (dFz (dLc (lRange fRange1 (dCons (d2 fAdd (ret (.int 1)) (dFz (dCall F__law_take [some 1, none] (dRef 1 (dCons (ret (.int 3)) dNil))))) dNil)) (gN 14) (ret true) e2_law [14]))) sNil)
    (sAppG 7 (dFz (dDic (dFz (dCall F__law_shuffled [some 1, none] (dRef 1 (dCons (dFz (dLsI (dVarB 9))) dNil)))))))))
noncomputable def l2_law : MS := (sSeq (sSet 3 (dSh (d1 fTupOf (dSl (dFz (dCall F__law_shuffled [some 1, none] (dRef 1 (dCons (dFz (dLst (dCons (ret (.str ("a" : Str))) (dCons (ret (.str ("b" : Str))) (dCons (ret (.str ("c" : Str))) (dCons (ret (.str ("" : Str))) (dCons (ret (.str ("name" : Str))) (dCons (ret (.str ("x y" : Str))) (dCons (ret (.str ("size" : Str))) dNil))))))))) dNil)))) (ret none) (dPart (dFz (dCall F__law_take [some 1, none] (dRef 1 (dCons (ret (.int 7)) dNil)))))))))
    (sSeq (sParN [4, 5] (sCons (dCall F__law_pick [some 1, none] (dRef 1 (dCons (dFz (dLst (dCons (ret .non) (dCons (ret (.str ("rest" : Str))) (dCons (ret (.str ("more" : Str))) dNil))))) dNil))) (sCons (dCall F__law_pick [some 1, none] (dRef 1 (dCons (dFz (dLst (dCons (ret (.str ("" : Str))) (dCons (ret (.str ("-" : Str))) (dCons (ret .non) (dCons (ret (.str ("x" : Str))) dNil)))))) dNil))) (ret []))))
    (sSeq (sParN [6, 7] (sCons (dLst (dCons (ret (.str ("" : Str))) (dCons (ret (.str ("-" : Str))) (dCons (ret (.str ("x" : Str))) (dCons (ret (.str ("1" : Str))) (dCons (ret (.str ("a\n" : Str))) (dCons (ret (.str ("\"" : Str))) dNil))))))) (sCons (dLst dNil) (ret []))))
    (sSeq (sFor (lRange fRange1 (dCons (d2 fMul (dFz (dCall F__law_take [some 1, none] (dRef 1 (dCons (ret (.int 7)) dNil)))) (d1 fInt (d2 fNe (dVar 3) (dTup dNil)))) dNil)) (gN 8) l1_law [8, 14])
    (sSeq (sSet 10 (dSh (d1 fReprK (dVarB 7))))
    (sSeq (sSet 11 (dKw F_unrecorded 2 2 (fun l => perm [0, 1, 2, 3] (l ++ ([] : List (Str × D)).map (·.2))) (dCons (dVar 3) (dCons (dVar 7) dNil)) (dCons (dVar 4) (dCons (dVar 5) dNil))))
    (sSeq (sSet 12 (dSh (d2 fAdd (d2 fMul (dFz (dLst (dCons (dVar 3) dNil))) (d1 fInt (d2 fNe (dVar 3) (dTup dNil)))) (dFz (dLc (lItems (dVar 7)) (gN 9) (ret true) e1_law [9])))))
    (sSeq (sIf (dOrT (dB (d2 fNe (dVarB 11) (dVarB 12))) (dOrT (dNotT (dB (d1 (fIsi ["list"]) (dVarB 11)))) (dB (d2 fNe (d1 fReprK (dVarB 7)) (dVarB 10))))) (sRet (dSh (ret (.bl false)))) sNil)
    (sSeq (sIf (dB (d2 fNeV (dFz (dKw F_records 1 2 (fun l => perm [0, 1, 2] (l ++ ([] : List (Str × D)).map (·.2))) (dCons (dVar 11) dNil) (dCons (dVar 4) (dCons (dVar 5) dNil)))) (dVarB 7))) (sRet (dSh (ret (.bl false)))) sNil)
    (sIf (dB (d2 fNe (dFz (dKw F_unrecorded 0 4 (fun l => perm [3, 2, 1, 0] (l ++ ([] : List (Str × D)).map (·.2))) dNil (dCons (dVar 5) (dCons (dVar 4) (dCons (d1 fTupOf (dVarB 7)) (dCons (dVar 3) dNil)))))) (dVarB 12))) (sRet (dSh (ret (.bl false)))) sNil))))))))))
noncomputable def b_law : MS := (sSeq (sSet 1 (dCall F__law_begun [none] (dCons (dVar 0) dNil)))
    (sSeq (sFor (lRange fRange1 (dCons (d2 fAdd (ret (.int 8)) (d2 fMin (d1 fLen (dVarB 0)) (ret (.int 24)))) dNil)) (gN 2) l2_law [2, 3, 4, 5, 6, 7, 8, 10, 11, 12, 14])
    (sRet (dSh (dAndV (d2 fEq (dFz (dKw F_unrecorded 2 0 (fun l => perm [0, 1, 2, 3] (l ++ ([(("rest" : Str), .non), (("missing" : Str), (.str ("" : Str)))] : List (Str × D)).map (·.2))) (dCons (dTup dNil) (dCons (ret (.lst [])) dNil)) dNil)) (ret (.lst []))) (d2 fEq (dFz (dKw F_unrecorded 2 0 (fun l => perm [0, 1, 2, 3] (l ++ ([(("rest" : Str), .non), (("missing" : Str), (.str ("" : Str)))] : List (Str × D)).map (·.2))) (dCons (dTup (dCons (ret (.str ("a" : Str))) (dCons (ret (.str ("b" : Str))) dNil))) (dCons (dFz (dLst (dCons (dFz (dDispK (((ret (.str ("b" : Str))), (ret (.str ("" : Str)))) :: (((ret (.str ("a" : Str))), (ret (.str ("" : Str)))) :: [])))) dNil))) dNil)) dNil)) (dFz (dLst (dCons (dTup (dCons (ret (.str ("a" : Str))) (dCons (ret (.str ("b" : Str))) dNil))) (dCons (dTup (dCons (ret (.str ("" : Str))) dNil)) dNil))))))))))
noncomputable def F_law : FS := mkF 1 15 b_law
end K57
set_option Elab.async false
set_option linter.all false
set_option maxRecDepth 100000
set_option maxHeartbeats 4000000
namespace K57
open PySem PySem.Spec PyProof.Rows L2 DS DS.Drw CMA CME CMI
def top (i : Nat) : Stmt := PySem.Challenge.pw_fieldfence_k57_whole_tables_of_records.main.body.getD i (.Pass ⟨0, 0, 0, 0⟩)
abbrev s_is_text : Stmt := top 11
abbrev s_need_text : Stmt := top 12
abbrev s_is_table : Stmt := top 14
abbrev s_need_table : Stmt := top 15
abbrev s_need_choice : Stmt := top 17
abbrev s_need_names : Stmt := top 18
abbrev s_record_of : Stmt := top 19
abbrev s_records : Stmt := top 20
abbrev s_is_record : Stmt := top 21
abbrev s_fields_of : Stmt := top 22
abbrev s_unrecorded : Stmt := top 23
abbrev s__law_begun : Stmt := top 25
abbrev s__law_mixed : Stmt := top 26
abbrev s__law_take : Stmt := top 27
abbrev s__law_pick : Stmt := top 28
abbrev s__law_shuffled : Stmt := top 29
abbrev s__law_fields : Stmt := top 30
abbrev s_law : Stmt := top 31
abbrev s_Ragged_init : Stmt := inClass (top 4) 0
abbrev s_BadHeader_init : Stmt := inClass (top 5) 0
abbrev s_BadRecord_init : Stmt := inClass (top 6) 0
structure Txt (P : Program) (w : World) (K : PySem.W.Frag) (mg : Str → Option Value) (c_BadText c_BadTable c_Ragged c_BadHeader c_BadRecord : Addr) : Prop where
  n_abs : mg "abs" = none
  n_all : mg "all" = none
  n_dict : mg "dict" = none
  n_enumerate : mg "enumerate" = none
  n_int : mg "int" = none
  n_isinstance : mg "isinstance" = none
  n_len : mg "len" = none
  n_list : mg "list" = none
  n_min : mg "min" = none
  n_range : mg "range" = none
  n_repr : mg "repr" = none
  n_str : mg "str" = none
  n_tuple : mg "tuple" = none
  g_ALPHABET : RepG K mg "ALPHABET" g_ALPHABET
  g_MOST_SIGNS : RepG K mg "MOST_SIGNS" g_MOST_SIGNS
  f_is_text : ∃ f fd, FnAt K mg "is_text" s_is_text ["value"] f fd
  f_need_text : ∃ f fd, FnAt K mg "need_text" s_need_text ["value"] f fd
  f_is_table : ∃ f fd, FnAt K mg "is_table" s_is_table ["value"] f fd
  f_need_table : ∃ f fd, FnAt K mg "need_table" s_need_table ["value"] f fd
  f_need_choice : ∃ f fd, FnAt K mg "need_choice" s_need_choice ["value"] f fd
  f_need_names : ∃ f fd, FnAt K mg "need_names" s_need_names ["names", "rest"] f fd
  f_record_of : ∃ f fd, FnAt K mg "record_of" s_record_of ["names", "fields", "index", "rest", "missing"] f fd
  f_records : ∃ f fd, FnDf K mg "records" s_records [(("rest" : Str), .non), (("missing" : Str), (.str ("" : Str)))] f fd
  f_is_record : ∃ f fd, FnAt K mg "is_record" s_is_record ["names", "rest", "value"] f fd
  f_fields_of : ∃ f fd, FnAt K mg "fields_of" s_fields_of ["names", "record", "rest", "missing"] f fd
  f_unrecorded : ∃ f fd, FnDf K mg "unrecorded" s_unrecorded [(("rest" : Str), .non), (("missing" : Str), (.str ("" : Str)))] f fd
  f__law_begun : ∃ f fd, FnAt K mg "_law_begun" s__law_begun ["_law_script"] f fd
  f__law_mixed : ∃ f fd, FnAt K mg "_law_mixed" s__law_mixed ["_law_draw"] f fd
  f__law_take : ∃ f fd, FnAt K mg "_law_take" s__law_take ["_law_draw", "_law_size"] f fd
  f__law_pick : ∃ f fd, FnAt K mg "_law_pick" s__law_pick ["_law_draw", "_law_items"] f fd
  f__law_shuffled : ∃ f fd, FnAt K mg "_law_shuffled" s__law_shuffled ["_law_draw", "_law_items"] f fd
  f__law_fields : ∃ f fd, FnAt K mg "_law_fields" s__law_fields ["_law_heads", "_law_one", "_law_extra", "_law_blank"] f fd
  f_law : ∃ f fd, FnAt K mg "law" s_law ["_law_script"] f fd
  sys : ∃ o, K.lookup PySem.sysModules = some o
  m_BadText : mg "BadText" = some (.ref c_BadText)
  k_BadText : PySem.W.keepIn K (.ref c_BadText) = true
  b_BadText : PySem.W.subIn K (.ref c_BadText) (.type "BaseException") = some true
  t_BadText : PySem.W.typeIn K (.ref c_BadText) = some (.type "type")
  z_BadText : PySem.W.excIn K c_BadText [.type "ValueError", .type "Exception", .type "BaseException", .type "object"] "ValueError.__new__" = true
  m_BadTable : mg "BadTable" = some (.ref c_BadTable)
  k_BadTable : PySem.W.keepIn K (.ref c_BadTable) = true
  b_BadTable : PySem.W.subIn K (.ref c_BadTable) (.type "BaseException") = some true
  t_BadTable : PySem.W.typeIn K (.ref c_BadTable) = some (.type "type")
  z_BadTable : PySem.W.excIn K c_BadTable [.type "ValueError", .type "Exception", .type "BaseException", .type "object"] "ValueError.__new__" = true
  m_Ragged : mg "Ragged" = some (.ref c_Ragged)
  k_Ragged : PySem.W.keepIn K (.ref c_Ragged) = true
  b_Ragged : PySem.W.subIn K (.ref c_Ragged) (.type "BaseException") = some true
  t_Ragged : PySem.W.typeIn K (.ref c_Ragged) = some (.type "type")
  e_Ragged : DSX.MadeBy P w K mg c_Ragged ["row"]
  m_BadHeader : mg "BadHeader" = some (.ref c_BadHeader)
  k_BadHeader : PySem.W.keepIn K (.ref c_BadHeader) = true
  b_BadHeader : PySem.W.subIn K (.ref c_BadHeader) (.type "BaseException") = some true
  t_BadHeader : PySem.W.typeIn K (.ref c_BadHeader) = some (.type "type")
  e_BadHeader : DSX.MadeBy P w K mg c_BadHeader ["column"]
  m_BadRecord : mg "BadRecord" = some (.ref c_BadRecord)
  k_BadRecord : PySem.W.keepIn K (.ref c_BadRecord) = true
  b_BadRecord : PySem.W.subIn K (.ref c_BadRecord) (.type "BaseException") = some true
  t_BadRecord : PySem.W.typeIn K (.ref c_BadRecord) = some (.type "type")
  e_BadRecord : DSX.MadeBy P w K mg c_BadRecord ["index"]
section
variable {P : Program} {w : World} {K : PySem.W.Frag} {mg : Str → Option Value} {base : Heap} {c_BadText c_BadTable c_Ragged c_BadHeader c_BadRecord : Addr}
theorem fd_is_text (T : Txt P w K mg c_BadText c_BadTable c_Ragged c_BadHeader c_BadRecord) : Fd false P w K mg base "is_text" 2 1 F_is_text := by
  obtain ⟨f, fd, A⟩ := T.f_is_text
  have nd : (["value", "sign"] : List Str).Nodup := by decide +kernel
  exact fd_of (N := ["value", "sign"]) A ⟨rfl, rfl, rfl, nd, rfl, by decide +kernel, by decide +kernel⟩ (fun cdv A outer s H E τ Ho G0 Ex hg room tk =>
    (dss_one (st_ret (DE.dr (de_andV (de_isi T.n_isinstance (de_varB 0) (by decide +kernel) T.n_str) (de_andV (de_c1 cLe (de_len T.n_len (de_varB 0)) (de_glob T.g_MOST_SIGNS)) (de_one (de_all T.n_all (DR.de (dr_lc [("sign", 1)] nd (di_any (de_var 0)) (fun _ _ _ _ _ => (dgo_name 1 nd)) (fun _ _ _ _ _ => dts_nil) (fun _ _ _ _ _ => (de_c1 cIn (de_varB 1) (de_glob T.g_ALPHABET)))))))))))))
theorem fd_need_text (T : Txt P w K mg c_BadText c_BadTable c_Ragged c_BadHeader c_BadRecord) : Fd false P w K mg base "need_text" 4 1 F_need_text := by
  obtain ⟨f, fd, A⟩ := T.f_need_text
  have nd : (["value"] : List Str).Nodup := by decide +kernel
  exact fd_of (N := ["value"]) A ⟨rfl, rfl, rfl, nd, rfl, by decide +kernel, by decide +kernel⟩ (fun cdv A outer s H E τ Ho G0 Ex hg room tk =>
    (dss_one (st_if (dt_not (dt_val (DR.de (dr_fn (fd_is_text T) (dar_cons (de_var 0) dar_nil))))) (dss_one (st_raise0 PySem.F.excBase_ValueError T.z_BadText T.m_BadText T.k_BadText T.b_BadText T.t_BadText)) dss_nil)))
theorem fd_is_table (T : Txt P w K mg c_BadText c_BadTable c_Ragged c_BadHeader c_BadRecord) : Fd false P w K mg base "is_table" 4 1 F_is_table := by
  obtain ⟨f, fd, A⟩ := T.f_is_table
  have nd : (["value", "row", "field"] : List Str).Nodup := by decide +kernel
  exact fd_of (N := ["value", "row", "field"]) A ⟨rfl, rfl, rfl, nd, rfl, by decide +kernel, by decide +kernel⟩ (fun cdv A outer s H E τ Ho G0 Ex hg room tk =>
    (dss_cons (st_if (dt_not (dt_val (de_isiT T.n_isinstance (de_varB 0) (dcl_cons (by decide +kernel) T.n_list (dcl_cons (by decide +kernel) T.n_tuple dcl_nil))))) (dss_one (st_ret (DE.dr de_bl))) dss_nil) (dss_one (st_ret (DE.dr (de_all T.n_all (DR.de (dr_lc [("row", 1)] nd (di_any (de_var 0)) (fun _ _ _ _ _ => (dgo_name 1 nd)) (fun _ _ _ _ _ => dts_nil) (fun _ _ _ _ _ => (de_andV (de_isi T.n_isinstance (de_varB 1) (by decide +kernel) T.n_tuple) (de_one (de_all T.n_all (DR.de (dr_lc [("field", 2)] nd (di_any (de_var 1)) (fun _ _ _ _ _ => (dgo_name 2 nd)) (fun _ _ _ _ _ => dts_nil) (fun _ _ _ _ _ => (DR.de (dr_fn (fd_is_text T) (dar_cons (de_var 2) dar_nil)))) (ok := by first | (rw [blkZ_N, blkZ_sc (by decide +kernel), mkZ_N]; decide +kernel) | (rw [blkZ_N, blkZ_scR]; simp only [mkZ_N, mkZ_sc]; decide +kernel))))))))))))))))
theorem fd_need_table (T : Txt P w K mg c_BadText c_BadTable c_Ragged c_BadHeader c_BadRecord) : Fd false P w K mg base "need_table" 6 1 F_need_table := by
  obtain ⟨f, fd, A⟩ := T.f_need_table
  have nd : (["value"] : List Str).Nodup := by decide +kernel
  exact fd_of (N := ["value"]) A ⟨rfl, rfl, rfl, nd, rfl, by decide +kernel, by decide +kernel⟩ (fun cdv A outer s H E τ Ho G0 Ex hg room tk =>
    (dss_one (st_if (dt_not (dt_val (DR.de (dr_fn (fd_is_table T) (dar_cons (de_var 0) dar_nil))))) (dss_one (st_raise0 PySem.F.excBase_ValueError T.z_BadTable T.m_BadTable T.k_BadTable T.b_BadTable T.t_BadTable)) dss_nil)))
theorem fd_need_choice (T : Txt P w K mg c_BadText c_BadTable c_Ragged c_BadHeader c_BadRecord) : Fd false P w K mg base "need_choice" 6 1 F_need_choice := by
  obtain ⟨f, fd, A⟩ := T.f_need_choice
  have nd : (["value"] : List Str).Nodup := by decide +kernel
  exact fd_of (N := ["value"]) A ⟨rfl, rfl, rfl, nd, rfl, by decide +kernel, by decide +kernel⟩ (fun cdv A outer s H E τ Ho G0 Ex hg room tk =>
    (dss_one (st_if (dt_c1 cNotN (de_varB 0) de_non) (dss_one (st_expr (DR.de (dr_fn (fd_need_text T) (dar_cons (de_var 0) dar_nil))))) dss_nil)))
theorem fd_need_names (T : Txt P w K mg c_BadText c_BadTable c_Ragged c_BadHeader c_BadRecord) : Fd false P w K mg base "need_names" 2 2 F_need_names := by
  obtain ⟨f, fd, A⟩ := T.f_need_names
  have nd : (["names", "rest", "column", "name"] : List Str).Nodup := by decide +kernel
  exact fd_of (N := ["names", "rest", "column", "name"]) A ⟨rfl, rfl, rfl, nd, rfl, by decide +kernel, by decide +kernel⟩ (fun cdv A outer s H E τ Ho G0 Ex hg room tk =>
    (dss_one (st_for [2, 3] (passes_of rfl) (di_enum T.n_enumerate (de_var 0)) (dg_tup 2 (dgs_cons (dg_name 2 nd) (dgs_cons (dg_name 3 nd) dgs_nil))) (dss_one (st_if (DW.dt (dw_or (dt_c1 cIn (de_varB 3) (de_sl (de_varB 0) do_none (do_some (de_varB 2)))) (dw_or1 (dt_c1 cEq (de_varB 3) (de_varB 1))))) (dss_one (st_raise T.e_BadHeader T.m_BadHeader T.k_BadHeader T.b_BadHeader T.t_BadHeader (da_cons (de_var 2) da_nil))) dss_nil)))))
theorem fd_record_of (T : Txt P w K mg c_BadText c_BadTable c_Ragged c_BadHeader c_BadRecord) : Fd false P w K mg base "record_of" 2 5 F_record_of := by
  obtain ⟨f, fd, A⟩ := T.f_record_of
  have nd : (["names", "fields", "index", "rest", "missing", "found", "at", "name"] : List Str).Nodup := by decide +kernel
  exact fd_of (N := ["names", "fields", "index", "rest", "missing", "found", "at", "name"]) A ⟨rfl, rfl, rfl, nd, rfl, by decide +kernel, by decide +kernel⟩ (fun cdv A outer s H E τ Ho G0 Ex hg room tk =>
    (dss_cons (st_if (DW.dt (dw_or (DW.dt (dw_and (dt_c1 cGt (de_len T.n_len (de_varB 1)) (de_len T.n_len (de_varB 0))) (dw_and1 (dt_c1 cIsN (de_varB 3) de_non)))) (dw_or1 (DW.dt (dw_and (dt_c1 cLt (de_len T.n_len (de_varB 1)) (de_len T.n_len (de_varB 0))) (dw_and1 (dt_c1 cIsN (de_varB 4) de_non))))))) (dss_one (st_raise T.e_Ragged T.m_Ragged T.k_Ragged T.b_Ragged T.t_Ragged (da_cons (de_var 2) da_nil))) dss_nil) (dss_cons (st_setDc 5 [("at", 6), ("name", 7)] nd (di_enum T.n_enumerate (de_var 0)) (fun _ _ _ _ _ => (dgo_tup 2 (dgso_cons (dgo_name 6 nd) (dgso_cons (dgo_name 7 nd) dgso_nil)))) (fun _ _ _ _ _ => dts_nil) (fun _ _ _ _ _ => (de_var 7)) (fun _ _ _ _ _ => (de_if (dt_c1 cLt (de_varB 6) (de_len T.n_len (de_varB 1))) (de_ix (de_varB 1) (de_varB 6)) (de_var 4)))) (dss_cons (st_if (dt_c1 cGt (de_len T.n_len (de_varB 1)) (de_len T.n_len (de_varB 0))) (dss_one (st_putD 5 (de_var 3) (de_lstT T.n_list (de_sl (de_varB 1) (do_some (de_len T.n_len (de_varB 0))) do_none)))) dss_nil) (dss_one (st_ret (dr_move 5)))))))
theorem fk_records (T : Txt P w K mg c_BadText c_BadTable c_Ragged c_BadHeader c_BadRecord) : FdK false P w K mg base "records" s_records [(("rest" : Str), .non), (("missing" : Str), (.str ("" : Str)))] [("table" : Str), ("rest" : Str), ("missing" : Str)] 8 F_records := by
  obtain ⟨f, fd, A⟩ := T.f_records
  have nd : (["table", "rest", "missing", "lines", "first", "others", "index", "fields"] : List Str).Nodup := by decide +kernel
  exact fdk_of (N := ["table", "rest", "missing", "lines", "first", "others", "index", "fields"]) A ⟨rfl, rfl, rfl, nd, rfl, by decide +kernel, by decide +kernel⟩ (fun cdv A outer s H E τ Ho G0 Ex hg room tk =>
    (dss_cons (st_expr (DR.de (dr_fn (fd_need_table T) (dar_cons (de_var 0) dar_nil)))) (dss_cons (st_expr (DR.de (dr_fn (fd_need_choice T) (dar_cons (de_var 1) dar_nil)))) (dss_cons (st_expr (DR.de (dr_fn (fd_need_choice T) (dar_cons (de_var 2) dar_nil)))) (dss_cons (st_setLc 3 [("index", 6), ("fields", 7)] nd (di_enum T.n_enumerate (de_var 0)) (fun _ _ _ _ _ => (dgo_tup 2 (dgso_cons (dgo_name 6 nd) (dgso_cons (dgo_name 7 nd) dgso_nil)))) (fun _ _ _ _ _ => (dts_one (dt_c1 cNe (de_var 7) (de_tup da_nil)))) (fun _ _ _ _ _ => (de_tup (da_cons (de_var 6) (da_cons (de_var 7) da_nil))))) (dss_cons (st_if (dt_c1 cEq (de_varB 3) de_nilL) (dss_one (st_ret (dr_lst da_nil))) dss_nil) (dss_cons (st_star 4 5 (de_var 3) nd) (dss_cons (st_expr (DR.de (dr_fn (fd_need_names T) (dar_cons (de_ix (de_varB 4) de_int) (dar_cons (de_var 1) dar_nil))))) (dss_one (st_ret (dr_lc [("index", 6), ("fields", 7)] nd (di_any (de_var 5)) (fun _ _ _ _ _ => (dgo_tup 2 (dgso_cons (dgo_name 6 nd) (dgso_cons (dgo_name 7 nd) dgso_nil)))) (fun _ _ _ _ _ => dts_nil) (fun _ _ _ _ _ => (DR.de (dr_fn (fd_record_of T) (dar_cons (de_ix (de_varB 4) de_int) (dar_cons (de_var 7) (dar_cons (de_var 6) (dar_cons (de_var 1) (dar_cons (de_var 2) dar_nil)))))))))))))))))))
theorem fd_is_record (T : Txt P w K mg c_BadText c_BadTable c_Ragged c_BadHeader c_BadRecord) : Fd false P w K mg base "is_record" 4 3 F_is_record := by
  obtain ⟨f, fd, A⟩ := T.f_is_record
  have nd : (["names", "rest", "value", "name", "field"] : List Str).Nodup := by decide +kernel
  exact fd_of (N := ["names", "rest", "value", "name", "field"]) A ⟨rfl, rfl, rfl, nd, rfl, by decide +kernel, by decide +kernel⟩ (fun cdv A outer s H E τ Ho G0 Ex hg room tk =>
    (dss_cons (st_if (DW.dt (dw_or (dt_not (dt_val (de_isi T.n_isinstance (de_varB 2) (by decide +kernel) T.n_dict))) (dw_or1 (dt_c1 cNotIn (de_len T.n_len (de_varB 2)) (de_tup (da_cons (de_len T.n_len (de_varB 0)) (da_cons (de_add (de_len T.n_len (de_varB 0)) de_int) da_nil))))))) (dss_one (st_ret (DE.dr de_bl))) dss_nil) (dss_cons (st_if (dt_not (dt_val (de_all T.n_all (DR.de (dr_lc [("name", 3)] nd (di_any (de_var 0)) (fun _ _ _ _ _ => (dgo_name 3 nd)) (fun _ _ _ _ _ => dts_nil) (fun _ _ _ _ _ => (de_andV (de_c1 cInKN (de_varB 3) (de_varB 2)) (de_one (DR.de (dr_fn (fd_is_text T) (dar_cons (de_dget (de_varB 2) (de_varB 3)) dar_nil))))))))))) (dss_one (st_ret (DE.dr de_bl))) dss_nil) (dss_cons (st_if (dt_c1 cEq (de_len T.n_len (de_varB 2)) (de_len T.n_len (de_varB 0))) (dss_one (st_ret (DE.dr de_bl))) dss_nil) (dss_cons (st_if (DW.dt (dw_or (dt_c1 cIsN (de_varB 1) de_non) (dw_or (dt_c1 cNotInKN (de_varB 1) (de_varB 2)) (dw_or1 (dt_not (dt_val (de_isiT T.n_isinstance (de_dget (de_varB 2) (de_varB 1)) (dcl_cons (by decide +kernel) T.n_list (dcl_cons (by decide +kernel) T.n_tuple dcl_nil))))))))) (dss_one (st_ret (DE.dr de_bl))) dss_nil) (dss_one (st_ret (DE.dr (de_andV (de_c1 cGt (de_len T.n_len (de_dget (de_varB 2) (de_varB 1))) de_int) (de_one (de_all T.n_all (DR.de (dr_lc [("field", 4)] nd (di_any (de_dget (de_varB 2) (de_varB 1))) (fun _ _ _ _ _ => (dgo_name 4 nd)) (fun _ _ _ _ _ => dts_nil) (fun _ _ _ _ _ => (DR.de (dr_fn (fd_is_text T) (dar_cons (de_var 4) dar_nil)))))))))))))))))
theorem fd_fields_of (T : Txt P w K mg c_BadText c_BadTable c_Ragged c_BadHeader c_BadRecord) : Fd false P w K mg base "fields_of" 2 4 F_fields_of := by
  obtain ⟨f, fd, A⟩ := T.f_fields_of
  have nd : (["names", "record", "rest", "missing", "found", "name"] : List Str).Nodup := by decide +kernel
  exact fd_of (N := ["names", "record", "rest", "missing", "found", "name"]) A ⟨rfl, rfl, rfl, nd, rfl, by decide +kernel, by decide +kernel⟩ (fun cdv A outer s H E τ Ho G0 Ex hg room tk =>
    (dss_cons (st_setLc 4 [("name", 5)] nd (di_any (de_var 0)) (fun _ _ _ _ _ => (dgo_name 5 nd)) (fun _ _ _ _ _ => dts_nil) (fun _ _ _ _ _ => (de_dget (de_varB 1) (de_varB 5)))) (dss_cons (st_if (dt_c1 cInKN (de_varB 2) (de_varB 1)) (dss_one (st_ret (DE.dr (de_add (de_tupof T.n_tuple (de_varB 4)) (de_tupof T.n_tuple (de_dget (de_varB 1) (de_varB 2))))))) dss_nil) (dss_cons (st_while [] (passes_of rfl) (DW.dt (dw_and (dt_c1 cNotN (de_varB 3) de_non) (dw_and (dt_c1 cGt (de_len T.n_len (de_varB 4)) de_int) (dw_and1 (dt_c1 cEq (de_ix (de_varB 4) (de_neg de_int)) (de_varB 3)))))) (dss_one (st_expr (de_pop 4)))) (dss_one (st_ret (DE.dr (de_tupof T.n_tuple (de_varB 4)))))))))
theorem fk_unrecorded (T : Txt P w K mg c_BadText c_BadTable c_Ragged c_BadHeader c_BadRecord) : FdK false P w K mg base "unrecorded" s_unrecorded [(("rest" : Str), .non), (("missing" : Str), (.str ("" : Str)))] [("names" : Str), ("dicts" : Str), ("rest" : Str), ("missing" : Str)] 8 F_unrecorded := by
  obtain ⟨f, fd, A⟩ := T.f_unrecorded
  have nd : (["names", "dicts", "rest", "missing", "is_list", "index", "record"] : List Str).Nodup := by decide +kernel
  exact fdk_of (N := ["names", "dicts", "rest", "missing", "is_list", "index", "record"]) A ⟨rfl, rfl, rfl, nd, rfl, by decide +kernel, by decide +kernel⟩ (fun cdv A outer s H E τ Ho G0 Ex hg room tk =>
    (dss_cons (st_if (dt_not (dt_val (DR.de (dr_fn (fd_is_table T) (dar_cons (DR.de (dr_lst (da_cons (de_var 0) da_nil))) dar_nil))))) (dss_one (st_raise0 PySem.F.excBase_ValueError T.z_BadTable T.m_BadTable T.k_BadTable T.b_BadTable T.t_BadTable)) dss_nil) (dss_cons (st_set 4 (DE.dr (de_isiT T.n_isinstance (de_varB 1) (dcl_cons (by decide +kernel) T.n_list (dcl_cons (by decide +kernel) T.n_tuple dcl_nil)))) nd) (dss_cons (st_expr (DR.de (dr_fn (fd_need_choice T) (dar_cons (de_var 2) dar_nil)))) (dss_cons (st_expr (DR.de (dr_fn (fd_need_choice T) (dar_cons (de_var 3) dar_nil)))) (dss_cons (st_expr (DR.de (dr_fn (fd_need_names T) (dar_cons (de_var 0) (dar_cons (de_var 2) dar_nil))))) (dss_cons (st_if (DW.dt (dw_and (dt_c1 cEq (de_var 0) (de_tup da_nil)) (dw_and (dt_val (de_var 4)) (dw_and1 (dt_c1 cGt (de_len T.n_len (de_varB 1)) de_int))))) (dss_one (st_raise T.e_BadHeader T.m_BadHeader T.k_BadHeader T.b_BadHeader T.t_BadHeader (da_cons de_int da_nil))) dss_nil) (dss_cons (st_if (dt_not (dt_val (de_var 4))) (dss_one (st_raise T.e_BadRecord T.m_BadRecord T.k_BadRecord T.b_BadRecord T.t_BadRecord (da_cons de_int da_nil))) dss_nil) (dss_cons (st_for [5] (passes_of rfl) (di_enum T.n_enumerate (de_var 1)) (dg_tup 2 (dgs_cons (dg_name 5 nd) (dgs_cons (dg_name 6 nd) dgs_nil))) (dss_one (st_if (dt_not (dt_val (DR.de (dr_fn (fd_is_record T) (dar_cons (de_var 0) (dar_cons (de_var 2) (dar_cons (de_var 6) dar_nil))))))) (dss_one (st_raise T.e_BadRecord T.m_BadRecord T.k_BadRecord T.b_BadRecord T.t_BadRecord (da_cons (de_var 5) da_nil))) dss_nil))) (dss_one (st_ret (DE.dr (de_add (de_mul (DR.de (dr_lst (da_cons (de_var 0) da_nil))) (de_intof T.n_int (de_c1 cNe (de_var 0) (de_tup da_nil)))) (DR.de (dr_lc [("record", 6)] nd (di_any (de_var 1)) (fun _ _ _ _ _ => (dgo_name 6 nd)) (fun _ _ _ _ _ => dts_nil) (fun _ _ _ _ _ => (DR.de (dr_fn (fd_fields_of T) (dar_cons (de_var 0) (dar_cons (de_var 6) (dar_cons (de_var 2) (dar_cons (de_var 3) dar_nil))))))))))))))))))))))
theorem fd__law_begun (T : Txt P w K mg c_BadText c_BadTable c_Ragged c_BadHeader c_BadRecord) : Fd false P w K mg base "_law_begun" 2 1 F__law_begun := by
  obtain ⟨f, fd, A⟩ := T.f__law_begun
  have nd : (["_law_script", "_law_large", "_law_cell"] : List Str).Nodup := by decide +kernel
  exact fd_of (N := ["_law_script", "_law_large", "_law_cell"]) A ⟨rfl, rfl, rfl, nd, rfl, by decide +kernel, by decide +kernel⟩ (fun cdv A outer s H E τ Ho G0 Ex hg room tk =>
    (dss_cons (st_setLc 1 [("_law_cell", 2)] nd (di_any (de_var 0)) (fun _ _ _ _ _ => (dgo_name 2 nd)) (fun _ _ _ _ _ => (dts_one (dt_c1 cGe (de_abs T.n_abs (de_varB 2)) (de_pow de_int de_int)))) (fun _ _ _ _ _ => (de_sub (de_abs T.n_abs (de_varB 2)) (de_pow de_int de_int)))) (dss_one (st_ret (dr_draw (dr_move 1) (DR.de (dr_lc [("_law_cell", 2)] nd (di_any (de_var 0)) (fun _ _ _ _ _ => (dgo_name 2 nd)) (fun _ _ _ _ _ => dts_nil) (fun _ _ _ _ _ => (de_mod (de_abs T.n_abs (de_varB 2)) de_int)))))))))
theorem fd__law_mixed (T : Txt P w K mg c_BadText c_BadTable c_Ragged c_BadHeader c_BadRecord) : Fd false P w K mg base "_law_mixed" 2 1 F__law_mixed := by
  obtain ⟨f, fd, A⟩ := T.f__law_mixed
  have nd : (["_law_draw", "_law_turn", "_law_found", "_law_prime", "_law_blend", "_law_cell"] : List Str).Nodup := by decide +kernel
  exact fd_of (N := ["_law_draw", "_law_turn", "_law_found", "_law_prime", "_law_blend", "_law_cell"]) A ⟨rfl, rfl, rfl, nd, rfl, by decide +kernel, by decide +kernel⟩ (fun cdv A outer s H E τ Ho G0 Ex hg room tk =>
    (dss_cons (st_set 1 (DE.dr (de_add (de_drawT 0) de_int)) nd) (dss_cons (st_drawT 0 (de_var 1)) (dss_cons (st_set 2 (DE.dr de_int) nd) (dss_cons (st_for [3, 4, 5] (passes_of rfl) (di_any (DR.de (dr_lst (da_cons de_int (da_cons de_int (da_cons de_int (da_cons de_int da_nil))))))) (dg_name 3 nd) (dss_cons (st_set 4 (DE.dr (de_add (de_mul de_int (de_varB 1)) (de_fdiv (de_varB 3) de_int))) nd) (dss_cons (st_for [5] (passes_of rfl) (di_drawC 0) (dg_name 5 nd) (dss_one (st_set 4 (DE.dr (de_mod (de_add (de_add (de_mul (de_varB 4) de_int) (de_varB 5)) (de_varB 1)) (de_varB 3))) nd))) (dss_one (st_set 2 (DE.dr (de_add (de_mul (de_varB 2) de_int) (de_mod (de_pow (de_varB 4) de_int) (de_varB 3)))) nd))))) (dss_one (st_ret (dr_move 2))))))))
theorem fd__law_take (T : Txt P w K mg c_BadText c_BadTable c_Ragged c_BadHeader c_BadRecord) : Fd false P w K mg base "_law_take" 4 2 F__law_take := by
  obtain ⟨f, fd, A⟩ := T.f__law_take
  have nd : (["_law_draw", "_law_size", "_law_found"] : List Str).Nodup := by decide +kernel
  exact fd_of (N := ["_law_draw", "_law_size", "_law_found"]) A ⟨rfl, rfl, rfl, nd, rfl, by decide +kernel, by decide +kernel⟩ (fun cdv A outer s H E τ Ho G0 Ex hg room tk =>
    (dss_cons (st_if (DW.dt (dw_and (dt_c1 cEq (de_drawR 0) de_int) (dw_and1 (dt_c1 cNe (de_drawL 0) de_nilL)))) (dss_one (st_drawR 0 (de_drawP 0))) (dss_one (st_if (dt_c1 cEq (de_drawR 0) de_int) (dss_one (st_drawR 0 (DR.de (dr_fn (fd__law_mixed T) (dar_ref 0 dar_nil))))) dss_nil))) (dss_cons (st_set 2 (DE.dr (de_mod (de_drawR 0) (de_varB 1))) nd) (dss_cons (st_drawR 0 (de_fdiv (de_drawR 0) (de_varB 1))) (dss_one (st_ret (dr_move 2)))))))
theorem fd__law_pick (T : Txt P w K mg c_BadText c_BadTable c_Ragged c_BadHeader c_BadRecord) : Fd false P w K mg base "_law_pick" 6 2 F__law_pick := by
  obtain ⟨f, fd, A⟩ := T.f__law_pick
  have nd : (["_law_draw", "_law_items"] : List Str).Nodup := by decide +kernel
  exact fd_of (N := ["_law_draw", "_law_items"]) A ⟨rfl, rfl, rfl, nd, rfl, by decide +kernel, by decide +kernel⟩ (fun cdv A outer s H E τ Ho G0 Ex hg room tk =>
    (dss_one (st_ret (DE.dr (de_ix (de_var 1) (DR.de (dr_fn (fd__law_take T) (dar_ref 0 (dar_cons (de_len T.n_len (de_varB 1)) dar_nil)))))))))
theorem fd__law_shuffled (T : Txt P w K mg c_BadText c_BadTable c_Ragged c_BadHeader c_BadRecord) : Fd false P w K mg base "_law_shuffled" 6 2 F__law_shuffled := by
  obtain ⟨f, fd, A⟩ := T.f__law_shuffled
  have nd : (["_law_draw", "_law_items", "_law_left", "_law_found"] : List Str).Nodup := by decide +kernel
  exact fd_of (N := ["_law_draw", "_law_items", "_law_left", "_law_found"]) A ⟨rfl, rfl, rfl, nd, rfl, by decide +kernel, by decide +kernel⟩ (fun cdv A outer s H E τ Ho G0 Ex hg room tk =>
    (dss_cons (st_par2 2 3 (drs_cons (dr_lstO T.n_list (de_varB 1)) (drs_cons (dr_lst da_nil) drs_nil)) nd) (dss_cons (st_while [] (passes_of rfl) (dt_c1 cNe (de_varB 2) de_nilL) (dss_one (st_app 3 (de_popAt 2 (DR.de (dr_fn (fd__law_take T) (dar_ref 0 (dar_cons (de_len T.n_len (de_varB 2)) dar_nil)))))))) (dss_one (st_ret (dr_move 3))))))
theorem fd__law_fields (T : Txt P w K mg c_BadText c_BadTable c_Ragged c_BadHeader c_BadRecord) : Fd false P w K mg base "_law_fields" 2 4 F__law_fields := by
  obtain ⟨f, fd, A⟩ := T.f__law_fields
  have nd : (["_law_heads", "_law_one", "_law_extra", "_law_blank", "_law_found", "_law_name"] : List Str).Nodup := by decide +kernel
  exact fd_of (N := ["_law_heads", "_law_one", "_law_extra", "_law_blank", "_law_found", "_law_name"]) A ⟨rfl, rfl, rfl, nd, rfl, by decide +kernel, by decide +kernel⟩ (fun cdv A outer s H E τ Ho G0 Ex hg room tk =>
    (dss_cons (st_set 4 (dr_addO (DR.de (dr_lc [("_law_name", 5)] nd (di_any (de_var 0)) (fun _ _ _ _ _ => (dgo_name 5 nd)) (fun _ _ _ _ _ => dts_nil) (fun _ _ _ _ _ => (de_dget (de_varB 1) (de_varB 5))))) (de_dgetN trivial (de_var 1) (de_var 2) de_nilL)) nd) (dss_cons (st_while [] (passes_of rfl) (DW.dt (dw_and (dt_c1 cNotN (de_varB 3) de_non) (dw_and (dt_c1 cNotInKN (de_varB 2) (de_varB 1)) (dw_and (dt_c1 cGt (de_len T.n_len (de_varB 4)) de_int) (dw_and1 (dt_c1 cEq (de_ix (de_varB 4) (de_neg de_int)) (de_varB 3))))))) (dss_one (st_expr (de_pop 4)))) (dss_one (st_ret (DE.dr (de_tupof T.n_tuple (de_varB 4))))))))
end
end K57
set_option Elab.async false
set_option linter.all false
set_option maxRecDepth 100000
set_option maxHeartbeats 4000000
namespace K57
open PySem PySem.Spec PyProof.Rows L2 DS DS.Drw CMA CME CMI
section
variable {P : Program} {w : World} {K : PySem.W.Frag} {mg : Str → Option Value} {base : Heap} {c_BadText c_BadTable c_Ragged c_BadHeader c_BadRecord : Addr}
theorem fn_law {f : Addr} {fd : FuncData} (T : Txt P w K mg c_BadText c_BadTable c_Ragged c_BadHeader c_BadRecord) (A : FnAt K mg "law" s_law ["_law_script"] f fd) : FnG true P w K mg base 10 f fd ["_law_script"] (liftSp K mg 1 F_law) := by
  have nd : (["_law_script", "_law_draw", "_law_turn", "_law_heads", "_law_extra", "_law_blank", "_law_menu", "_law_some", "_law_k", "_law_one", "_law_kept", "_law_table", "_law_due", "_law_name", "_law_at"] : List Str).Nodup := by decide +kernel
  exact fn_ds (N := ["_law_script", "_law_draw", "_law_turn", "_law_heads", "_law_extra", "_law_blank", "_law_menu", "_law_some", "_law_k", "_law_one", "_law_kept", "_law_table", "_law_due", "_law_name", "_law_at"]) A.fn ⟨rfl, rfl, rfl, nd, rfl, by decide +kernel, by decide +kernel⟩ (fun cdv A outer s H E τ Ho G0 Ex hg room tk =>
    (dss_cons (st_set 1 (dr_fn (fd__law_begun T) (dar_cons (de_var 0) dar_nil)) nd) (dss_cons (st_for [2, 3, 4, 5, 6, 7, 8, 10, 11, 12, 14] (passes_of rfl) (di_range1 T.n_range (da_cons (de_add de_int (de_min T.n_min (de_len T.n_len (de_varB 0)) de_int)) da_nil)) (dg_name 2 nd) (dss_cons (st_set 3 (DE.dr (de_tupof T.n_tuple (de_sl (DR.de (dr_fn (fd__law_shuffled T) (dar_ref 1 (dar_cons (DR.de (dr_lst (da_cons de_str (da_cons de_str (da_cons de_str (da_cons de_str (da_cons de_str (da_cons de_str (da_cons de_str da_nil))))))))) dar_nil)))) do_none (do_some (DR.de (dr_fn (fd__law_take T) (dar_ref 1 (dar_cons de_int dar_nil)))))))) nd) (dss_cons (st_parN [4, 5] (drs_cons (dr_fn (fd__law_pick T) (dar_ref 1 (dar_cons (DR.de (dr_lst (da_cons de_non (da_cons de_str (da_cons de_str da_nil))))) dar_nil))) (drs_cons (dr_fn (fd__law_pick T) (dar_ref 1 (dar_cons (DR.de (dr_lst (da_cons de_str (da_cons de_str (da_cons de_non (da_cons de_str da_nil)))))) dar_nil))) drs_nil)) (dgn_cons 4 (dgn_cons 5 dgn_nil nd) nd)) (dss_cons (st_parN [6, 7] (drs_cons (dr_lst (da_cons de_str (da_cons de_str (da_cons de_str (da_cons de_str (da_cons de_str (da_cons de_str da_nil))))))) (drs_cons (dr_lst da_nil) drs_nil)) (dgn_cons 6 (dgn_cons 7 dgn_nil nd) nd)) (dss_cons (st_for [8, 14] (passes_of rfl) (di_range1 T.n_range (da_cons (de_mul (DR.de (dr_fn (fd__law_take T) (dar_ref 1 (dar_cons de_int dar_nil)))) (de_intof T.n_int (de_c1 cNe (de_var 3) (de_tup da_nil)))) da_nil)) (dg_name 8 nd) (dss_cons (st_set 9 (dr_dic T.n_dict (DR.de (dr_lc [("_law_name", 13)] nd (di_any (de_var 3)) (fun _ _ _ _ _ => (dgo_name 13 nd)) (fun _ _ _ _ _ => dts_nil) (fun _ _ _ _ _ => (de_tup (da_cons (de_var 13) (da_cons (DR.de (dr_fn (fd__law_pick T) (dar_ref 1 (dar_cons (de_var 6) dar_nil)))) da_nil))))))) nd) (dss_cons (st_if (DW.dt (dw_and (dt_c1 cNotN (de_varB 4) de_non) (dw_and1 (dt_c1 cEq (DR.de (dr_fn (fd__law_take T) (dar_ref 1 (dar_cons de_int dar_nil)))) de_int)))) (dss_one (st_putD 9 (de_var 4) (DR.de (dr_lc [("_law_at", 14)] nd (di_range1 T.n_range (da_cons (de_add de_int (DR.de (dr_fn (fd__law_take T) (dar_ref 1 (dar_cons de_int dar_nil))))) da_nil)) (fun _ _ _ _ _ => (dgo_name 14 nd)) (fun _ _ _ _ _ => dts_nil) (fun _ _ _ _ _ => (DR.de (dr_fn (fd__law_pick T) (dar_ref 1 (dar_cons (de_var 6) dar_nil))))))))) dss_nil) (dss_one (st_app 7 (DR.de (dr_dic T.n_dict (DR.de (dr_fn (fd__law_shuffled T) (dar_ref 1 (dar_cons (DR.de (dr_lsI T.n_list (de_varB 9))) dar_nil))))))))))) (dss_cons (st_set 10 (DE.dr (de_reprK rfl T.sys T.n_repr (de_varB 7))) nd) (dss_cons (st_set 11 (dr_fk (ks := [("rest" : Str), ("missing" : Str)]) 2 [0, 1, 2, 3] [] (fk_unrecorded T) (da_cons (de_var 3) (da_cons (de_var 7) da_nil)) (dk_cons (de_var 4) (dk_cons (de_var 5) dk_nil)) (fun h => nomatch h) (fun q hq => nomatch hq) rfl (by decide) (fun D doc pm an cdv ct us mv ws h1 h2 h3 => match us, mv, ws, h1, h2, h3 with | [_, _], [], [_, _], _, _, _ => rfl)) nd) (dss_cons (st_set 12 (DE.dr (de_add (de_mul (DR.de (dr_lst (da_cons (de_var 3) da_nil))) (de_intof T.n_int (de_c1 cNe (de_var 3) (de_tup da_nil)))) (DR.de (dr_lc [("_law_one", 9)] nd (di_any (de_var 7)) (fun _ _ _ _ _ => (dgo_name 9 nd)) (fun _ _ _ _ _ => dts_nil) (fun _ _ _ _ _ => (DR.de (dr_fn (fd__law_fields T) (dar_cons (de_var 3) (dar_cons (de_var 9) (dar_cons (de_var 4) (dar_cons (de_var 5) dar_nil))))))))))) nd) (dss_cons (st_if (DW.dt (dw_or (dt_c1 cNe (de_varB 11) (de_varB 12)) (dw_or (dt_not (dt_val (de_isi T.n_isinstance (de_varB 11) (by decide +kernel) T.n_list))) (dw_or1 (dt_c1 cNe (de_reprK rfl T.sys T.n_repr (de_varB 7)) (de_varB 10)))))) (dss_one (st_ret (DE.dr de_bl))) dss_nil) (dss_cons (st_if (dt_c1 cNeV (DR.de (dr_fk (ks := [("rest" : Str), ("missing" : Str)]) 1 [0, 1, 2] [] (fk_records T) (da_cons (de_var 11) da_nil) (dk_cons (de_var 4) (dk_cons (de_var 5) dk_nil)) (fun h => nomatch h) (fun q hq => nomatch hq) rfl (by decide) (fun D doc pm an cdv ct us mv ws h1 h2 h3 => match us, mv, ws, h1, h2, h3 with | [_], [], [_, _], _, _, _ => rfl))) (de_varB 7)) (dss_one (st_ret (DE.dr de_bl))) dss_nil) (dss_one (st_if (dt_c1 cNe (DR.de (dr_fk0 (ks := [("missing" : Str), ("rest" : Str), ("dicts" : Str), ("names" : Str)]) [3, 2, 1, 0] [] (fk_unrecorded T) (dk_cons (de_var 5) (dk_cons (de_var 4) (dk_cons (de_tupof T.n_tuple (de_varB 7)) (dk_cons (de_var 3) dk_nil)))) (fun h => nomatch h) (fun q hq => nomatch hq) rfl (by decide) (fun D doc pm an cdv ct us mv ws h1 h2 h3 => match us, mv, ws, h1, h2, h3 with | [], [], [_, _, _, _], _, _, _ => rfl))) (de_varB 12)) (dss_one (st_ret (DE.dr de_bl))) dss_nil)))))))))))) (dss_one (st_ret (DE.dr (de_andV (de_c1 cEq (DR.de (dr_fk (ks := []) 2 [0, 1, 2, 3] [(("rest" : Str), .non), (("missing" : Str), (.str ("" : Str)))] (fk_unrecorded T) (da_cons (de_tup da_nil) (da_cons de_nilL da_nil)) dk_nil (fun h => nomatch h) (fun q hq => hq) rfl (by decide) (fun D doc pm an cdv ct us mv ws h1 h2 h3 => match us, mv, ws, h1, h2, h3 with | [_, _], [_, _], [], _, _, _ => ⟨_, _, _, _, _, _, rfl, rfl, ⟨_, _, _, _, _, _, rfl, rfl, rfl⟩⟩))) de_nilL) (de_one (de_c1 cEq (DR.de (dr_fk (ks := []) 2 [0, 1, 2, 3] [(("rest" : Str), .non), (("missing" : Str), (.str ("" : Str)))] (fk_unrecorded T) (da_cons (de_tup (da_cons de_str (da_cons de_str da_nil))) (da_cons (DR.de (dr_lst (da_cons (DR.de (dr_dispK (dps_cons de_str de_str (dps_cons de_str de_str dps_nil)))) da_nil))) da_nil)) dk_nil (fun h => nomatch h) (fun q hq => hq) rfl (by decide) (fun D doc pm an cdv ct us mv ws h1 h2 h3 => match us, mv, ws, h1, h2, h3 with | [_, _], [_, _], [], _, _, _ => ⟨_, _, _, _, _, _, rfl, rfl, ⟨_, _, _, _, _, _, rfl, rfl, rfl⟩⟩))) (DR.de (dr_lst (da_cons (de_tup (da_cons de_str (da_cons de_str da_nil))) (da_cons (de_tup (da_cons de_str da_nil)) da_nil)))))))))))))
end
theorem head {P : Program} {w : World} {K : PySem.W.Frag} {h : Heap} {mg : Str → Option Value} {fa : Addr} (X : K.In h) (G : h.Ns mainGlobals mg) (hfa : mg "law" = some (.ref fa))
    {vt1 : Tok}
    {vt2 : Tok}
    {c_BadText : Addr}
    {c_BadTable : Addr}
    {c_Ragged : Addr}
    {c_BadHeader : Addr}
    {c_BadRecord : Addr}
    {nm_Ragged q_Ragged : Str} {N_Ragged : Addr} {bs_Ragged : List Value} {sn_Ragged : List Str} {sub_Ragged : List Value} {ab_Ragged : Bool} {col_Ragged : Option Bool} {dd_Ragged : Option Addr} {m0_Ragged m1_Ragged m2_Ragged m3_Ragged m5_Ragged : Option Value}
    {fi_Ragged cc_Ragged cda_Ragged : Addr} {oc_Ragged kV_Ragged doc_Ragged pm_Ragged ct_Ragged cl_Ragged ccl_Ragged : Value} {od_Ragged an_Ragged cld_Ragged cdd_Ragged : Option Addr} {osl_Ragged csl_Ragged ccs_Ragged : Array (Option Value)} {vs_Ragged : Array Value} {file_Ragged : Str} {tf_Ragged : Tok}
    {nm_BadHeader q_BadHeader : Str} {N_BadHeader : Addr} {bs_BadHeader : List Value} {sn_BadHeader : List Str} {sub_BadHeader : List Value} {ab_BadHeader : Bool} {col_BadHeader : Option Bool} {dd_BadHeader : Option Addr} {m0_BadHeader m1_BadHeader m2_BadHeader m3_BadHeader m5_BadHeader : Option Value}
    {fi_BadHeader cc_BadHeader cda_BadHeader : Addr} {oc_BadHeader kV_BadHeader doc_BadHeader pm_BadHeader ct_BadHeader cl_BadHeader ccl_BadHeader : Value} {od_BadHeader an_BadHeader cld_BadHeader cdd_BadHeader : Option Addr} {osl_BadHeader csl_BadHeader ccs_BadHeader : Array (Option Value)} {vs_BadHeader : Array Value} {file_BadHeader : Str} {tf_BadHeader : Tok}
    {nm_BadRecord q_BadRecord : Str} {N_BadRecord : Addr} {bs_BadRecord : List Value} {sn_BadRecord : List Str} {sub_BadRecord : List Value} {ab_BadRecord : Bool} {col_BadRecord : Option Bool} {dd_BadRecord : Option Addr} {m0_BadRecord m1_BadRecord m2_BadRecord m3_BadRecord m5_BadRecord : Option Value}
    {fi_BadRecord cc_BadRecord cda_BadRecord : Addr} {oc_BadRecord kV_BadRecord doc_BadRecord pm_BadRecord ct_BadRecord cl_BadRecord ccl_BadRecord : Value} {od_BadRecord an_BadRecord cld_BadRecord cdd_BadRecord : Option Addr} {osl_BadRecord csl_BadRecord ccs_BadRecord : Array (Option Value)} {vs_BadRecord : Array Value} {file_BadRecord : Str} {tf_BadRecord : Tok}
    {sy1 : Value} {sy2 : Option Addr} {sy3 : Data} {sy4 : Array (Option Value)}
    {ff_is_text : Addr} {foc_is_text fkV_is_text fdoc_is_text fpm_is_text fcd_is_text fct_is_text : Value} {fod_is_text fan_is_text : Option Addr} {fsl_is_text : Array (Option Value)}
    {ff_need_text : Addr} {foc_need_text fkV_need_text fdoc_need_text fpm_need_text fcd_need_text fct_need_text : Value} {fod_need_text fan_need_text : Option Addr} {fsl_need_text : Array (Option Value)}
    {ff_is_table : Addr} {foc_is_table fkV_is_table fdoc_is_table fpm_is_table fcd_is_table fct_is_table : Value} {fod_is_table fan_is_table : Option Addr} {fsl_is_table : Array (Option Value)}
    {ff_need_table : Addr} {foc_need_table fkV_need_table fdoc_need_table fpm_need_table fcd_need_table fct_need_table : Value} {fod_need_table fan_need_table : Option Addr} {fsl_need_table : Array (Option Value)}
    {ff_need_choice : Addr} {foc_need_choice fkV_need_choice fdoc_need_choice fpm_need_choice fcd_need_choice fct_need_choice : Value} {fod_need_choice fan_need_choice : Option Addr} {fsl_need_choice : Array (Option Value)}
    {ff_need_names : Addr} {foc_need_names fkV_need_names fdoc_need_names fpm_need_names fcd_need_names fct_need_names : Value} {fod_need_names fan_need_names : Option Addr} {fsl_need_names : Array (Option Value)}
    {ff_record_of : Addr} {foc_record_of fkV_record_of fdoc_record_of fpm_record_of fcd_record_of fct_record_of : Value} {fod_record_of fan_record_of : Option Addr} {fsl_record_of : Array (Option Value)}
    {ff_records : Addr} {foc_records fdoc_records fpm_records fcd_records fct_records : Value} {fod_records fan_records : Option Addr} {fsl_records : Array (Option Value)} {fkd_records : Addr}
    {vt4 : Tok}
    {ff_is_record : Addr} {foc_is_record fkV_is_record fdoc_is_record fpm_is_record fcd_is_record fct_is_record : Value} {fod_is_record fan_is_record : Option Addr} {fsl_is_record : Array (Option Value)}
    {ff_fields_of : Addr} {foc_fields_of fkV_fields_of fdoc_fields_of fpm_fields_of fcd_fields_of fct_fields_of : Value} {fod_fields_of fan_fields_of : Option Addr} {fsl_fields_of : Array (Option Value)}
    {ff_unrecorded : Addr} {foc_unrecorded fdoc_unrecorded fpm_unrecorded fcd_unrecorded fct_unrecorded : Value} {fod_unrecorded fan_unrecorded : Option Addr} {fsl_unrecorded : Array (Option Value)} {fkd_unrecorded : Addr}
    {vt6 : Tok}
    {ff__law_begun : Addr} {foc__law_begun fkV__law_begun fdoc__law_begun fpm__law_begun fcd__law_begun fct__law_begun : Value} {fod__law_begun fan__law_begun : Option Addr} {fsl__law_begun : Array (Option Value)}
    {ff__law_mixed : Addr} {foc__law_mixed fkV__law_mixed fdoc__law_mixed fpm__law_mixed fcd__law_mixed fct__law_mixed : Value} {fod__law_mixed fan__law_mixed : Option Addr} {fsl__law_mixed : Array (Option Value)}
    {ff__law_take : Addr} {foc__law_take fkV__law_take fdoc__law_take fpm__law_take fcd__law_take fct__law_take : Value} {fod__law_take fan__law_take : Option Addr} {fsl__law_take : Array (Option Value)}
    {ff__law_pick : Addr} {foc__law_pick fkV__law_pick fdoc__law_pick fpm__law_pick fcd__law_pick fct__law_pick : Value} {fod__law_pick fan__law_pick : Option Addr} {fsl__law_pick : Array (Option Value)}
    {ff__law_shuffled : Addr} {foc__law_shuffled fkV__law_shuffled fdoc__law_shuffled fpm__law_shuffled fcd__law_shuffled fct__law_shuffled : Value} {fod__law_shuffled fan__law_shuffled : Option Addr} {fsl__law_shuffled : Array (Option Value)}
    {ff__law_fields : Addr} {foc__law_fields fkV__law_fields fdoc__law_fields fpm__law_fields fcd__law_fields fct__law_fields : Value} {fod__law_fields fan__law_fields : Option Addr} {fsl__law_fields : Array (Option Value)}
    {ff_law : Addr} {foc_law fkV_law fdoc_law fpm_law fcd_law fct_law : Value} {fod_law fan_law : Option Addr} {fsl_law : Array (Option Value)}
    (zb_abs : PySem.W.nsIn K mainGlobals "abs" = some none)
    (zb_all : PySem.W.nsIn K mainGlobals "all" = some none)
    (zb_dict : PySem.W.nsIn K mainGlobals "dict" = some none)
    (zb_enumerate : PySem.W.nsIn K mainGlobals "enumerate" = some none)
    (zb_int : PySem.W.nsIn K mainGlobals "int" = some none)
    (zb_isinstance : PySem.W.nsIn K mainGlobals "isinstance" = some none)
    (zb_len : PySem.W.nsIn K mainGlobals "len" = some none)
    (zb_list : PySem.W.nsIn K mainGlobals "list" = some none)
    (zb_min : PySem.W.nsIn K mainGlobals "min" = some none)
    (zb_range : PySem.W.nsIn K mainGlobals "range" = some none)
    (zb_repr : PySem.W.nsIn K mainGlobals "repr" = some none)
    (zb_str : PySem.W.nsIn K mainGlobals "str" = some none)
    (zb_tuple : PySem.W.nsIn K mainGlobals "tuple" = some none)
    (zg_ALPHABET : PySem.W.nsIn K mainGlobals "ALPHABET" = some (some (.str ("\t\n !\"#$&'()*+,-./0123456789:;<=>?@ABCDEFGHIJKLMNOPQRSTUVWXYZ[\\]^_`abcdefghijklmnopqrstuvwxyz{|}~" : Str) vt1)))
    (zg_MOST_SIGNS : PySem.W.nsIn K mainGlobals "MOST_SIGNS" = some (some (.int 4000 vt2)))
    (z_super : PySem.W.nsIn K mainGlobals "super" = some none)
    (z_third : PySem.W.nsIn K cStatics "thirdparty.any" = some none)
    (a_BadText : PySem.W.nsIn K mainGlobals "BadText" = some (some (.ref c_BadText)))
    (a_BadTable : PySem.W.nsIn K mainGlobals "BadTable" = some (some (.ref c_BadTable)))
    (a_Ragged : PySem.W.nsIn K mainGlobals "Ragged" = some (some (.ref c_Ragged)))
    (a_BadHeader : PySem.W.nsIn K mainGlobals "BadHeader" = some (some (.ref c_BadHeader)))
    (a_BadRecord : PySem.W.nsIn K mainGlobals "BadRecord" = some (some (.ref c_BadRecord)))
    (eb_BadText : PySem.W.subIn K (.ref c_BadText) (.type "BaseException") = some true)
    (ic_BadText : PySem.W.isClsIn K c_BadText = true)
    (ty_BadText : PySem.W.typeIn K (.ref c_BadText) = some (.type "type"))
    (kp_BadText : PySem.W.keepIn K (.ref c_BadText) = true)
    (ga_BadText : PySem.W.findIn K (.ref c_BadText) "__getattribute__" = some (some (.builtin "BaseException.__getattribute__")))
    (gg_BadText : PySem.W.findIn K (.ref c_BadText) "__getattr__" = some none)
    (hd_BadText : PySem.W.hasDictIn K c_BadText = true)
    (zx_BadText : PySem.W.excIn K c_BadText [.type "ValueError", .type "Exception", .type "BaseException", .type "object"] "ValueError.__new__" = true)
    (eb_BadTable : PySem.W.subIn K (.ref c_BadTable) (.type "BaseException") = some true)
    (ic_BadTable : PySem.W.isClsIn K c_BadTable = true)
    (ty_BadTable : PySem.W.typeIn K (.ref c_BadTable) = some (.type "type"))
    (kp_BadTable : PySem.W.keepIn K (.ref c_BadTable) = true)
    (ga_BadTable : PySem.W.findIn K (.ref c_BadTable) "__getattribute__" = some (some (.builtin "BaseException.__getattribute__")))
    (gg_BadTable : PySem.W.findIn K (.ref c_BadTable) "__getattr__" = some none)
    (hd_BadTable : PySem.W.hasDictIn K c_BadTable = true)
    (zx_BadTable : PySem.W.excIn K c_BadTable [.type "ValueError", .type "Exception", .type "BaseException", .type "object"] "ValueError.__new__" = true)
    (eb_Ragged : PySem.W.subIn K (.ref c_Ragged) (.type "BaseException") = some true)
    (ic_Ragged : PySem.W.isClsIn K c_Ragged = true)
    (ty_Ragged : PySem.W.typeIn K (.ref c_Ragged) = some (.type "type"))
    (kp_Ragged : PySem.W.keepIn K (.ref c_Ragged) = true)
    (ga_Ragged : PySem.W.findIn K (.ref c_Ragged) "__getattribute__" = some (some (.builtin "BaseException.__getattribute__")))
    (gg_Ragged : PySem.W.findIn K (.ref c_Ragged) "__getattr__" = some none)
    (hd_Ragged : PySem.W.hasDictIn K c_Ragged = true)
    (no_Ragged_row : PySem.W.findIn K (.ref c_Ragged) "row" = some none)
    (x_Ragged : K.lookup c_Ragged = some (excClassObj nm_Ragged q_Ragged c_Ragged N_Ragged bs_Ragged [.ref c_FieldError, .type "ValueError", .type "Exception", .type "BaseException", .type "object"] true sn_Ragged sub_Ragged ab_Ragged col_Ragged dd_Ragged m0_Ragged m1_Ragged m2_Ragged m3_Ragged m5_Ragged "ValueError.__new__"))
    (sa_Ragged : PySem.W.findIn K (.ref c_Ragged) "__setattr__" = some (some (.builtin "object.__setattr__")))
    (ii_Ragged : PySem.W.findIn K (.ref c_Ragged) "__init__" = some (some (.ref fi_Ragged)))
    (ti_Ragged : PySem.W.typeIn K (.ref fi_Ragged) = some (.type "function"))
    (ve_Ragged : PySem.W.subIn K (.ref c_Ragged) (.type "ValueError") = some true)
    (li_Ragged : K.lookup fi_Ragged = some ⟨oc_Ragged, od_Ragged, .func (PySem.W.ksFn "__init__" "Ragged.__init__" (defArgs s_Ragged_init) (defBody s_Ragged_init) (defScope s_Ragged_init) .none kV_Ragged doc_Ragged pm_Ragged an_Ragged (.ref cda_Ragged) ct_Ragged cc_Ragged), osl_Ragged⟩)
    (ci_Ragged : PySem.W.codeIn K (.ref cda_Ragged) "Ragged.__init__" = true)
    (up_Ragged : PySem.W.ks_superIn K c_Ragged c_Ragged "__init__" = some (some (.builtin "ValueError.__init__")))
    (ow_Ragged : PySem.W.mroIn K c_Ragged (.ref c_Ragged) = some true)
    (ce_Ragged : K.lookup cc_Ragged = some ⟨cl_Ragged, cld_Ragged, .cell (some (.ref c_Ragged)), csl_Ragged⟩)
    (cd_Ragged : K.lookup cda_Ragged = some ⟨ccl_Ragged, cdd_Ragged, .fields vs_Ragged, ccs_Ragged⟩)
    (cv_Ragged : vs_Ragged[2]? = some (.str file_Ragged tf_Ragged))
    (cf_Ragged : ((P.main.file : Str) == file_Ragged) = true)
    (tp_Ragged : (P.main.scope.names.lookup ("super" : Str)).isSome = false)
    (eb_BadHeader : PySem.W.subIn K (.ref c_BadHeader) (.type "BaseException") = some true)
    (ic_BadHeader : PySem.W.isClsIn K c_BadHeader = true)
    (ty_BadHeader : PySem.W.typeIn K (.ref c_BadHeader) = some (.type "type"))
    (kp_BadHeader : PySem.W.keepIn K (.ref c_BadHeader) = true)
    (ga_BadHeader : PySem.W.findIn K (.ref c_BadHeader) "__getattribute__" = some (some (.builtin "BaseException.__getattribute__")))
    (gg_BadHeader : PySem.W.findIn K (.ref c_BadHeader) "__getattr__" = some none)
    (hd_BadHeader : PySem.W.hasDictIn K c_BadHeader = true)
    (no_BadHeader_column : PySem.W.findIn K (.ref c_BadHeader) "column" = some none)
    (x_BadHeader : K.lookup c_BadHeader = some (excClassObj nm_BadHeader q_BadHeader c_BadHeader N_BadHeader bs_BadHeader [.ref c_FieldError, .type "ValueError", .type "Exception", .type "BaseException", .type "object"] true sn_BadHeader sub_BadHeader ab_BadHeader col_BadHeader dd_BadHeader m0_BadHeader m1_BadHeader m2_BadHeader m3_BadHeader m5_BadHeader "ValueError.__new__"))
    (sa_BadHeader : PySem.W.findIn K (.ref c_BadHeader) "__setattr__" = some (some (.builtin "object.__setattr__")))
    (ii_BadHeader : PySem.W.findIn K (.ref c_BadHeader) "__init__" = some (some (.ref fi_BadHeader)))
    (ti_BadHeader : PySem.W.typeIn K (.ref fi_BadHeader) = some (.type "function"))
    (ve_BadHeader : PySem.W.subIn K (.ref c_BadHeader) (.type "ValueError") = some true)
    (li_BadHeader : K.lookup fi_BadHeader = some ⟨oc_BadHeader, od_BadHeader, .func (PySem.W.ksFn "__init__" "BadHeader.__init__" (defArgs s_BadHeader_init) (defBody s_BadHeader_init) (defScope s_BadHeader_init) .none kV_BadHeader doc_BadHeader pm_BadHeader an_BadHeader (.ref cda_BadHeader) ct_BadHeader cc_BadHeader), osl_BadHeader⟩)
    (ci_BadHeader : PySem.W.codeIn K (.ref cda_BadHeader) "BadHeader.__init__" = true)
    (up_BadHeader : PySem.W.ks_superIn K c_BadHeader c_BadHeader "__init__" = some (some (.builtin "ValueError.__init__")))
    (ow_BadHeader : PySem.W.mroIn K c_BadHeader (.ref c_BadHeader) = some true)
    (ce_BadHeader : K.lookup cc_BadHeader = some ⟨cl_BadHeader, cld_BadHeader, .cell (some (.ref c_BadHeader)), csl_BadHeader⟩)
    (cd_BadHeader : K.lookup cda_BadHeader = some ⟨ccl_BadHeader, cdd_BadHeader, .fields vs_BadHeader, ccs_BadHeader⟩)
    (cv_BadHeader : vs_BadHeader[2]? = some (.str file_BadHeader tf_BadHeader))
    (cf_BadHeader : ((P.main.file : Str) == file_BadHeader) = true)
    (tp_BadHeader : (P.main.scope.names.lookup ("super" : Str)).isSome = false)
    (eb_BadRecord : PySem.W.subIn K (.ref c_BadRecord) (.type "BaseException") = some true)
    (ic_BadRecord : PySem.W.isClsIn K c_BadRecord = true)
    (ty_BadRecord : PySem.W.typeIn K (.ref c_BadRecord) = some (.type "type"))
    (kp_BadRecord : PySem.W.keepIn K (.ref c_BadRecord) = true)
    (ga_BadRecord : PySem.W.findIn K (.ref c_BadRecord) "__getattribute__" = some (some (.builtin "BaseException.__getattribute__")))
    (gg_BadRecord : PySem.W.findIn K (.ref c_BadRecord) "__getattr__" = some none)
    (hd_BadRecord : PySem.W.hasDictIn K c_BadRecord = true)
    (no_BadRecord_index : PySem.W.findIn K (.ref c_BadRecord) "index" = some none)
    (x_BadRecord : K.lookup c_BadRecord = some (excClassObj nm_BadRecord q_BadRecord c_BadRecord N_BadRecord bs_BadRecord [.ref c_FieldError, .type "ValueError", .type "Exception", .type "BaseException", .type "object"] true sn_BadRecord sub_BadRecord ab_BadRecord col_BadRecord dd_BadRecord m0_BadRecord m1_BadRecord m2_BadRecord m3_BadRecord m5_BadRecord "ValueError.__new__"))
    (sa_BadRecord : PySem.W.findIn K (.ref c_BadRecord) "__setattr__" = some (some (.builtin "object.__setattr__")))
    (ii_BadRecord : PySem.W.findIn K (.ref c_BadRecord) "__init__" = some (some (.ref fi_BadRecord)))
    (ti_BadRecord : PySem.W.typeIn K (.ref fi_BadRecord) = some (.type "function"))
    (ve_BadRecord : PySem.W.subIn K (.ref c_BadRecord) (.type "ValueError") = some true)
    (li_BadRecord : K.lookup fi_BadRecord = some ⟨oc_BadRecord, od_BadRecord, .func (PySem.W.ksFn "__init__" "BadRecord.__init__" (defArgs s_BadRecord_init) (defBody s_BadRecord_init) (defScope s_BadRecord_init) .none kV_BadRecord doc_BadRecord pm_BadRecord an_BadRecord (.ref cda_BadRecord) ct_BadRecord cc_BadRecord), osl_BadRecord⟩)
    (ci_BadRecord : PySem.W.codeIn K (.ref cda_BadRecord) "BadRecord.__init__" = true)
    (up_BadRecord : PySem.W.ks_superIn K c_BadRecord c_BadRecord "__init__" = some (some (.builtin "ValueError.__init__")))
    (ow_BadRecord : PySem.W.mroIn K c_BadRecord (.ref c_BadRecord) = some true)
    (ce_BadRecord : K.lookup cc_BadRecord = some ⟨cl_BadRecord, cld_BadRecord, .cell (some (.ref c_BadRecord)), csl_BadRecord⟩)
    (cd_BadRecord : K.lookup cda_BadRecord = some ⟨ccl_BadRecord, cdd_BadRecord, .fields vs_BadRecord, ccs_BadRecord⟩)
    (cv_BadRecord : vs_BadRecord[2]? = some (.str file_BadRecord tf_BadRecord))
    (cf_BadRecord : ((P.main.file : Str) == file_BadRecord) = true)
    (tp_BadRecord : (P.main.scope.names.lookup ("super" : Str)).isSome = false)
    (z_sys : K.lookup PySem.sysModules = some ⟨sy1, sy2, sy3, sy4⟩)
    (fa_is_text : PySem.W.nsIn K mainGlobals "is_text" = some (some (.ref ff_is_text)))
    (fl_is_text : K.lookup ff_is_text = some ⟨foc_is_text, fod_is_text, .func (PySem.W.fnOf "is_text" "is_text" (defArgs s_is_text) (defBody s_is_text) (defScope s_is_text) .none fkV_is_text fdoc_is_text fpm_is_text fan_is_text fcd_is_text fct_is_text), fsl_is_text⟩)
    (fc_is_text : PySem.W.codeIn K fcd_is_text "is_text" = true)
    (fk_is_text : PySem.W.keepIn K (.ref ff_is_text) = true)
    (fa_need_text : PySem.W.nsIn K mainGlobals "need_text" = some (some (.ref ff_need_text)))
    (fl_need_text : K.lookup ff_need_text = some ⟨foc_need_text, fod_need_text, .func (PySem.W.fnOf "need_text" "need_text" (defArgs s_need_text) (defBody s_need_text) (defScope s_need_text) .none fkV_need_text fdoc_need_text fpm_need_text fan_need_text fcd_need_text fct_need_text), fsl_need_text⟩)
    (fc_need_text : PySem.W.codeIn K fcd_need_text "need_text" = true)
    (fk_need_text : PySem.W.keepIn K (.ref ff_need_text) = true)
    (fa_is_table : PySem.W.nsIn K mainGlobals "is_table" = some (some (.ref ff_is_table)))
    (fl_is_table : K.lookup ff_is_table = some ⟨foc_is_table, fod_is_table, .func (PySem.W.fnOf "is_table" "is_table" (defArgs s_is_table) (defBody s_is_table) (defScope s_is_table) .none fkV_is_table fdoc_is_table fpm_is_table fan_is_table fcd_is_table fct_is_table), fsl_is_table⟩)
    (fc_is_table : PySem.W.codeIn K fcd_is_table "is_table" = true)
    (fk_is_table : PySem.W.keepIn K (.ref ff_is_table) = true)
    (fa_need_table : PySem.W.nsIn K mainGlobals "need_table" = some (some (.ref ff_need_table)))
    (fl_need_table : K.lookup ff_need_table = some ⟨foc_need_table, fod_need_table, .func (PySem.W.fnOf "need_table" "need_table" (defArgs s_need_table) (defBody s_need_table) (defScope s_need_table) .none fkV_need_table fdoc_need_table fpm_need_table fan_need_table fcd_need_table fct_need_table), fsl_need_table⟩)
    (fc_need_table : PySem.W.codeIn K fcd_need_table "need_table" = true)
    (fk_need_table : PySem.W.keepIn K (.ref ff_need_table) = true)
    (fa_need_choice : PySem.W.nsIn K mainGlobals "need_choice" = some (some (.ref ff_need_choice)))
    (fl_need_choice : K.lookup ff_need_choice = some ⟨foc_need_choice, fod_need_choice, .func (PySem.W.fnOf "need_choice" "need_choice" (defArgs s_need_choice) (defBody s_need_choice) (defScope s_need_choice) .none fkV_need_choice fdoc_need_choice fpm_need_choice fan_need_choice fcd_need_choice fct_need_choice), fsl_need_choice⟩)
    (fc_need_choice : PySem.W.codeIn K fcd_need_choice "need_choice" = true)
    (fk_need_choice : PySem.W.keepIn K (.ref ff_need_choice) = true)
    (fa_need_names : PySem.W.nsIn K mainGlobals "need_names" = some (some (.ref ff_need_names)))
    (fl_need_names : K.lookup ff_need_names = some ⟨foc_need_names, fod_need_names, .func (PySem.W.fnOf "need_names" "need_names" (defArgs s_need_names) (defBody s_need_names) (defScope s_need_names) .none fkV_need_names fdoc_need_names fpm_need_names fan_need_names fcd_need_names fct_need_names), fsl_need_names⟩)
    (fc_need_names : PySem.W.codeIn K fcd_need_names "need_names" = true)
    (fk_need_names : PySem.W.keepIn K (.ref ff_need_names) = true)
    (fa_record_of : PySem.W.nsIn K mainGlobals "record_of" = some (some (.ref ff_record_of)))
    (fl_record_of : K.lookup ff_record_of = some ⟨foc_record_of, fod_record_of, .func (PySem.W.fnOf "record_of" "record_of" (defArgs s_record_of) (defBody s_record_of) (defScope s_record_of) .none fkV_record_of fdoc_record_of fpm_record_of fan_record_of fcd_record_of fct_record_of), fsl_record_of⟩)
    (fc_record_of : PySem.W.codeIn K fcd_record_of "record_of" = true)
    (fk_record_of : PySem.W.keepIn K (.ref ff_record_of) = true)
    (fa_records : PySem.W.nsIn K mainGlobals "records" = some (some (.ref ff_records)))
    (fl_records : K.lookup ff_records = some ⟨foc_records, fod_records, .func (PySem.W.fnOf "records" "records" (defArgs s_records) (defBody s_records) (defScope s_records) .none (.ref fkd_records) fdoc_records fpm_records fan_records fcd_records fct_records), fsl_records⟩)
    (fc_records : PySem.W.codeIn K fcd_records "records" = true)
    (fk_records : PySem.W.keepIn K (.ref ff_records) = true)
    (fw_records_rest : PySem.W.nsIn K fkd_records "rest" = some (some .none))
    (fw_records_missing : PySem.W.nsIn K fkd_records "missing" = some (some (.str ("" : Str) vt4)))
    (fa_is_record : PySem.W.nsIn K mainGlobals "is_record" = some (some (.ref ff_is_record)))
    (fl_is_record : K.lookup ff_is_record = some ⟨foc_is_record, fod_is_record, .func (PySem.W.fnOf "is_record" "is_record" (defArgs s_is_record) (defBody s_is_record) (defScope s_is_record) .none fkV_is_record fdoc_is_record fpm_is_record fan_is_record fcd_is_record fct_is_record), fsl_is_record⟩)
    (fc_is_record : PySem.W.codeIn K fcd_is_record "is_record" = true)
    (fk_is_record : PySem.W.keepIn K (.ref ff_is_record) = true)
    (fa_fields_of : PySem.W.nsIn K mainGlobals "fields_of" = some (some (.ref ff_fields_of)))
    (fl_fields_of : K.lookup ff_fields_of = some ⟨foc_fields_of, fod_fields_of, .func (PySem.W.fnOf "fields_of" "fields_of" (defArgs s_fields_of) (defBody s_fields_of) (defScope s_fields_of) .none fkV_fields_of fdoc_fields_of fpm_fields_of fan_fields_of fcd_fields_of fct_fields_of), fsl_fields_of⟩)
    (fc_fields_of : PySem.W.codeIn K fcd_fields_of "fields_of" = true)
    (fk_fields_of : PySem.W.keepIn K (.ref ff_fields_of) = true)
    (fa_unrecorded : PySem.W.nsIn K mainGlobals "unrecorded" = some (some (.ref ff_unrecorded)))
    (fl_unrecorded : K.lookup ff_unrecorded = some ⟨foc_unrecorded, fod_unrecorded, .func (PySem.W.fnOf "unrecorded" "unrecorded" (defArgs s_unrecorded) (defBody s_unrecorded) (defScope s_unrecorded) .none (.ref fkd_unrecorded) fdoc_unrecorded fpm_unrecorded fan_unrecorded fcd_unrecorded fct_unrecorded), fsl_unrecorded⟩)
    (fc_unrecorded : PySem.W.codeIn K fcd_unrecorded "unrecorded" = true)
    (fk_unrecorded : PySem.W.keepIn K (.ref ff_unrecorded) = true)
    (fw_unrecorded_rest : PySem.W.nsIn K fkd_unrecorded "rest" = some (some .none))
    (fw_unrecorded_missing : PySem.W.nsIn K fkd_unrecorded "missing" = some (some (.str ("" : Str) vt6)))
    (fa__law_begun : PySem.W.nsIn K mainGlobals "_law_begun" = some (some (.ref ff__law_begun)))
    (fl__law_begun : K.lookup ff__law_begun = some ⟨foc__law_begun, fod__law_begun, .func (PySem.W.fnOf "_law_begun" "_law_begun" (defArgs s__law_begun) (defBody s__law_begun) (defScope s__law_begun) .none fkV__law_begun fdoc__law_begun fpm__law_begun fan__law_begun fcd__law_begun fct__law_begun), fsl__law_begun⟩)
    (fc__law_begun : PySem.W.codeIn K fcd__law_begun "_law_begun" = true)
    (fk__law_begun : PySem.W.keepIn K (.ref ff__law_begun) = true)
    (fa__law_mixed : PySem.W.nsIn K mainGlobals "_law_mixed" = some (some (.ref ff__law_mixed)))
    (fl__law_mixed : K.lookup ff__law_mixed = some ⟨foc__law_mixed, fod__law_mixed, .func (PySem.W.fnOf "_law_mixed" "_law_mixed" (defArgs s__law_mixed) (defBody s__law_mixed) (defScope s__law_mixed) .none fkV__law_mixed fdoc__law_mixed fpm__law_mixed fan__law_mixed fcd__law_mixed fct__law_mixed), fsl__law_mixed⟩)
    (fc__law_mixed : PySem.W.codeIn K fcd__law_mixed "_law_mixed" = true)
    (fk__law_mixed : PySem.W.keepIn K (.ref ff__law_mixed) = true)
    (fa__law_take : PySem.W.nsIn K mainGlobals "_law_take" = some (some (.ref ff__law_take)))
    (fl__law_take : K.lookup ff__law_take = some ⟨foc__law_take, fod__law_take, .func (PySem.W.fnOf "_law_take" "_law_take" (defArgs s__law_take) (defBody s__law_take) (defScope s__law_take) .none fkV__law_take fdoc__law_take fpm__law_take fan__law_take fcd__law_take fct__law_take), fsl__law_take⟩)
    (fc__law_take : PySem.W.codeIn K fcd__law_take "_law_take" = true)
    (fk__law_take : PySem.W.keepIn K (.ref ff__law_take) = true)
    (fa__law_pick : PySem.W.nsIn K mainGlobals "_law_pick" = some (some (.ref ff__law_pick)))
    (fl__law_pick : K.lookup ff__law_pick = some ⟨foc__law_pick, fod__law_pick, .func (PySem.W.fnOf "_law_pick" "_law_pick" (defArgs s__law_pick) (defBody s__law_pick) (defScope s__law_pick) .none fkV__law_pick fdoc__law_pick fpm__law_pick fan__law_pick fcd__law_pick fct__law_pick), fsl__law_pick⟩)
    (fc__law_pick : PySem.W.codeIn K fcd__law_pick "_law_pick" = true)
    (fk__law_pick : PySem.W.keepIn K (.ref ff__law_pick) = true)
    (fa__law_shuffled : PySem.W.nsIn K mainGlobals "_law_shuffled" = some (some (.ref ff__law_shuffled)))
    (fl__law_shuffled : K.lookup ff__law_shuffled = some ⟨foc__law_shuffled, fod__law_shuffled, .func (PySem.W.fnOf "_law_shuffled" "_law_shuffled" (defArgs s__law_shuffled) (defBody s__law_shuffled) (defScope s__law_shuffled) .none fkV__law_shuffled fdoc__law_shuffled fpm__law_shuffled fan__law_shuffled fcd__law_shuffled fct__law_shuffled), fsl__law_shuffled⟩)
    (fc__law_shuffled : PySem.W.codeIn K fcd__law_shuffled "_law_shuffled" = true)
    (fk__law_shuffled : PySem.W.keepIn K (.ref ff__law_shuffled) = true)
    (fa__law_fields : PySem.W.nsIn K mainGlobals "_law_fields" = some (some (.ref ff__law_fields)))
    (fl__law_fields : K.lookup ff__law_fields = some ⟨foc__law_fields, fod__law_fields, .func (PySem.W.fnOf "_law_fields" "_law_fields" (defArgs s__law_fields) (defBody s__law_fields) (defScope s__law_fields) .none fkV__law_fields fdoc__law_fields fpm__law_fields fan__law_fields fcd__law_fields fct__law_fields), fsl__law_fields⟩)
    (fc__law_fields : PySem.W.codeIn K fcd__law_fields "_law_fields" = true)
    (fk__law_fields : PySem.W.keepIn K (.ref ff__law_fields) = true)
    (fa_law : PySem.W.nsIn K mainGlobals "law" = some (some (.ref ff_law)))
    (fl_law : K.lookup ff_law = some ⟨foc_law, fod_law, .func (PySem.W.fnOf "law" "law" (defArgs s_law) (defBody s_law) (defScope s_law) .none fkV_law fdoc_law fpm_law fan_law fcd_law fct_law), fsl_law⟩)
    (fc_law : PySem.W.codeIn K fcd_law "law" = true)
    (fk_law : PySem.W.keepIn K (.ref ff_law) = true)
    : ∃ fd : FuncData, (∀ (s : Shared) (u : Value), BindsTo s fd ⟨[u], []⟩ [("_law_script", u)]) ∧ ∀ base : Heap, K.In base → base.Ns mainGlobals mg → FnG true P w K mg base 10 fa fd ["_law_script"] (liftSp K mg 1 F_law) := by
  have e : fa = ff_law := by
    have z := hfa.symm.trans (PySem.W.mg_of X G fa_law)
    cases z
    rfl
  rw [e]
  have E_Ragged : DSX.Err P K mg "Ragged" "Ragged.__init__" s_Ragged_init c_Ragged fi_Ragged cc_Ragged cda_Ragged [("row" : Str)] := { gC := PySem.W.mg_of X G a_Ragged, cls := ⟨_, _, _, _, _, _, _, _, _, _, _, _, _, _, _, x_Ragged, by rfl⟩, sa := sa_Ragged, ga := ga_Ragged, gg := gg_Ragged, no := (fun f hf => by have this : f = ("row" : Str) := (by simpa using hf); rcases this with rfl <;> assumption), iC := ii_Ragged, tC := ti_Ragged, kC := kp_Ragged, exC := eb_Ragged, veC := ve_Ragged, tyC := ty_Ragged, hdC := hd_Ragged, fn := ⟨_, _, _, _, _, _, _, _, li_Ragged, ci_Ragged⟩, sup := z_super, up := up_Ragged, op := z_third, own := ow_Ragged, cell := ⟨_, _, _, ce_Ragged⟩, code := ⟨_, _, _, _, _, _, cd_Ragged, cv_Ragged, cf_Ragged⟩, top := tp_Ragged }
  have D_Ragged : DSX.Txt "Ragged.__init__" s_Ragged_init fi_Ragged cc_Ragged cda_Ragged [("row" : Str)] _ _ _ := { body := rfl, first := rfl, self := rfl, kind := rfl, co := rfl, gen := rfl, nocell := by decide +kernel, sup := by decide +kernel, cls := by decide +kernel, slf := by decide +kernel, loc := by decide +kernel, nself := by decide +kernel, dbg := by decide +kernel, inter := fun _ => rfl, binds := fun _ _ _ _ _ _ us hl => match us, hl with | [_], _ => rfl }
  have E_BadHeader : DSX.Err P K mg "BadHeader" "BadHeader.__init__" s_BadHeader_init c_BadHeader fi_BadHeader cc_BadHeader cda_BadHeader [("column" : Str)] := { gC := PySem.W.mg_of X G a_BadHeader, cls := ⟨_, _, _, _, _, _, _, _, _, _, _, _, _, _, _, x_BadHeader, by rfl⟩, sa := sa_BadHeader, ga := ga_BadHeader, gg := gg_BadHeader, no := (fun f hf => by have this : f = ("column" : Str) := (by simpa using hf); rcases this with rfl <;> assumption), iC := ii_BadHeader, tC := ti_BadHeader, kC := kp_BadHeader, exC := eb_BadHeader, veC := ve_BadHeader, tyC := ty_BadHeader, hdC := hd_BadHeader, fn := ⟨_, _, _, _, _, _, _, _, li_BadHeader, ci_BadHeader⟩, sup := z_super, up := up_BadHeader, op := z_third, own := ow_BadHeader, cell := ⟨_, _, _, ce_BadHeader⟩, code := ⟨_, _, _, _, _, _, cd_BadHeader, cv_BadHeader, cf_BadHeader⟩, top := tp_BadHeader }
  have D_BadHeader : DSX.Txt "BadHeader.__init__" s_BadHeader_init fi_BadHeader cc_BadHeader cda_BadHeader [("column" : Str)] _ _ _ := { body := rfl, first := rfl, self := rfl, kind := rfl, co := rfl, gen := rfl, nocell := by decide +kernel, sup := by decide +kernel, cls := by decide +kernel, slf := by decide +kernel, loc := by decide +kernel, nself := by decide +kernel, dbg := by decide +kernel, inter := fun _ => rfl, binds := fun _ _ _ _ _ _ us hl => match us, hl with | [_], _ => rfl }
  have E_BadRecord : DSX.Err P K mg "BadRecord" "BadRecord.__init__" s_BadRecord_init c_BadRecord fi_BadRecord cc_BadRecord cda_BadRecord [("index" : Str)] := { gC := PySem.W.mg_of X G a_BadRecord, cls := ⟨_, _, _, _, _, _, _, _, _, _, _, _, _, _, _, x_BadRecord, by rfl⟩, sa := sa_BadRecord, ga := ga_BadRecord, gg := gg_BadRecord, no := (fun f hf => by have this : f = ("index" : Str) := (by simpa using hf); rcases this with rfl <;> assumption), iC := ii_BadRecord, tC := ti_BadRecord, kC := kp_BadRecord, exC := eb_BadRecord, veC := ve_BadRecord, tyC := ty_BadRecord, hdC := hd_BadRecord, fn := ⟨_, _, _, _, _, _, _, _, li_BadRecord, ci_BadRecord⟩, sup := z_super, up := up_BadRecord, op := z_third, own := ow_BadRecord, cell := ⟨_, _, _, ce_BadRecord⟩, code := ⟨_, _, _, _, _, _, cd_BadRecord, cv_BadRecord, cf_BadRecord⟩, top := tp_BadRecord }
  have D_BadRecord : DSX.Txt "BadRecord.__init__" s_BadRecord_init fi_BadRecord cc_BadRecord cda_BadRecord [("index" : Str)] _ _ _ := { body := rfl, first := rfl, self := rfl, kind := rfl, co := rfl, gen := rfl, nocell := by decide +kernel, sup := by decide +kernel, cls := by decide +kernel, slf := by decide +kernel, loc := by decide +kernel, nself := by decide +kernel, dbg := by decide +kernel, inter := fun _ => rfl, binds := fun _ _ _ _ _ _ us hl => match us, hl with | [_], _ => rfl }
  have A_is_text : FnAt K mg "is_text" s_is_text ["value"] ff_is_text _ := ⟨PySem.W.mg_of X G fa_is_text, fun_mk (st := s_is_text) fl_is_text fc_is_text fk_is_text, (fun_mk (st := s_is_text) fl_is_text fc_is_text fk_is_text).binds (ps := ["value"]) fun _ _ _ _ _ _ us hl => match us, hl with | [_], _ => rfl⟩
  have A_need_text : FnAt K mg "need_text" s_need_text ["value"] ff_need_text _ := ⟨PySem.W.mg_of X G fa_need_text, fun_mk (st := s_need_text) fl_need_text fc_need_text fk_need_text, (fun_mk (st := s_need_text) fl_need_text fc_need_text fk_need_text).binds (ps := ["value"]) fun _ _ _ _ _ _ us hl => match us, hl with | [_], _ => rfl⟩
  have A_is_table : FnAt K mg "is_table" s_is_table ["value"] ff_is_table _ := ⟨PySem.W.mg_of X G fa_is_table, fun_mk (st := s_is_table) fl_is_table fc_is_table fk_is_table, (fun_mk (st := s_is_table) fl_is_table fc_is_table fk_is_table).binds (ps := ["value"]) fun _ _ _ _ _ _ us hl => match us, hl with | [_], _ => rfl⟩
  have A_need_table : FnAt K mg "need_table" s_need_table ["value"] ff_need_table _ := ⟨PySem.W.mg_of X G fa_need_table, fun_mk (st := s_need_table) fl_need_table fc_need_table fk_need_table, (fun_mk (st := s_need_table) fl_need_table fc_need_table fk_need_table).binds (ps := ["value"]) fun _ _ _ _ _ _ us hl => match us, hl with | [_], _ => rfl⟩
  have A_need_choice : FnAt K mg "need_choice" s_need_choice ["value"] ff_need_choice _ := ⟨PySem.W.mg_of X G fa_need_choice, fun_mk (st := s_need_choice) fl_need_choice fc_need_choice fk_need_choice, (fun_mk (st := s_need_choice) fl_need_choice fc_need_choice fk_need_choice).binds (ps := ["value"]) fun _ _ _ _ _ _ us hl => match us, hl with | [_], _ => rfl⟩
  have A_need_names : FnAt K mg "need_names" s_need_names ["names", "rest"] ff_need_names _ := ⟨PySem.W.mg_of X G fa_need_names, fun_mk (st := s_need_names) fl_need_names fc_need_names fk_need_names, (fun_mk (st := s_need_names) fl_need_names fc_need_names fk_need_names).binds (ps := ["names", "rest"]) fun _ _ _ _ _ _ us hl => match us, hl with | [_, _], _ => rfl⟩
  have A_record_of : FnAt K mg "record_of" s_record_of ["names", "fields", "index", "rest", "missing"] ff_record_of _ := ⟨PySem.W.mg_of X G fa_record_of, fun_mk (st := s_record_of) fl_record_of fc_record_of fk_record_of, (fun_mk (st := s_record_of) fl_record_of fc_record_of fk_record_of).binds (ps := ["names", "fields", "index", "rest", "missing"]) fun _ _ _ _ _ _ us hl => match us, hl with | [_, _, _, _, _], _ => rfl⟩
  have A_records : FnDf K mg "records" s_records [(("rest" : Str), .non), (("missing" : Str), (.str ("" : Str)))] ff_records (PySem.W.fnOf "records" "records" (defArgs s_records) (defBody s_records) (defScope s_records) .none (.ref fkd_records) fdoc_records fpm_records fan_records fcd_records fct_records) := by
    refine ⟨PySem.W.mg_of X G fa_records, ⟨foc_records, fod_records, .ref fkd_records, fdoc_records, fpm_records, fan_records, fcd_records, fct_records, fsl_records, rfl, fl_records, fc_records, fkd_records, rfl, ?_⟩, fk_records, ?_⟩
    · intro q hq; simp only [List.mem_cons, List.not_mem_nil, or_false] at hq; rcases hq with rfl | rfl
      · exact ⟨_, fw_records_rest, by first | rfl | exact ⟨_, rfl⟩⟩
      · exact ⟨_, fw_records_missing, by first | rfl | exact ⟨_, rfl⟩⟩
    · intro q hq; simp only [List.mem_cons, List.not_mem_nil, or_false] at hq; rcases hq with rfl | rfl <;> decide +kernel
  have A_is_record : FnAt K mg "is_record" s_is_record ["names", "rest", "value"] ff_is_record _ := ⟨PySem.W.mg_of X G fa_is_record, fun_mk (st := s_is_record) fl_is_record fc_is_record fk_is_record, (fun_mk (st := s_is_record) fl_is_record fc_is_record fk_is_record).binds (ps := ["names", "rest", "value"]) fun _ _ _ _ _ _ us hl => match us, hl with | [_, _, _], _ => rfl⟩
  have A_fields_of : FnAt K mg "fields_of" s_fields_of ["names", "record", "rest", "missing"] ff_fields_of _ := ⟨PySem.W.mg_of X G fa_fields_of, fun_mk (st := s_fields_of) fl_fields_of fc_fields_of fk_fields_of, (fun_mk (st := s_fields_of) fl_fields_of fc_fields_of fk_fields_of).binds (ps := ["names", "record", "rest", "missing"]) fun _ _ _ _ _ _ us hl => match us, hl with | [_, _, _, _], _ => rfl⟩
  have A_unrecorded : FnDf K mg "unrecorded" s_unrecorded [(("rest" : Str), .non), (("missing" : Str), (.str ("" : Str)))] ff_unrecorded (PySem.W.fnOf "unrecorded" "unrecorded" (defArgs s_unrecorded) (defBody s_unrecorded) (defScope s_unrecorded) .none (.ref fkd_unrecorded) fdoc_unrecorded fpm_unrecorded fan_unrecorded fcd_unrecorded fct_unrecorded) := by
    refine ⟨PySem.W.mg_of X G fa_unrecorded, ⟨foc_unrecorded, fod_unrecorded, .ref fkd_unrecorded, fdoc_unrecorded, fpm_unrecorded, fan_unrecorded, fcd_unrecorded, fct_unrecorded, fsl_unrecorded, rfl, fl_unrecorded, fc_unrecorded, fkd_unrecorded, rfl, ?_⟩, fk_unrecorded, ?_⟩
    · intro q hq; simp only [List.mem_cons, List.not_mem_nil, or_false] at hq; rcases hq with rfl | rfl
      · exact ⟨_, fw_unrecorded_rest, by first | rfl | exact ⟨_, rfl⟩⟩
      · exact ⟨_, fw_unrecorded_missing, by first | rfl | exact ⟨_, rfl⟩⟩
    · intro q hq; simp only [List.mem_cons, List.not_mem_nil, or_false] at hq; rcases hq with rfl | rfl <;> decide +kernel
  have A__law_begun : FnAt K mg "_law_begun" s__law_begun ["_law_script"] ff__law_begun _ := ⟨PySem.W.mg_of X G fa__law_begun, fun_mk (st := s__law_begun) fl__law_begun fc__law_begun fk__law_begun, (fun_mk (st := s__law_begun) fl__law_begun fc__law_begun fk__law_begun).binds (ps := ["_law_script"]) fun _ _ _ _ _ _ us hl => match us, hl with | [_], _ => rfl⟩
  have A__law_mixed : FnAt K mg "_law_mixed" s__law_mixed ["_law_draw"] ff__law_mixed _ := ⟨PySem.W.mg_of X G fa__law_mixed, fun_mk (st := s__law_mixed) fl__law_mixed fc__law_mixed fk__law_mixed, (fun_mk (st := s__law_mixed) fl__law_mixed fc__law_mixed fk__law_mixed).binds (ps := ["_law_draw"]) fun _ _ _ _ _ _ us hl => match us, hl with | [_], _ => rfl⟩
  have A__law_take : FnAt K mg "_law_take" s__law_take ["_law_draw", "_law_size"] ff__law_take _ := ⟨PySem.W.mg_of X G fa__law_take, fun_mk (st := s__law_take) fl__law_take fc__law_take fk__law_take, (fun_mk (st := s__law_take) fl__law_take fc__law_take fk__law_take).binds (ps := ["_law_draw", "_law_size"]) fun _ _ _ _ _ _ us hl => match us, hl with | [_, _], _ => rfl⟩
  have A__law_pick : FnAt K mg "_law_pick" s__law_pick ["_law_draw", "_law_items"] ff__law_pick _ := ⟨PySem.W.mg_of X G fa__law_pick, fun_mk (st := s__law_pick) fl__law_pick fc__law_pick fk__law_pick, (fun_mk (st := s__law_pick) fl__law_pick fc__law_pick fk__law_pick).binds (ps := ["_law_draw", "_law_items"]) fun _ _ _ _ _ _ us hl => match us, hl with | [_, _], _ => rfl⟩
  have A__law_shuffled : FnAt K mg "_law_shuffled" s__law_shuffled ["_law_draw", "_law_items"] ff__law_shuffled _ := ⟨PySem.W.mg_of X G fa__law_shuffled, fun_mk (st := s__law_shuffled) fl__law_shuffled fc__law_shuffled fk__law_shuffled, (fun_mk (st := s__law_shuffled) fl__law_shuffled fc__law_shuffled fk__law_shuffled).binds (ps := ["_law_draw", "_law_items"]) fun _ _ _ _ _ _ us hl => match us, hl with | [_, _], _ => rfl⟩
  have A__law_fields : FnAt K mg "_law_fields" s__law_fields ["_law_heads", "_law_one", "_law_extra", "_law_blank"] ff__law_fields _ := ⟨PySem.W.mg_of X G fa__law_fields, fun_mk (st := s__law_fields) fl__law_fields fc__law_fields fk__law_fields, (fun_mk (st := s__law_fields) fl__law_fields fc__law_fields fk__law_fields).binds (ps := ["_law_heads", "_law_one", "_law_extra", "_law_blank"]) fun _ _ _ _ _ _ us hl => match us, hl with | [_, _, _, _], _ => rfl⟩
  have A_law : FnAt K mg "law" s_law ["_law_script"] ff_law _ := ⟨PySem.W.mg_of X G fa_law, fun_mk (st := s_law) fl_law fc_law fk_law, (fun_mk (st := s_law) fl_law fc_law fk_law).binds (ps := ["_law_script"]) fun _ _ _ _ _ _ us hl => match us, hl with | [_], _ => rfl⟩
  have T : Txt P w K mg c_BadText c_BadTable c_Ragged c_BadHeader c_BadRecord := {
    n_abs := PySem.W.mg_none_of X G zb_abs,
    n_all := PySem.W.mg_none_of X G zb_all,
    n_dict := PySem.W.mg_none_of X G zb_dict,
    n_enumerate := PySem.W.mg_none_of X G zb_enumerate,
    n_int := PySem.W.mg_none_of X G zb_int,
    n_isinstance := PySem.W.mg_none_of X G zb_isinstance,
    n_len := PySem.W.mg_none_of X G zb_len,
    n_list := PySem.W.mg_none_of X G zb_list,
    n_min := PySem.W.mg_none_of X G zb_min,
    n_range := PySem.W.mg_none_of X G zb_range,
    n_repr := PySem.W.mg_none_of X G zb_repr,
    n_str := PySem.W.mg_none_of X G zb_str,
    n_tuple := PySem.W.mg_none_of X G zb_tuple,
    g_ALPHABET := repG_k (PySem.W.mg_of X G zg_ALPHABET) (.str _ _ (by decide +kernel)),
    g_MOST_SIGNS := repG_k (PySem.W.mg_of X G zg_MOST_SIGNS) (.int _ _),
    m_BadText := PySem.W.mg_of X G a_BadText,
    k_BadText := kp_BadText,
    b_BadText := eb_BadText,
    t_BadText := ty_BadText,
    z_BadText := zx_BadText,
    m_BadTable := PySem.W.mg_of X G a_BadTable,
    k_BadTable := kp_BadTable,
    b_BadTable := eb_BadTable,
    t_BadTable := ty_BadTable,
    z_BadTable := zx_BadTable,
    m_Ragged := PySem.W.mg_of X G a_Ragged,
    k_Ragged := kp_Ragged,
    b_Ragged := eb_Ragged,
    t_Ragged := ty_Ragged,
    e_Ragged := DSX.made1 E_Ragged D_Ragged (fun _ => rfl) (fun _ => rfl),
    m_BadHeader := PySem.W.mg_of X G a_BadHeader,
    k_BadHeader := kp_BadHeader,
    b_BadHeader := eb_BadHeader,
    t_BadHeader := ty_BadHeader,
    e_BadHeader := DSX.made1 E_BadHeader D_BadHeader (fun _ => rfl) (fun _ => rfl),
    m_BadRecord := PySem.W.mg_of X G a_BadRecord,
    k_BadRecord := kp_BadRecord,
    b_BadRecord := eb_BadRecord,
    t_BadRecord := ty_BadRecord,
    e_BadRecord := DSX.made1 E_BadRecord D_BadRecord (fun _ => rfl) (fun _ => rfl),
    sys := ⟨_, z_sys⟩,
    f_is_text := ⟨_, _, A_is_text⟩,
    f_need_text := ⟨_, _, A_need_text⟩,
    f_is_table := ⟨_, _, A_is_table⟩,
    f_need_table := ⟨_, _, A_need_table⟩,
    f_need_choice := ⟨_, _, A_need_choice⟩,
    f_need_names := ⟨_, _, A_need_names⟩,
    f_record_of := ⟨_, _, A_record_of⟩,
    f_records := ⟨_, _, A_records⟩,
    f_is_record := ⟨_, _, A_is_record⟩,
    f_fields_of := ⟨_, _, A_fields_of⟩,
    f_unrecorded := ⟨_, _, A_unrecorded⟩,
    f__law_begun := ⟨_, _, A__law_begun⟩,
    f__law_mixed := ⟨_, _, A__law_mixed⟩,
    f__law_take := ⟨_, _, A__law_take⟩,
    f__law_pick := ⟨_, _, A__law_pick⟩,
    f__law_shuffled := ⟨_, _, A__law_shuffled⟩,
    f__law_fields := ⟨_, _, A__law_fields⟩,
    f_law := ⟨_, _, A_law⟩ }
  exact ⟨_, fun s u => .of_eq rfl, fun base _ _ => fn_law T A_law⟩
end K57
set_option Elab.async false
set_option linter.all false
set_option maxRecDepth 100000
set_option maxHeartbeats 4000000
namespace K58
open PySem PySem.Spec PyProof.Rows L2 DS DS.Drw CMA CME CMI
def tab_FieldError : Str → Option Bool := fun x => List.lookup x ([("FieldError", true), ("BadText", true), ("BadTable", true), ("BadHeader", true), ("BadRecord", true)] : List (Str × Bool))
def is_BadHeader : Str → Option Bool := fun x => List.lookup x ([("FieldError", false), ("BadText", false), ("BadTable", false), ("BadHeader", true), ("BadRecord", false)] : List (Str × Bool))
def is_BadRecord : Str → Option Bool := fun x => List.lookup x ([("FieldError", false), ("BadText", false), ("BadTable", false), ("BadHeader", false), ("BadRecord", true)] : List (Str × Bool))
def is_BadTable : Str → Option Bool := fun x => List.lookup x ([("FieldError", false), ("BadText", false), ("BadTable", true), ("BadHeader", false), ("BadRecord", false)] : List (Str × Bool))
def is_BadText : Str → Option Bool := fun x => List.lookup x ([("FieldError", false), ("BadText", true), ("BadTable", false), ("BadHeader", false), ("BadRecord", false)] : List (Str × Bool))
def is_ValueError : Str → Option Bool := fun x => List.lookup x ([("FieldError", true), ("BadText", true), ("BadTable", true), ("BadHeader", true), ("BadRecord", true)] : List (Str × Bool))
def ok_column : Str → Bool := fun x => List.contains (["BadHeader"] : List Str) x
def ok_index : Str → Bool := fun x => List.contains (["BadRecord"] : List Str) x
noncomputable def b_need_choice : MS := (sIf (dB (d2 fNotN (dVarB 0) (ret .non))) (sDrop (dFz (dCall F_need_text [none] (dCons (dVar 0) dNil)))) sNil)
noncomputable def F_need_choice : FS := mkF 1 1 b_need_choice
noncomputable def l1_need_names : MS := (sIf (dOrT (dB (d2 fIn1 (dVarB 3) (dSl (dVarB 0) (ret none) (dPart (dVarB 2))))) (dB (d2 fEq (dVarB 3) (dVarB 1)))) (sRaise ("BadHeader" : Str) [("column" : Str)] (dCons (dVar 2) dNil)) sNil)
noncomputable def g1_need_names : D → List Sl → Option (List Sl) := (gTp 2 (gsCons (gN 2) (gsCons (gN 3) gsNil)))
noncomputable def b_need_names : MS := (sFor (lEnum (dVar 0)) g1_need_names l1_need_names [2, 3])
noncomputable def F_need_names : FS := mkF 2 4 b_need_names
noncomputable def e1_is_record : M D := (dFz (dCall F_is_text [none] (dCons (dVar 4) dNil)))
noncomputable def e2_is_record : M D := (dAndV (d2 (fInKN false) (dVarB 3) (dVarB 2)) (dFz (dCall F_is_text [none] (dCons (d2 fDg (dVarB 2) (dVarB 3)) dNil))))
noncomputable def b_is_record : MS := (sSeq (sIf (dOrT (dNotT (dB (d1 (fIsi ["dict"]) (dVarB 2)))) (dB (d2 fNotIn1 (d1 fLen (dVarB 2)) (dTup (dCons (d1 fLen (dVarB 0)) (dCons (d2 fAdd (d1 fLen (dVarB 0)) (ret (.int 1))) dNil)))))) (sRet (dSh (ret (.bl false)))) sNil)
    (sSeq (sIf (dNotT (dB (d1 fAll (dFz (dLc (lItems (dVar 0)) (gN 3) (ret true) e2_is_record [3]))))) (sRet (dSh (ret (.bl false)))) sNil)
    (sSeq (sIf (dB (d2 fEq (d1 fLen (dVarB 2)) (d1 fLen (dVarB 0)))) (sRet (dSh (ret (.bl true)))) sNil)
    (sSeq (sIf (dOrT (dB (d2 fIsN (dVarB 1) (ret .non))) (dOrT (dB (d2 (fInKN true) (dVarB 1) (dVarB 2))) (dNotT (dB (d1 (fIsi ["list", "tuple"]) (d2 fDg (dVarB 2) (dVarB 1))))))) (sRet (dSh (ret (.bl false)))) sNil)
    (sRet (dSh (dAndV (d2 fGt (d1 fLen (d2 fDg (dVarB 2) (dVarB 1))) (ret (.int 0))) (d1 fAll (dFz (dLc (lItems (d2 fDg (dVarB 2) (dVarB 1))) (gN 4) (ret true) e1_is_record [4]))))))))))
noncomputable def F_is_record : FS := mkF 3 5 b_is_record
noncomputable def w1_fields_of : M Bool := (dAndT (dB (d2 fNotN (dVarB 3) (ret .non))) (dAndT (dB (d2 fGt (d1 fLen (dVarB 4)) (ret (.int 1)))) (dB (d2 fEq (d2 fIx (dVarB 4) (d1 fNeg (ret (.int 1)))) (dVarB 3)))))
noncomputable def e1_fields_of : M D := (d2 fDg (dVarB 1) (dVarB 5))
noncomputable def b_fields_of : MS := (sSeq (sSet 4 (dLc (lItems (dVar 0)) (gN 5) (ret true) e1_fields_of [5]))
    (sSeq (sIf (dB (d2 (fInKN false) (dVarB 2) (dVarB 1))) (sRet (dSh (d2 fAdd (d1 fTupOf (dVarB 4)) (d1 fTupOf (d2 fDg (dVarB 1) (dVarB 2)))))) sNil)
    (sSeq (sWhile w1_fields_of (sDrop (dPop 4)) [])
    (sRet (dSh (d1 fTupOf (dVarB 4)))))))
noncomputable def F_fields_of : FS := mkF 4 6 b_fields_of
noncomputable def e1_unrecorded : M D := (dFz (dCall F_fields_of [none, none, none, none] (dCons (dVar 0) (dCons (dVar 6) (dCons (dVar 2) (dCons (dVar 3) dNil))))))
noncomputable def l1_unrecorded : MS := (sIf (dNotT (dB (dFz (dCall F_is_record [none, none, none] (dCons (dVar 0) (dCons (dVar 2) (dCons (dVar 6) dNil))))))) (sRaise ("BadRecord" : Str) [("index" : Str)] (dCons (dVar 5) dNil)) sNil)
noncomputable def g1_unrecorded : D → List Sl → Option (List Sl) := (gTp 2 (gsCons (gN 5) (gsCons (gN 6) gsNil)))
noncomputable def b_unrecorded : MS := (sSeq (sIf (dNotT (dB (dFz (dCall F_is_table [none] (dCons (dFz (dLst (dCons (dVar 0) dNil))) dNil))))) (fun ρ => .ex ⟨("BadTable" : Str), []⟩ ρ) sNil)
    (sSeq (sSet 4 (dSh (d1 (fIsi ["list", "tuple"]) (dVarB 1))))
    (sSeq (sDrop (dFz (dCall F_need_choice [none] (dCons (dVar 2) dNil))))
    (sSeq (sDrop (dFz (dCall F_need_choice [none] (dCons (dVar 3) dNil))))
    (sSeq (sDrop (dFz (dCall F_need_names [none, none] (dCons (dVar 0) (dCons (dVar 2) dNil)))))
    (sSeq (sIf (dAndT (dB (d2 fEq (dVar 0) (dTup dNil))) (dAndT (dB (dVar 4)) (dB (d2 fGt (d1 fLen (dVarB 1)) (ret (.int 0)))))) (sRaise ("BadHeader" : Str) [("column" : Str)] (dCons (ret (.int 0)) dNil)) sNil)
    (sSeq (sIf (dNotT (dB (dVar 4))) (sRaise ("BadRecord" : Str) [("index" : Str)] (dCons (ret (.int 0)) dNil)) sNil)
    (sSeq (sFor (lEnum (dVar 1)) g1_unrecorded l1_unrecorded [5])
    (sRet (dSh (d2 fAdd (d2 fMul (dFz (dLst (dCons (dVar 0) dNil))) (d1 fInt (d2 fNe (dVar 0) (dTup dNil)))) (dFz (dLc (lItems (dVar 1)) (gN 6) (ret true) e1_unrecorded [6])))))))))))))
noncomputable def F_unrecorded : FS := mkF 4 7 b_unrecorded
noncomputable def t1__law_is_row : M Bool := (dNotT (dB (d1 (fIsi ["str"]) (dVarB 1))))
noncomputable def b__law_is_row : MS := (sRet (dSh (dAndV (d1 (fIsi ["tuple"]) (dVarB 0)) (d2 fEq (dFz (dLc (lItems (dVar 0)) (gN 1) t1__law_is_row (dVar 1) [1])) (ret (.lst []))))))
noncomputable def F__law_is_row : FS := mkF 1 2 b__law_is_row
noncomputable def t1__law_is_record : M Bool := (dB (d2 fNotIn1 (dVarB 5) (dVarB 0)))
noncomputable def t2__law_is_record : M Bool := (dNotT (dB (d1 (fIsi ["str"]) (dDg2 (dVar 2) (dVar 4) (ret .non)))))
noncomputable def b__law_is_record : MS := (sSeq (sIf (dOrT (dNotT (dB (d1 (fIsi ["dict"]) (dVarB 2)))) (dB (d2 fNe (dFz (dLc (lItems (dVar 0)) (gN 4) t2__law_is_record (dVar 4) [4])) (ret (.lst []))))) (sRet (dSh (ret (.bl false)))) sNil)
    (sSeq (sSet 3 (dLcD 2 (gN 5) t1__law_is_record (dVar 5) [5]))
    (sSeq (sIf (dB (d2 fEq (dVarB 3) (ret (.lst [])))) (sRet (dSh (ret (.bl true)))) sNil)
    (sSeq (sIf (dOrT (dB (d2 fIsN (dVarB 1) (ret .non))) (dOrT (dB (d2 fNe (dVar 3) (dFz (dLst (dCons (dVar 1) dNil))))) (dOrT (dNotT (dB (d1 (fIsi ["list"]) (d2 fDg (dVarB 2) (dVarB 1))))) (dB (d2 fEq (d2 fDg (dVarB 2) (dVarB 1)) (ret (.lst []))))))) (sRet (dSh (ret (.bl false)))) sNil)
    (sRet (dCall F__law_is_row [none] (dCons (d1 fTupOf (d2 fDg (dVarB 2) (dVarB 1))) dNil)))))))
noncomputable def F__law_is_record : FS := mkF 3 6 b__law_is_record
noncomputable def l1__law_due : MS := (sIf (dNotT (dB (dFz (dCall F__law_is_record [none, none, none] (dCons (dVar 0) (dCons (dVar 2) (dCons (dVar 8) dNil))))))) (sRet (dSh (dTup (dCons (ret (.str ("record" : Str))) (dCons (dVar 7) dNil))))) sNil)
noncomputable def g1__law_due : D → List Sl → Option (List Sl) := (gTp 2 (gsCons (gN 7) (gsCons (gN 8) gsNil)))
noncomputable def l2__law_due : MS := (sIf (dOrT (dB (d2 fIn1 (dVarB 5) (dSl (dVarB 0) (ret none) (dPart (dVarB 4))))) (dB (d2 fEq (dVarB 5) (dVarB 2)))) (sRet (dSh (dTup (dCons (ret (.str ("header" : Str))) (dCons (dVar 4) dNil))))) sNil)
noncomputable def g2__law_due : D → List Sl → Option (List Sl) := (gTp 2 (gsCons (gN 4) (gsCons (gN 5) gsNil)))
noncomputable def t1__law_due : M Bool := (dAndT (dB (d2 fNotN (dVarB 8) (ret .non))) (dNotT (dB (d1 (fIsi ["str"]) (dVarB 8)))))
noncomputable def b__law_due : MS := (sSeq (sIf (dNotT (dB (dFz (dCall F__law_is_row [none] (dCons (dVar 0) dNil))))) (sRet (dSh (ret (.str ("table" : Str))))) sNil)
    (sSeq (sIf (dB (d2 fNe (dFz (dLc (lItems (dTup (dCons (dVar 2) (dCons (dVar 3) dNil)))) (gN 8) t1__law_due (dVar 8) [8])) (ret (.lst [])))) (sRet (dSh (ret (.str ("text" : Str))))) sNil)
    (sSeq (sFor (lEnum (dVar 0)) g2__law_due l2__law_due [4, 5])
    (sSeq (sSet 6 (dSh (d1 (fIsi ["list", "tuple"]) (dVarB 1))))
    (sSeq (sIf (dAndT (dB (d2 fEq (dVar 0) (dTup dNil))) (dAndT (dB (dVar 6)) (dB (d2 fGt (d1 fLen (dVarB 1)) (ret (.int 0)))))) (sRet (dSh (dTup (dCons (ret (.str ("header" : Str))) (dCons (ret (.int 0)) dNil))))) sNil)
    (sSeq (sIf (dNotT (dB (dVar 6))) (sRet (dSh (dTup (dCons (ret (.str ("record" : Str))) (dCons (ret (.int 0)) dNil))))) sNil)
    (sSeq (sFor (lEnum (dVar 1)) g1__law_due l1__law_due [7])
    (sRet (dSh (ret (.str ("none" : Str))))))))))))
noncomputable def F__law_due : FS := mkF 4 9 b__law_due
noncomputable def b__law_told (t : M Sl) : MS := (sSeq (sSet 1 (dSh (ret .non)))
    (sSeq (sTryD 2 tab_FieldError (sDrop (dFz (dAct 0 t))) (sSet 1 (dSh (dVar 2))))
    (sSeq (sIf (dB (d2 fIsN (dVarB 1) (ret .non))) (sRet (dSh (ret (.str ("none" : Str))))) sNil)
    (sSeq (sSet 3 (dLst (dCons (d1 (fIsK is_BadTable) (dVar 1)) (dCons (d1 (fIsK is_BadText) (dVar 1)) (dCons (d1 (fIsK is_BadHeader) (dVar 1)) dNil)))))
    (sSeq (sAppG 3 (d1 (fIsK is_BadRecord) (dVar 1)))
    (sSeq (sIf (dOrT (dB (d2 fNe (dCount (dVarB 3) (ret (.bl true))) (ret (.int 1)))) (dNotT (dB (d1 (fIsK is_ValueError) (dVar 1))))) (sRet (dSh (ret (.str ("other" : Str))))) sNil)
    (sSeq (sIf (dB (d2 fIx (dVarB 3) (ret (.int 2)))) (sRet (dSh (dTup (dCons (ret (.str ("header" : Str))) (dCons (d1 (fXf ok_column ("column" : Str)) (dVar 1)) dNil))))) sNil)
    (sRet (dSh (dIf (dB (d2 fIx (dVarB 3) (ret (.int 3)))) (dTup (dCons (ret (.str ("record" : Str))) (dCons (d1 (fXf ok_index ("index" : Str)) (dVar 1)) dNil))) (d2 fIx (dFz (dLst (dCons (ret (.str ("table" : Str))) (dCons (ret (.str ("text" : Str))) dNil)))) (dIndex (dVarB 3) (ret (.bl true))))))))))))))
noncomputable def b__law_bent : MS := (sSeq (sPar2 2 3 (sCons (dDic (dVar 1)) (sCons (dCall F__law_take [some 0, none] (dRef 0 (dCons (ret (.int 5)) dNil))) (ret []))))
    (sSeq (sIf (dAndT (dB (d2 fEq (dVarB 3) (ret (.int 0)))) (dB (d2V (fEqK true) 2 (dFz (ret (.ow none (.dct []))))))) (sDrop (dPopD 2 (dFz (dCall F__law_pick [some 0, none] (dRef 0 (dCons (dFz (dLsK (dVarB 2))) dNil)))))) (sIf (dB (d2 fEq (dVarB 3) (ret (.int 1)))) (sPutD 2 (dFz (dCall F__law_pick [some 0, none] (dRef 0 (dCons (dFz (dLst (dCons (ret (.str ("a" : Str))) (dCons (ret (.str ("zz" : Str))) (dCons (ret (.str ("rest" : Str))) (dCons (ret (.str ("" : Str))) (dCons (ret (.int 5)) dNil))))))) dNil)))) (dFz (dCall F__law_pick [some 0, none] (dRef 0 (dCons (dFz (dLst (dCons (ret (.str ("x" : Str))) (dCons (ret (.int 5)) (dCons (ret .non) (dCons (dFz (dLst (dCons (ret (.str ("x" : Str))) dNil))) (dCons (ret (.lst [])) (dCons (dFz (dLst (dCons (ret (.int 5)) dNil))) (dCons (ret (.bl true)) dNil))))))))) dNil))))) (sIf (dB (d2 fEq (dVarB 3) (ret (.int 2)))) (sRet (dCall F__law_pick [some 0, none] (dRef 0 (dCons (dFz (dLst (dCons (ret .non) (dCons (ret (.int 5)) (dCons (ret (.str ("a" : Str))) (dCons (ret (.lst [])) (dCons (dTup dNil) (dCons (dFz (dLsI (dVarB 2))) dNil)))))))) dNil)))) sNil)))
    (sRet (dMove 2))))
noncomputable def F__law_bent : FS := mkF 2 4 b__law_bent
noncomputable def k1_law : M Sl := (dKw F_unrecorded 0 4 (fun l => perm [3, 2, 1, 0] (l ++ ([] : List (Str × D)).map (·.2))) dNil (dCons (dVar 5) (dCons (dVar 4) (dCons (dVar 6) (dCons (dVar 3) dNil)))))
noncomputable def k2_law : M Sl := (dKw F_unrecorded 2 2 (fun l => perm [0, 1, 2, 3] (l ++ ([] : List (Str × D)).map (·.2))) (dCons (dVar 3) (dCons (dVar 6) dNil)) (dCons (dVar 4) (dCons (dVar 5) dNil)))
noncomputable def e1_law : M D := (dIf (dB (d2 fEq (dFz (dCall F__law_take [some 1, none] (dRef 1 (dCons (ret (.int 4)) dNil)))) (ret (.int 0)))) (dFz (dCall F__law_bent [some 1, none] (dRef 1 (dCons (dVar 10) dNil)))) (dVar 10))
noncomputable def e2_law : M D := (dTup (dCons (dVar 11) (dCons (ret (.str ("x" : Str))) dNil)))
noncomputable def e3_law : M D := (dFz (dDic (dFz (dLc (lItems (dVar 3)) (gN 11) (ret true) e2_law [11]))))
noncomputable def l1_law : MS := (sSeq (sSet 3 (dSh (d1 fTupOf (dSl (dFz (dCall F__law_shuffled [some 1, none] (dRef 1 (dCons (dFz (dLst (dCons (ret (.str ("a" : Str))) (dCons (ret (.str ("b" : Str))) (dCons (ret (.str ("c" : Str))) (dCons (ret (.str ("" : Str))) (dCons (ret (.str ("name" : Str))) dNil))))))) dNil)))) (ret none) (dPart (dFz (dCall F__law_take [some 1, none] (dRef 1 (dCons (ret (.int 5)) dNil)))))))))
    (sSeq (sParN [4, 5] (sCons (dSh (dFz (dCall F__law_pick [some 1, none] (dRef 1 (dCons (dFz (dLst (dCons (ret .non) (dCons (ret (.str ("rest" : Str))) (dCons (ret (.str ("rest" : Str))) (dCons (ret (.str ("a" : Str))) dNil)))))) dNil))))) (sCons (dSh (dFz (dCall F__law_pick [some 1, none] (dRef 1 (dCons (dFz (dLst (dCons (ret (.str ("" : Str))) (dCons (ret .non) (dCons (ret (.str ("-" : Str))) dNil))))) dNil))))) (ret []))))
    (sSeq (sSet 6 (dSh (dFz (dLc (lRange fRange1 (dCons (dFz (dCall F__law_take [some 1, none] (dRef 1 (dCons (ret (.int 5)) dNil)))) dNil)) (gN 9) (ret true) e3_law [9]))))
    (sSeq (sSet 6 (dSh (dFz (dLc (lItems (dVar 6)) (gN 10) (ret true) e1_law [10]))))
    (sSeq (sSet 7 (dCall F__law_take [some 1, none] (dRef 1 (dCons (ret (.int 10)) dNil))))
    (sSeq (sIf (dB (d2 fEq (dVarB 7) (ret (.int 0)))) (sSet 3 (dSh (dFz (dCall F__law_pick [some 1, none] (dRef 1 (dCons (dFz (dLst (dCons (ret .non) (dCons (ret (.int 5)) (dCons (ret (.str ("ab" : Str))) (dCons (dFz (dLst (dCons (ret (.str ("a" : Str))) dNil))) (dCons (dTup (dCons (ret (.str ("a" : Str))) (dCons (ret (.int 5)) dNil))) (dCons (dTup (dCons (ret (.str ("a" : Str))) (dCons (ret (.str ("a" : Str))) dNil))) (dCons (dTup (dCons (ret (.str ("b" : Str))) (dCons (ret (.str ("rest" : Str))) dNil))) (dCons (dTup (dCons (ret .non) dNil)) dNil)))))))))) dNil)))))) sNil)
    (sSeq (sIf (dB (d2 fEq (dVarB 7) (ret (.int 1)))) (sSet 4 (dSh (dFz (dCall F__law_pick [some 1, none] (dRef 1 (dCons (dFz (dLst (dCons (ret (.int 5)) (dCons (dFz (dLst (dCons (ret (.str ("a" : Str))) dNil))) (dCons (ret (.bl true)) (dCons (dTup (dCons (ret (.str ("a" : Str))) dNil)) dNil)))))) dNil)))))) sNil)
    (sSeq (sIf (dB (d2 fEq (dVarB 7) (ret (.int 2)))) (sSet 5 (dSh (dFz (dCall F__law_pick [some 1, none] (dRef 1 (dCons (dFz (dLst (dCons (ret (.int 5)) (dCons (dFz (dLst (dCons (ret (.str ("a" : Str))) dNil))) (dCons (ret (.bl true)) (dCons (dTup (dCons (ret (.str ("a" : Str))) dNil)) dNil)))))) dNil)))))) sNil)
    (sSeq (sIf (dB (d2 fEq (dVarB 7) (ret (.int 3)))) (sSet 6 (dSh (dFz (dCall F__law_pick [some 1, none] (dRef 1 (dCons (dFz (dLst (dCons (ret .non) (dCons (ret (.int 5)) (dCons (ret (.str ("ab" : Str))) (dCons (dFz (ret (.ow none (.dct [])))) (dCons (dFz (dDispK (((ret (.str ("a" : Str))), (ret (.str ("x" : Str)))) :: []))) (dCons (ret (.bl true)) dNil)))))))) dNil)))))) sNil)
    (sSeq (sSet 8 (dCall F__law_due [none, none, none, none] (dCons (dVar 3) (dCons (dVar 6) (dCons (dVar 4) (dCons (dVar 5) dNil))))))
    (sSeq (sIf (dB (d2 fNe (d1 fRepr (dFz (dLam 12 (mkT 4 (b__law_told k2_law))))) (d1 fRepr (dVarB 8)))) (sRet (dSh (ret (.bl false)))) sNil)
    (sIf (dB (d2 fNe (d1 fRepr (dFz (dLam 12 (mkT 4 (b__law_told k1_law))))) (d1 fRepr (dVarB 8)))) (sRet (dSh (ret (.bl false)))) sNil))))))))))))
noncomputable def b_law : MS := (sSeq (sSet 1 (dCall F__law_begun [none] (dCons (dVar 0) dNil)))
    (sSeq (sFor (lRange fRange1 (dCons (d2 fAdd (ret (.int 10)) (d2 fMin (d1 fLen (dVarB 0)) (ret (.int 24)))) dNil)) (gN 2) l1_law [2, 3, 4, 5, 6, 7, 8, 9])
    (sRet (dSh (ret (.bl true))))))
end K58
set_option Elab.async false
set_option linter.all false
set_option maxRecDepth 100000
set_option maxHeartbeats 1000000
namespace RD
open DS
open PySem (Str)
inductive Pl where
  | fresh | field | plain | plainE | quoted | quotedE | closed
  deriving DecidableEq
def Pl.s : Pl → Str
  | .fresh => "fresh"
  | .field => "field"
  | .plain => "plain"
  | .plainE => "plain_escaped"
  | .quoted => "quoted"
  | .quotedE => "quoted_escaped"
  | .closed => "closed"
structure Dia where
  sep : Nat
  ter : Nat
  quo : Option Nat
  esc : Option Nat
  dbl : Bool
  pad : Bool
  str : Bool
def oD : Option Nat → D
  | none => .non
  | some c => .str (chS c)
def Dia.l (d : Dia) : List D := [.str (chS d.sep), .str (chS d.ter), oD d.quo, oD d.esc, .bl d.dbl, .bl d.pad, .bl d.str]
def Dia.t (d : Dia) : D := .tup d.l
def Dia.o (d : Dia) : D := .obj "Dialect" [("settings", d.t)]
inductive Act where
  | add (c : Nat) | field | row
def Act.t : Act → D
  | .add c => .tup [.str "add", .str (chS c)]
  | .field => .tup [.str "field"]
  | .row => .tup [.str "row"]
inductive Mv where
  | go (p : Pl) (as : List Act) | quote | after
def mv (d : Dia) (p : Pl) (c : Nat) : Mv := match p with
  | .plainE => .go .plain [.add c]
  | .quotedE => .go .quoted [.add c]
  | .quoted => if some c = d.quo then .go .closed [] else if some c = d.esc then .go .quotedE [] else .go .quoted [.add c]
  | p => if c = d.sep then .go .field [.field] else if c = d.ter then .go .fresh (if p = .fresh then [.row] else [.field, .row])
    else if p = .closed then (if some c = d.quo ∧ d.dbl = true then .go .quoted [.add c] else if d.str = true then .after else if some c = d.esc then .go .plainE [] else .go .plain [.add c])
    else if some c = d.esc then .go .plainE []
    else if p = .plain then (if some c = d.quo ∧ d.str = true then .quote else .go .plain [.add c])
    else if some c = d.quo then .go .quoted []
    else if c = 32 ∧ d.pad = true then .go .field []
    else .go .plain [.add c]
def Mv.d : Mv → D
  | .go p as => .tup [.str p.s, .tup (as.map Act.t)]
  | .quote => .str "quote"
  | .after => .str "after"
def Mv.l : Mv → D
  | .go p as => .tup [.str p.s, .lst (as.map Act.t)]
  | .quote => .tup [.str "quote", .non]
  | .after => .tup [.str "after", .non]
section
variable {α β : Type} {c : Prop} [Decidable c]
end
theorem at_nat {α : Type} (xs : List α) (n : Nat) : L2.atI xs (n : Int) = xs[n]? := by
  unfold L2.atI L2.ixN
  rw [if_pos (by omega)]
  by_cases h : (n : Int) < (xs.length : Int)
  · rw [if_pos h]; simp
  · rw [if_neg h, List.getElem?_eq_none (by omega)]; rfl
@[simp] theorem x_ixT (ds : List D) (i : Int) : fIx (.tup ds) (.int i) = L2.atI ds i := rfl
@[simp] theorem x_ixL (ds : List D) (i : Int) : fIx (.lst ds) (.int i) = L2.atI ds i := rfl
@[simp] theorem x_at0 {α : Type} (xs : List α) : L2.atI xs 0 = xs[0]? := at_nat xs 0
@[simp] theorem x_at1 {α : Type} (xs : List α) : L2.atI xs 1 = xs[1]? := at_nat xs 1
@[simp] theorem x_at2 {α : Type} (xs : List α) : L2.atI xs 2 = xs[2]? := at_nat xs 2
@[simp] theorem x_at3 {α : Type} (xs : List α) : L2.atI xs 3 = xs[3]? := at_nat xs 3
@[simp] theorem x_at4 {α : Type} (xs : List α) : L2.atI xs 4 = xs[4]? := at_nat xs 4
@[simp] theorem x_at5 {α : Type} (xs : List α) : L2.atI xs 5 = xs[5]? := at_nat xs 5
@[simp] theorem x_at6 {α : Type} (xs : List α) : L2.atI xs 6 = xs[6]? := at_nat xs 6
@[simp] theorem x_at7 {α : Type} (xs : List α) : L2.atI xs 7 = xs[7]? := at_nat xs 7
@[simp] theorem x_at8 {α : Type} (xs : List α) : L2.atI xs 8 = xs[8]? := at_nat xs 8
@[simp] theorem x_at9 {α : Type} (xs : List α) : L2.atI xs 9 = xs[9]? := at_nat xs 9
@[simp] theorem x_at10 {α : Type} (xs : List α) : L2.atI xs 10 = xs[10]? := at_nat xs 10
@[simp] theorem x_at11 {α : Type} (xs : List α) : L2.atI xs 11 = xs[11]? := at_nat xs 11
@[simp] theorem x_at12 {α : Type} (xs : List α) : L2.atI xs 12 = xs[12]? := at_nat xs 12
@[simp] theorem x_at13 {α : Type} (xs : List α) : L2.atI xs 13 = xs[13]? := at_nat xs 13
theorem mk_len (w : List Nat) : (mkS' w).length = w.length := by simp [len_list, mkS']
theorem mk_list (w : List Nat) : (mkS' w).cps.toList = w := by simp [mkS']
theorem mk_signs (w : List Nat) : signs (mkS' w) = w.map chS := by
  simp only [signs, mk_list]; rfl
def wD (w : List Nat) : D := .str (mkS' w)
def chD (c : Nat) : D := .str (chS c)
theorem x_itw (w : List Nat) : (wD w).items = some (w.map chD) := by
  show some ((signs (mkS' w)).map D.str) = _
  rw [mk_signs, List.map_map]; rfl
structure Wk where
  rows : List (List (List Nat))
  row : List (List Nat)
  word : List Nat
def rowD (r : List (List Nat)) : D := .tup (r.map wD)
def Wk.act (w : Wk) : Act → Wk
  | .add c => { w with word := w.word ++ [c] }
  | .field => { w with row := w.row ++ [w.word], word := [] }
  | .row => { w with rows := w.rows ++ [w.row], row := [] }
def Wk.acts (w : Wk) (as : List Act) : Wk := as.foldl Wk.act w
structure Wk.Sz (w : Wk) (n : Nat) : Prop where
  rows : w.rows.length ≤ n
  row : w.row.length ≤ n
  word : w.word.length ≤ n
theorem Wk.Sz.act {w : Wk} {n : Nat} (h : w.Sz n) (a : Act) : (w.act a).Sz (n + 1) := by
  obtain ⟨h1, h2, h3⟩ := h
  cases a <;> refine ⟨?_, ?_, ?_⟩ <;> simp only [Wk.act, List.length_append, List.length_cons, List.length_nil] <;> omega
theorem Wk.Sz.le {w : Wk} {n m : Nat} (h : w.Sz n) (l : n ≤ m) : w.Sz m := ⟨Nat.le_trans h.1 l, Nat.le_trans h.2 l, Nat.le_trans h.3 l⟩
theorem Wk.Sz.acts : ∀ {as : List Act} {w : Wk} {n : Nat}, w.Sz n → (w.acts as).Sz (n + as.length)
  | [], w, n, h => h
  | a :: as, w, n, h => by
    have := Wk.Sz.acts (as := as) (h.act a)
    rw [show n + (a :: as).length = n + 1 + as.length by simp; omega]
    exact this
inductive WR where
  | fin (p : Pl) (w : Wk)
  | bad (i : Nat) (k : Str)
def walk (d : Dia) : List Nat → Nat → Pl → Wk → WR
  | [], _, p, w => .fin p w
  | c :: cs, i, p, w => match mv d p c with
    | .go q as => walk d cs (i + 1) q (w.acts as)
    | .quote => .bad i "quote"
    | .after => .bad i "after"
def WR.d : WR → D
  | .fin p w => .tup [.str p.s, .lst (w.rows.map rowD), rowD w.row, wD w.word]
  | .bad i k => .tup [.non, .int (i : Nat), .str k, .str ""]
def wk0 : Wk := ⟨[], [], []⟩
end RD
set_option Elab.async false
set_option linter.all false
set_option maxRecDepth 100000
set_option maxHeartbeats 1000000
namespace CMA
open DS DS.Drw RD
open PySem (Str)
end CMA
set_option Elab.async false
set_option linter.all false
set_option maxRecDepth 100000
set_option maxHeartbeats 1000000
namespace CMA
open DS DS.Drw RD
open PySem (Str)
end CMA
set_option Elab.async false
set_option linter.all false
set_option maxRecDepth 100000
set_option maxHeartbeats 1000000
namespace RD
open DS DS.Drw
open PySem (Str)
theorem takeN {n : Nat} {s : Dw} {t : Option Nat} (k : Int) (h : DwOk (n + 1) s) (hk : 0 < k) (hk2 : k < 1073741824) :
    ∃ (r : Nat) (s' : Dw), (r : Int) < k ∧ DwOk n s' ∧ F__law_take [.rs t s, .sh (.int k)] = .ok (.sh (.int r)) [.rs none s', .no] := by
  obtain ⟨r, s', a, b, c, e⟩ := take_run (t := t) (k := k) h (by omega) (by omega)
  obtain ⟨m, rfl⟩ : ∃ m : Nat, r = (m : Int) := ⟨r.toNat, by omega⟩
  exact ⟨m, s', b, c, e⟩
theorem eq0 (r : Nat) : fEq (.int (r : Int)) (.int 0) = some (.bl (decide (r = 0))) := by
  have : ((r : Int) == 0) = decide (r = 0) := by
    by_cases h : r = 0
    · subst h; rfl
    · rw [decide_eq_false h]; exact beq_eq_false_iff_ne.mpr (by omega)
  simp [fEq, flat_int, eqv_int, this]
theorem gt0 (r : Nat) : fGt (.int (r : Int)) (.int 0) = some (.bl (decide (0 < r))) := by
  have : decide ((r : Int) > 0) = decide (0 < r) := by
    congr 1
    simp
  simp [fGt]
theorem range1N {k : Nat} (h : k ≤ 1000000) : fRange1 [.int (k : Nat)] = some ((List.range k).map fun i => D.int (0 + (i : Nat))) := by
  have : small62 (k : Int) = true := by simp [small62]; omega
  simp only [fRange1, this, if_true, Int.toNat_natCast]
def menu13 : List Nat := [44, 10, 34, 92, 9, 59, 39, 32, 124, 97, 55, 33, 126]
def alphaL : List Nat := (("\t\n !\"#$&'()*+,-./0123456789:;<=>?@ABCDEFGHIJKLMNOPQRSTUVWXYZ[\\]^_`abcdefghijklmnopqrstuvwxyz{|}~" : Str)).cps.toList
structure Dia.Ok (d : Dia) : Prop where
  sep : d.sep ∈ alphaL
  ter : d.ter ∈ alphaL
  quo : ∀ c, d.quo = some c → c ∈ alphaL
  esc : ∀ c, d.esc = some c → c ∈ alphaL
  st : d.sep ≠ d.ter
  sq : d.quo ≠ some d.sep
  tq : d.quo ≠ some d.ter
  se : d.esc ≠ some d.sep
  te : d.esc ≠ some d.ter
  qe : ∀ c, d.quo = some c → d.esc ≠ some c
  db : d.dbl = true → d.quo ≠ none
  pd : d.pad = true → d.sep ≠ 32 ∧ d.ter ≠ 32 ∧ d.quo ≠ some 32 ∧ d.esc ≠ some 32
theorem isi_ty {d : D} {cs : List String} {s : String} {b : Bool} (h : d.tyS = some s) (hs : kitAnyB s cs = some b) : fIsi cs d = some (.bl b) := by
  simp [fIsi, h, hs]
theorem isiS_str (x : Str) : fIsi ["str"] (.str x) = some (.bl true) := isi_ty rfl (by decide +kernel)
end RD
namespace CMA
open DS DS.Drw RD
open PySem (Str)
def Al (cs : List Nat) : Prop := ∀ c ∈ cs, c ∈ alphaL
theorem in_alpha {c : Nat} (h : c ∈ alphaL) : fIn1 (.str (chS c)) g_ALPHABET = some (.bl true) := by
  have := sIn_ch c ("\t\n !\"#$&'()*+,-./0123456789:;<=>?@ABCDEFGHIJKLMNOPQRSTUVWXYZ[\\]^_`abcdefghijklmnopqrstuvwxyz{|}~" : Str)
  unfold alphaL at h
  rw [decide_eq_true h] at this
  simp [fIn1, g_ALPHABET, this]
theorem all_true : ∀ (l : List Nat), fAll (.lst (l.map (fun _ => D.bl true))) = some (.bl true) := by
  intro l
  induction l with
  | nil => rfl
  | cons d l ih =>
    simp only [fAll, List.map_cons, asBs] at ih ⊢
    cases e : asBs (l.map fun _ => D.bl true) with
    | none => rw [e] at ih; cases ih
    | some bs => rw [e] at ih; simp at ih ⊢; exact ih
theorem len_w {cs : List Nat} (h : cs.length ≤ 1000000) : fLen (wD cs) = some (.int (cs.length : Nat)) := by
  unfold wD
  simp only [fLen, mk_len]
  rw [if_pos (by rw [big1]; omega)]
theorem istext_run {cs : List Nat} (h : cs.length ≤ 4000) (ha : Al cs) : F_is_text [.sh (wD cs)] = .ok (.sh (.bl true)) [.no] := by
  have e1 := len_w (cs := cs) (by omega)
  have e2 : fLe (.int (cs.length : Nat)) (.int 4000) = some (.bl true) := by simp only [fLe]; rw [decide_eq_true (by omega)]
  have e0 : fIsi ["str"] (wD cs) = some (.bl true) := isiS_str _
  have r : lcRun (gN 1) (ret true) e1_is_text [1] (cs.map chD) [] [.sh (wD cs), .no] = some (cs.map (fun _ => D.bl true), [.sh (wD cs), .no]) := by
    have := lcRun_pure (g := gN 1) (tt := ret true) (te := e1_is_text) (own := [1]) (ρ := [.sh (wD cs), .no]) (fun _ => true) (fun _ => D.bl true) (cs.map chD) [] (fun d hd => by
      obtain ⟨c, hc, rfl⟩ := List.mem_map.mp hd
      have a := in_alpha (ha c hc)
      refine ⟨_, _, rfl, rfl, (fun z => nomatch z), fun _ => ⟨[.sh (wD cs), .sh (chD c)], ?_, rfl⟩⟩
      unfold chD
      simp [e1_is_text, a]) (by simp; omega)
    rw [this]
    simp [List.filter_eq_self.mpr, Function.comp_def]
  have e3 := all_true cs
  simp [F_is_text, mkF_eq, b_is_text, e0, e1, e2, g_MOST_SIGNS, x_itw, r, e3]
theorem istext_odd {d : D} (h : fIsi ["str"] d = some (.bl false)) : F_is_text [.sh d] = .ok (.sh (.bl false)) [.no] := by
  simp [F_is_text, mkF_eq, b_is_text, h]
theorem need_odd {d : D} (h : fIsi ["str"] d = some (.bl false)) : F_need_text [.sh d] = .ex ⟨"BadText", []⟩ [.no] := by
  simp [F_need_text, mkF_eq, b_need_text, istext_odd h]
end CMA
set_option Elab.async false
set_option linter.all false
set_option maxRecDepth 100000
set_option maxHeartbeats 1000000
namespace CMA
open DS DS.Drw RD
open PySem (Str)
def left (f : List Nat) : List Nat := menu13.filter fun c => !f.contains c
end CMA
set_option Elab.async false
set_option linter.all false
set_option maxRecDepth 100000
set_option maxHeartbeats 1000000
namespace RD
open DS DS.Drw
open PySem (Str)
end RD
namespace CMA
open DS DS.Drw RD
open PySem (Str)
def Dia.os (d : Dia) : List (Option Nat) := [some d.sep, some d.ter, d.quo, d.esc]
end CMA
set_option Elab.async false
set_option linter.all false
set_option maxRecDepth 100000
set_option maxHeartbeats 1000000
namespace RD
open DS DS.Drw
open PySem (Str)
def dd : List Nat → List Nat → List Nat
  | _, [] => []
  | pre, c :: r => if pre.contains c then dd (pre ++ [c]) r else c :: dd (pre ++ [c]) r
end RD
namespace CMA
open DS DS.Drw RD
open PySem (Str)
end CMA
set_option Elab.async false
set_option linter.all false
set_option maxRecDepth 100000
set_option maxHeartbeats 1000000
namespace RD
open DS DS.Drw
open PySem (Str)
section
variable {a b c d : D}
theorem s1 : (("done" : Str) == "place") = false := by decide +kernel
theorem s2 : (("held" : Str) == "place") = false := by decide +kernel
theorem s3 : (("held" : Str) == "done") = false := by decide +kernel
theorem n1 : (("place" : Str) = "done") = False := by simp; decide +kernel
theorem n2 : (("place" : Str) = "held") = False := by simp; decide +kernel
end
def endS : Pl → Option (List Act)
  | .fresh => some []
  | .field => some [.field, .row]
  | .plain => some [.field, .row]
  | .closed => some [.field, .row]
  | _ => none
end RD
namespace CMC
open DS DS.Drw RD CMA
open PySem (Str)
def Wk.bare (w : Wk) : Wk := { w with rows := [] }
inductive RR where
  | tab (rows : List (List (List Nat)))
  | bad (i : Nat) (k : Str)
def rd (d : Dia) (cs : List Nat) : RR := match walk d cs 0 .fresh wk0 with
  | .bad i k => .bad i k
  | .fin p w => match endS p with
    | none => .bad cs.length "unfinished"
    | some as => .tab (w.acts as).rows
end CMC
set_option Elab.async false
set_option linter.all false
set_option maxRecDepth 100000
set_option maxHeartbeats 1000000
namespace RD
open DS DS.Drw
open PySem (Str)
end RD
namespace CMB
open DS DS.Drw RD CMA
open PySem (Str)
end CMB
set_option Elab.async false
set_option linter.all false
set_option maxRecDepth 100000
set_option maxHeartbeats 1000000
namespace RD
open DS DS.Drw CMA
open PySem (Str)
end RD
set_option Elab.async false
set_option linter.all false
set_option maxRecDepth 100000
set_option maxHeartbeats 1000000
namespace RD
open DS DS.Drw CMA
open PySem (Str)
def care (d : Dia) (c i : Nat) : Bool := decide (c = d.sep) || decide (c = d.ter) || decide (some c = d.esc) || (if some c = d.quo then decide (i = 0) || d.str else decide (c = 32) && decide (i = 0) && d.pad)
def plainG (d : Dia) : List Nat → Nat → Option (List Nat)
  | [], _ => some []
  | c :: cs, i => if care d c i = true then (match d.esc with
      | none => none
      | some e => (plainG d cs (i + 1)).map fun r => e :: c :: r) else (plainG d cs (i + 1)).map fun r => c :: r
def plainS' (d : Dia) (cs : List Nat) (alone : Bool) : Option (List Nat) := if cs = [] ∧ alone = true then (if d.pad = true then some [32] else none) else plainG d cs 0
def quotG (d : Dia) (q : Nat) : List Nat → Option (List Nat)
  | [] => some []
  | c :: cs => if c = q ∧ d.dbl = true then (quotG d q cs).map fun r => c :: c :: r
    else if c = q ∨ some c = d.esc then (match d.esc with
      | none => none
      | some e => (quotG d q cs).map fun r => e :: c :: r)
    else (quotG d q cs).map fun r => c :: r
def quotS (d : Dia) (cs : List Nat) : Option (List Nat) := match d.quo with
  | none => none
  | some q => (quotG d q cs).map fun r => q :: (r ++ [q])
inductive Rl where
  | plain | quoted | needed
  deriving DecidableEq
def Rl.s : Rl → Str
  | .plain => "plain"
  | .quoted => "quoted"
  | .needed => "needed"
def anyCare (d : Dia) : List Nat → Nat → Bool
  | [], _ => false
  | c :: cs, i => care d c i || anyCare d cs (i + 1)
def spell (d : Dia) (cs : List Nat) (r : Rl) (alone : Bool) : Option (List Nat) := match r with
  | .quoted => quotS d cs
  | .plain => plainS' d cs alone
  | .needed => if (anyCare d cs 0 = true ∨ (cs = [] ∧ alone = true)) ∧ quotS d cs ≠ none then quotS d cs else plainS' d cs alone
theorem walk_app (d : Dia) : ∀ (a b : List Nat) (i : Nat) (p : Pl) (w : Wk), walk d (a ++ b) i p w = match walk d a i p w with
    | .bad j k => .bad j k
    | .fin q w' => walk d b (i + a.length) q w'
  | [], b, i, p, w => by simp [walk]
  | c :: a, b, i, p, w => by
    simp only [List.cons_append, walk]
    cases e : mv d p c with
    | go q as =>
      simp only
      rw [walk_app d a b (i + 1) q (w.acts as)]
      simp only [List.length_cons]
      rw [show i + 1 + a.length = i + (a.length + 1) by omega]
    | quote => rfl
    | after => rfl
def Adds (d : Dia) (p : Pl) (r : List Nat) (q : Pl) (cs : List Nat) : Prop := ∀ (i : Nat) (w : Wk), walk d r i p w = .fin q { w with word := w.word ++ cs }
theorem Adds.nil {d : Dia} {p : Pl} : Adds d p [] p [] := fun i w => by simp [walk]
theorem Adds.app {d : Dia} {p q s : Pl} {r r' cs cs' : List Nat} (h : Adds d p r q cs) (h' : Adds d q r' s cs') : Adds d p (r ++ r') s (cs ++ cs') := fun i w => by
  rw [walk_app, h i w]
  simp only [h' _ _, List.append_assoc]
theorem Adds.one {d : Dia} {p q : Pl} {c : Nat} (h : mv d p c = .go q [.add c]) : Adds d p [c] q [c] := fun i w => by simp [walk, h, Wk.acts, Wk.act]
theorem Adds.cons {d : Dia} {p q s : Pl} {c : Nat} {r cs cs' : List Nat} (h : Adds d p [c] q cs) (h' : Adds d q r s cs') : Adds d p (c :: r) s (cs ++ cs') := Adds.app (r := [c]) h h'
section
variable {d : Dia}
end
end RD
set_option Elab.async false
set_option linter.all false
set_option maxRecDepth 100000
set_option maxHeartbeats 1000000
namespace CMD
open DS DS.Drw RD CMA CMC
open PySem (Str)
end CMD
set_option Elab.async false
set_option linter.all false
set_option maxRecDepth 100000
set_option maxHeartbeats 1000000
namespace CMD
open DS DS.Drw RD CMA CMC
open PySem (Str)
theorem ne_nil {ds : List D} (h : (D.lst ds).flat = true) : fNe (.lst ds) (.lst []) = some (.bl (decide (ds ≠ []))) := by
  have f : (D.lst []).flat = true := by simp [D.flat, D.pur, purL, D.dep, depL]
  simp only [fNe, h, f, Bool.and_self, if_true]
  cases ds with
  | nil => simp [D.eqv, D.py, pyL, PySem.PyData.eqv, PySem.PyData.eqvAll]
  | cons d ds => simp [D.eqv, D.py, pyL, PySem.PyData.eqv, PySem.PyData.eqvAll]
end CMD
set_option Elab.async false
set_option linter.all false
set_option maxRecDepth 100000
set_option maxHeartbeats 1000000
namespace RD
open DS DS.Drw CMA CMC CMD
open PySem (Str)
def jn (c : Nat) : List (List Nat) → List Nat
  | [] => []
  | [w] => w
  | w :: v :: ws => w ++ c :: jn c (v :: ws)
def cols (d : Dia) (r : Rl) (al : Bool) : List (List Nat) → Nat → Option Nat
  | [], _ => none
  | c :: cs, j => if spell d c r al = none then some j else cols d r al cs (j + 1)
def wordsS (d : Dia) (r : Rl) (al : Bool) (row : List (List Nat)) : List (List Nat) := row.map fun c => (spell d c r al).getD []
def lineS (d : Dia) (r : Rl) (row : List (List Nat)) : List Nat := jn d.sep (wordsS d r (decide (row.length = 1)) row) ++ [d.ter]
inductive TW where
  | text (t : List Nat)
  | bad (i j : Nat)
def tw (d : Dia) (r : Rl) : List (List (List Nat)) → Nat → List Nat → TW
  | [], _, acc => .text acc
  | row :: rows, i, acc => match cols d r (decide (row.length = 1)) row 0 with
    | some j => .bad i j
    | none => tw d r rows (i + 1) (acc ++ lineS d r row)
section
variable {d : Dia}
end
structure Tb (rows : List (List (List Nat))) : Prop where
  n : rows.length ≤ 5
  row : ∀ row ∈ rows, row.length ≤ 4
  len : ∀ row ∈ rows, ∀ c ∈ row, c.length ≤ 4
  al : ∀ row ∈ rows, ∀ c ∈ row, Al c
def fsz : List (List Nat) → Nat
  | [] => 0
  | c :: cs => 1 + c.length + fsz cs
def tsz : List (List (List Nat)) → Nat
  | [] => 0
  | r :: rs => 1 + fsz r + tsz rs
structure Tg (rows : List (List (List Nat))) : Prop where
  sz : tsz rows ≤ 320
  al : ∀ row ∈ rows, ∀ c ∈ row, Al c
theorem fsz_of {row : List (List Nat)} {m : Nat} (h : ∀ c ∈ row, c.length ≤ m) : fsz row ≤ (m + 1) * row.length := by
  induction row with
  | nil => simp [fsz]
  | cons c cs ih =>
    have h1 := h c List.mem_cons_self
    have h2 := ih (fun x hx => h x (List.mem_cons_of_mem _ hx))
    simp only [fsz, List.length_cons, Nat.mul_succ]
    omega
theorem Tb.tg {rows : List (List (List Nat))} (h : Tb rows) : Tg rows := by
  refine ⟨?_, h.al⟩
  have k : ∀ rows : List (List (List Nat)), (∀ row ∈ rows, row.length ≤ 4) → (∀ row ∈ rows, ∀ c ∈ row, c.length ≤ 4) → tsz rows ≤ 21 * rows.length := by
    intro rows
    induction rows with
    | nil => intro _ _; simp [tsz]
    | cons r rs ih =>
      intro h1 h2
      have a := fsz_of (h2 r List.mem_cons_self)
      have b := h1 r List.mem_cons_self
      have c := ih (fun x hx => h1 x (List.mem_cons_of_mem _ hx)) (fun x hx => h2 x (List.mem_cons_of_mem _ hx))
      simp only [tsz, List.length_cons]
      omega
  have := k rows h.row h.len
  have := h.n
  omega
structure WAl (w : Wk) : Prop where
  rows : ∀ row ∈ w.rows, ∀ c ∈ row, Al c
  row : ∀ c ∈ w.row, Al c
  word : Al w.word
theorem WAl.act {w : Wk} (h : WAl w) {a : Act} (ha : ∀ x, a = .add x → x ∈ alphaL) : WAl (w.act a) := by
  obtain ⟨h1, h2, h3⟩ := h
  cases a with
  | add c =>
    refine ⟨h1, h2, fun y hy => ?_⟩
    simp only [Wk.act, List.mem_append, List.mem_cons, List.not_mem_nil, or_false] at hy
    rcases hy with hy | rfl
    · exact h3 y hy
    · exact ha _ rfl
  | field =>
    refine ⟨h1, fun c hc => ?_, fun y hy => by cases hy⟩
    simp only [Wk.act, List.mem_append, List.mem_cons, List.not_mem_nil, or_false] at hc
    rcases hc with hc | rfl
    · exact h2 c hc
    · exact h3
  | row =>
    refine ⟨fun r hr => ?_, (fun c hc => by cases hc), h3⟩
    simp only [Wk.act, List.mem_append, List.mem_cons, List.not_mem_nil, or_false] at hr
    rcases hr with hr | rfl
    · exact h1 r hr
    · exact h2
theorem WAl.acts : ∀ {as : List Act} {w : Wk}, WAl w → (∀ x, Act.add x ∈ as → x ∈ alphaL) → WAl (w.acts as)
  | [], w, h, _ => h
  | a :: as, w, h, ha => by
    show WAl ((w.act a).acts as)
    exact WAl.acts (h.act fun x e => ha x (by rw [e]; exact List.mem_cons_self)) fun x hx => ha x (List.mem_cons_of_mem _ hx)
end RD
set_option Elab.async false
set_option linter.all false
set_option maxRecDepth 100000
set_option maxHeartbeats 1000000
namespace CME
open DS DS.Drw RD CMA CMC CMD
open PySem (Str)
theorem isiT_tup (ds : List D) : fIsi ["tuple"] (.tup ds) = some (.bl true) := isi_ty rfl (by decide +kernel)
theorem isiL_tup (ds : List D) : fIsi ["list", "tuple"] (.tup ds) = some (.bl true) := isi_ty rfl (by decide +kernel)
theorem isiL_lst (ds : List D) : fIsi ["list", "tuple"] (.lst ds) = some (.bl true) := isi_ty rfl (by decide +kernel)
theorem all_bs (bs : List Bool) : fAll (.lst (bs.map D.bl)) = some (.bl (bs.all id)) := by
  have : ∀ bs : List Bool, asBs (bs.map D.bl) = some bs := fun bs => by
    induction bs with
    | nil => rfl
    | cons b bs ih => simp [asBs, ih]
  simp [fAll, this]
def isS : D → Bool
  | .str _ => true
  | _ => false
def qRow : D → Bool
  | .tup xs => xs.all isS
  | _ => false
def TX (y : D) : Prop := F_is_text [.sh y] = .ok (.sh (.bl (isS y))) [.no]
theorem tx_w {c : List Nat} (hl : c.length ≤ 4000) (ha : Al c) : TX (wD c) := istext_run hl ha
theorem tx_no {y : D} (h : fIsi ["str"] y = some (.bl false)) (h2 : isS y = false) : TX y := by
  unfold TX; rw [h2]; exact istext_odd h
def RB (x : D) : Prop := ∀ v : Sl, e2_is_table [v, .sh x, .no] = .ok (.bl (qRow x)) [v, .sh x, .no]
theorem rb_tup {xs : List D} (hn : xs.length ≤ 1000) (h : ∀ y ∈ xs, TX y) : RB (.tup xs) := by
  intro v
  have L := lcRun_pure (g := gN 2) (tt := ret true) (te := e1_is_table) (own := [2]) (ρ := [v, .sh (.tup xs), .no]) (fun _ => true) (fun y => D.bl (isS y)) xs [] (fun y hy => by
    have i := h y hy
    unfold TX at i
    refine ⟨[v, .sh (.tup xs), .sh y], [v, .sh (.tup xs), .sh y], rfl, rfl, (fun z => nomatch z), fun _ => ⟨[v, .sh (.tup xs), .sh y], ?_, rfl⟩⟩
    simp [e1_is_table, i]) (by simp; omega)
  rw [List.filter_eq_self.mpr (fun _ _ => rfl), List.nil_append] at L
  have al := all_bs (xs.map isS)
  rw [List.map_map] at al
  have e : (xs.map (D.bl ∘ isS)) = xs.map fun y => D.bl (isS y) := rfl
  rw [e] at al
  have e2 : (xs.map isS).all id = qRow (.tup xs) := by simp [qRow, List.all_map]
  rw [e2] at al
  have it : (D.tup xs).items = some xs := rfl
  have i := isiT_tup xs
  generalize (xs.map fun y => D.bl (isS y)) = B at *
  generalize qRow (.tup xs) = b at *
  simp [e2_is_table, i, it, L, al]
theorem it_run {T : D} {ds : List D} (hn : ds.length ≤ 1000) (hT : T = .lst ds ∨ T = .tup ds) (h : ∀ x ∈ ds, RB x) : F_is_table [.sh T] = .ok (.sh (.bl (ds.all qRow))) [.no] := by
  have L := lcRun_pure (g := gN 1) (tt := ret true) (te := e2_is_table) (own := [1]) (ρ := [.sh T, .no, .no]) (fun _ => true) (fun y => D.bl (qRow y)) ds [] (fun y hy => by
    refine ⟨[.sh T, .sh y, .no], [.sh T, .sh y, .no], rfl, rfl, (fun z => nomatch z), fun _ => ⟨[.sh T, .sh y, .no], h y hy _, rfl⟩⟩) (by simp; omega)
  rw [List.filter_eq_self.mpr (fun _ _ => rfl), List.nil_append] at L
  have al := all_bs (ds.map qRow)
  rw [List.map_map] at al
  have e : (ds.map (D.bl ∘ qRow)) = ds.map fun y => D.bl (qRow y) := rfl
  rw [e] at al
  have e2 : (ds.map qRow).all id = ds.all qRow := by simp [List.all_map]
  rw [e2] at al
  have it : T.items = some ds := by rcases hT with rfl | rfl <;> rfl
  have i : fIsi ["list", "tuple"] T = some (.bl true) := by
    rcases hT with rfl | rfl
    · exact isiL_lst _
    · exact isiL_tup _
  generalize (ds.map fun y => D.bl (qRow y)) = B at *
  generalize ds.all qRow = b at *
  simp [F_is_table, mkF_eq, b_is_table, i, it, L, al]
theorem nt_of {T : D} {b : Bool} (h : F_is_table [.sh T] = .ok (.sh (.bl b)) [.no]) : F_need_table [.sh T] = if b then .ok (.sh .non) [.no] else .ex ⟨"BadTable", []⟩ [.no] := by
  cases b <;> simp [F_need_table, mkF_eq, b_need_table, h]
end CME
set_option Elab.async false
set_option linter.all false
set_option maxRecDepth 100000
set_option maxHeartbeats 1000000
namespace RD
open DS DS.Drw CMA CMC
open PySem (Str)
def ev (d : Dia) : List Nat → Pl → Wk → Option (List (List (List Nat)))
  | [], p, w => (endS p).map fun as => (w.acts as).rows
  | c :: r, p, w => match mv d p c with
    | .go q as => ev d r q (w.acts as)
    | _ => none
def RR.o : RR → Option (List (List (List Nat)))
  | .tab rows => some rows
  | .bad _ _ => none
def ins (d : Dia) : List Nat → List Nat → Option (List Nat × List Nat)
  | [], _ => none
  | [c], v => if some c = d.quo then some (v, []) else none
  | c :: x :: r, v => if some c = d.quo then some (v, x :: r) else if some c = d.esc then ins d r (v ++ [x]) else ins d (x :: r) (v ++ [c])
def bare (d : Dia) : List Nat → List Nat → Option (List Nat × List Nat)
  | [], v => some (v, [])
  | [c], v => if c = d.sep ∨ c = d.ter then some (v, [c]) else if some c = d.esc then none else if some c = d.quo ∧ d.str = true then none else some (v ++ [c], [])
  | c :: x :: r, v => if c = d.sep ∨ c = d.ter then some (v, c :: x :: r) else if some c = d.esc then bare d r (v ++ [x]) else if some c = d.quo ∧ d.str = true then none else bare d (x :: r) (v ++ [c])
def Stp (d : Dia) (r : List Nat) : Prop := ∀ c, r.head? = some c → c = d.sep ∨ c = d.ter
instance (d : Dia) (r : List Nat) : Decidable (Stp d r) := match r with
  | [] => isTrue fun c h => by cases h
  | x :: r => decidable_of_iff (x = d.sep ∨ x = d.ter) ⟨fun h c e => by cases e; exact h, fun h => h x rfl⟩
variable {d : Dia}
end RD
set_option Elab.async false
set_option linter.all false
set_option maxRecDepth 100000
set_option maxHeartbeats 1000000
namespace CMG
open DS DS.Drw RD CMA CMC
open PySem (Str)
theorem t0 (d : Dia) : fIx d.t (.int 0) = some (chD d.sep) := rfl
theorem t1 (d : Dia) : fIx d.t (.int 1) = some (chD d.ter) := rfl
theorem t2 (d : Dia) : fIx d.t (.int 2) = some (oD d.quo) := rfl
end CMG
set_option Elab.async false
set_option linter.all false
set_option maxRecDepth 100000
set_option maxHeartbeats 1000000
namespace CMG
open DS DS.Drw RD CMA CMC
open PySem (Str)
end CMG
set_option Elab.async false
set_option linter.all false
set_option maxRecDepth 100000
set_option maxHeartbeats 1000000
namespace CMH
open DS DS.Drw RD CMA CMC CMD CMG
open PySem (Str)
end CMH
set_option Elab.async false
set_option linter.all false
set_option maxRecDepth 100000
set_option maxHeartbeats 1000000
namespace CMH
open DS DS.Drw RD CMA CMC CMD CMG
open PySem (Str)
end CMH
set_option Elab.async false
set_option linter.all false
set_option maxRecDepth 100000
set_option maxHeartbeats 1000000
namespace CMI
open DS DS.Drw RD CMA CMC CMD CMG
open PySem (Str)
theorem sm_run {r : Nat} (h : r ≤ 1000) : small62 (r : Int) = true := by simp [small62]; omega
theorem ixn_run {r n : Nat} (h : r < n) : L2.ixN n (r : Int) = some r := by
  unfold L2.ixN
  rw [if_pos (by omega), if_pos (by omega)]
  simp
theorem popAt_run {ρ : List Sl} {C : List D} {y : D} {r : Nat} (h : r ≤ 1000) (gt : C[r]? = some y) : popAtR ρ 2 (.int (r : Int)) (some (.ow none (.lst C))) = .ok y (ρ.set 2 (.ow none (.lst (C.eraseIdx r)))) := by
  have hr : r < C.length := (List.getElem?_eq_some_iff.mp gt).1
  unfold popAtR
  simp only [sm_run h, if_true, ixn_run hr, gt]
def PT (s : Dw) (d : Dia) (w : Nat) (L x4 x5 x6 : Sl) : List Sl := [.rs (some 0) s, .sh d.t, .sh (.int (w : Nat)), L, x4, x5, x6, .no, .no, .no]
noncomputable def q3 : MS := sSet 4 (dLc (lItems (dFz (dLst (dCons (ret (.str ("~" : Str))) (dCons (ret (.str ("!" : Str))) (dCons (ret (.str ("x" : Str))) (dCons (ret (.str ("y" : Str))) dNil))))))) (gN 7) t1__law_partner (dVar 7) [7])
noncomputable def q4 : MS := sSet 5 (dSh (d2 fAdd (dSl (dVarB 3) (ret none) (dPart (ret (.int 2)))) (dFz (dLc (lEnum (dSl (dVarB 3) (dPart (ret (.int 2))) (ret none))) g1__law_partner (ret true) e2__law_partner [8, 7]))))
end CMI
set_option Elab.async false
set_option linter.all false
set_option maxRecDepth 100000
set_option maxHeartbeats 1000000
namespace K58
open DS DS.Drw RD CMA CME CMI
open PySem (Str)
theorem purL_s : ∀ ws : List Str, purL (ws.map D.str) = true
  | [] => rfl
  | w :: ws => by simp [purL, D.pur, purL_s ws]
theorem depL_s : ∀ ws : List Str, depL (ws.map D.str) = 0
  | [] => rfl
  | w :: ws => by simp [depL, D.dep, depL_s ws]
theorem flat_ts (ws : List Str) : (D.tup (ws.map D.str)).flat = true := by simp [D.flat, D.pur, D.dep, purL_s, depL_s]
theorem any_s (x : Str) : ∀ ws : List Str, ((ws.map D.str).any fun z => z.eqv (.str x)) = ws.contains x
  | [] => rfl
  | w :: ws => by
    rw [List.map_cons, List.any_cons, any_s x ws, eqv_str, List.contains_cons]
    by_cases h : w = x
    · subst h; simp
    · have h1 : (w == x) = false := beq_eq_false_iff_ne.mpr h
      have h2 : (x == w) = false := beq_eq_false_iff_ne.mpr fun z => h z.symm
      rw [h1, h2]
theorem in_ts (x : Str) (ws : List Str) : fIn1 (.str x) (.tup (ws.map D.str)) = some (.bl (ws.contains x)) := by
  simp only [fIn1, flat_str, flat_ts, any_s, Bool.and_self, if_true]
def inH (ws : List Str) : D → Bool
  | .str x => ws.contains x
  | _ => false
def keyL : List D := [.str "a", .str "b", .str "c", .str "", .str "name", .str "zz", .str "rest", .int 5]
def valL : List D := [.str "x", .int 5, .non, .lst [.str "x"], .lst [], .lst [.int 5], .bl true]
theorem key_cases {k : D} (h : k ∈ keyL) : (∃ x, k = .str x) ∨ k = .int 5 := by
  simp only [keyL, List.mem_cons, List.not_mem_nil, or_false] at h
  rcases h with rfl | rfl | rfl | rfl | rfl | rfl | rfl | rfl <;> first | exact .inl ⟨_, rfl⟩ | exact .inr rfl
structure Dk (kvs : List (D × D)) : Prop where
  nd : (kvs.map (·.1)).Nodup
  k : ∀ p ∈ kvs, p.1 ∈ keyL
  v : ∀ p ∈ kvs, p.2 ∈ valL
  len : kvs.length ≤ 6
theorem kok {k : D} (h : k ∈ keyL) : keysOk [(k, .non)] = true := by
  simp only [keyL, List.mem_cons, List.not_mem_nil, or_false] at h
  rcases h with rfl | rfl | rfl | rfl | rfl | rfl | rfl | rfl <;> decide +kernel
theorem Dk.ok {kvs : List (D × D)} (h : Dk kvs) : keysOk kvs = true := by
  unfold keysOk
  refine List.all_eq_true.mpr fun p hp => ?_
  have := kok (h.k p hp)
  unfold keysOk at this
  rw [List.all_cons, List.all_nil, Bool.and_true] at this
  exact this
theorem kOf_inj {k : D} (hk : k ∈ keyL) {x : Str} (h : kOf k = some (.inr x)) : k = .str x := by
  rcases key_cases hk with ⟨y, rfl⟩ | rfl
  · simp only [kOf, Option.some.injEq, Sum.inr.injEq] at h
    rw [h]
  · simp [kOf] at h
theorem get_some {kvs : List (D × D)} (h : Dk kvs) {x : Str} {d : D} (e : getDk kvs (.inr x) = some d) : (D.str x, d) ∈ kvs := by
  unfold getDk at e
  obtain ⟨p, hp, rfl⟩ := Option.map_eq_some_iff.mp e
  have h1 := List.find?_some hp
  have h2 := List.mem_of_find?_eq_some hp
  simp only [decide_eq_true_eq] at h1
  rw [← kOf_inj (h.k p h2) h1]
  exact h2
theorem TX.w {c : List Nat} {x : Str} (e : D.str x = wD c) (hl : c.length ≤ 4000) (ha : Al c) : TX (.str x) := by
  have := tx_w hl ha
  rw [← e] at this
  exact this
theorem tx_val {d : D} (h : d ∈ valL) : TX d := by
  simp only [valL, List.mem_cons, List.not_mem_nil, or_false] at h
  rcases h with rfl | rfl | rfl | rfl | rfl | rfl | rfl
  · exact TX.w (c := [120]) rfl (by decide) (by unfold Al; decide +kernel)
  · exact tx_no (isi_ty rfl (by decide +kernel)) rfl
  · exact tx_no (isi_ty rfl (by decide +kernel)) rfl
  · exact tx_no (isi_ty rfl (by decide +kernel)) rfl
  · exact tx_no (isi_ty rfl (by decide +kernel)) rfl
  · exact tx_no (isi_ty rfl (by decide +kernel)) rfl
  · exact tx_no (isi_ty rfl (by decide +kernel)) rfl
def isL : D → Bool
  | .lst _ => true
  | _ => false
end K58
set_option Elab.async false
set_option linter.all false
set_option maxRecDepth 100000
set_option maxHeartbeats 1000000
namespace K58
open DS DS.Drw RD CMA CME CMI
open PySem (Str)
def hasT (kvs : List (D × D)) (w : Str) : Bool := match getDk kvs (.inr w) with
  | some d => isS d
  | none => false
theorem e2_run {h e : D} {kvs : List (D × D)} (K : Dk kvs) (w : Str) : e2_is_record [.sh h, .sh e, .sh (.dct kvs), .sh (.str w), .no] = .ok (.bl (hasT kvs w)) [.sh h, .sh e, .sh (.dct kvs), .sh (.str w), .no] := by
  unfold hasT
  cases g : getDk kvs (.inr w) with
  | none => simp [e2_is_record, g]
  | some d =>
    have t := tx_val (K.v _ (get_some K g))
    unfold TX at t
    have kk : kOf (.str w) = some (.inr w) := rfl
    simp [e2_is_record, g, fDg, kk, t]
theorem items_run {r : Sl} {h e : D} {d : D} (ds : List D) (hd : ∀ y ∈ ds, TX y) (hl : ds.length ≤ 1000) :
    lcRun (gN 4) (ret true) e1_is_record [4] ds [] [.sh h, .sh e, .sh d, r, .no] = some ((ds.map isS).map D.bl, [.sh h, .sh e, .sh d, r, .no]) := by
  have L := lcRun_pure (g := gN 4) (tt := ret true) (te := e1_is_record) (own := [4]) (ρ := [.sh h, .sh e, .sh d, r, .no]) (fun _ => true)
    (fun y => D.bl (isS y)) ds [] (fun y hy => by
      have t := hd y hy
      unfold TX at t
      exact ⟨[.sh h, .sh e, .sh d, r, .sh y], [.sh h, .sh e, .sh d, r, .sh y], rfl, rfl, (fun z => nomatch z), fun _ => ⟨[.sh h, .sh e, .sh d, r, .sh y], by simp [e1_is_record, t], rfl⟩⟩) (by simp; omega)
  rw [L, List.filter_eq_self.mpr (fun _ _ => rfl), List.nil_append, List.map_map]
  rfl
def eD : Option Str → D
  | none => .non
  | some x => .str x
def restOk : Option D → Bool
  | some (.lst ds) => decide (0 < ds.length) && ds.all isS
  | _ => false
theorem lst_len {ds : List D} (h : D.lst ds ∈ valL) : ds.length ≤ 1 := by
  simp only [valL, List.mem_cons, List.not_mem_nil, or_false, D.lst.injEq, reduceCtorEq, false_or] at h
  rcases h with rfl | rfl | rfl <;> simp
theorem len_in {m n : Nat} : fNotIn1 (.int (m : Int)) (.tup [.int (n : Int), .int ((n : Int) + 1)]) = some (.bl (!(decide (m = n) || decide (m = n + 1)))) := by
  have f1 : (D.tup [.int (n : Int), .int ((n : Int) + 1)]).flat = true := by simp [D.flat, D.pur, D.dep, purL, depL]
  simp only [fNotIn1, flat_int, f1, Bool.and_self, if_true, List.any_cons, List.any_nil, eqv_int, Bool.or_false]
  congr 2
  have h1 : ((n : Int) == (m : Int)) = decide (m = n) := by
    by_cases h : m = n
    · subst h; simp
    · rw [decide_eq_false h]; exact beq_eq_false_iff_ne.mpr (by omega)
  have h2 : ((n : Int) + 1 == (m : Int)) = decide (m = n + 1) := by
    by_cases h : m = n + 1
    · subst h; simp
    · rw [decide_eq_false h]; exact beq_eq_false_iff_ne.mpr (by omega)
  rw [h1, h2]
theorem eq_len {m n : Nat} : fEq (.int (m : Int)) (.int (n : Int)) = some (.bl (decide (m = n))) := by
  have h1 : ((m : Int) == (n : Int)) = decide (m = n) := by
    by_cases h : m = n
    · subst h; simp
    · rw [decide_eq_false h]; exact beq_eq_false_iff_ne.mpr (by omega)
  simp only [fEq, flat_int, Bool.and_self, if_true, eqv_int, h1]
theorem isi_dct (kvs : List (D × D)) : fIsi ["dict"] (.dct kvs) = some (.bl true) := isi_ty rfl (by decide +kernel)
end K58
set_option Elab.async false
set_option linter.all false
set_option maxRecDepth 100000
set_option maxHeartbeats 1000000
namespace K58
open DS DS.Drw RD CMA CME CMI
open PySem (Str)
def moreK (ws : List Str) (kvs : List (D × D)) : List D := (kvs.map (·.1)).filter fun k => !inH ws k
def oneIs : List D → Str → Bool
  | [.str y], x => y == x
  | _, _ => false
def recJ (ws : List Str) (e : Option Str) (kvs : List (D × D)) : Bool :=
  if !(ws.all (hasT kvs)) then false else
  if (moreK ws kvs).isEmpty then true else
  match e with
  | none => false
  | some x => if oneIs (moreK ws kvs) x then restOk (getDk kvs (.inr x)) else false
end K58
set_option Elab.async false
set_option linter.all false
set_option maxRecDepth 100000
set_option maxHeartbeats 1000000
namespace K58
open DS DS.Drw RD CMA CME CMI
open PySem (Str)
end K58
set_option Elab.async false
set_option linter.all false
set_option maxRecDepth 100000
set_option maxHeartbeats 1000000
namespace K58
open DS DS.Drw RD CMA CME CMI
open PySem (Str)
theorem last_ix {ts : List Str} {t : Str} : fIx (.lst ((ts ++ [t]).map D.str)) (.int (-1)) = some (.str t) := by
  have h1 : L2.ixN ((ts ++ [t]).map D.str).length (-1) = some ts.length := by
    unfold L2.ixN
    rw [if_neg (by omega), if_pos (by simp; omega)]
    congr 1
    simp; omega
  have h2 : ((ts ++ [t]).map D.str)[ts.length]? = some (.str t) := by simp
  simp only [fIx, L2.atI, h1, Option.bind_some, h2]
theorem fo_loop {h d E : Sl} {b : Option Str} : ∀ (n : Nat) (ts : List Str), ts.length = n → ∃ us : List Str, us.length ≤ n ∧
    sWhile w1_fields_of (sDrop (dPop 4)) [] [h, d, E, .sh (eD b), .ow none (.lst (ts.map D.str)), .no] = .nx [h, d, E, .sh (eD b), .ow none (.lst (us.map D.str)), .no] := by
  intro n
  induction n with
  | zero =>
    intro ts hn
    refine ⟨ts, by omega, ?_⟩
    have : ts = [] := List.length_eq_zero_iff.mp hn
    subst this
    have gt : fGt (.int 0) (.int 1) = some (.bl false) := rfl
    have ld : fLen (.lst []) = some (.int 0) := rfl
    have st : w1_fields_of [h, d, E, .sh (eD b), .ow none (.lst []), .no] = .ok false [h, d, E, .sh (eD b), .ow none (.lst []), .no] := by
      cases b with
      | none =>
        have nn : fNotN (eD none) .non = some (.bl false) := rfl
        generalize eD none = B at *
        simp [w1_fields_of, nn]
      | some m =>
        have nn : fNotN (eD (some m)) .non = some (.bl true) := rfl
        generalize eD (some m) = B at *
        simp [w1_fields_of, nn, ld, gt]
    exact sWhile_end st
  | succ n ih =>
    intro ts hn
    obtain ⟨us, t, rfl⟩ : ∃ us t, ts = us ++ [t] := ⟨ts.dropLast, ts.getLast (by intro q; rw [q] at hn; cases hn), (List.dropLast_concat_getLast _).symm⟩
    have hu : us.length = n := by simpa using hn
    have ld : fLen (.lst ((us ++ [t]).map D.str)) = some (.int (((n + 1 : Nat)) : Int)) := by simp [fLen, hu]
    have gt : fGt (.int (((n + 1 : Nat)) : Int)) (.int 1) = some (.bl (decide (0 < n))) := by
      have : decide (((n + 1 : Nat) : Int) > 1) = decide (0 < n) := by congr 1; simp; omega
      simp only [fGt, this]
    generalize ((n + 1 : Nat) : Int) = z at ld gt
    have ng : fNeg (.int 1) = some (.int (-1)) := rfl
    have lx := last_ix (ts := us) (t := t)
    cases b with
    | none =>
      refine ⟨us ++ [t], by simp; omega, ?_⟩
      have nn : fNotN (eD none) .non = some (.bl false) := rfl
      generalize eD none = B at *
      exact sWhile_end (by simp [w1_fields_of, nn])
    | some m =>
      have nn : fNotN (eD (some m)) .non = some (.bl true) := rfl
      have eq : fEq (.str t) (eD (some m)) = some (.bl (t == m)) := by simp [eD, fEq, flat_str, eqv_str]
      have pr : ∀ B : D, sDrop (dPop 4) [h, d, E, .sh B, .ow none (.lst ((us ++ [t]).map D.str)), .no] = .nx [h, d, E, .sh B, .ow none (.lst (us.map D.str)), .no] := fun B => by
        have p1 : ((us ++ [t]).map D.str)[((us ++ [t]).map D.str).length - 1]? = some (.str t) := by simp
        have p2 : ((us ++ [t]).map D.str).dropLast = us.map D.str := by simp
        show (popR [h, d, E, .sh B, .ow none (.lst ((us ++ [t]).map D.str)), .no] 4 (some (.ow none (.lst ((us ++ [t]).map D.str))))).andS _ = _
        simp only [popR, p1, p2]
        rfl
      obtain ⟨vs, hv, ev⟩ := ih us hu
      obtain ⟨M, hM⟩ : ∃ M, M = eD (some m) := ⟨_, rfl⟩
      rw [← hM] at nn eq ev ⊢
      obtain ⟨L, hL⟩ : ∃ L, L = (us ++ [t]).map D.str := ⟨_, rfl⟩
      have pr := pr M
      rw [← hL] at ld lx pr ⊢
      by_cases h0 : 0 < n
      · rw [decide_eq_true h0] at gt
        cases q : t == m with
        | true =>
          rw [q] at eq
          refine ⟨vs, by omega, ?_⟩
          rw [sWhile_nx (ρ1 := [h, d, E, .sh M, .ow none (.lst L), .no]) (by simp [w1_fields_of, nn, ld, gt, ng, lx, eq]) pr]
          exact ev
        | false =>
          rw [q] at eq
          exact ⟨us ++ [t], by simp; omega, by rw [← hL]; exact sWhile_end (by simp [w1_fields_of, nn, ld, gt, ng, lx, eq])⟩
      · rw [decide_eq_false h0] at gt
        exact ⟨us ++ [t], by simp; omega, by rw [← hL]; exact sWhile_end (by simp [w1_fields_of, nn, ld, gt])⟩
def getT (kvs : List (D × D)) (w : Str) : Str := match getDk kvs (.inr w) with
  | some (.str x) => x
  | _ => ""
theorem got_run {r2 r3 : Sl} {h : D} {kvs : List (D × D)} (ws : List Str) (hT : ws.all (hasT kvs) = true) (hl : ws.length ≤ 1000) :
    lcRun (gN 5) (ret true) e1_fields_of [5] (ws.map D.str) [] [.sh h, .sh (.dct kvs), r2, r3, .no, .no] = some ((ws.map (getT kvs)).map D.str, [.sh h, .sh (.dct kvs), r2, r3, .no, .no]) := by
  have L := lcRun_pure (g := gN 5) (tt := ret true) (te := e1_fields_of) (own := [5]) (ρ := [.sh h, .sh (.dct kvs), r2, r3, .no, .no]) (fun _ => true)
    (fun y => match y with | .str w => D.str (getT kvs w) | _ => .non) (ws.map D.str) [] (fun y hy => by
      obtain ⟨w, hw, rfl⟩ := List.mem_map.mp hy
      have q := List.all_eq_true.mp hT w hw
      have kk : kOf (.str w) = some (.inr w) := rfl
      refine ⟨[.sh h, .sh (.dct kvs), r2, r3, .no, .sh (.str w)], [.sh h, .sh (.dct kvs), r2, r3, .no, .sh (.str w)], rfl, rfl, (fun z => nomatch z), fun _ => ⟨[.sh h, .sh (.dct kvs), r2, r3, .no, .sh (.str w)], ?_, rfl⟩⟩
      unfold hasT at q
      cases g : getDk kvs (.inr w) with
      | none => rw [g] at q; cases q
      | some d =>
        rw [g] at q
        cases d <;> try (cases q; done)
        simp [e1_fields_of, fDg, kk, g, getT]) (by simp; omega)
  rw [L, List.filter_eq_self.mpr (fun _ _ => rfl), List.nil_append, List.map_map, List.map_map]
  rfl
theorem rest_of {ws : List Str} {e : Option Str} {kvs : List (D × D)} (K : Dk kvs) (nd : ws.Nodup) (he : ∀ x, e = some x → x ∉ ws) (h : recJ ws e kvs = true) :
    ∀ x d, e = some x → getDk kvs (.inr x) = some d → restOk (some d) = true := by
  intro x d hx g
  unfold recJ at h
  by_cases h1 : ws.all (hasT kvs) = true
  · rw [h1] at h
    simp only [Bool.not_true, Bool.false_eq_true, if_false] at h
    have m1 : D.str x ∈ moreK ws kvs := List.mem_filter.mpr ⟨List.mem_map.mpr ⟨_, get_some K g, rfl⟩, by
      have : ws.contains x = false := by
        cases q : ws.contains x with
        | false => rfl
        | true => exact absurd (List.contains_iff_mem.mp q) (he x hx)
      simp only [inH, this, Bool.not_false]⟩
    have m2 : (moreK ws kvs).isEmpty = false := by
      cases q : moreK ws kvs with
      | nil => rw [q] at m1; cases m1
      | cons _ _ => rfl
    rw [m2] at h
    subst hx
    simp only [Bool.false_eq_true, if_false] at h
    rw [g] at h
    cases o : oneIs (moreK ws kvs) x with
    | true => rw [o] at h; exact h
    | false => rw [o] at h; cases h
  · rw [Bool.not_eq_true] at h1
    rw [h1] at h
    cases h
theorem fields_run {ws : List Str} {e b : Option Str} {kvs : List (D × D)} (K : Dk kvs) (hl : ws.length ≤ 100) (nd : ws.Nodup) (he : ∀ x, e = some x → x ∉ ws) (h : recJ ws e kvs = true) :
    ∃ ds : List D, F_fields_of [.sh (.tup (ws.map D.str)), .sh (.dct kvs), .sh (eD e), .sh (eD b)] = .ok (.sh (.tup ds)) [.no, .no, .no, .no] := by
  have hT : ws.all (hasT kvs) = true := by
    unfold recJ at h
    by_cases h1 : ws.all (hasT kvs) = true
    · exact h1
    · rw [Bool.not_eq_true] at h1; rw [h1] at h; cases h
  have it : (D.tup (ws.map D.str)).items = some (ws.map D.str) := rfl
  have gr := got_run (r2 := .sh (eD e)) (r3 := .sh (eD b)) (h := .tup (ws.map D.str)) ws hT (by omega)
  have lt : (ws.map (getT kvs)).length = ws.length := by simp
  generalize ws.map (getT kvs) = ts at gr lt
  have to : fTupOf (.lst (ts.map D.str)) = some (.tup (ts.map D.str)) := by simp [fTupOf]
  obtain ⟨us, _, eu⟩ := fo_loop (h := .sh (.tup (ws.map D.str))) (d := .sh (.dct kvs)) (E := .sh (eD e)) (b := b) _ ts rfl
  have tu : fTupOf (.lst (us.map D.str)) = some (.tup (us.map D.str)) := by simp [fTupOf]
  have ro := rest_of K nd he h
  obtain ⟨E, hE⟩ : ∃ E, E = eD e := ⟨_, rfl⟩
  rw [← hE] at gr eu ⊢
  generalize eD b = B at gr eu ⊢
  have no : fInKN false E (.dct kvs) = some (.bl false) → ∃ ds : List D, F_fields_of [.sh (.tup (ws.map D.str)), .sh (.dct kvs), .sh E, .sh B] = .ok (.sh (.tup ds)) [.no, .no, .no, .no] := fun nk => by
    refine ⟨us.map D.str, ?_⟩
    generalize us.map D.str = U at eu tu ⊢
    generalize ts.map D.str = S at gr eu to
    simp [F_fields_of, mkF_eq, b_fields_of, it, gr, nk, eu, tu]
  cases e with
  | none => exact no (by rw [hE]; rfl)
  | some x =>
    cases g : getDk kvs (.inr x) with
    | none => exact no (by rw [hE]; simp [eD, g])
    | some d =>
      have nk : fInKN false E (.dct kvs) = some (.bl true) := by rw [hE]; simp [eD, g]
      have dg : fDg (.dct kvs) E = some d := by rw [hE]; exact g
      have r := ro x d rfl g
      have m := K.v _ (get_some K g)
      cases d <;> try (cases r; done)
      rename_i ds
      have ll := lst_len m
      have t2 : fTupOf (.lst ds) = some (.tup ds) := by simp [fTupOf]
      have ad : fAdd (.tup (ts.map D.str)) (.tup ds) = some (.tup (ts.map D.str ++ ds)) := by
        have b0 := big0
        simp only [fAdd]
        rw [if_pos (by simp only [List.length_map]; omega)]
      refine ⟨ts.map D.str ++ ds, ?_⟩
      generalize ts.map D.str ++ ds = W at ad ⊢
      generalize ts.map D.str = S at gr to ad
      simp [F_fields_of, mkF_eq, b_fields_of, it, gr, nk, dg, to, t2, ad]
end K58
set_option Elab.async false
set_option linter.all false
set_option maxRecDepth 100000
set_option maxHeartbeats 1000000
namespace K58
open DS DS.Drw RD CMA CME CMI
open PySem (Str)
theorem sl_takeT {ds : List D} (r : Nat) : fSl (.tup ds) none (some (r : Int)) = some (.tup (ds.take r)) := by
  simp only [fSl, cut, HT.sIx_nat, HT.sIx_none]
  congr 2
  rw [List.drop_zero, Nat.sub_zero]
  rcases Nat.le_total r ds.length with h | h
  · rw [Nat.min_eq_left h]
  · rw [Nat.min_eq_right h, List.take_of_length_le (Nat.le_refl _), List.take_of_length_le h]
def isC : D → Bool
  | .non => true
  | .str _ => true
  | _ => false
def CH (v : D) : Prop := v = .non ∨ (∃ x, v = .str x ∧ TX v) ∨ (fIsi ["str"] v = some (.bl false) ∧ isC v = false)
theorem need_tx {x : Str} (h : TX (.str x)) : F_need_text [.sh (.str x)] = .ok (.sh .non) [.no] := by
  unfold TX isS at h
  simp [F_need_text, mkF_eq, b_need_text, h]
theorem choice_run {v : D} (h : CH v) : F_need_choice [.sh v] = if isC v then .ok (.sh .non) [.no] else .ex ⟨"BadText", []⟩ [.no] := by
  rcases h with rfl | ⟨x, rfl, t⟩ | ⟨i, c⟩
  · have nn : fNotN .non .non = some (.bl false) := rfl
    simp [F_need_choice, mkF_eq, b_need_choice, nn, isC]
  · have nn : fNotN (.str x) .non = some (.bl true) := rfl
    have t2 := need_tx t
    simp [F_need_choice, mkF_eq, b_need_choice, nn, isC, t2]
  · have nn : fNotN v .non = some (.bl true) := by cases v <;> first | rfl | cases c
    have t2 := need_odd i
    simp [F_need_choice, mkF_eq, b_need_choice, nn, c, t2]
def fb (full : List Str) (E : D) : Nat → List Str → Option Nat
  | _, [] => none
  | i, w :: r => if (full.take i).contains w || (D.str w).eqv E then some i else fb full E (i + 1) r
theorem in_take {full : List Str} {i : Nat} {w : Str} : fIn1 (.str w) (.tup ((full.map D.str).take i)) = some (.bl ((full.take i).contains w)) := by
  rw [← List.map_take]; exact in_ts w _
theorem nn_step {full : List Str} {E : D} {i : Nat} {w : Str} {c : Bool} (hE : E.flat = true) (hc : ((full.take i).contains w || (D.str w).eqv E) = c) :
    l1_need_names [.sh (.tup (full.map D.str)), .sh E, .sh (.int (i : Nat)), .sh (.str w)] = if c then .ex ⟨"BadHeader", [("column", .int (i : Nat))]⟩ [.sh (.tup (full.map D.str)), .sh E, .sh (.int (i : Nat)), .sh (.str w)] else .nx [.sh (.tup (full.map D.str)), .sh E, .sh (.int (i : Nat)), .sh (.str w)] := by
  have s1 := sl_takeT (ds := full.map D.str) i
  have s2 := in_take (full := full) (i := i) (w := w)
  have s3 : fEq (.str w) E = some (.bl ((D.str w).eqv E)) := by simp only [fEq, flat_str, hE, Bool.and_self, if_true]
  generalize (full.map D.str).take i = TK at s1 s2
  generalize full.map D.str = FU at s1 ⊢
  generalize (full.take i).contains w = b1 at *
  generalize (D.str w).eqv E = b2 at *
  generalize ((i : Nat) : Int) = z at *
  subst hc
  cases b1 <;> cases b2 <;> simp [l1_need_names, s1, s2, s3]
theorem nn_loop {full : List Str} {E : D} (hE : E.flat = true) : ∀ (ws : List Str) (i : Nat),
    (fb full E i ws = none → sEach g1_need_names l1_need_names [2, 3] (pairs0 i (ws.map D.str)) [.sh (.tup (full.map D.str)), .sh E, .no, .no] = .nx [.sh (.tup (full.map D.str)), .sh E, .no, .no]) ∧
    (∀ k, fb full E i ws = some k → ∃ w, sEach g1_need_names l1_need_names [2, 3] (pairs0 i (ws.map D.str)) [.sh (.tup (full.map D.str)), .sh E, .no, .no] = .ex ⟨"BadHeader", [("column", .int (k : Nat))]⟩ [.sh (.tup (full.map D.str)), .sh E, .sh (.int (k : Nat)), .sh (.str w)])
  | [], i => ⟨fun _ => rfl, fun k h => by cases h⟩
  | w :: ws, i => by
    have g : g1_need_names (.tup [.int (i : Nat), .str w]) [.sh (.tup (full.map D.str)), .sh E, .no, .no] = some [.sh (.tup (full.map D.str)), .sh E, .sh (.int (i : Nat)), .sh (.str w)] := by simp [g1_need_names]
    obtain ⟨c, hc⟩ : ∃ c, ((full.take i).contains w || (D.str w).eqv E) = c := ⟨_, rfl⟩
    have s := nn_step hE hc
    have ih := nn_loop (full := full) (E := E) hE ws (i + 1)
    unfold fb
    rw [hc, List.map_cons, pairs0]
    cases c with
    | true =>
      rw [if_pos rfl] at s ⊢
      refine ⟨(fun z => nomatch z), fun k hk => ?_⟩
      simp only [Option.some.injEq] at hk
      subst hk
      exact ⟨w, sEach_ex g s⟩
    | false =>
      rw [if_neg (by decide)] at s ⊢
      exact ⟨fun h => by rw [sEach_nx g s]; exact ih.1 h, fun k h => by
        obtain ⟨w', e⟩ := ih.2 k h
        exact ⟨w', by rw [sEach_nx g s]; exact e⟩⟩
theorem names_run {ws : List Str} {E : D} (hE : E.flat = true) : F_need_names [.sh (.tup (ws.map D.str)), .sh E] = match fb ws E 0 ws with
    | none => .ok (.sh .non) [.no, .no]
    | some k => .ex ⟨"BadHeader", [("column", .int (k : Nat))]⟩ [.no, .no] := by
  have it : (D.tup (ws.map D.str)).items = some (ws.map D.str) := rfl
  have L := nn_loop (full := ws) hE ws 0
  cases h : fb ws E 0 ws with
  | none =>
    have e := L.1 h
    generalize ws.map D.str = W at *
    simp [F_need_names, mkF_eq, b_need_names, it, e]
  | some k =>
    obtain ⟨w, e⟩ := L.2 k h
    generalize ws.map D.str = W at *
    simp [F_need_names, mkF_eq, b_need_names, it, e]
end K58
set_option Elab.async false
set_option linter.all false
set_option maxRecDepth 100000
set_option maxHeartbeats 2000000
namespace K58
open DS DS.Drw RD CMA CME CMI
open PySem (Str)
inductive Out where
  | table | text | header (k : Nat) | record (k : Nat) | none
def Out.d : Out → D
  | .table => .str "table"
  | .text => .str "text"
  | .header k => .tup [.str "header", .int (k : Nat)]
  | .record k => .tup [.str "record", .int (k : Nat)]
  | .none => .str "none"
def Out.P : Out → FR → Prop
  | .table, r => r = .ex ⟨"BadTable", []⟩ [.no, .no, .no, .no]
  | .text, r => r = .ex ⟨"BadText", []⟩ [.no, .no, .no, .no]
  | .header k, r => r = .ex ⟨"BadHeader", [("column", .int (k : Nat))]⟩ [.no, .no, .no, .no]
  | .record k, r => r = .ex ⟨"BadRecord", [("index", .int (k : Nat))]⟩ [.no, .no, .no, .no]
  | .none, r => ∃ d, r = .ok (.sh d) [.no, .no, .no, .no]
theorem eq_emp (ws : List Str) : fEq (.tup (ws.map D.str)) (.tup []) = some (.bl ws.isEmpty) := by
  have f0 : (D.tup []).flat = true := flat_ts []
  simp only [fEq, flat_ts, f0, Bool.and_self, if_true]
  congr 2
  cases ws <;> simp [D.eqv, D.py, pyL, PySem.PyData.eqv, PySem.PyData.eqvAll]
theorem ne_emp (ws : List Str) : fNe (.tup (ws.map D.str)) (.tup []) = some (.bl (!ws.isEmpty)) := by
  have f0 : (D.tup []).flat = true := flat_ts []
  simp only [fNe, flat_ts, f0, Bool.and_self, if_true]
  congr 3
  cases ws <;> simp [D.eqv, D.py, pyL, PySem.PyData.eqv, PySem.PyData.eqvAll]
end K58
set_option Elab.async false
set_option linter.all false
set_option maxRecDepth 100000
set_option maxHeartbeats 2000000
namespace K58
open DS DS.Drw RD CMA CME CMI
open PySem (Str)
theorem row_all (ws : List Str) : (ws.map D.str).all isS = true := by
  rw [List.all_map]
  exact List.all_eq_true.mpr fun _ _ => rfl
end K58
set_option Elab.async false
set_option linter.all false
set_option maxRecDepth 100000
set_option maxHeartbeats 2000000
namespace K57
open DS DS.Drw RD CMA CME CMI
open PySem (Str)
structure Rk (ws : List Str) (e : Option Str) (kvs : List (D × D)) (vals : List Str) (rest : Option (List Str)) : Prop where
  get : (ws.map fun w => getDk kvs (.inr w)) = vals.map fun v => some (D.str v)
  tx : ∀ v ∈ vals, TX (.str v)
  rst : match rest with
    | none => (∀ x, e = some x → getDk kvs (.inr x) = none) ∧ kvs.length = ws.length
    | some rs => (∃ x, e = some x ∧ getDk kvs (.inr x) = some (.lst (rs.map D.str))) ∧ kvs.length = ws.length + 1 ∧ rs ≠ [] ∧ rs.length ≤ 10 ∧ ∀ v ∈ rs, TX (.str v)
section
variable {ws vals : List Str} {e : Option Str} {kvs : List (D × D)} {rest : Option (List Str)}
theorem Rk.len (R : Rk ws e kvs vals rest) : vals.length = ws.length := by
  have := congrArg List.length R.get
  simpa using this.symm
theorem Rk.at (R : Rk ws e kvs vals rest) {w : Str} (h : w ∈ ws) : ∃ v, getDk kvs (.inr w) = some (.str v) ∧ TX (.str v) := by
  have : getDk kvs (.inr w) ∈ vals.map fun v => some (D.str v) := by rw [← R.get]; exact List.mem_map_of_mem h
  obtain ⟨v, hv, e⟩ := List.mem_map.mp this
  exact ⟨v, e.symm, R.tx v hv⟩
theorem e2_run {h E : D} (R : Rk ws e kvs vals rest) {w : Str} (hw : w ∈ ws) : e2_is_record [.sh h, .sh E, .sh (.dct kvs), .sh (.str w), .no] = .ok (.bl true) [.sh h, .sh E, .sh (.dct kvs), .sh (.str w), .no] := by
  obtain ⟨v, g, t⟩ := R.at hw
  unfold TX isS at t
  have kk : kOf (.str w) = some (.inr w) := rfl
  simp [e2_is_record, g, fDg, kk, t]
theorem all_true (n : Nat) : fAll (.lst (List.replicate n (D.bl true))) = some (.bl true) := by
  have := all_bs (List.replicate n true)
  rw [List.map_replicate] at this
  rw [this]
  congr 2
  rw [List.all_eq_true]
  intro x hx
  exact (List.eq_of_mem_replicate hx)
theorem is_rec (R : Rk ws e kvs vals rest) (hl : ws.length ≤ 100) : F_is_record [.sh (.tup (ws.map D.str)), .sh (K58.eD e), .sh (.dct kvs)] = .ok (.sh (.bl true)) [.no, .no, .no] := by
  have i0 := K58.isi_dct kvs
  have l1 : fLen (.tup (ws.map D.str)) = some (.int (ws.length : Nat)) := by simp [fLen]
  have l2 : fLen (.dct kvs) = some (.int (kvs.length : Nat)) := rfl
  have ad : fAdd (.int (ws.length : Int)) (.int 1) = some (.int ((ws.length : Int) + 1)) := rfl
  have ni := K58.len_in (m := kvs.length) (n := ws.length)
  have eq := K58.eq_len (m := kvs.length) (n := ws.length)
  have L := lcRun_pure (g := gN 3) (tt := ret true) (te := e2_is_record) (own := [3]) (ρ := [.sh (.tup (ws.map D.str)), .sh (K58.eD e), .sh (.dct kvs), .no, .no]) (fun _ => true) (fun _ => D.bl true) (ws.map D.str) [] (fun y hy => by
    obtain ⟨w, hw, rfl⟩ := List.mem_map.mp hy
    exact ⟨[.sh (.tup (ws.map D.str)), .sh (K58.eD e), .sh (.dct kvs), .sh (.str w), .no], [.sh (.tup (ws.map D.str)), .sh (K58.eD e), .sh (.dct kvs), .sh (.str w), .no], rfl, rfl, (fun z => nomatch z), fun _ => ⟨_, e2_run R hw, rfl⟩⟩) (by simp; omega)
  have rp : ((ws.map D.str).filter fun _ => true).map (fun _ => D.bl true) = List.replicate (ws.map D.str).length (D.bl true) := by
    rw [List.filter_eq_self.mpr (fun _ _ => rfl)]
    exact List.map_const'
  rw [rp, List.nil_append] at L
  have al := all_true (ws.map D.str).length
  generalize List.replicate (ws.map D.str).length (D.bl true) = B at L al
  have it : (D.tup (ws.map D.str)).items = some (ws.map D.str) := rfl
  obtain ⟨E, hE⟩ : ∃ E, E = K58.eD e := ⟨_, rfl⟩
  rw [← hE] at L ⊢
  cases rest with
  | none =>
    have q := R.rst.2
    rw [decide_eq_true q] at eq ni
    simp only [Bool.true_or, Bool.not_true] at ni
    simp [F_is_record, mkF_eq, b_is_record, i0, l1, l2, ad, ni, it, L, al, eq]
  | some rs =>
    obtain ⟨⟨x, hx, g⟩, q, r0, r1, r2⟩ := R.rst
    have q' : ¬ kvs.length = ws.length := by omega
    rw [decide_eq_false q', decide_eq_true q] at ni
    rw [decide_eq_false q'] at eq
    simp only [Bool.or_true, Bool.not_true] at ni
    have hE' : E = .str x := by rw [hE, hx]; rfl
    have nn : fIsN E .non = some (.bl false) := by rw [hE']; rfl
    have nk : fInKN true E (.dct kvs) = some (.bl false) := by rw [hE']; simp [g]
    have dg : fDg (.dct kvs) E = some (.lst (rs.map D.str)) := by rw [hE']; exact g
    have il : fIsi ["list", "tuple"] (.lst (rs.map D.str)) = some (.bl true) := isiL_lst _
    have ld : fLen (.lst (rs.map D.str)) = some (.int (rs.length : Nat)) := by simp [fLen]
    have gt := gt0 rs.length
    rw [decide_eq_true (List.length_pos_iff.mpr r0)] at gt
    have L2 := lcRun_pure (g := gN 4) (tt := ret true) (te := e1_is_record) (own := [4]) (ρ := [.sh (.tup (ws.map D.str)), .sh E, .sh (.dct kvs), .no, .no]) (fun _ => true) (fun _ => D.bl true) (rs.map D.str) [] (fun y hy => by
      obtain ⟨w, hw, rfl⟩ := List.mem_map.mp hy
      have t := r2 w hw
      unfold TX isS at t
      exact ⟨[.sh (.tup (ws.map D.str)), .sh E, .sh (.dct kvs), .no, .sh (.str w)], [.sh (.tup (ws.map D.str)), .sh E, .sh (.dct kvs), .no, .sh (.str w)], rfl, rfl, (fun z => nomatch z), fun _ => ⟨[.sh (.tup (ws.map D.str)), .sh E, .sh (.dct kvs), .no, .sh (.str w)], by simp [e1_is_record, t], rfl⟩⟩) (by simp; omega)
    have rp2 : ((rs.map D.str).filter fun _ => true).map (fun _ => D.bl true) = List.replicate (rs.map D.str).length (D.bl true) := by
      rw [List.filter_eq_self.mpr (fun _ _ => rfl)]
      exact List.map_const'
    rw [rp2, List.nil_append] at L2
    have al2 := all_true (rs.map D.str).length
    generalize List.replicate (rs.map D.str).length (D.bl true) = B2 at L2 al2
    have itd : (D.lst (rs.map D.str)).items = some (rs.map D.str) := rfl
    generalize rs.map D.str = RS at *
    simp [F_is_record, mkF_eq, b_is_record, i0, l1, l2, ad, ni, it, L, al, eq, nn, nk, dg, il, ld, gt, itd, L2, al2]
def trim (m : Str) : Nat → List Str → List Str
  | 0, ts => ts
  | n + 1, ts => if 1 < ts.length ∧ ts.getLast? = some m then trim m n ts.dropLast else ts
def bTrim : Option Str → List Str → List Str
  | none, ts => ts
  | some m, ts => trim m ts.length ts
theorem trim_succ {m : Str} {n : Nat} {ts : List Str} : trim m (n + 1) ts = if 1 < ts.length ∧ ts.getLast? = some m then trim m n ts.dropLast else ts := rfl
theorem trim_pad (m : Str) : ∀ (n : Nat) (ts : List Str), ∃ k, ts = trim m n ts ++ List.replicate k m ∧ (ts ≠ [] → trim m n ts ≠ [])
  | 0, ts => ⟨0, by simp [trim], fun h => h⟩
  | n + 1, ts => by
    unfold trim
    by_cases h : 1 < ts.length ∧ ts.getLast? = some m
    · rw [if_pos h]
      obtain ⟨k, e1, e2⟩ := trim_pad m n ts.dropLast
      have hne : ts ≠ [] := by intro q; rw [q] at h; simp at h
      have hl : ts = ts.dropLast ++ [m] := by
        have := List.dropLast_concat_getLast hne
        have g : ts.getLast hne = m := by
          have h2 := h.2
          rw [List.getLast?_eq_some_getLast hne, Option.some.injEq] at h2
          exact h2
        rw [g] at this
        exact this.symm
      refine ⟨k + 1, ?_, fun _ => e2 ?_⟩
      · conv => lhs; rw [hl, e1]
        rw [List.append_assoc, ← List.replicate_succ']
      · intro q
        have := congrArg List.length q
        rw [List.length_dropLast, List.length_nil] at this
        omega
    · rw [if_neg h]
      exact ⟨0, by simp, fun h => h⟩
theorem tr_loop {h d E : Sl} {m : Str} : ∀ (n : Nat) (ts : List Str), ts.length = n →
    sWhile w1_fields_of (sDrop (dPop 4)) [] [h, d, E, .sh (.str m), .ow none (.lst (ts.map D.str)), .no] = .nx [h, d, E, .sh (.str m), .ow none (.lst ((trim m n ts).map D.str)), .no] := by
  intro n
  induction n with
  | zero =>
    intro ts hn
    have : ts = [] := List.length_eq_zero_iff.mp hn
    subst this
    have gt : fGt (.int 0) (.int 1) = some (.bl false) := rfl
    have ld : fLen (.lst []) = some (.int 0) := rfl
    have nn : fNotN (.str m) .non = some (.bl true) := rfl
    exact sWhile_end (by simp [w1_fields_of, nn, ld, gt, trim])
  | succ n ih =>
    intro ts hn
    obtain ⟨us, t, rfl⟩ : ∃ us t, ts = us ++ [t] := ⟨ts.dropLast, ts.getLast (by intro q; rw [q] at hn; cases hn), (List.dropLast_concat_getLast _).symm⟩
    have hu : us.length = n := by simpa using hn
    have ld : fLen (.lst ((us ++ [t]).map D.str)) = some (.int (((n + 1 : Nat)) : Int)) := by simp [fLen, hu]
    have gt : fGt (.int (((n + 1 : Nat)) : Int)) (.int 1) = some (.bl (decide (0 < n))) := by
      have : decide (((n + 1 : Nat) : Int) > 1) = decide (0 < n) := by congr 1; simp; omega
      simp only [fGt, this]
    generalize ((n + 1 : Nat) : Int) = z at ld gt
    have ng : fNeg (.int 1) = some (.int (-1)) := rfl
    have lx := K58.last_ix (ts := us) (t := t)
    have nn : fNotN (.str m) .non = some (.bl true) := rfl
    have eq : fEq (.str t) (.str m) = some (.bl (t == m)) := by simp [fEq, flat_str, eqv_str]
    have pr : sDrop (dPop 4) [h, d, E, .sh (.str m), .ow none (.lst ((us ++ [t]).map D.str)), .no] = .nx [h, d, E, .sh (.str m), .ow none (.lst (us.map D.str)), .no] := by
      have p1 : ((us ++ [t]).map D.str)[((us ++ [t]).map D.str).length - 1]? = some (.str t) := by simp
      have p2 : ((us ++ [t]).map D.str).dropLast = us.map D.str := by simp
      show (popR [h, d, E, .sh (.str m), .ow none (.lst ((us ++ [t]).map D.str)), .no] 4 (some (.ow none (.lst ((us ++ [t]).map D.str))))).andS _ = _
      simp only [popR, p1, p2]
      rfl
    have ev := ih us hu
    have tr : trim m (n + 1) (us ++ [t]) = if 0 < n ∧ t = m then trim m n us else us ++ [t] := by
      rw [trim_succ]
      simp [hu]
    rw [tr]
    obtain ⟨L, hL⟩ : ∃ L, L = (us ++ [t]).map D.str := ⟨_, rfl⟩
    by_cases h0 : 0 < n
    · rw [decide_eq_true h0] at gt
      by_cases q : t = m
      · subst q
        rw [if_pos ⟨h0, rfl⟩]
        rw [beq_self_eq_true] at eq
        rw [← hL] at ld lx pr ⊢
        rw [sWhile_nx (ρ1 := [h, d, E, .sh (.str t), .ow none (.lst L), .no]) (by simp [w1_fields_of, nn, ld, gt, ng, lx, eq]) pr]
        exact ev
      · rw [if_neg fun z => q z.2]
        rw [beq_eq_false_iff_ne.mpr q] at eq
        rw [← hL] at ld lx pr ⊢
        exact sWhile_end (by simp [w1_fields_of, nn, ld, gt, ng, lx, eq])
    · rw [decide_eq_false h0] at gt
      rw [if_neg fun z => h0 z.1]
      rw [← hL] at ld lx pr ⊢
      exact sWhile_end (by simp [w1_fields_of, nn, ld, gt])
theorem tr_loopB {h d E : Sl} {b : Option Str} (ts : List Str) :
    sWhile w1_fields_of (sDrop (dPop 4)) [] [h, d, E, .sh (K58.eD b), .ow none (.lst (ts.map D.str)), .no] = .nx [h, d, E, .sh (K58.eD b), .ow none (.lst ((bTrim b ts).map D.str)), .no] := by
  cases b with
  | some m => exact tr_loop ts.length ts rfl
  | none =>
    have nn : fNotN (K58.eD none) .non = some (.bl false) := rfl
    show _ = SR.nx [h, d, E, .sh (K58.eD none), .ow none (.lst (ts.map D.str)), .no]
    generalize K58.eD none = B at *
    exact sWhile_end (by simp [w1_fields_of, nn])
def rowR (b : Option Str) (vals : List Str) : Option (List Str) → List Str
  | none => bTrim b vals
  | some rs => vals ++ rs
theorem got {r2 r3 : Sl} {h : D} {F : M D} (hF : F = d2 fDg (dVarB 1) (dVarB 5)) (R : Rk ws e kvs vals rest) (hl : ws.length ≤ 100) :
    lcRun (gN 5) (ret true) F [5] (ws.map D.str) [] [.sh h, .sh (.dct kvs), r2, r3, .no, .no] = some (vals.map D.str, [.sh h, .sh (.dct kvs), r2, r3, .no, .no]) := by
  have L := lcRun_pure (g := gN 5) (tt := ret true) (te := F) (own := [5]) (ρ := [.sh h, .sh (.dct kvs), r2, r3, .no, .no]) (fun _ => true)
    (fun y => match y with | .str w => (getDk kvs (.inr w)).getD .non | _ => .non) (ws.map D.str) [] (fun y hy => by
      obtain ⟨w, hw, rfl⟩ := List.mem_map.mp hy
      obtain ⟨v, g, _⟩ := R.at hw
      have kk : kOf (.str w) = some (.inr w) := rfl
      refine ⟨[.sh h, .sh (.dct kvs), r2, r3, .no, .sh (.str w)], [.sh h, .sh (.dct kvs), r2, r3, .no, .sh (.str w)], rfl, rfl, (fun z => nomatch z), fun _ => ⟨[.sh h, .sh (.dct kvs), r2, r3, .no, .sh (.str w)], ?_, rfl⟩⟩
      simp [hF, fDg, kk, g]) (by simp; omega)
  rw [L, List.filter_eq_self.mpr (fun _ _ => rfl), List.nil_append, List.map_map]
  congr 2
  have := congrArg (List.map fun o : Option D => o.getD .non) R.get
  rw [List.map_map, List.map_map] at this
  exact this
theorem fields_run {b : Option Str} (R : Rk ws e kvs vals rest) (hl : ws.length ≤ 100) :
    F_fields_of [.sh (.tup (ws.map D.str)), .sh (.dct kvs), .sh (K58.eD e), .sh (K58.eD b)] = .ok (.sh (.tup ((rowR b vals rest).map D.str))) [.no, .no, .no, .no] := by
  have it : (D.tup (ws.map D.str)).items = some (ws.map D.str) := rfl
  have gr := got (F := e1_fields_of) (r2 := .sh (K58.eD e)) (r3 := .sh (K58.eD b)) (h := .tup (ws.map D.str)) rfl R hl
  have ll := R.len
  cases rest with
  | none =>
    have q := R.rst.1
    have eu := tr_loopB (h := .sh (.tup (ws.map D.str))) (d := .sh (.dct kvs)) (E := .sh (K58.eD e)) (b := b) vals
    have tu : fTupOf (.lst ((bTrim b vals).map D.str)) = some (.tup ((bTrim b vals).map D.str)) := by simp [fTupOf]
    have nk : fInKN false (K58.eD e) (.dct kvs) = some (.bl false) := by
      cases e with
      | none => rfl
      | some x => simp [K58.eD, q x rfl]
    show _ = FR.ok (.sh (.tup ((bTrim b vals).map D.str))) _
    generalize (bTrim b vals).map D.str = U at *
    generalize vals.map D.str = V at *
    generalize K58.eD e = E at *
    generalize K58.eD b = B at *
    generalize ws.map D.str = W at *
    simp [F_fields_of, mkF_eq, b_fields_of, it, gr, nk, eu, tu]
  | some rs =>
    obtain ⟨⟨x, hx, g⟩, q, r0, r1, r2⟩ := R.rst
    have to : fTupOf (.lst (vals.map D.str)) = some (.tup (vals.map D.str)) := by simp [fTupOf]
    have t2 : fTupOf (.lst (rs.map D.str)) = some (.tup (rs.map D.str)) := by simp [fTupOf]
    have nk : fInKN false (K58.eD e) (.dct kvs) = some (.bl true) := by rw [hx]; simp [K58.eD, g]
    have dg : fDg (.dct kvs) (K58.eD e) = some (.lst (rs.map D.str)) := by rw [hx]; exact g
    have ad : fAdd (.tup (vals.map D.str)) (.tup (rs.map D.str)) = some (.tup ((vals ++ rs).map D.str)) := by
      have b0 := big0
      simp only [fAdd]
      rw [if_pos (by simp only [List.length_map]; omega), List.map_append]
    show _ = FR.ok (.sh (.tup ((vals ++ rs).map D.str))) _
    generalize (vals ++ rs).map D.str = U at *
    generalize vals.map D.str = V at *
    generalize rs.map D.str = RS at *
    generalize K58.eD e = E at *
    generalize K58.eD b = B at *
    generalize ws.map D.str = W at *
    simp [F_fields_of, mkF_eq, b_fields_of, it, gr, nk, dg, to, t2, ad]
end
end K57
set_option Elab.async false
set_option linter.all false
set_option maxRecDepth 100000
set_option maxHeartbeats 2000000
namespace K57
open DS DS.Drw RD CMA CME CMI
open PySem (Str)
section
variable {ws vals : List Str} {e : Option Str} {kvs : List (D × D)} {rest : Option (List Str)}
theorem lw_test {h d E : D} {m : Str} (nk : fInKN true E d = some (.bl true)) (ts : List Str) :
    w1__law_fields [.sh h, .sh d, .sh E, .sh (.str m), .ow none (.lst (ts.map D.str)), .no] = .ok (decide (1 < ts.length ∧ ts.getLast? = some m)) [.sh h, .sh d, .sh E, .sh (.str m), .ow none (.lst (ts.map D.str)), .no] := by
  have nn : fNotN (.str m) .non = some (.bl true) := rfl
  rcases List.eq_nil_or_concat ts with rfl | ⟨us, t, rfl⟩
  · have gt : fGt (.int 0) (.int 1) = some (.bl false) := rfl
    have ld : fLen (.lst []) = some (.int 0) := rfl
    simp [w1__law_fields, nn, nk, ld, gt]
  · rw [List.concat_eq_append]
    have ld : fLen (.lst ((us ++ [t]).map D.str)) = some (.int (((us.length + 1 : Nat)) : Int)) := by simp [fLen]
    have gt : fGt (.int (((us.length + 1 : Nat)) : Int)) (.int 1) = some (.bl (decide (0 < us.length))) := by
      have : decide (((us.length + 1 : Nat) : Int) > 1) = decide (0 < us.length) := by congr 1; simp; omega
      simp only [fGt, this]
    generalize ((us.length + 1 : Nat) : Int) = z at ld gt
    have ng : fNeg (.int 1) = some (.int (-1)) := rfl
    have lx := K58.last_ix (ts := us) (t := t)
    have eq : fEq (.str t) (.str m) = some (.bl (t == m)) := by simp [fEq, flat_str, eqv_str]
    have dc : decide (1 < (us ++ [t]).length ∧ (us ++ [t]).getLast? = some m) = (decide (0 < us.length) && (t == m)) := by
      rw [Bool.eq_iff_iff]
      simp
    rw [dc]
    generalize (us ++ [t]).map D.str = L at *
    by_cases h0 : 0 < us.length
    · rw [decide_eq_true h0] at gt ⊢
      cases q : t == m <;> rw [q] at eq <;> simp [w1__law_fields, nn, nk, ld, gt, ng, lx, eq]
    · rw [decide_eq_false h0] at gt ⊢
      simp [w1__law_fields, nn, nk, ld, gt]
theorem lw_loop {h d E : D} {m : Str} (nk : fInKN true E d = some (.bl true)) : ∀ (n : Nat) (ts : List Str), ts.length = n →
    sWhile w1__law_fields (sDrop (dPop 4)) [] [.sh h, .sh d, .sh E, .sh (.str m), .ow none (.lst (ts.map D.str)), .no] = .nx [.sh h, .sh d, .sh E, .sh (.str m), .ow none (.lst ((trim m n ts).map D.str)), .no] := by
  intro n
  induction n with
  | zero =>
    intro ts hn
    have : ts = [] := List.length_eq_zero_iff.mp hn
    subst this
    have t := lw_test (h := h) (m := m) nk []
    rw [decide_eq_false (by simp)] at t
    exact sWhile_end t
  | succ n ih =>
    intro ts hn
    have t := lw_test (h := h) (m := m) nk ts
    rw [trim_succ]
    by_cases q : 1 < ts.length ∧ ts.getLast? = some m
    · rw [decide_eq_true q] at t
      rw [if_pos q]
      have hd : ts.dropLast.length = n := by rw [List.length_dropLast]; omega
      have pr : sDrop (dPop 4) [.sh h, .sh d, .sh E, .sh (.str m), .ow none (.lst (ts.map D.str)), .no] = .nx [.sh h, .sh d, .sh E, .sh (.str m), .ow none (.lst (ts.dropLast.map D.str)), .no] := by
        have hne : ts ≠ [] := by intro z; rw [z] at hn; cases hn
        have p1 : (ts.map D.str)[(ts.map D.str).length - 1]? = some (.str m) := by
          rw [← List.getLast?_eq_getElem?, List.getLast?_map, q.2]
          rfl
        show (popR [.sh h, .sh d, .sh E, .sh (.str m), .ow none (.lst (ts.map D.str)), .no] 4 (some (.ow none (.lst (ts.map D.str))))).andS _ = _
        simp only [popR, p1, List.map_dropLast]
        rfl
      rw [sWhile_nx t pr]
      exact ih _ hd
    · rw [decide_eq_false q] at t
      rw [if_neg q]
      exact sWhile_end t
theorem lawf_run {b : Option Str} (R : Rk ws e kvs vals rest) (hl : ws.length ≤ 100) :
    F__law_fields [.sh (.tup (ws.map D.str)), .sh (.dct kvs), .sh (K58.eD e), .sh (K58.eD b)] = .ok (.sh (.tup ((rowR b vals rest).map D.str))) [.no, .no, .no, .no] := by
  have it : (D.tup (ws.map D.str)).items = some (ws.map D.str) := rfl
  have gr := got (F := e1__law_fields) (r2 := .sh (K58.eD e)) (r3 := .sh (K58.eD b)) (h := .tup (ws.map D.str)) rfl R hl
  have ll := R.len
  have b0 := big0
  cases rest with
  | none =>
    have q := R.rst.1
    have gd : gDgN kvs (K58.eD e) (.lst []) = some (.lst []) := by
      cases e with
      | none => rfl
      | some x => simp [K58.eD, q x rfl]
    have nk : fInKN true (K58.eD e) (.dct kvs) = some (.bl true) := by
      cases e with
      | none => rfl
      | some x => simp [K58.eD, q x rfl]
    have ad : addO (.lst (vals.map D.str)) (.lst []) = some (.ow none (.lst (vals.map D.str))) := by
      rw [x_addO1, if_pos (by simp only [List.length_map, List.length_nil]; omega), List.append_nil]
    have eu : sWhile w1__law_fields (sDrop (dPop 4)) [] [.sh (.tup (ws.map D.str)), .sh (.dct kvs), .sh (K58.eD e), .sh (K58.eD b), .ow none (.lst (vals.map D.str)), .no] = .nx [.sh (.tup (ws.map D.str)), .sh (.dct kvs), .sh (K58.eD e), .sh (K58.eD b), .ow none (.lst ((bTrim b vals).map D.str)), .no] := by
      cases b with
      | some m => exact lw_loop nk vals.length vals rfl
      | none =>
        have nn : fNotN (K58.eD none) .non = some (.bl false) := rfl
        show _ = SR.nx [_, _, _, .sh (K58.eD none), .ow none (.lst (vals.map D.str)), .no]
        generalize K58.eD none = B at *
        exact sWhile_end (by simp [w1__law_fields, nn])
    have tu : fTupOf (.lst ((bTrim b vals).map D.str)) = some (.tup ((bTrim b vals).map D.str)) := by simp [fTupOf]
    show _ = FR.ok (.sh (.tup ((bTrim b vals).map D.str))) _
    generalize (bTrim b vals).map D.str = U at *
    generalize vals.map D.str = V at *
    generalize K58.eD e = E at *
    generalize K58.eD b = B at *
    generalize ws.map D.str = W at *
    simp [F__law_fields, mkF_eq, b__law_fields, it, gr, gd, ad, eu, tu, -x_addO1]
  | some rs =>
    obtain ⟨⟨x, hx, g⟩, q, r0, r1, r2⟩ := R.rst
    have gd : gDgN kvs (K58.eD e) (.lst []) = some (.lst (rs.map D.str)) := by rw [hx]; simp [K58.eD, g]
    have nk : fInKN true (K58.eD e) (.dct kvs) = some (.bl false) := by rw [hx]; simp [K58.eD, g]
    have ad : addO (.lst (vals.map D.str)) (.lst (rs.map D.str)) = some (.ow none (.lst ((vals ++ rs).map D.str))) := by
      rw [x_addO1, if_pos (by simp only [List.length_map]; omega), List.map_append]
    have tu : fTupOf (.lst ((vals ++ rs).map D.str)) = some (.tup ((vals ++ rs).map D.str)) := by simp [fTupOf]
    have eu : sWhile w1__law_fields (sDrop (dPop 4)) [] [.sh (.tup (ws.map D.str)), .sh (.dct kvs), .sh (K58.eD e), .sh (K58.eD b), .ow none (.lst ((vals ++ rs).map D.str)), .no] = .nx [.sh (.tup (ws.map D.str)), .sh (.dct kvs), .sh (K58.eD e), .sh (K58.eD b), .ow none (.lst ((vals ++ rs).map D.str)), .no] := by
      generalize (vals ++ rs).map D.str = U at *
      cases b with
      | some m =>
        have nn : fNotN (K58.eD (some m)) .non = some (.bl true) := rfl
        generalize K58.eD (some m) = B at *
        generalize K58.eD e = E at *
        exact sWhile_end (by simp [w1__law_fields, nn, nk])
      | none =>
        have nn : fNotN (K58.eD none) .non = some (.bl false) := rfl
        generalize K58.eD none = B at *
        exact sWhile_end (by simp [w1__law_fields, nn])
    show _ = FR.ok (.sh (.tup ((vals ++ rs).map D.str))) _
    generalize (vals ++ rs).map D.str = U at *
    generalize vals.map D.str = V at *
    generalize rs.map D.str = RS at *
    generalize K58.eD e = E at *
    generalize K58.eD b = B at *
    generalize ws.map D.str = W at *
    simp [F__law_fields, mkF_eq, b__law_fields, it, gr, gd, ad, eu, tu, -x_addO1]
end
end K57
set_option Elab.async false
set_option linter.all false
set_option maxRecDepth 100000
set_option maxHeartbeats 2000000
namespace K57
open DS DS.Drw RD CMA CME CMI
open PySem (Str)
abbrev Rec := List (D × D) × List Str × Option (List Str)
def Rec.ok (ws : List Str) (e : Option Str) (r : Rec) : Prop := Rk ws e r.1 r.2.1 r.2.2
def dicts (rs : List Rec) : List D := rs.map fun r => .dct r.1
def rowsD (b : Option Str) (rs : List Rec) : List D := rs.map fun r => .tup ((rowR b r.2.1 r.2.2).map D.str)
def hdr (ws : List Str) : List D := if ws.isEmpty then [] else [.tup (ws.map D.str)]
structure Hd (ws : List Str) (e b : Option Str) : Prop where
  nd : ws.Nodup
  len : ws.length ≤ 10
  tx : ∀ w ∈ ws, TX (.str w)
  ne : ∀ x, e = some x → x ∉ ws
  ce : ∀ x, e = some x → TX (.str x)
  cb : ∀ x, b = some x → TX (.str x)
section
variable {ws : List Str} {e b : Option Str}
theorem ch_eD {o : Option Str} (h : ∀ x, o = some x → TX (.str x)) : F_need_choice [.sh (K58.eD o)] = .ok (.sh .non) [.no] := by
  have c : K58.CH (K58.eD o) := by
    cases o with
    | none => exact .inl rfl
    | some x => exact .inr (.inl ⟨x, rfl, h x rfl⟩)
  have r := K58.choice_run c
  have i : K58.isC (K58.eD o) = true := by cases o <;> rfl
  rw [i, if_pos rfl] at r
  exact r
theorem fb_ok {E : D} : ∀ (ws pre : List Str), (pre ++ ws).Nodup → (∀ w ∈ ws, (D.str w).eqv E = false) → K58.fb (pre ++ ws) E pre.length ws = none
  | [], _, _, _ => rfl
  | w :: ws, pre, nd, h => by
    unfold K58.fb
    have h1 : ((pre ++ w :: ws).take pre.length).contains w = false := by
      rw [List.take_left' rfl]
      cases q : pre.contains w with
      | false => rfl
      | true =>
        rw [List.nodup_append] at nd
        exact absurd rfl (nd.2.2 w (List.contains_iff_mem.mp q) w List.mem_cons_self)
    rw [h1, h w List.mem_cons_self, Bool.or_self, if_neg (by decide)]
    have e1 : pre ++ w :: ws = (pre ++ [w]) ++ ws := by simp
    have e2 : pre.length + 1 = (pre ++ [w]).length := by simp
    rw [e1, e2]
    exact fb_ok ws (pre ++ [w]) (by rw [← e1]; exact nd) fun x hx => h x (List.mem_cons_of_mem _ hx)
theorem eqv_eD {o : Option Str} (h : ∀ x, o = some x → x ∉ ws) : ∀ w ∈ ws, (D.str w).eqv (K58.eD o) = false := fun w hw => by
  cases o with
  | none => simp [K58.eD, D.eqv, D.py, PySem.PyData.eqv]
  | some x =>
    show (D.str w).eqv (.str x) = false
    rw [eqv_str]
    exact beq_eq_false_iff_ne.mpr fun q => h x rfl (q ▸ hw)
theorem names_ok (H : Hd ws e b) : F_need_names [.sh (.tup (ws.map D.str)), .sh (K58.eD e)] = .ok (.sh .non) [.no, .no] := by
  have fE : (K58.eD e).flat = true := by cases e <;> first | exact flat_non | exact flat_str _
  have r := K58.names_run (ws := ws) fE
  have f := fb_ok (E := K58.eD e) ws [] (by simpa using H.nd) (eqv_eD H.ne)
  have f : K58.fb ws (K58.eD e) 0 ws = none := f
  rw [f] at r
  exact r
theorem tab_ok (H : Hd ws e b) : F_is_table [.sh (.lst [.tup (ws.map D.str)])] = .ok (.sh (.bl true)) [.no] := by
  have l := H.len
  have rb : RB (.tup (ws.map D.str)) := rb_tup (by simp; omega) fun y hy => by
    obtain ⟨w, hw, rfl⟩ := List.mem_map.mp hy
    exact H.tx w hw
  have := it_run (T := .lst [.tup (ws.map D.str)]) (ds := [.tup (ws.map D.str)]) (by simp) (.inl rfl) (fun y hy => by rw [List.mem_singleton] at hy; subst hy; exact rb)
  rw [this]
  have : qRow (.tup (ws.map D.str)) = true := K58.row_all ws
  simp [this]
theorem rl_loop {g x4 : Sl} (H : Hd ws e b) : ∀ (rs : List Rec) (i : Nat) (y : Sl), (∀ r ∈ rs, r.ok ws e) → ∃ y', sEach g1_unrecorded l1_unrecorded [5] (pairs0 i (dicts rs)) [.sh (.tup (ws.map D.str)), g, .sh (K58.eD e), .sh (K58.eD b), x4, .no, y] = .nx [.sh (.tup (ws.map D.str)), g, .sh (K58.eD e), .sh (K58.eD b), x4, .no, y']
  | [], i, y, _ => ⟨y, rfl⟩
  | r :: rs, i, y, hr => by
    have gg : g1_unrecorded (.tup [.int (i : Nat), .dct r.1]) [.sh (.tup (ws.map D.str)), g, .sh (K58.eD e), .sh (K58.eD b), x4, .no, y] = some [.sh (.tup (ws.map D.str)), g, .sh (K58.eD e), .sh (K58.eD b), x4, .sh (.int (i : Nat)), .sh (.dct r.1)] := by simp [g1_unrecorded]
    have rp := is_rec (hr r List.mem_cons_self) (by have := H.len; omega)
    obtain ⟨y', ih⟩ := rl_loop (g := g) (x4 := x4) H rs (i + 1) (.sh (.dct r.1)) fun x hx => hr x (List.mem_cons_of_mem _ hx)
    refine ⟨y', ?_⟩
    have s : l1_unrecorded [.sh (.tup (ws.map D.str)), g, .sh (K58.eD e), .sh (K58.eD b), x4, .sh (.int (i : Nat)), .sh (.dct r.1)] = .nx [.sh (.tup (ws.map D.str)), g, .sh (K58.eD e), .sh (K58.eD b), x4, .sh (.int (i : Nat)), .sh (.dct r.1)] := by
      generalize ws.map D.str = W at *
      generalize K58.eD e = E at *
      generalize K58.eD b = B at *
      simp [l1_unrecorded, rp]
    show sEach _ _ _ (.tup [.int (i : Nat), .dct r.1] :: pairs0 (i + 1) (dicts rs)) _ = _
    rw [sEach_nx gg s]
    exact ih
theorem rows_lc {g x4 x5 : Sl} (H : Hd ws e b) (rs : List Rec) (hl : rs.length ≤ 100) (hr : ∀ r ∈ rs, r.ok ws e) :
    lcRun (gN 6) (ret true) e1_unrecorded [6] (dicts rs) [] [.sh (.tup (ws.map D.str)), g, .sh (K58.eD e), .sh (K58.eD b), x4, x5, .no] = some (rowsD b rs, [.sh (.tup (ws.map D.str)), g, .sh (K58.eD e), .sh (K58.eD b), x4, x5, .no]) := by
  have key : ∀ (rs : List Rec) (acc : List D), acc.length + rs.length ≤ 1000 → (∀ r ∈ rs, r.ok ws e) → lcRun (gN 6) (ret true) e1_unrecorded [6] (dicts rs) acc [.sh (.tup (ws.map D.str)), g, .sh (K58.eD e), .sh (K58.eD b), x4, x5, .no] = some (acc ++ rowsD b rs, [.sh (.tup (ws.map D.str)), g, .sh (K58.eD e), .sh (K58.eD b), x4, x5, .no]) := by
    intro rs
    induction rs with
    | nil => intro acc _ _; simp [dicts, rowsD, lcRun]
    | cons r rs ih =>
      intro acc ha hr
      have f := fields_run (b := b) (hr r List.mem_cons_self) (by have := H.len; omega)
      have b0 := big0
      have st : e1_unrecorded [.sh (.tup (ws.map D.str)), g, .sh (K58.eD e), .sh (K58.eD b), x4, x5, .sh (.dct r.1)] = .ok (.tup ((rowR b r.2.1 r.2.2).map D.str)) [.sh (.tup (ws.map D.str)), g, .sh (K58.eD e), .sh (K58.eD b), x4, x5, .sh (.dct r.1)] := by
        generalize (rowR b r.2.1 r.2.2).map D.str = RR at *
        generalize ws.map D.str = W at *
        generalize K58.eD e = E at *
        generalize K58.eD b = B at *
        simp [e1_unrecorded, f]
      have ih := ih (acc ++ [.tup ((rowR b r.2.1 r.2.2).map D.str)]) (by simp at ha ⊢; omega) fun x hx => hr x (List.mem_cons_of_mem _ hx)
      show lcRun (gN 6) (ret true) e1_unrecorded [6] (.dct r.1 :: dicts rs) acc _ = some (acc ++ (.tup ((rowR b r.2.1 r.2.2).map D.str) :: rowsD b rs), _)
      rw [List.append_cons]
      rw [← ih]
      have gx : gN 6 (.dct r.1) [.sh (.tup (ws.map D.str)), g, .sh (K58.eD e), .sh (K58.eD b), x4, x5, .no] = some [.sh (.tup (ws.map D.str)), g, .sh (K58.eD e), .sh (K58.eD b), x4, x5, .sh (.dct r.1)] := rfl
      have hz : acc.length < PySem.sizeLine := by simp at ha; omega
      simp only [lcRun, gx, ret, st, hz, if_true]
      rfl
  have := key rs [] (by simp; omega) hr
  simpa using this
theorem unrec_run {X : D} (H : Hd ws e b) (rs : List Rec) (hX : X = .lst (dicts rs) ∨ X = .tup (dicts rs)) (hl : rs.length ≤ 10) (h0 : ws = [] → rs = []) (hr : ∀ r ∈ rs, r.ok ws e) :
    F_unrecorded [.sh (.tup (ws.map D.str)), .sh X, .sh (K58.eD e), .sh (K58.eD b)] = .ok (.sh (.lst (hdr ws ++ rowsD b rs))) [.no, .no, .no, .no] := by
  have t1 := tab_ok H
  have ig : fIsi ["list", "tuple"] X = some (.bl true) := by
    rcases hX with rfl | rfl
    · exact isiL_lst _
    · exact isiL_tup _
  have e1 := ch_eD H.ce
  have e2 := ch_eD H.cb
  have nr := names_ok H
  have em := K58.eq_emp ws
  have nm := K58.ne_emp ws
  have dl : (dicts rs).length = rs.length := by simp [dicts]
  have ld : fLen X = some (.int (rs.length : Nat)) := by rcases hX with rfl | rfl <;> simp [fLen, dl]
  have gt := gt0 rs.length
  have itg : X.items = some (dicts rs) := by rcases hX with rfl | rfl <;> rfl
  obtain ⟨y1, p1⟩ := rl_loop (g := .sh X) (x4 := .sh (.bl true)) H rs 0 .no hr
  have r1 := rows_lc (g := .sh X) (x4 := .sh (.bl true)) (x5 := .no) H rs (by omega) hr
  have rl : (rowsD b rs).length ≤ 10 := by simp [rowsD]; omega
  have fi : ∀ c : Bool, fInt (.bl c) = some (.int (if c then 1 else 0)) := fun c => by cases c <;> rfl
  have b0 := big0
  by_cases hw : ws = []
  · have hrs := h0 hw
    subst hw
    subst hrs
    have em : fEq (.tup []) (.tup []) = some (.bl true) := em
    have nm : fNe (.tup []) (.tup []) = some (.bl false) := nm
    have gt : fGt (.int 0) (.int 0) = some (.bl false) := rfl
    have ld : fLen X = some (.int 0) := ld
    have fi := fi false
    have fi : fInt (.bl false) = some (.int 0) := fi
    have m1 : fMul (.lst [.tup []]) (.int 0) = some (.lst []) := by simp [fMul, fOr, fMulI, fRep, fI, small64]
    have m2 : fAdd (.lst []) (.lst []) = some (.lst []) := by simp [fAdd]
    show _ = FR.ok (.sh (.lst [])) _
    have dn : dicts [] = [] := rfl
    have rn : rowsD b [] = [] := rfl
    rw [dn] at p1 r1 itg
    rw [rn] at r1
    rw [List.map_nil] at *
    generalize K58.eD e = E at *
    generalize K58.eD b = B at *
    simp [F_unrecorded, mkF_eq, b_unrecorded, t1, ig, e1, e2, nr, em, ld, gt, itg, p1, nm, fi, m1, m2, r1]
  · have ie : ws.isEmpty = false := by cases ws <;> first | exact absurd rfl hw | rfl
    rw [ie] at em nm
    have nm : fNe (.tup (ws.map D.str)) (.tup []) = some (.bl true) := nm
    have fi := fi true
    have fi : fInt (.bl true) = some (.int 1) := fi
    have m1 : fMul (.lst [.tup (ws.map D.str)]) (.int 1) = some (.lst [.tup (ws.map D.str)]) := by
      have : 1 ≤ PySem.sizeLine := by omega
      simp [fMul, fOr, fMulI, fRep, fI, small64, this]
    have m2 : fAdd (.lst [.tup (ws.map D.str)]) (.lst (rowsD b rs)) = some (.lst (hdr ws ++ rowsD b rs)) := by
      simp only [fAdd]
      rw [if_pos (by simp only [List.length_cons, List.length_nil]; omega)]
      simp [hdr, ie]
    generalize hdr ws ++ rowsD b rs = O at *
    generalize rowsD b rs = RW at *
    generalize dicts rs = DS at *
    generalize ws.map D.str = W at *
    generalize K58.eD e = E at *
    generalize K58.eD b = B at *
    simp [F_unrecorded, mkF_eq, b_unrecorded, t1, ig, e1, e2, nr, em, itg, p1, nm, fi, m1, m2, r1]
end
end K57
set_option Elab.async false
set_option linter.all false
set_option maxRecDepth 100000
set_option maxHeartbeats 2000000
namespace K57
open DS DS.Drw RD CMA CME CMI
open PySem (Str)
def zipD (ws vals : List Str) : List (D × D) := List.zipWith (fun w v => (D.str w, D.str v)) ws vals
def rstD : Option Str → Option (List Str) → List (D × D)
  | some x, some rs => [(D.str x, .lst (rs.map D.str))]
  | _, _ => []
def canon (ws : List Str) (e : Option Str) (r : Rec) : List (D × D) := zipD ws r.2.1 ++ rstD e r.2.2
section
variable {ws vals : List Str} {e b : Option Str} {kvs : List (D × D)} {rest : Option (List Str)}
theorem zip_app (pre pv : List Str) (w v : Str) (h : pre.length = pv.length) : zipD (pre ++ [w]) (pv ++ [v]) = zipD pre pv ++ [(D.str w, D.str v)] := by
  unfold zipD
  rw [List.zipWith_append (h := h)]
  rfl
theorem zip_no {pre : List Str} (pv : List Str) {w : Str} (h : w ∉ pre) : ((zipD pre pv).any fun kv => decide (kOf kv.1 = some (.inr w))) = false := by
  rw [List.any_eq_false]
  intro p hp
  unfold zipD at hp
  rw [List.mem_iff_getElem?] at hp
  obtain ⟨i, hi⟩ := hp
  rw [List.getElem?_zipWith] at hi
  cases q1 : pre[i]? with
  | none => rw [q1] at hi; cases hi
  | some x =>
    cases q2 : pv[i]? with
    | none => rw [q1, q2] at hi; cases hi
    | some y =>
      rw [q1, q2] at hi
      cases hi
      simp only [kOf, Option.some.injEq, Sum.inr.injEq, decide_eq_true_eq]
      rintro rfl
      exact h (List.mem_of_getElem? q1)
theorem zip_put {pre pv : List Str} {w v : Str} (h : pre.length = pv.length) (hn : w ∉ pre) : putDk (zipD pre pv) (.inr w) (.str v) = zipD (pre ++ [w]) (pv ++ [v]) := by
  unfold putDk
  rw [zip_no pv hn, zip_app _ _ _ _ h]
  rfl
theorem lt_nat (i n : Nat) : fLt (.int (i : Int)) (.int (n : Int)) = some (.bl (decide (i < n))) := by simp [fLt]
theorem gt_nat (i n : Nat) : fGt (.int (i : Int)) (.int (n : Int)) = some (.bl (decide (n < i))) := by simp [fGt]
theorem e1r_run {W : Sl} {x2 : Sl} {E : Sl} {row : List Str} {i : Nat} {w v : Str} (h : row[i]? = some v ∨ (row.length ≤ i ∧ b = some v)) :
    e1_record_of [W, .sh (.tup (row.map D.str)), x2, E, .sh (K58.eD b), .no, .sh (.int (i : Nat)), .sh (.str w)] = .ok (.str v) [W, .sh (.tup (row.map D.str)), x2, E, .sh (K58.eD b), .no, .sh (.int (i : Nat)), .sh (.str w)] := by
  have ld : fLen (.tup (row.map D.str)) = some (.int (row.length : Nat)) := by simp [fLen]
  have lt := lt_nat i row.length
  rcases h with h | ⟨h1, rfl⟩
  · have hi := (List.getElem?_eq_some_iff.mp h).1
    rw [decide_eq_true hi] at lt
    have ix : fIx (.tup (row.map D.str)) (.int (i : Nat)) = some (.str v) := by
      rw [x_ixT]
      have : (row.map D.str)[i]? = some (.str v) := by rw [List.getElem?_map, h]; rfl
      rw [at_nat, this]
    generalize row.map D.str = R at *
    generalize K58.eD b = B at *
    simp [e1_record_of, ld, lt, ix]
  · rw [decide_eq_false (by omega)] at lt
    show e1_record_of [W, .sh (.tup (row.map D.str)), x2, E, .sh (.str v), .no, .sh (.int (i : Nat)), .sh (.str w)] = .ok (.str v) [W, .sh (.tup (row.map D.str)), x2, E, .sh (.str v), .no, .sh (.int (i : Nat)), .sh (.str w)]
    generalize row.map D.str = R at *
    simp [e1_record_of, ld, lt]
theorem rec_dc {W : Sl} {x2 : Sl} {E : Sl} {row : List Str} : ∀ (ws vals pre pv : List Str), ws.length = vals.length → pre.length = pv.length → (pre ++ ws).Nodup → pre.length + ws.length ≤ 100 →
    (∀ i v, (pv ++ vals)[i]? = some v → row[i]? = some v ∨ (row.length ≤ i ∧ b = some v)) →
    dcRun g1_record_of (ret true) (dVar 7) e1_record_of [6, 7] (pairs0 pre.length (ws.map D.str)) (zipD pre pv) [W, .sh (.tup (row.map D.str)), x2, E, .sh (K58.eD b), .no, .no, .no] = some (zipD (pre ++ ws) (pv ++ vals), [W, .sh (.tup (row.map D.str)), x2, E, .sh (K58.eD b), .no, .no, .no])
  | [], [], pre, pv, _, _, _, _, _ => by rw [List.append_nil, List.append_nil]; rfl
  | [], _ :: _, _, _, h, _, _, _, _ => nomatch h
  | _ :: _, [], _, _, h, _, _, _, _ => nomatch h
  | w :: ws, v :: vals, pre, pv, h1, h2, nd, hl, hc => by
    have c := hc pv.length v (by simp)
    have ev := e1r_run (W := W) (x2 := x2) (E := E) (b := b) (w := w) c
    have hn : w ∉ pre := fun hm => by
      rw [List.nodup_append] at nd
      exact nd.2.2 w hm w List.mem_cons_self rfl
    have gg : g1_record_of (.tup [.int (pre.length : Nat), .str w]) [W, .sh (.tup (row.map D.str)), x2, E, .sh (K58.eD b), .no, .no, .no] = some [W, .sh (.tup (row.map D.str)), x2, E, .sh (K58.eD b), .no, .sh (.int (pre.length : Nat)), .sh (.str w)] := by
      generalize K58.eD b = B at *
      generalize row.map D.str = R at *
      simp [g1_record_of]
    have ih := rec_dc (W := W) (x2 := x2) (E := E) (row := row) ws vals (pre ++ [w]) (pv ++ [v]) (by simpa using h1) (by simp [h2]) (by simpa using nd) (by simp at hl ⊢; omega) (by simpa using hc)
    rw [← zip_put h2 hn] at ih
    have hz : (zipD pre pv).length < PySem.sizeLine := by
      have b0 := big0
      simp [zipD] at hl ⊢
      omega
    have kk : kOf (.str w) = some (.inr w) := rfl
    rw [h2] at gg
    rw [List.map_cons]
    show dcRun g1_record_of (ret true) (dVar 7) e1_record_of [6, 7] (.tup [.int (pre.length : Nat), .str w] :: pairs0 (pre.length + 1) (ws.map D.str)) _ _ = _
    rw [h2]
    have tk : dVar 7 [W, .sh (.tup (row.map D.str)), x2, E, .sh (K58.eD b), .no, .sh (.int (pv.length : Nat)), .sh (.str w)] = .ok (.str w) [W, .sh (.tup (row.map D.str)), x2, E, .sh (K58.eD b), .no, .sh (.int (pv.length : Nat)), .sh (.str w)] := rfl
    simp only [dcRun, gg, DS.ret, tk, ev, kk, hz, if_true]
    have e1 : (pre ++ [w]).length = pv.length + 1 := by simp [h2]
    rw [e1] at ih
    have e2 : pre ++ w :: ws = pre ++ [w] ++ ws := by simp
    have e3 : pv ++ v :: vals = pv ++ [v] ++ vals := by simp
    rw [e2, e3]
    exact ih
theorem cells_none {i : Nat} {v : Str} (h : vals[i]? = some v) : (rowR b vals none)[i]? = some v ∨ ((rowR b vals none).length ≤ i ∧ b = some v) := by
  cases b with
  | none => exact .inl h
  | some m =>
    obtain ⟨k, p, _⟩ := trim_pad m vals.length vals
    show (trim m vals.length vals)[i]? = some v ∨ _
    rw [p] at h
    by_cases q : i < (trim m vals.length vals).length
    · rw [List.getElem?_append_left q] at h
      exact .inl h
    · rw [List.getElem?_append_right (by omega)] at h
      have := List.mem_of_getElem? h
      have := List.eq_of_mem_replicate this
      refine .inr ⟨by show (trim m vals.length vals).length ≤ i; omega, by rw [this]⟩
theorem len_none : (rowR b vals none).length ≤ vals.length ∧ (b = none → (rowR b vals none).length = vals.length) := by
  cases b with
  | none => exact ⟨Nat.le_refl _, fun _ => rfl⟩
  | some m =>
    obtain ⟨k, p, _⟩ := trim_pad m vals.length vals
    have := congrArg List.length p
    rw [List.length_append, List.length_replicate] at this
    exact ⟨by show (trim m vals.length vals).length ≤ _; omega, fun z => nomatch z⟩
theorem sl_dropT {ds : List D} (r : Nat) : fSl (.tup ds) (some (r : Int)) none = some (.tup (ds.drop r)) := by
  simp only [fSl, cut, HT.sIx_nat, HT.sIx_none]
  congr 2
  rcases Nat.le_total r ds.length with h | h
  · rw [Nat.min_eq_left h, List.take_of_length_le (by simp)]
  · rw [Nat.min_eq_right h, List.drop_of_length_le h, List.drop_of_length_le (Nat.le_refl _)]; simp
noncomputable def RO1 : MS := (sIf (dOrT (dAndT (dB (d2 fGt (d1 fLen (dVarB 1)) (d1 fLen (dVarB 0)))) (dB (d2 fIsN (dVarB 3) (DS.ret .non)))) (dAndT (dB (d2 fLt (d1 fLen (dVarB 1)) (d1 fLen (dVarB 0)))) (dB (d2 fIsN (dVarB 4) (DS.ret .non))))) (sRaise ("Ragged" : Str) [("row" : Str)] (dCons (dVar 2) dNil)) sNil)
noncomputable def RO2 : MS := (sSet 5 (dDc (lEnum (dVar 0)) g1_record_of (DS.ret true) (dVar 7) e1_record_of [6, 7]))
noncomputable def RO3 : MS := (sIf (dB (d2 fGt (d1 fLen (dVarB 1)) (d1 fLen (dVarB 0)))) (sPutD 5 (dVar 3) (d1 fLstT (dSl (dVarB 1) (dPart (d1 fLen (dVarB 0))) (DS.ret none)))) sNil)
noncomputable def RO4 : MS := (sRet (dMove 5))
theorem RO_eq : b_record_of = sSeq RO1 (sSeq RO2 (sSeq RO3 RO4)) := rfl
theorem fs_no {W R E B : D} {wn rn : Nat} {i : Nat} {ld1 : fLen W = some (.int (wn : Nat))} {ld2 : fLen R = some (.int (rn : Nat))} {c1 c2 : Bool} (hE : fIsN E .non = some (.bl c1)) (hB : fIsN B .non = some (.bl c2)) (h1 : wn < rn → c1 = false) (h2 : rn < wn → c2 = false) :
    RO1 [.sh W, .sh R, .sh (.int (i : Nat)), .sh E, .sh B, .no, .no, .no] = .nx [.sh W, .sh R, .sh (.int (i : Nat)), .sh E, .sh B, .no, .no, .no] := by
  have g := gt_nat rn wn
  have l := lt_nat rn wn
  by_cases q1 : wn < rn
  · rw [decide_eq_true q1] at g
    rw [decide_eq_false (by omega)] at l
    rw [h1 q1] at hE
    generalize (wn : Int) = z1 at *
    generalize (rn : Int) = z2 at *
    simp [RO1, ld1, ld2, g, l, hE]
  · rw [decide_eq_false q1] at g
    by_cases q2 : rn < wn
    · rw [decide_eq_true q2] at l
      rw [h2 q2] at hB
      generalize (wn : Int) = z1 at *
      generalize (rn : Int) = z2 at *
      simp [RO1, ld1, ld2, g, l, hB]
    · rw [decide_eq_false q2] at l
      generalize (wn : Int) = z1 at *
      generalize (rn : Int) = z2 at *
      simp [RO1, ld1, ld2, g, l]
theorem isN_eD (o : Option Str) : fIsN (K58.eD o) .non = some (.bl o.isNone) := by cases o <;> rfl
theorem record_run {i : Nat} (R : Rk ws e kvs vals rest) (H : Hd ws e b) :
    ∃ s, F_record_of [.sh (.tup (ws.map D.str)), .sh (.tup ((rowR b vals rest).map D.str)), .sh (.int (i : Nat)), .sh (K58.eD e), .sh (K58.eD b)] = .ok s [.no, .no, .no, .no, .no] ∧ s.d = some (.dct (canon ws e (kvs, vals, rest))) := by
  have hl := H.len
  have ll := R.len
  have ld1 : fLen (.tup (ws.map D.str)) = some (.int (ws.length : Nat)) := by simp [fLen]
  have ld2 : fLen (.tup ((rowR b vals rest).map D.str)) = some (.int ((rowR b vals rest).length : Nat)) := by simp [fLen]
  have gt := gt_nat (rowR b vals rest).length ws.length
  have ite : (D.tup (ws.map D.str)).items = some (ws.map D.str) := rfl
  have dc := rec_dc (b := b) (W := .sh (.tup (ws.map D.str))) (x2 := .sh (.int (i : Nat))) (E := .sh (K58.eD e)) (row := rowR b vals rest) ws vals [] [] ll.symm rfl (by simpa using H.nd) (by simp; omega)
  have z0 : zipD [] [] = [] := rfl
  simp only [List.nil_append, List.length_nil, z0] at dc
  cases rest with
  | none =>
    have ln := len_none (b := b) (vals := vals)
    have dc := dc fun i v h => cells_none h
    have t := fs_no (i := i) (ld1 := ld1) (ld2 := ld2) (isN_eD e) (isN_eD b) (fun q => by omega) (fun q => by
      cases b with
      | some _ => rfl
      | none => have := ln.2 rfl; omega)
    rw [decide_eq_false (by omega)] at gt
    have ce : canon ws e (kvs, vals, none) = zipD ws vals := by
      unfold canon rstD
      cases e <;> simp
    rw [ce]
    refine ⟨.ow none (.dct (zipD ws vals)), ?_, rfl⟩
    generalize (rowR b vals none).map D.str = RR at *
    generalize ((rowR b vals none).length : Int) = z1 at *
    generalize (ws.length : Int) = z2 at *
    generalize ws.map D.str = W at *
    generalize K58.eD e = E at *
    generalize K58.eD b = B at *
    generalize zipD ws vals = ZZ at *
    simp [F_record_of, mkF_eq, RO_eq, RO2, RO3, RO4, t, ite, dc, ld1, ld2, gt]
  | some rs =>
    obtain ⟨⟨x, hx, g⟩, q, r0, r1, r2⟩ := R.rst
    subst hx
    have l0 : 0 < rs.length := List.length_pos_iff.mpr r0
    have lr : (rowR b vals (some rs)).length = ws.length + rs.length := by
      show (vals ++ rs).length = _
      rw [List.length_append, ll]
    have dc := dc fun i v h => .inl (by
      show (vals ++ rs)[i]? = some v
      rw [List.getElem?_append_left (List.getElem?_eq_some_iff.mp h).1]
      exact h)
    have t := fs_no (i := i) (ld1 := ld1) (ld2 := ld2) (isN_eD (some x)) (isN_eD b) (fun _ => rfl) (fun q => by omega)
    rw [decide_eq_true (by omega)] at gt
    have sl := sl_dropT (ds := (rowR b vals (some rs)).map D.str) ws.length
    have sd : ((rowR b vals (some rs)).map D.str).drop ws.length = rs.map D.str := by
      rw [← List.map_drop]
      show ((vals ++ rs).drop ws.length).map D.str = _
      rw [← ll, List.drop_left' rfl]
    rw [sd] at sl
    have to : fLstT (.tup (rs.map D.str)) = some (.lst (rs.map D.str)) := rfl
    have pu : putDk (zipD ws vals) (.inr x) (.lst (rs.map D.str)) = canon ws (some x) (kvs, vals, some rs) := by
      unfold putDk
      rw [zip_no vals (H.ne x rfl)]
      rfl
    have hz : (zipD ws vals).length < PySem.sizeLine := by
      have b0 := big0
      simp [zipD] at hl ⊢
      omega
    have ex : K58.eD (some x) = .str x := rfl
    rw [ex] at dc t ⊢
    refine ⟨.ow none (.dct (canon ws (some x) (kvs, vals, some rs))), ?_, rfl⟩
    rw [← pu]
    have sp : sPutD 5 (dVar 3) (d1 fLstT (dSl (dVarB 1) (dPart (d1 fLen (dVarB 0))) (DS.ret none))) [.sh (.tup (ws.map D.str)), .sh (.tup ((rowR b vals (some rs)).map D.str)), .sh (.int (i : Nat)), .sh (.str x), .sh (K58.eD b), .ow none (.dct (zipD ws vals)), .no, .no] = .nx [.sh (.tup (ws.map D.str)), .sh (.tup ((rowR b vals (some rs)).map D.str)), .sh (.int (i : Nat)), .sh (.str x), .sh (K58.eD b), .ow none (.dct (putDk (zipD ws vals) (.inr x) (.lst (rs.map D.str)))), .no, .no] := by
      generalize (rowR b vals (some rs)).map D.str = RR at *
      generalize (ws.length : Int) = z2 at *
      generalize ws.map D.str = W at *
      generalize rs.map D.str = RS at *
      generalize K58.eD b = B at *
      generalize zipD ws vals = ZZ at *
      have kk : kOf (.str x) = some (.inr x) := rfl
      simp [ld1, sl, to, isDc, setDR, kk, hz]
    generalize putDk (zipD ws vals) (.inr x) (.lst (rs.map D.str)) = PP at *
    generalize (rowR b vals (some rs)).map D.str = RR at *
    generalize ((rowR b vals (some rs)).length : Int) = z1 at *
    generalize (ws.length : Int) = z2 at *
    generalize ws.map D.str = W at *
    generalize K58.eD b = B at *
    generalize zipD ws vals = ZZ at *
    simp [F_record_of, mkF_eq, RO_eq, RO2, RO3, RO4, t, ite, dc, ld1, ld2, gt, sp, -x_putD]
end
end K57
set_option Elab.async false
set_option linter.all false
set_option maxRecDepth 100000
set_option maxHeartbeats 2000000
namespace K57
open DS DS.Drw RD CMA CME CMI
open PySem (Str)
theorem pdL {n : Nat} : ∀ (ds : List D), (∀ d ∈ ds, d.pur = true ∧ d.dep ≤ n) → purL ds = true ∧ depL ds ≤ n
  | [], _ => ⟨rfl, Nat.zero_le _⟩
  | d :: ds, h => by
    have a := h d List.mem_cons_self
    have b := pdL ds fun x hx => h x (List.mem_cons_of_mem _ hx)
    refine ⟨by simp [purL, a.1, b.1], ?_⟩
    simp only [depL]
    omega
theorem row_pd (ts : List Str) : (D.tup (ts.map D.str)).pur = true ∧ (D.tup (ts.map D.str)).dep ≤ 1 := ⟨by simp [D.pur, K58.purL_s], by simp [D.dep, K58.depL_s]⟩
theorem rows_txt {ws : List Str} {b : Option Str} {rs : List Rec} : ∀ d ∈ hdr ws ++ rowsD b rs, ∃ ts : List Str, d = .tup (ts.map D.str) := fun d hd => by
  rcases List.mem_append.mp hd with h | h
  · unfold hdr at h
    cases q : ws.isEmpty with
    | true => rw [q] at h; simp at h
    | false => rw [q] at h; simp at h; exact ⟨ws, h⟩
  · obtain ⟨r, _, rfl⟩ := List.mem_map.mp h
    exact ⟨_, rfl⟩
theorem tab_flat {ws : List Str} {b : Option Str} {rs : List Rec} : (D.lst (hdr ws ++ rowsD b rs)).flat = true := by
  obtain ⟨h1, h2⟩ := pdL (n := 1) (hdr ws ++ rowsD b rs) fun d hd => by
    obtain ⟨ts, rfl⟩ := rows_txt d hd
    exact row_pd ts
  simp [D.flat, D.pur, D.dep, h1]
  omega
theorem pairs_mem {k : Nat} {ds : List D} {d : D} (h : d ∈ pairs0 k ds) : ∃ (i : Nat) (e : D), d = .tup [.int (i : Nat), e] ∧ e ∈ ds := by
  obtain ⟨i, hi⟩ := List.mem_iff_getElem?.mp h
  obtain ⟨e, h1, h2⟩ := pairs0_get k ds i d hi
  exact ⟨k + i, e, h2, List.mem_of_getElem? h1⟩
theorem pairs_flat {k : Nat} {ds : List D} (h : ∀ d ∈ ds, ∃ ts : List Str, d = .tup (ts.map D.str)) : (D.lst (pairs0 k ds)).flat = true := by
  obtain ⟨h1, h2⟩ := pdL (n := 2) (pairs0 k ds) fun d hd => by
    obtain ⟨i, e, rfl, he⟩ := pairs_mem hd
    obtain ⟨ts, rfl⟩ := h e he
    have := row_pd ts
    refine ⟨by simp [D.pur, purL, K58.purL_s], by simp [D.dep, depL, K58.depL_s]⟩
  simp [D.flat, D.pur, D.dep, h1]
  omega
theorem lines_lc {T E B : Sl} {ds : List D} (h : ∀ d ∈ ds, ∃ ts : List Str, d = .tup (ts.map D.str) ∧ ts ≠ []) (hl : ds.length ≤ 1000) :
    lcRun g1_records t1_records e2_records [6, 7] (pairs0 0 ds) [] [T, E, B, .no, .no, .no, .no, .no] = some (pairs0 0 ds, [T, E, B, .no, .no, .no, .no, .no]) := by
  have L := lcRun_pure (g := g1_records) (tt := t1_records) (te := e2_records) (own := [6, 7]) (ρ := [T, E, B, .no, .no, .no, .no, .no]) (fun _ => true) (fun y => y) (pairs0 0 ds) [] (fun y hy => by
    obtain ⟨i, e, rfl, he⟩ := pairs_mem hy
    obtain ⟨ts, rfl, ne⟩ := h e he
    have nm := K58.ne_emp ts
    have ie : ts.isEmpty = false := by cases ts <;> first | exact absurd rfl ne | rfl
    rw [ie] at nm
    have nm : fNe (.tup (ts.map D.str)) (.tup []) = some (.bl true) := nm
    refine ⟨[T, E, B, .no, .no, .no, .sh (.int (i : Nat)), .sh (.tup (ts.map D.str))], [T, E, B, .no, .no, .no, .sh (.int (i : Nat)), .sh (.tup (ts.map D.str))], ?_, ?_, (fun z => nomatch z), fun _ => ⟨[T, E, B, .no, .no, .no, .sh (.int (i : Nat)), .sh (.tup (ts.map D.str))], ?_, rfl⟩⟩
    · generalize ts.map D.str = R at *
      simp [g1_records]
    · generalize ts.map D.str = R at *
      simp [t1_records, nm]
    · generalize ts.map D.str = R at *
      simp [e2_records]) (by rw [pairs0_length]; simp; omega)
  rw [L, List.filter_eq_self.mpr (fun _ _ => rfl), List.nil_append, List.map_id']
section
variable {ws : List Str} {e b : Option Str}
theorem row_ne {r : Rec} (R : r.ok ws e) (h : ws ≠ []) : rowR b r.2.1 r.2.2 ≠ [] := by
  have l := Rk.len R
  have nv : r.2.1 ≠ [] := by
    intro q
    rw [q] at l
    exact h (List.length_eq_zero_iff.mp l.symm)
  cases q : r.2.2 with
  | none =>
    cases b with
    | none => exact nv
    | some m =>
      obtain ⟨k, p, p2⟩ := trim_pad m r.2.1.length r.2.1
      exact p2 nv
  | some rs => exact fun z => nv (List.append_eq_nil_iff.mp z).1
theorem recs_lc {T : Sl} {X3 X5 : Sl} {z : Int} (H : Hd ws e b) : ∀ (rs : List Rec) (k : Nat) (acc : List D), acc.length + rs.length ≤ 1000 → (∀ r ∈ rs, r.ok ws e) →
    lcRun g1_records (ret true) e1_records [6, 7] (pairs0 k (rowsD b rs)) acc [T, .sh (K58.eD e), .sh (K58.eD b), X3, .sh (.tup [.int z, .tup (ws.map D.str)]), X5, .no, .no] =
      some (acc ++ rs.map fun r => .dct (canon ws e r), [T, .sh (K58.eD e), .sh (K58.eD b), X3, .sh (.tup [.int z, .tup (ws.map D.str)]), X5, .no, .no])
  | [], _, acc, _, _ => by simp [rowsD, pairs0, lcRun]
  | r :: rs, k, acc, ha, hr => by
    obtain ⟨s, f1, f2⟩ := record_run (b := b) (i := k) (hr r List.mem_cons_self) H
    have b0 := big0
    have ix : fIx (.tup [.int z, .tup (ws.map D.str)]) (.int 1) = some (.tup (ws.map D.str)) := rfl
    have gx : g1_records (.tup [.int (k : Nat), .tup ((rowR b r.2.1 r.2.2).map D.str)]) [T, .sh (K58.eD e), .sh (K58.eD b), X3, .sh (.tup [.int z, .tup (ws.map D.str)]), X5, .no, .no] = some [T, .sh (K58.eD e), .sh (K58.eD b), X3, .sh (.tup [.int z, .tup (ws.map D.str)]), X5, .sh (.int (k : Nat)), .sh (.tup ((rowR b r.2.1 r.2.2).map D.str))] := by
      generalize (rowR b r.2.1 r.2.2).map D.str = RR at *
      generalize ws.map D.str = W at *
      generalize K58.eD e = E at *
      generalize K58.eD b = B at *
      simp [g1_records]
    have ev : e1_records [T, .sh (K58.eD e), .sh (K58.eD b), X3, .sh (.tup [.int z, .tup (ws.map D.str)]), X5, .sh (.int (k : Nat)), .sh (.tup ((rowR b r.2.1 r.2.2).map D.str))] = .ok (.dct (canon ws e r)) [T, .sh (K58.eD e), .sh (K58.eD b), X3, .sh (.tup [.int z, .tup (ws.map D.str)]), X5, .sh (.int (k : Nat)), .sh (.tup ((rowR b r.2.1 r.2.2).map D.str))] := by
      have fw : F_record_of [.sh (.tup (ws.map D.str)), .sh (.tup ((rowR b r.2.1 r.2.2).map D.str)), .sh (.int (k : Nat)), .sh (K58.eD e), .sh (K58.eD b)] = .ok s [.no, .no, .no, .no, .no] := f1
      have f2 : s.d = some (.dct (canon ws e r)) := f2
      generalize (rowR b r.2.1 r.2.2).map D.str = RR at *
      generalize D.tup [.int z, .tup (ws.map D.str)] = FR at *
      generalize ws.map D.str = W at *
      generalize K58.eD e = E at *
      generalize K58.eD b = B at *
      simp [e1_records, ix, fw, f2]
    have ih := recs_lc (T := T) (X3 := X3) (X5 := X5) (z := z) H rs (k + 1) (acc ++ [.dct (canon ws e r)]) (by simp at ha ⊢; omega) fun x hx => hr x (List.mem_cons_of_mem _ hx)
    have hz : acc.length < PySem.sizeLine := by simp at ha; omega
    show lcRun g1_records (ret true) e1_records [6, 7] (.tup [.int (k : Nat), .tup ((rowR b r.2.1 r.2.2).map D.str)] :: pairs0 (k + 1) (rowsD b rs)) acc _ = _
    simp only [lcRun, gx, DS.ret, ev, hz, if_true]
    refine Eq.trans ih ?_
    simp
theorem rec_rb {r : Rec} (R : r.ok ws e) (hl : ws.length ≤ 100) : RB (.tup ((rowR b r.2.1 r.2.2).map D.str)) := by
  have l := Rk.len R
  have tx := R.tx
  cases q : r.2.2 with
  | none =>
    have ln := len_none (b := b) (vals := r.2.1)
    refine rb_tup (by rw [List.length_map]; omega) fun y hy => ?_
    obtain ⟨t, ht, rfl⟩ := List.mem_map.mp hy
    refine tx t ?_
    cases b with
    | none => exact ht
    | some m =>
      obtain ⟨k, p, _⟩ := trim_pad m r.2.1.length r.2.1
      rw [p]
      exact List.mem_append_left _ ht
  | some rs =>
    have rr := R.rst
    rw [q] at rr
    obtain ⟨_, _, _, r1, r2⟩ := rr
    have lr : (rowR b r.2.1 (some rs)).length = r.2.1.length + rs.length := List.length_append
    refine rb_tup (by rw [List.length_map]; omega) fun y hy => ?_
    obtain ⟨t, ht, rfl⟩ := List.mem_map.mp hy
    rcases List.mem_append.mp ht with h | h
    · exact tx t h
    · exact r2 t h
theorem need_tab (H : Hd ws e b) (rs : List Rec) (hl : rs.length ≤ 10) (hr : ∀ r ∈ rs, r.ok ws e) : F_need_table [.sh (.lst (hdr ws ++ rowsD b rs))] = .ok (.sh .non) [.no] := by
  have l := H.len
  have lh : (hdr ws).length ≤ 1 := by unfold hdr; split <;> simp
  have it := it_run (T := .lst (hdr ws ++ rowsD b rs)) (ds := hdr ws ++ rowsD b rs) (by simp [rowsD]; omega) (.inl rfl) fun y hy => by
    rcases List.mem_append.mp hy with h | h
    · unfold hdr at h
      cases q : ws.isEmpty with
      | true => rw [q] at h; simp at h
      | false =>
        rw [q] at h
        simp at h
        subst h
        exact rb_tup (by simp; omega) fun y hy => by
          obtain ⟨w, hw, rfl⟩ := List.mem_map.mp hy
          exact H.tx w hw
    · obtain ⟨r, hr', rfl⟩ := List.mem_map.mp h
      exact rec_rb (hr r hr') (by omega)
  have al : (hdr ws ++ rowsD b rs).all qRow = true := by
    rw [List.all_eq_true]
    intro d hd
    obtain ⟨ts, rfl⟩ := rows_txt d hd
    exact K58.row_all ts
  rw [al] at it
  have := nt_of it
  rw [if_pos rfl] at this
  exact this
theorem recs_run (H : Hd ws e b) (rs : List Rec) (hl : rs.length ≤ 10) (h0 : ws = [] → rs = []) (hr : ∀ r ∈ rs, r.ok ws e) :
    ∃ s, F_records [.sh (.lst (hdr ws ++ rowsD b rs)), .sh (K58.eD e), .sh (K58.eD b)] = .ok s [.no, .no, .no] ∧ s.d = some (.lst (rs.map fun r => .dct (canon ws e r))) := by
  have nt := need_tab H rs hl hr
  have e1 := ch_eD H.ce
  have e2 := ch_eD H.cb
  by_cases hw : ws = []
  · have hrs := h0 hw
    subst hw
    subst hrs
    refine ⟨.ow none (.lst []), ?_, rfl⟩
    have nt : F_need_table [.sh (.lst [])] = .ok (.sh .non) [.no] := nt
    have eq : fEq (.lst []) (.lst []) = some (.bl true) := rfl
    show F_records [.sh (.lst []), .sh (K58.eD e), .sh (K58.eD b)] = _
    generalize K58.eD e = E at *
    generalize K58.eD b = B at *
    simp [F_records, mkF_eq, b_records, nt, e1, e2, eq, lcRun, pairs0]
  · have ie : ws.isEmpty = false := by cases ws <;> first | exact absurd rfl hw | rfl
    have nn := names_ok H
    have hh : hdr ws ++ rowsD b rs = .tup (ws.map D.str) :: rowsD b rs := by simp [hdr, ie]
    rw [hh] at nt ⊢
    have fl := pairs_flat (k := 0) (ds := .tup (ws.map D.str) :: rowsD b rs) (by
      rw [← hh]
      exact rows_txt)
    have ll := lines_lc (T := .sh (.lst (.tup (ws.map D.str) :: rowsD b rs))) (E := .sh (K58.eD e)) (B := .sh (K58.eD b)) (ds := .tup (ws.map D.str) :: rowsD b rs) (fun d hd => by
      rcases List.mem_cons.mp hd with rfl | hd
      · exact ⟨ws, rfl, hw⟩
      · obtain ⟨r, hr', rfl⟩ := List.mem_map.mp hd
        exact ⟨_, rfl, row_ne (hr r hr') hw⟩) (by simp [rowsD]; omega)
    have p0 : pairs0 0 (.tup (ws.map D.str) :: rowsD b rs) = .tup [.int (0 : Nat), .tup (ws.map D.str)] :: pairs0 1 (rowsD b rs) := rfl
    have rc := recs_lc (T := .sh (.lst (.tup (ws.map D.str) :: rowsD b rs))) (X3 := .sh (.lst (pairs0 0 (.tup (ws.map D.str) :: rowsD b rs)))) (X5 := .sh (.lst (pairs0 1 (rowsD b rs)))) (z := (0 : Nat)) H rs 1 [] (by simp; omega) hr
    have eq : fEq (.lst (pairs0 0 (.tup (ws.map D.str) :: rowsD b rs))) (.lst []) = some (.bl false) := by
      simp only [fEq, fl, flat_lst0, Bool.and_self, if_true, eqv_lst0]
      rfl
    have pl : (pairs0 1 (rowsD b rs)).length ≤ 100000 := by rw [pairs0_length]; simp [rowsD]; omega
    refine ⟨.ow none (.lst (rs.map fun r => .dct (canon ws e r))), ?_, rfl⟩
    have ix : fIx (.tup [.int (0 : Nat), .tup (ws.map D.str)]) (.int 1) = some (.tup (ws.map D.str)) := rfl
    have itt : (D.lst (.tup (ws.map D.str) :: rowsD b rs)).items = some (.tup (ws.map D.str) :: rowsD b rs) := rfl
    rw [p0] at ll rc eq
    rw [List.nil_append] at rc
    generalize (rs.map fun r => D.dct (canon ws e r)) = OUT at *
    generalize D.tup [.int (0 : Nat), .tup (ws.map D.str)] = FR at *
    generalize pairs0 1 (rowsD b rs) = P1 at *
    generalize D.tup (ws.map D.str) :: rowsD b rs = TT at *
    generalize ws.map D.str = W at *
    generalize K58.eD e = E at *
    generalize K58.eD b = B at *
    simp [F_records, mkF_eq, b_records, nt, e1, e2, eq, p0, ll, itt, pl, ix, nn, rc]
end
end K57
set_option Elab.async false
set_option linter.all false
set_option maxRecDepth 100000
set_option maxHeartbeats 2000000
namespace DS
open PySem PySem.Spec PyProof.Rows L2
mutual
def D.wk : D → Nat
  | .str x => 10 * x.length + 2
  | .int _ => 30
  | .tup ds => wkL ds + 3
  | .lst ds => wkL ds + 3
  | .dct kvs => wkK kvs + 3
  | _ => 5
def wkL : List D → Nat
  | [] => 0
  | d :: ds => d.wk + 2 + wkL ds
def wkK : List (D × D) → Nat
  | [] => 0
  | (k, d) :: r => k.w + 4 + d.wk + wkK r
end
mutual
def D.dk : D → Nat
  | .tup ds => dkL ds + 1
  | .lst ds => dkL ds + 1
  | .dct kvs => dkK kvs + 1
  | _ => 0
def dkL : List D → Nat
  | [] => 0
  | d :: ds => max d.dk (dkL ds)
def dkK : List (D × D) → Nat
  | [] => 0
  | (_, d) :: r => max d.dk (dkK r)
end
def nikE : D → Bool
  | .int i => decide (i.natAbs < 1000000000)
  | .str x => PyData.strOk x
  | _ => false
mutual
def D.nik : D → Bool
  | .non => true
  | .bl _ => true
  | .int i => decide (i.natAbs < 1000000000)
  | .str x => PyData.strOk x
  | .tup ds => nikL ds
  | .lst ds => nikL ds
  | .dct kvs => nikK kvs
  | _ => false
def nikL : List D → Bool
  | [] => true
  | d :: ds => d.nik && nikL ds
def nikK : List (D × D) → Bool
  | [] => true
  | (k, d) :: r => nikE k && d.nik && nikK r
end
structure ShownK (d : D) : Prop where
  len : d.pk.shown.length ≤ d.wk
  ok : PyData.strOk d.pk.shown = true
  can : d.pk.showable = true
  okk : d.okk = true
  dep : d.pk.depth = d.dk
structure ShownKL (ds : List D) : Prop where
  len : ((PyData.shownAll (pkL ds)).map (·.length)).sum + 2 * (PyData.shownAll (pkL ds)).length ≤ wkL ds
  ok : allOk (PyData.shownAll (pkL ds))
  can : PyData.showableAll (pkL ds) = true
  okk : okkL ds = true
  dep : PyData.depthAll (pkL ds) = dkL ds
structure ShownKK (ds : List (D × D)) : Prop where
  len : piled (PyData.shownKv (pkK ds)) ≤ wkK ds
  ok : allOk (PyData.shownKv (pkK ds))
  can : PyData.showableKv (pkK ds) = true
  okk : okkK ds = true
  dep : PyData.depthKv (pkK ds) = dkK ds
def keyP : D → PyData
  | .int i => .int i
  | .str x => .str x
  | _ => .none
theorem shown_key {k : D} (h : nikE k = true) : (keyP k).shown.length ≤ k.w ∧ PyData.strOk (keyP k).shown = true ∧ (keyP k).showable = true ∧ (keyP k).depth = 0 := by
  cases k <;> try (simp [nikE] at h; done)
  · have q := shown_ok (.int _) h
    exact ⟨q.len, q.ok, q.can, by simp [keyP, PyData.depth]⟩
  · have q := shown_ok (.str _) h
    exact ⟨q.len, q.ok, q.can, by simp [keyP, PyData.depth]⟩
mutual
theorem shown_k : ∀ d : D, d.nik = true → ShownK d
  | .non, _ => ⟨by decide, strOk_ofString "None", by decide, rfl, by simp [D.pk, D.dk, PyData.depth]⟩
  | .bl true, _ => ⟨by decide, strOk_ofString "True", by decide, rfl, by simp [D.pk, D.dk, PyData.depth]⟩
  | .bl false, _ => ⟨by decide, strOk_ofString "False", by decide, rfl, by simp [D.pk, D.dk, PyData.depth]⟩
  | .int i, h => by
    have q := shown_ok (.int i) (by simpa [D.nice, D.nik] using h)
    exact ⟨q.len, q.ok, q.can, rfl, by simp [D.pk, D.dk, PyData.depth]⟩
  | .str x, h => by
    have q := shown_ok (.str x) (by simpa [D.nice, D.nik] using h)
    exact ⟨q.len, q.ok, q.can, rfl, by simp [D.pk, D.dk, PyData.depth]⟩
  | .lst ds, h => by
    have q := shown_kL ds (by simpa [D.nik] using h)
    refine ⟨?_, ?_, ?_, by simpa [D.okk] using q.okk, by simp only [D.pk, PyData.depth, D.dk, q.dep]⟩
    · simp only [D.pk, PyData.shown, D.wk, listText]
      rw [strLen_append]
      have h1 := textFrom_len_le (PyData.shownAll (pkL ds)) 0 "["
      have h2 := q.len
      have e1 : (("[" : String) : Str).length = 1 := rfl
      have e2 : (("]" : String) : Str).length = 1 := rfl
      omega
    · simp only [D.pk, PyData.shown, listText]
      exact strOk_append (strOk_textFrom _ _ _ q.ok (strOk_lit _)) (strOk_lit _)
    · simp only [D.pk, PyData.showable]; exact q.can
  | .tup ds, h => by
    have q := shown_kL ds (by simpa [D.nik] using h)
    refine ⟨?_, ?_, ?_, by simpa [D.okk] using q.okk, by simp only [D.pk, PyData.depth, D.dk, q.dep]⟩
    · simp only [D.pk, PyData.shown, D.wk, tupleText]
      rw [strLen_append, strLen_append]
      have h2 := q.len
      have e1 : (("(" : String) : Str).length = 1 := rfl
      have e3 : (((if ((PyData.shownAll (pkL ds)).length == 1) = true then ",)" else ")" : String) : Str)).length ≤ 2 := by split <;> decide
      have ep : piled (PyData.shownAll (pkL ds)) = ((PyData.shownAll (pkL ds)).map (·.length)).sum + 2 * (PyData.shownAll (pkL ds)).length := by
        generalize PyData.shownAll (pkL ds) = ts
        induction ts with
        | nil => rfl
        | cons t ts ih => rw [piled_cons, ih]; simp; omega
      by_cases hz : PyData.shownAll (pkL ds) = []
      · rw [hz] at e3 h2 ⊢
        have e4 : (Str.join ", " ([] : List Str)).length = 0 := rfl
        omega
      · have := join_length_add _ hz
        omega
    · simp only [D.pk, PyData.shown, tupleText]
      exact strOk_append (strOk_append (strOk_lit _) (strOk_join (strOk_lit _) _ q.ok)) (strOk_lit _)
    · simp only [D.pk, PyData.showable]; exact q.can
  | .dct kvs, h => by
    have q := shown_kK kvs (by simpa [D.nik] using h)
    refine ⟨?_, ?_, ?_, by simpa [D.okk] using q.okk, by simp only [D.pk, PyData.depth, D.dk, q.dep]⟩
    · simp only [D.pk, PyData.shown, D.wk, dictText]
      rw [strLen_append, strLen_append]
      have h2 := q.len
      have e1 : (("{" : String) : Str).length = 1 := rfl
      have e2 : (("}" : String) : Str).length = 1 := rfl
      by_cases hz : PyData.shownKv (pkK kvs) = []
      · rw [hz]
        have e4 : (Str.join ", " ([] : List Str)).length = 0 := rfl
        omega
      · have := join_length_add _ hz
        omega
    · simp only [D.pk, PyData.shown, dictText]
      exact strOk_append (strOk_append (strOk_lit _) (strOk_join (strOk_lit _) _ q.ok)) (strOk_lit _)
    · simp only [D.pk, PyData.showable]; exact q.can
  | .ty _, h => by simp [D.nik] at h
  | .obj _ _, h => by simp [D.nik] at h
  | .exc _ _, h => by simp [D.nik] at h
  | .glo _, h => by simp [D.nik] at h
  | .scr _, h => by simp [D.nik] at h
  | .hup _, h => by simp [D.nik] at h
  | .dcu _, h => by simp [D.nik] at h
  | .ol _, h => by simp [D.nik] at h
  | .obo _ _, h => by simp [D.nik] at h
  | .dcl _, h => by simp [D.nik] at h
theorem shown_kL : ∀ ds : List D, nikL ds = true → ShownKL ds
  | [], _ => ⟨by simp [pkL, PyData.shownAll, wkL], by simp [pkL, PyData.shownAll, allOk], by simp [pkL, PyData.showableAll], rfl, by simp [pkL, PyData.depthAll, dkL]⟩
  | d :: ds, h => by
    simp only [nikL, Bool.and_eq_true] at h
    have a := shown_k d h.1
    have b := shown_kL ds h.2
    refine ⟨?_, ?_, ?_, ?_, ?_⟩
    · simp only [pkL, PyData.shownAll, wkL, List.map_cons, List.sum_cons, List.length_cons]
      have := a.len
      have := b.len
      omega
    · simp only [pkL, PyData.shownAll]
      intro t ht
      rcases List.mem_cons.mp ht with rfl | ht
      · exact a.ok
      · exact b.ok t ht
    · simp only [pkL, PyData.showableAll, a.can, b.can, Bool.and_self]
    · simp only [okkL, a.okk, b.okk, Bool.and_self]
    · simp only [pkL, PyData.depthAll, dkL, a.dep, b.dep]
theorem shown_kK : ∀ ds : List (D × D), nikK ds = true → ShownKK ds
  | [], _ => ⟨by simp [pkK, PyData.shownKv, wkK, piled_nil], by simp [pkK, PyData.shownKv, allOk], by simp [pkK, PyData.showableKv], rfl, by simp [pkK, PyData.depthKv, dkK]⟩
  | (k, d) :: ds, h => by
    simp only [nikK, Bool.and_eq_true] at h
    have a := shown_k d h.1.2
    have b := shown_kK ds h.2
    obtain ⟨k1, k2, k3, k4⟩ := shown_key h.1.1
    have e : pkK ((k, d) :: ds) = (keyP k, d.pk) :: pkK ds := by simp only [pkK]; rfl
    refine ⟨?_, ?_, ?_, ?_, ?_⟩
    · rw [e]
      simp only [PyData.shownKv, wkK]
      rw [piled_cons, strLen_append, strLen_append]
      have e1 : ((": " : String) : Str).length = 2 := rfl
      have := a.len
      have := b.len
      omega
    · rw [e]
      simp only [PyData.shownKv]
      intro t ht
      rcases List.mem_cons.mp ht with rfl | ht
      · exact strOk_append (strOk_append k2 (strOk_lit _)) a.ok
      · exact b.ok t ht
    · rw [e]; simp only [PyData.showableKv, k3, a.can, b.can, Bool.and_self]
    · simp only [okkK, a.okk, b.okk, Bool.and_self]
    · rw [e]
      simp only [PyData.depthKv, dkK, k4, a.dep, b.dep]
      omega
end
theorem reprK_some {d : D} (h : d.nik = true) (hw : d.wk ≤ 10000000) (hd : d.dk ≤ 40) : fReprK d = some (.str d.pk.shown) := by
  have q := shown_k d h
  unfold fReprK
  rw [if_pos]
  refine ⟨q.okk, q.can, ?_, by rw [q.dep]; exact hd, q.ok⟩
  have := q.len
  rw [big1]
  omega
end DS
set_option Elab.async false
set_option linter.all false
set_option maxRecDepth 100000
set_option maxHeartbeats 2000000
namespace K57
open DS DS.Drw RD CMA CME CMI
open PySem (Str)
theorem deq_str (n : Nat) (x : Str) : deq (n + 1) (.str x) (.str x) = true := by simp [deq]
theorem deq_strs (n : Nat) : ∀ xs : List Str, (((xs.map D.str).zip (xs.map D.str)).all fun p => deq (n + 1) p.1 p.2) = true
  | [] => rfl
  | x :: xs => by
    rw [List.map_cons, List.zip_cons_cons, List.all_cons, deq_strs n xs, deq_str]
    rfl
theorem deq_lst (n : Nat) (xs : List Str) : deq (n + 2) (.lst (xs.map D.str)) (.lst (xs.map D.str)) = true := by
  unfold deq
  simp only [beq_self_eq_true, Bool.true_and]
  exact deq_strs n xs
section
variable {ws : List Str} {e b : Option Str}
theorem zip_get {kvs : List (D × D)} : ∀ (ws vals : List Str), (ws.map fun w => getDk kvs (.inr w)) = (vals.map fun v => some (D.str v)) → ∀ p ∈ zipD ws vals, ∃ w v, p = (D.str w, D.str v) ∧ getDk kvs (.inr w) = some (.str v)
  | [], _, _, p, hp => by simp [zipD] at hp
  | _ :: _, [], h, _, _ => by simp at h
  | w :: ws, v :: vals, h, p, hp => by
    rw [List.map_cons, List.map_cons, List.cons.injEq] at h
    have hp : p ∈ (D.str w, D.str v) :: zipD ws vals := hp
    rcases List.mem_cons.mp hp with rfl | hp
    · exact ⟨w, v, rfl, h.1⟩
    · exact zip_get ws vals h.2 p hp
theorem deq_rec {r : Rec} (R : r.ok ws e) : deq 8 (.dct (canon ws e r)) (.dct r.1) = true := by
  have l := Rk.len R
  have zl : (zipD ws r.2.1).length = ws.length := by unfold zipD; rw [List.length_zipWith, l, Nat.min_self]
  unfold deq
  rw [Bool.and_eq_true, beq_iff_eq, List.all_eq_true]
  have z := zip_get ws r.2.1 R.get
  have zz : ∀ p ∈ zipD ws r.2.1, (match kOf p.1 with
      | some k => match getDk r.1 k with
        | some u => deq 7 p.2 u
        | none => false
      | none => false) = true := fun p hp => by
    obtain ⟨w, v, rfl, g⟩ := z p hp
    have kk : kOf (.str w) = some (.inr w) := rfl
    simp only [kk, g]
    exact deq_str _ _
  have rr := R.rst
  cases q : r.2.2 with
  | none =>
    rw [q] at rr
    have ce : canon ws e r = zipD ws r.2.1 := by
      unfold canon rstD
      rw [q]
      cases e <;> simp
    rw [ce]
    exact ⟨by rw [zl]; exact rr.2.symm, zz⟩
  | some rs =>
    rw [q] at rr
    obtain ⟨⟨x, rfl, g⟩, q2, r0, r1, r2⟩ := rr
    have ce : canon ws (some x) r = zipD ws r.2.1 ++ [(D.str x, .lst (rs.map D.str))] := by
      unfold canon rstD
      rw [q]
    rw [ce]
    refine ⟨by rw [List.length_append, zl, q2]; rfl, fun p hp => ?_⟩
    rcases List.mem_append.mp hp with hp | hp
    · exact zz p hp
    · rw [List.mem_singleton] at hp
      subst hp
      have kk : kOf (.str x) = some (.inr x) := rfl
      simp only [kk, g]
      exact deq_lst _ _
theorem same_recs (rs : List Rec) (hr : ∀ r ∈ rs, r.ok ws e) : fNeV (.lst (rs.map fun r => .dct (canon ws e r))) (.lst (dicts rs)) = some (.bl false) := by
  simp only [fNeV]
  rw [if_pos]
  rw [Bool.and_eq_true, beq_iff_eq]
  refine ⟨by simp [dicts], ?_⟩
  unfold dicts
  rw [List.all_eq_true]
  intro p hp
  rw [List.mem_iff_getElem?] at hp
  obtain ⟨i, hi⟩ := hp
  rw [List.getElem?_zip_eq_some, List.getElem?_map, List.getElem?_map] at hi
  obtain ⟨h1, h2⟩ := hi
  cases q : rs[i]? with
  | none => rw [q] at h1; cases h1
  | some r =>
    rw [q] at h1 h2
    simp only [Option.map_some, Option.some.injEq] at h1 h2
    rw [← h1, ← h2]
    exact deq_rec (hr r (List.mem_of_getElem? q))
end
def nm9 : List Str := ["a", "b", "c", "", "name", "x y", "size", "rest", "more"]
def menu : List Str := ["", "-", "x", "1", "a\n", "\""]
def Ent (p : D × D) : Prop := (∃ w, p.1 = .str w ∧ w ∈ nm9) ∧ ((∃ v, p.2 = .str v ∧ v ∈ menu) ∨ ∃ rs : List Str, p.2 = .lst (rs.map D.str) ∧ rs.length ≤ 3 ∧ ∀ x ∈ rs, x ∈ menu)
theorem nm9_w : ∀ w ∈ nm9, nikE (.str w) = true ∧ (D.str w).w ≤ 50 := by decide +kernel
theorem menu_w : ∀ w ∈ menu, PySem.PyData.strOk w = true ∧ 10 * w.length + 2 ≤ 30 := by decide +kernel
theorem lst_w : ∀ rs : List Str, (∀ x ∈ rs, x ∈ menu) → nikL (rs.map D.str) = true ∧ wkL (rs.map D.str) ≤ 32 * rs.length ∧ dkL (rs.map D.str) = 0
  | [], _ => ⟨rfl, Nat.le_refl _, rfl⟩
  | x :: rs, h => by
    have a := menu_w x (h x List.mem_cons_self)
    have b := lst_w rs fun y hy => h y (List.mem_cons_of_mem _ hy)
    simp only [List.map_cons, nikL, D.nik, a.1, b.1, wkL, D.wk, dkL, D.dk, b.2.2, List.length_cons]
    refine ⟨rfl, ?_, rfl⟩
    omega
theorem ent_w {p : D × D} (h : Ent p) : nikE p.1 = true ∧ p.1.w ≤ 50 ∧ p.2.nik = true ∧ p.2.wk ≤ 100 ∧ p.2.dk ≤ 1 := by
  obtain ⟨⟨w, h1, h2⟩, h3⟩ := h
  have a := nm9_w w h2
  rw [h1]
  refine ⟨a.1, a.2, ?_⟩
  rcases h3 with ⟨v, h4, h5⟩ | ⟨rs, h4, h5, h6⟩
  · have b := menu_w v h5
    rw [h4]
    simp only [D.nik, D.wk, D.dk, b.1]
    refine ⟨trivial, by omega, by omega⟩
  · have b := lst_w rs h6
    rw [h4]
    simp only [D.nik, D.wk, D.dk, b.1, b.2.2]
    refine ⟨trivial, by omega, by omega⟩
theorem kvs_w : ∀ kvs : List (D × D), (∀ p ∈ kvs, Ent p) → nikK kvs = true ∧ wkK kvs ≤ 160 * kvs.length ∧ dkK kvs ≤ 1
  | [], _ => ⟨rfl, Nat.le_refl _, Nat.zero_le _⟩
  | (k, d) :: r, h => by
    obtain ⟨a1, a2, a3, a4, a5⟩ := ent_w (h (k, d) List.mem_cons_self)
    have b := kvs_w r fun y hy => h y (List.mem_cons_of_mem _ hy)
    have a1 : nikE k = true := a1
    have a2 : k.w ≤ 50 := a2
    have a3 : d.nik = true := a3
    have a4 : d.wk ≤ 100 := a4
    have a5 : d.dk ≤ 1 := a5
    simp only [nikK, a1, a3, b.1, wkK, dkK, List.length_cons]
    refine ⟨rfl, by omega, by omega⟩
theorem dcts_w : ∀ rs : List Rec, (∀ r ∈ rs, r.1.length ≤ 8 ∧ ∀ p ∈ r.1, Ent p) → nikL (dicts rs) = true ∧ wkL (dicts rs) ≤ 1300 * rs.length ∧ dkL (dicts rs) ≤ 2
  | [], _ => ⟨rfl, Nat.le_refl _, Nat.zero_le _⟩
  | r :: rs, h => by
    obtain ⟨a1, a2⟩ := h r List.mem_cons_self
    have a := kvs_w r.1 a2
    have b := dcts_w rs fun y hy => h y (List.mem_cons_of_mem _ hy)
    have e : dicts (r :: rs) = .dct r.1 :: dicts rs := rfl
    rw [e]
    simp only [nikL, D.nik, a.1, b.1, wkL, D.wk, dkL, D.dk, List.length_cons]
    refine ⟨rfl, by omega, by omega⟩
theorem repr_recs (rs : List Rec) (hl : rs.length ≤ 10) (h : ∀ r ∈ rs, r.1.length ≤ 8 ∧ ∀ p ∈ r.1, Ent p) : ∃ x, fReprK (.lst (dicts rs)) = some (.str x) := by
  obtain ⟨h1, h2, h3⟩ := dcts_w rs h
  exact ⟨_, reprK_some (by simpa [D.nik] using h1) (by simp only [D.wk]; omega) (by simp only [D.dk]; omega)⟩
end K57
set_option Elab.async false
set_option linter.all false
set_option maxRecDepth 100000
set_option maxHeartbeats 2000000
namespace K57
open DS DS.Drw RD CMA CME CMI
open PySem (Str)
def Shf (d : D) : Prop := d.pur = true ∧ d.dep ≤ 10
theorem shf_flat {cs : List D} (h : ∀ c ∈ cs, Shf c) : (D.lst cs).flat = true := by
  obtain ⟨h1, h2⟩ := pdL (n := 10) cs h
  simp [D.flat, D.pur, D.dep, h1]
  omega
theorem nn_d {cs : List D} (h : cs ≠ []) (f : (D.lst cs).flat = true) : fNe (.lst cs) (.lst []) = some (.bl true) := by
  have := CMD.ne_nil f
  rw [decide_eq_true h] at this
  exact this
theorem shD_test {cs ks : List D} {a : Sl} {s : Dw} (h : cs ≠ []) (f : (D.lst cs).flat = true) : w1__law_shuffled [.rs (some 0) s, a, .ow none (.lst cs), .ow none (.lst ks)] = .ok true [.rs (some 0) s, a, .ow none (.lst cs), .ow none (.lst ks)] := by
  have nn := nn_d h f
  simp [w1__law_shuffled, nn]
theorem shD_step {cs ks : List D} {a : Sl} {s s1 : Dw} {r : Nat} (hr : r < cs.length) (hl : cs.length + ks.length ≤ 1000) (e1 : F__law_take [.rs (some 0) s, .sh (.int (cs.length : Nat))] = .ok (.sh (.int r)) [.rs none s1, .no]) :
    l1__law_shuffled [.rs (some 0) s, a, .ow none (.lst cs), .ow none (.lst ks)] = .nx [.rs (some 0) s1, a, .ow none (.lst (cs.eraseIdx r)), .ow none (.lst (ks ++ [cs[r]]))] := by
  have ln : fLen (.lst cs) = some (.int (cs.length : Nat)) := by simp [fLen]
  have gt : cs[r]? = some cs[r] := List.getElem?_eq_getElem hr
  have hz : ks.length < PySem.sizeLine := by rw [big1]; omega
  have pa := fun ρ => popAt_run (ρ := ρ) (r := r) (by omega) gt
  generalize cs[r] = y at *
  generalize cs.eraseIdx r = C2 at *
  generalize (cs.length : Int) = cl at *
  generalize (r : Int) = rr at *
  have q1 : (dFz (dCall F__law_take [some 0, none] (dRef 0 (dCons (d1 fLen (dVarB 2)) dNil)))) [.rs (some 0) s, a, .ow none (.lst cs), .ow none (.lst ks)] = .ok (.int rr) [.rs (some 0) s1, a, .ow none (.lst cs), .ow none (.lst ks)] := by simp [ln, e1]
  have q2 : (dPopAt 2 (dFz (dCall F__law_take [some 0, none] (dRef 0 (dCons (d1 fLen (dVarB 2)) dNil))))) [.rs (some 0) s, a, .ow none (.lst cs), .ow none (.lst ks)] = .ok y [.rs (some 0) s1, a, .ow none (.lst C2), .ow none (.lst ks)] := by
    rw [x_popAt]
    show (if DS.isL (some (.ow none (.lst cs))) = true then _ else _) = _
    have g2 : ([.rs (some 0) s1, a, .ow none (.lst cs), .ow none (.lst ks)] : List Sl)[2]? = some (.ow none (.lst cs)) := rfl
    have st : ([.rs (some 0) s1, a, .ow none (.lst cs), .ow none (.lst ks)] : List Sl).set 2 (.ow none (.lst C2)) = [.rs (some 0) s1, a, .ow none (.lst C2), .ow none (.lst ks)] := rfl
    rw [x_isL, if_pos rfl, q1, x_bok, g2, pa, st]
  unfold l1__law_shuffled
  rw [x_appG]
  show (if DS.isL (some (.ow none (.lst ks))) = true then _ else _) = _
  rw [x_isL, if_pos rfl, x_app, q2]
  show appR _ 3 y (some (.ow none (.lst ks))) = _
  rw [x_appR, if_pos hz]
  rfl
theorem shD_loop {a : Sl} {B : Nat} (hB : B ≤ 1000) (m : Nat) : ∀ (cs ks : List D) (n : Nat) (s : Dw), cs.length = m → (∀ c ∈ cs, Shf c) → DwOk (n + m) s → m + ks.length ≤ B →
    ∃ (s' : Dw) (es : List D), sWhile w1__law_shuffled l1__law_shuffled [] [.rs (some 0) s, a, .ow none (.lst cs), .ow none (.lst ks)] = .nx [.rs (some 0) s', a, .ow none (.lst []), .ow none (.lst (ks ++ es))] ∧ DwOk n s' ∧ es.Perm cs := by
  induction m with
  | zero =>
    intro cs ks n s hm hp hs hl
    have : cs = [] := List.length_eq_zero_iff.mp hm
    subst this
    have nn := CMD.ne_nil (shf_flat (cs := []) (fun c h => nomatch h))
    simp only [ne_eq, not_true_eq_false, decide_false] at nn
    refine ⟨s, [], ?_, hs, List.Perm.refl _⟩
    rw [sWhile_end (ρ1 := [.rs (some 0) s, a, .ow none (.lst []), .ow none (.lst ks)]) (by simp [w1__law_shuffled, nn])]
    rw [List.append_nil]
    rfl
  | succ m ih =>
    intro cs ks n s hm hp hs hl
    obtain ⟨r, s1, hr, d1, e1⟩ := takeN (n := n + m) (t := some 0) ((cs.length : Nat) : Int) hs (by omega) (by omega)
    have hr' : r < cs.length := by omega
    obtain ⟨s', es, L, d2, pm⟩ := ih (cs.eraseIdx r) (ks ++ [cs[r]]) n s1 (by rw [List.length_eraseIdx_of_lt hr']; omega) (fun c hc => hp c (List.mem_of_mem_eraseIdx hc)) d1 (by rw [List.length_append, List.length_cons, List.length_nil]; omega)
    refine ⟨s', cs[r] :: es, ?_, d2, ?_⟩
    · rw [sWhile_nx (shD_test (fun z => by rw [z] at hm; cases hm) (shf_flat hp)) (shD_step hr' (by omega) e1)]
      rw [List.append_assoc] at L
      exact L
    · refine (pm.cons _).trans ?_
      rw [List.eraseIdx_eq_take_drop_succ]
      have e : cs = cs.take r ++ cs[r] :: cs.drop (r + 1) := by rw [List.getElem_cons_drop, List.take_append_drop]
      conv => rhs; rw [e]
      exact List.perm_middle.symm
theorem shD_run {cs : List D} {n : Nat} {s : Dw} {t : Option Nat} (hp : ∀ c ∈ cs, Shf c) (h : DwOk (n + cs.length) s) (hl : cs.length ≤ 900) : ∃ (s' : Dw) (es : List D), F__law_shuffled [.rs t s, .sh (.lst cs)] = .ok (.ow none (.lst es)) [.rs none s', .no] ∧ DwOk n s' ∧ es.Perm cs := by
  obtain ⟨s', es, L, d, p⟩ := shD_loop (a := .sh (.lst cs)) (Nat.le_refl 1000) cs.length cs [] n s rfl hp h (by simp; omega)
  refine ⟨s', es, ?_, d, p⟩
  rw [List.nil_append] at L
  have fl : fLstT (.lst cs) = some (.lst cs) := by
    simp only [fLstT]
  simp [F__law_shuffled, mkF_eq, b__law_shuffled, dLstO, fl, L]
end K57
set_option Elab.async false
set_option linter.all false
set_option maxRecDepth 100000
set_option maxHeartbeats 4000000
namespace K57
open DS DS.Drw RD CMA CME CMI
open PySem (Str)
noncomputable def I1 : MS := (sSet 9 (dDic (dFz (dLc (lItems (dVar 3)) (gN 13) (DS.ret true) e3_law [13]))))
noncomputable def I2 : MS := (sIf (dAndT (dB (d2 fNotN (dVarB 4) (DS.ret .non))) (dB (d2 fEq (dFz (dCall F__law_take [some 1, none] (dRef 1 (dCons (DS.ret (.int 3)) dNil)))) (DS.ret (.int 0))))) (sPutD 9 (dVar 4) (dFz (dLc (lRange fRange1 (dCons (d2 fAdd (DS.ret (.int 1)) (dFz (dCall F__law_take [some 1, none] (dRef 1 (dCons (DS.ret (.int 3)) dNil))))) dNil)) (gN 14) (DS.ret true) e2_law [14]))) sNil)
noncomputable def I3 : MS := (sAppG 7 (dFz (dDic (dFz (dCall F__law_shuffled [some 1, none] (dRef 1 (dCons (dFz (dLsI (dVarB 9))) dNil)))))))
theorem I_eq : l1_law = sSeq I1 (sSeq I2 I3) := rfl
def LS (sc : D) (s : Dw) (k h e b m so k8 on x10 x11 x12 x13 x14 : Sl) : List Sl := [.sh sc, .rs none s, k, h, e, b, m, so, k8, on, x10, x11, x12, x13, x14]
def menuD : D := .lst (menu.map D.str)
def Mn (m : Sl) : Prop := m = .ow none menuD ∨ m = .sh menuD
theorem mn_pick {n : Nat} {s : Dw} (h : DwOk (n + 1) s) : ∃ (v : Str) (s' : Dw), v ∈ menu ∧ DwOk n s' ∧ F__law_pick [.rs none s, .sh menuD] = .ok (.sh (.str v)) [.rs none s', .no] := by
  obtain ⟨e, s1, he, d1, e1⟩ := pick_run (n := n) (t := none) (d := menuD) (ds := menu.map D.str) h rfl (by simp [menu]) (by simp [menu])
  obtain ⟨v, hv, rfl⟩ := List.mem_map.mp he
  exact ⟨v, s1, hv, d1, e1⟩
theorem sz : PySem.sizeLine = 16777216 := big1
section
variable {sc : D} {s : Dw} {k h e b m so k8 on : Sl} {n : Nat}
theorem e3_run {w : Str} (M : Mn m) (d : DwOk (n + 1) s) : ∃ (v : Str) (s' : Dw), v ∈ menu ∧ DwOk n s' ∧
    e3_law (LS sc s k h e b m so k8 on .no .no .no (.sh (.str w)) .no) = .ok (.tup [.str w, .str v]) (LS sc s' k h e b (.sh menuD) so k8 on .no .no .no (.sh (.str w)) .no) := by
  obtain ⟨v, s1, hv, d1, e1⟩ := mn_pick d
  refine ⟨v, s1, hv, d1, ?_⟩
  have el : PySem.sizeLine = 16777216 := sz
  unfold Mn at M
  generalize menuD = MM at *
  unfold LS
  rcases M with rfl | rfl <;> simp [e3_law, e1, el]
def prs (ws vs : List Str) : List D := List.zipWith (fun w v => D.tup [.str w, .str v]) ws vs
theorem p3_run : ∀ (ws : List Str) (acc : List D) (n : Nat) (s : Dw) (m : Sl), acc.length + ws.length ≤ 100 → DwOk (n + ws.length) s → Mn m → ∃ (s' : Dw) (vs : List Str) (m' : Sl),
    lcRun (gN 13) (ret true) e3_law [13] (ws.map D.str) acc (LS sc s k h e b m so k8 on .no .no .no .no .no) = some (acc ++ prs ws vs, LS sc s' k h e b m' so k8 on .no .no .no .no .no) ∧ vs.length = ws.length ∧ (∀ v ∈ vs, v ∈ menu) ∧ DwOk n s' ∧ Mn m'
  | [], acc, n, s, m, _, d, M => ⟨s, [], m, by simp [prs, lcRun], rfl, fun v hv => (nomatch hv), d, M⟩
  | w :: ws, acc, n, s, m, ha, d, M => by
    obtain ⟨v, s1, hv, d1, ev⟩ := e3_run (n := n + ws.length) (sc := sc) (k := k) (h := h) (e := e) (b := b) (so := so) (k8 := k8) (on := on) (w := w) M (d.le (by simp only [List.length_cons]; omega))
    obtain ⟨s2, vs, m', ih, l, hm, d2, M'⟩ := p3_run ws (acc ++ [.tup [.str w, .str v]]) n s1 (.sh menuD) (by simp at ha ⊢; omega) d1 (.inr rfl)
    have hz : acc.length < PySem.sizeLine := by rw [sz]; simp at ha; omega
    have gx : gN 13 (.str w) (LS sc s k h e b m so k8 on .no .no .no .no .no) = some (LS sc s k h e b m so k8 on .no .no .no (.sh (.str w)) .no) := rfl
    refine ⟨s2, v :: vs, m', ?_, by simp [l], fun x hx => ?_, d2, M'⟩
    · show lcRun (gN 13) (ret true) e3_law [13] (.str w :: ws.map D.str) acc _ = _
      have dr : drops [13] (LS sc s1 k h e b (.sh menuD) so k8 on .no .no .no (.sh (.str w)) .no) = LS sc s1 k h e b (.sh menuD) so k8 on .no .no .no .no .no := rfl
      simp only [lcRun, gx, DS.ret, ev, hz, if_true, dr]
      rw [ih, List.append_assoc]
      rfl
    · rcases List.mem_cons.mp hx with rfl | hx
      · exact hv
      · exact hm x hx
theorem dic_prs : ∀ (ws vs pre pv : List Str), ws.length = vs.length → pre.length = pv.length → (pre ++ ws).Nodup → dicP (zipD pre pv) (prs ws vs) = some (zipD (pre ++ ws) (pv ++ vs))
  | [], [], pre, pv, _, _, _ => by rw [List.append_nil, List.append_nil]; rfl
  | [], _ :: _, _, _, h, _, _ => nomatch h
  | _ :: _, [], _, _, h, _, _ => nomatch h
  | w :: ws, v :: vs, pre, pv, h1, h2, nd => by
    have hn : w ∉ pre := fun hm => by
      rw [List.nodup_append] at nd
      exact nd.2.2 w hm w List.mem_cons_self rfl
    have ih := dic_prs ws vs (pre ++ [w]) (pv ++ [v]) (by simpa using h1) (by simp [h2]) (by simpa using nd)
    show dicP (zipD pre pv) (.tup [.str w, .str v] :: prs ws vs) = _
    simp only [dicP, kOf]
    rw [zip_put h2 hn, ih]
    simp
theorem e2l_run {z : D} (M : Mn m) (d : DwOk (n + 1) s) : ∃ (v : Str) (s' : Dw), v ∈ menu ∧ DwOk n s' ∧
    e2_law (LS sc s k h e b m so k8 on .no .no .no .no (.sh z)) = .ok (.str v) (LS sc s' k h e b (.sh menuD) so k8 on .no .no .no .no (.sh z)) := by
  obtain ⟨v, s1, hv, d1, e1⟩ := mn_pick d
  refine ⟨v, s1, hv, d1, ?_⟩
  unfold Mn at M
  generalize menuD = MM at *
  unfold LS
  rcases M with rfl | rfl <;> simp [e2_law, e1]
theorem p2_run : ∀ (ds : List D) (acc : List Str) (n : Nat) (s : Dw) (m : Sl), acc.length + ds.length ≤ 100 → DwOk (n + ds.length) s → Mn m → ∃ (s' : Dw) (vs : List Str) (m' : Sl),
    lcRun (gN 14) (ret true) e2_law [14] ds (acc.map D.str) (LS sc s k h e b m so k8 on .no .no .no .no .no) = some ((acc ++ vs).map D.str, LS sc s' k h e b m' so k8 on .no .no .no .no .no) ∧ vs.length = ds.length ∧ (∀ v ∈ vs, v ∈ menu) ∧ DwOk n s' ∧ Mn m'
  | [], acc, n, s, m, _, d, M => ⟨s, [], m, by simp [lcRun], rfl, fun v hv => (nomatch hv), d, M⟩
  | z :: ds, acc, n, s, m, ha, d, M => by
    obtain ⟨v, s1, hv, d1, ev⟩ := e2l_run (n := n + ds.length) (sc := sc) (k := k) (h := h) (e := e) (b := b) (so := so) (k8 := k8) (on := on) (z := z) M (d.le (by simp only [List.length_cons]; omega))
    obtain ⟨s2, vs, m', ih, l, hm, d2, M'⟩ := p2_run ds (acc ++ [v]) n s1 (.sh menuD) (by simp at ha ⊢; omega) d1 (.inr rfl)
    have hz : (acc.map D.str).length < PySem.sizeLine := by rw [sz]; simp at ha ⊢; omega
    have gx : gN 14 z (LS sc s k h e b m so k8 on .no .no .no .no .no) = some (LS sc s k h e b m so k8 on .no .no .no .no (.sh z)) := rfl
    refine ⟨s2, v :: vs, m', ?_, by simp [l], fun x hx => ?_, d2, M'⟩
    · have dr : drops [14] (LS sc s1 k h e b (.sh menuD) so k8 on .no .no .no .no (.sh z)) = LS sc s1 k h e b (.sh menuD) so k8 on .no .no .no .no .no := rfl
      have ap : acc.map D.str ++ [D.str v] = (acc ++ [v]).map D.str := by simp
      simp only [lcRun, gx, DS.ret, ev, hz, if_true, dr]
      rw [ap, ih]
      simp
    · rcases List.mem_cons.mp hx with rfl | hx
      · exact hv
      · exact hm x hx
end
def Kd (kvs : List (D × D)) : Prop := (kvs.map (·.1)).Nodup ∧ ∀ p ∈ kvs, ∃ w : Str, p.1 = .str w
theorem get_mem {kvs : List (D × D)} {w : Str} {d : D} (K : Kd kvs) (h : (D.str w, d) ∈ kvs) : getDk kvs (.inr w) = some d := by
  induction kvs with
  | nil => cases h
  | cons p r ih =>
    have K2 : Kd r := ⟨(List.nodup_cons.mp K.1).2, fun q hq => K.2 q (List.mem_cons_of_mem _ hq)⟩
    unfold getDk
    obtain ⟨x, hx⟩ := K.2 p List.mem_cons_self
    have kk : kOf p.1 = some (.inr x) := by rw [hx]; rfl
    by_cases q : x = w
    · subst q
      have e : decide (kOf p.1 = some (.inr x)) = true := decide_eq_true kk
      rw [List.find?_cons_of_pos (by exact e)]
      rcases List.mem_cons.mp h with h | h
      · rw [← h]; rfl
      · exfalso
        have : p.1 ∉ r.map (·.1) := (List.nodup_cons.mp K.1).1
        rw [hx] at this
        exact this (List.mem_map.mpr ⟨_, h, rfl⟩)
    · have e : decide (kOf p.1 = some (.inr w)) = false := decide_eq_false fun z => q (by rw [kk] at z; injection z with z; injection z)
      rw [List.find?_cons_of_neg (by rw [e]; decide)]
      rcases List.mem_cons.mp h with h | h
      · exfalso
        rw [← h] at hx
        injection hx with hx
        exact q hx.symm
      · exact ih K2 h
theorem get_no {kvs : List (D × D)} {w : Str} (h : D.str w ∉ kvs.map (·.1)) (K : Kd kvs) : getDk kvs (.inr w) = none := by
  unfold getDk
  rw [Option.map_eq_none_iff, List.find?_eq_none]
  intro p hp
  obtain ⟨x, hx⟩ := K.2 p hp
  rw [hx]
  simp only [kOf, Option.some.injEq, Sum.inr.injEq, decide_eq_true_eq]
  rintro rfl
  exact h (by rw [← hx]; exact List.mem_map_of_mem hp)
theorem kd_perm {kvs kvs' : List (D × D)} (K : Kd kvs) (p : kvs'.Perm kvs) : Kd kvs' := ⟨(p.map (·.1)).nodup_iff.mpr K.1, fun q hq => K.2 q (p.mem_iff.mp hq)⟩
def tupP (p : D × D) : D := .tup [p.1, p.2]
def untP : D → D × D
  | .tup [a, b] => (a, b)
  | _ => (.non, .non)
theorem unt_tup (p : D × D) : untP (tupP p) = p := rfl
theorem perm_tup {es : List D} {kvs : List (D × D)} (p : es.Perm (kvs.map tupP)) : ∃ kvs' : List (D × D), kvs'.Perm kvs ∧ es = kvs'.map tupP := by
  refine ⟨es.map untP, ?_, ?_⟩
  · have := p.map untP
    rw [List.map_map] at this
    have e : (untP ∘ tupP) = id := funext unt_tup
    rw [e, List.map_id] at this
    exact this
  · rw [List.map_map]
    refine Eq.symm ((List.map_congr_left fun x hx => ?_).trans (List.map_id _))
    obtain ⟨q, _, rfl⟩ := List.mem_map.mp (p.mem_iff.mp hx)
    rfl
theorem dic_kd : ∀ (kvs pre : List (D × D)), Kd (pre ++ kvs) → dicP pre (kvs.map tupP) = some (pre ++ kvs)
  | [], pre, _ => by rw [List.append_nil]; rfl
  | (a, d) :: r, pre, K => by
    obtain ⟨x, hx⟩ := K.2 (a, d) (List.mem_append_right _ List.mem_cons_self)
    have hx : a = .str x := hx
    subst hx
    have hn : (pre.any fun kv => decide (kOf kv.1 = some (.inr x))) = false := by
      rw [List.any_eq_false]
      intro p hp
      obtain ⟨y, hy⟩ := K.2 p (List.mem_append_left _ hp)
      have kk : kOf p.1 = some (.inr y) := by rw [hy]; rfl
      rw [kk]
      simp only [Option.some.injEq, Sum.inr.injEq, decide_eq_true_eq]
      rintro rfl
      have := K.1
      rw [List.map_append, List.nodup_append] at this
      exact this.2.2 p.1 (List.mem_map_of_mem hp) (.str y) List.mem_cons_self hy
    have pu : putDk pre (.inr x) d = pre ++ [(.str x, d)] := by
      unfold putDk
      rw [hn]
      rfl
    have ih := dic_kd r (pre ++ [(.str x, d)]) (by simpa using K)
    show dicP pre (.tup [.str x, d] :: r.map tupP) = _
    have kk : kOf (.str x) = some (.inr x) := rfl
    simp only [dicP, kk, pu]
    rw [ih]
    simp
theorem zip_mem {ws vs : List Str} {p : D × D} (h : p ∈ zipD ws vs) : ∃ w v, w ∈ ws ∧ v ∈ vs ∧ p = (D.str w, D.str v) := by
  unfold zipD at h
  obtain ⟨i, hi⟩ := List.mem_iff_getElem?.mp h
  rw [List.getElem?_zipWith] at hi
  cases q1 : ws[i]? with
  | none => rw [q1] at hi; cases hi
  | some x =>
    cases q2 : vs[i]? with
    | none => rw [q1, q2] at hi; cases hi
    | some y =>
      rw [q1, q2] at hi
      cases hi
      exact ⟨x, y, List.mem_of_getElem? q1, List.mem_of_getElem? q2, rfl⟩
theorem zip_keys : ∀ (ws vs : List Str), ws.length = vs.length → (zipD ws vs).map (·.1) = ws.map D.str
  | [], [], _ => rfl
  | [], _ :: _, h => nomatch h
  | _ :: _, [], h => nomatch h
  | w :: ws, v :: vs, h => by
    have := zip_keys ws vs (by simpa using h)
    show D.str w :: (zipD ws vs).map (·.1) = _
    rw [this]
    rfl
theorem gets {kvs : List (D × D)} (K : Kd kvs) : ∀ (ws vs : List Str), ws.length = vs.length → (∀ p ∈ zipD ws vs, p ∈ kvs) → (ws.map fun w => getDk kvs (.inr w)) = vs.map fun v => some (D.str v)
  | [], [], _, _ => rfl
  | [], _ :: _, h, _ => nomatch h
  | _ :: _, [], h, _ => nomatch h
  | w :: ws, v :: vs, h, hm => by
    have hm' : ∀ p ∈ (D.str w, D.str v) :: zipD ws vs, p ∈ kvs := hm
    rw [List.map_cons, List.map_cons, gets K ws vs (by simpa using h) fun p hp => hm' p (List.mem_cons_of_mem _ hp), get_mem K (hm' _ List.mem_cons_self)]
end K57
set_option Elab.async false
set_option linter.all false
set_option maxRecDepth 100000
set_option maxHeartbeats 4000000
namespace K57
open DS DS.Drw RD CMA CME CMI
open PySem (Str)
structure RecD (ws : List Str) (e : Option Str) (r : Rec) : Prop where
  ok : r.ok ws e
  len : r.1.length ≤ 8
  ent : ∀ p ∈ r.1, Ent p
def nm7 : List Str := ["a", "b", "c", "", "name", "x y", "size"]
structure HdD (ws : List Str) (e b : Option Str) : Prop where
  nd : ws.Nodup
  len : ws.length ≤ 6
  mem : ∀ w ∈ ws, w ∈ nm7
  e : e = none ∨ e = some ("rest" : Str) ∨ e = some ("more" : Str)
  b : b = some ("" : Str) ∨ b = some ("-" : Str) ∨ b = none ∨ b = some ("x" : Str)
theorem tx9 {w : Str} (h : w ∈ nm9) : TX (.str w) := by
  simp only [nm9, List.mem_cons, List.not_mem_nil, or_false] at h
  rcases h with rfl | rfl | rfl | rfl | rfl | rfl | rfl | rfl | rfl
  · exact K58.TX.w (c := [97]) rfl (by decide) (by unfold Al; decide +kernel)
  · exact K58.TX.w (c := [98]) rfl (by decide) (by unfold Al; decide +kernel)
  · exact K58.TX.w (c := [99]) rfl (by decide) (by unfold Al; decide +kernel)
  · exact K58.TX.w (c := []) rfl (by decide) (by unfold Al; decide +kernel)
  · exact K58.TX.w (c := [110, 97, 109, 101]) rfl (by decide) (by unfold Al; decide +kernel)
  · exact K58.TX.w (c := [120, 32, 121]) rfl (by decide) (by unfold Al; decide +kernel)
  · exact K58.TX.w (c := [115, 105, 122, 101]) rfl (by decide) (by unfold Al; decide +kernel)
  · exact K58.TX.w (c := [114, 101, 115, 116]) rfl (by decide) (by unfold Al; decide +kernel)
  · exact K58.TX.w (c := [109, 111, 114, 101]) rfl (by decide) (by unfold Al; decide +kernel)
theorem txm {w : Str} (h : w ∈ menu) : TX (.str w) := by
  simp only [menu, List.mem_cons, List.not_mem_nil, or_false] at h
  rcases h with rfl | rfl | rfl | rfl | rfl | rfl
  · exact K58.TX.w (c := []) rfl (by decide) (by unfold Al; decide +kernel)
  · exact K58.TX.w (c := [45]) rfl (by decide) (by unfold Al; decide +kernel)
  · exact K58.TX.w (c := [120]) rfl (by decide) (by unfold Al; decide +kernel)
  · exact K58.TX.w (c := [49]) rfl (by decide) (by unfold Al; decide +kernel)
  · exact K58.TX.w (c := [97, 10]) rfl (by decide) (by unfold Al; decide +kernel)
  · exact K58.TX.w (c := [34]) rfl (by decide) (by unfold Al; decide +kernel)
theorem nm7_9 {w : Str} (h : w ∈ nm7) : w ∈ nm9 := by
  simp only [nm7, nm9, List.mem_cons, List.not_mem_nil, or_false] at h ⊢
  rcases h with rfl | rfl | rfl | rfl | rfl | rfl | rfl <;> simp
theorem rest_no : ("rest" : Str) ∉ nm7 ∧ ("more" : Str) ∉ nm7 := by decide +kernel
theorem HdD.hd {ws : List Str} {e b : Option Str} (H : HdD ws e b) : Hd ws e b where
  nd := H.nd
  len := by have := H.len; omega
  tx := fun w hw => tx9 (nm7_9 (H.mem w hw))
  ne := fun x hx hm => by
    have hm := H.mem x hm
    rcases H.e with q | q | q <;> rw [q] at hx <;> first | cases hx; done | (injection hx with hx; subst hx; first | exact rest_no.1 hm | exact rest_no.2 hm)
  ce := fun x hx => by
    rcases H.e with q | q | q <;> rw [q] at hx <;> first | cases hx; done | (injection hx with hx; subst hx; exact tx9 (by simp [nm9]))
  cb := fun x hx => by
    rcases H.b with q | q | q | q <;> rw [q] at hx <;> first | cases hx; done | (injection hx with hx; subst hx; exact txm (by simp [menu]))
section
variable {sc : D} {s : Dw} {k h e b m so k8 on : Sl} {n : Nat}
theorem i1_run {ws : List Str} (hl : ws.length ≤ 10) (nd : ws.Nodup) (M : Mn m) (d : DwOk (n + 10) s) : ∃ (s' : Dw) (vs : List Str) (m' : Sl), vs.length = ws.length ∧ (∀ v ∈ vs, v ∈ menu) ∧ DwOk n s' ∧ Mn m' ∧
    I1 (LS sc s k (.sh (.tup (ws.map D.str))) e b m so k8 on .no .no .no .no .no) = .nx (LS sc s' k (.sh (.tup (ws.map D.str))) e b m' so k8 (.ow none (.dct (zipD ws vs))) .no .no .no .no .no) := by
  obtain ⟨s1, vs, m', L, l, hm, d1, M'⟩ := p3_run (sc := sc) (k := k) (h := .sh (.tup (ws.map D.str))) (e := e) (b := b) (so := so) (k8 := k8) (on := on) ws [] n s m (by simp; omega) (d.le (by omega)) M
  refine ⟨s1, vs, m', l, hm, d1, M', ?_⟩
  have it : (D.tup (ws.map D.str)).items = some (ws.map D.str) := rfl
  have dp := dic_prs ws vs [] [] l.symm rfl (by simpa using nd)
  have z0 : zipD [] [] = [] := rfl
  rw [z0, List.nil_append, List.nil_append] at dp
  rw [List.nil_append] at L
  have fd : fDic (.lst (prs ws vs)) = some (.dct (zipD ws vs)) := by rw [x_fDic2, dp]; rfl
  generalize prs ws vs = P at *
  generalize zipD ws vs = ZZ at *
  generalize ws.map D.str = W at *
  unfold LS at L ⊢
  simp [I1, it, L, fd, -x_fDic2]
theorem i2_none {x : Sl} {B : Sl} {H : Sl} : I2 (LS sc s k H (.sh .non) B m so k8 x .no .no .no .no .no) = .nx (LS sc s k H (.sh .non) B m so k8 x .no .no .no .no .no) := by
  have nn : fNotN .non .non = some (.bl false) := rfl
  unfold LS
  simp [I2, nn]
theorem i2_skip {x : Str} {kv : List (D × D)} {s1 : Dw} {z : Int} (e1 : F__law_take [.rs none s, .sh (.int 3)] = .ok (.sh (.int z)) [.rs none s1, .no]) (q : fEq (.int z) (.int 0) = some (.bl false)) :
    I2 (LS sc s k h (.sh (.str x)) b m so k8 (.ow none (.dct kv)) .no .no .no .no .no) = .nx (LS sc s1 k h (.sh (.str x)) b m so k8 (.ow none (.dct kv)) .no .no .no .no .no) := by
  have nn : fNotN (.str x) .non = some (.bl true) := rfl
  unfold LS
  simp [I2, nn, e1, q]
theorem i2_put {x : Str} {kv : List (D × D)} {s1 s2 s3 : Dw} {m' : Sl} {z y w : Int} {R O : List D} (e1 : F__law_take [.rs none s, .sh (.int 3)] = .ok (.sh (.int z)) [.rs none s1, .no]) (q : fEq (.int z) (.int 0) = some (.bl true))
    (e2 : F__law_take [.rs none s1, .sh (.int 3)] = .ok (.sh (.int y)) [.rs none s2, .no]) (ad : fAdd (.int 1) (.int y) = some (.int w)) (rg : fRange1 [.int w] = some R) (hz : kv.length < PySem.sizeLine)
    (L : lcRun (gN 14) (ret true) e2_law [14] R [] (LS sc s2 k h (.sh (.str x)) b m so k8 (.ow none (.dct kv)) .no .no .no .no .no) = some (O, LS sc s3 k h (.sh (.str x)) b m' so k8 (.ow none (.dct kv)) .no .no .no .no .no)) :
    I2 (LS sc s k h (.sh (.str x)) b m so k8 (.ow none (.dct kv)) .no .no .no .no .no) = .nx (LS sc s3 k h (.sh (.str x)) b m' so k8 (.ow none (.dct (putDk kv (.inr x) (.lst O)))) .no .no .no .no .no) := by
  have nn : fNotN (.str x) .non = some (.bl true) := rfl
  have kk : kOf (.str x) = some (.inr x) := rfl
  unfold LS at L ⊢
  simp [I2, nn, e1, q, e2, ad, rg, L, isDc, setDR, kk, hz]
theorem i3_run {kv kv' : List (D × D)} {es acc : List D} {s1 : Dw} (ko : keysOk kv = true) (e1 : F__law_shuffled [.rs none s, .sh (.lst (kv.map fun p => .tup [p.1, p.2]))] = .ok (.ow none (.lst es)) [.rs none s1, .no]) (dp : dicP [] es = some kv') (hz : acc.length < PySem.sizeLine) :
    I3 (LS sc s k h e b m (.ow none (.lst acc)) k8 (.ow none (.dct kv)) .no .no .no .no .no) = .nx (LS sc s1 k h e b m (.ow none (.lst (acc ++ [.dct kv']))) k8 (.ow none (.dct kv)) .no .no .no .no .no) := by
  have fi : fLsI (.dct kv) = some (.lst (kv.map fun p => .tup [p.1, p.2])) := by simp only [fLsI]; rw [if_pos ko]
  have fd : fDic (.lst es) = some (.dct kv') := by rw [x_fDic2, dp]; rfl
  generalize (kv.map fun p => D.tup [p.1, p.2]) = P at *
  unfold LS
  simp [I3, fi, e1, fd, hz, -x_fDic2]
theorem keys_ok {kv : List (D × D)} (h : ∀ p ∈ kv, Ent p) : keysOk kv = true := by
  unfold keysOk
  rw [List.all_eq_true]
  intro p hp
  obtain ⟨⟨w, h1, h2⟩, _⟩ := h p hp
  rw [h1]
  exact (nm9_w w h2).1
theorem ent_shf {p : D × D} (h : Ent p) : Shf (tupP p) := by
  obtain ⟨⟨w, h1, _⟩, h3⟩ := h
  unfold Shf tupP
  rw [h1]
  rcases h3 with ⟨v, h4, _⟩ | ⟨rs, h4, _, _⟩ <;> rw [h4]
  · simp [D.pur, purL, D.dep, depL]
  · simp [D.pur, purL, D.dep, depL, K58.purL_s, K58.depL_s]
theorem rec_mk {ws vs : List Str} {E B : Option Str} {rest : Option (List Str)} {kv kv' : List (D × D)} (H : HdD ws E B) (l : vs.length = ws.length) (hv : ∀ v ∈ vs, v ∈ menu)
    (hk : (rest = none ∧ kv = zipD ws vs) ∨ ∃ x rs, E = some x ∧ rest = some rs ∧ rs ≠ [] ∧ rs.length ≤ 3 ∧ (∀ v ∈ rs, v ∈ menu) ∧ kv = zipD ws vs ++ [(.str x, .lst (rs.map D.str))]) (p : kv'.Perm kv) : Kd kv ∧ (∀ q ∈ kv, Ent q) ∧ RecD ws E (kv', vs, rest) := by
  have z9 : ∀ q ∈ zipD ws vs, Ent q := fun q hq => by
    obtain ⟨w, v, h1, h2, rfl⟩ := zip_mem hq
    exact ⟨⟨w, rfl, nm7_9 (H.mem w h1)⟩, .inl ⟨v, rfl, hv v h2⟩⟩
  have ent : ∀ q ∈ kv, Ent q := fun q hq => by
    rcases hk with ⟨_, rfl⟩ | ⟨x, rs, h1, h2, h3, h4, h5, rfl⟩
    · exact z9 q hq
    · rcases List.mem_append.mp hq with hq | hq
      · exact z9 q hq
      · rw [List.mem_singleton] at hq
        subst hq
        refine ⟨⟨x, rfl, ?_⟩, .inr ⟨rs, rfl, h4, h5⟩⟩
        rcases H.e with q | q | q <;> rw [q] at h1 <;> first | cases h1; done | (injection h1 with h1; subst h1; simp [nm9])
  have nds : (ws.map D.str).Nodup := List.Pairwise.map _ (fun a b hne q => hne (by injection q)) H.nd
  have zl : (zipD ws vs).length = ws.length := by unfold zipD; rw [List.length_zipWith, l, Nat.min_self]
  have kd : Kd kv := by
    refine ⟨?_, fun q hq => by obtain ⟨⟨w, h1, _⟩, _⟩ := ent q hq; exact ⟨w, h1⟩⟩
    rcases hk with ⟨_, rfl⟩ | ⟨x, rs, h1, h2, h3, h4, h5, rfl⟩
    · rw [zip_keys ws vs l.symm]; exact nds
    · rw [List.map_append, zip_keys ws vs l.symm, List.nodup_append]
      refine ⟨nds, by simp, fun a ha c hc => ?_⟩
      obtain ⟨w, hw, rfl⟩ := List.mem_map.mp ha
      simp at hc
      subst hc
      rintro q
      injection q with q
      subst q
      exact H.hd.ne _ h1 hw
  have kd' := kd_perm kd p
  have hll := H.len
  have lp := p.length_eq
  refine ⟨kd, ent, ⟨⟨?_, fun v h => txm (hv v h), ?_⟩, ?_, fun q hq => ent q (p.mem_iff.mp hq)⟩⟩
  · refine gets kd' ws vs l.symm fun q hq => p.mem_iff.mpr ?_
    rcases hk with ⟨_, rfl⟩ | ⟨x, rs, h1, h2, h3, h4, h5, rfl⟩
    · exact hq
    · exact List.mem_append_left _ hq
  · rcases hk with ⟨rfl, rfl⟩ | ⟨x, rs, h1, rfl, h3, h4, h5, rfl⟩
    · refine ⟨fun x hx => get_no (fun hm => ?_) kd', by show kv'.length = _; rw [lp, zl]⟩
      have hm := (p.map (·.1)).mem_iff.mp hm
      rw [zip_keys ws vs l.symm] at hm
      obtain ⟨w, hw, q⟩ := List.mem_map.mp hm
      injection q with q
      subst q
      exact H.hd.ne _ hx hw
    · refine ⟨⟨x, h1, get_mem kd' (p.mem_iff.mpr (List.mem_append_right _ List.mem_cons_self))⟩, by show kv'.length = _; rw [lp, List.length_append, zl]; rfl, h3, by omega, fun v hh => txm (h5 v hh)⟩
  · show kv'.length ≤ 8
    rw [lp]
    rcases hk with ⟨_, rfl⟩ | ⟨x, rs, h1, h2, h3, h4, h5, rfl⟩
    · omega
    · rw [List.length_append, zl]; simp; omega
theorem put_zip {ws vs : List Str} {x : Str} {d : D} (h : x ∉ ws) : putDk (zipD ws vs) (.inr x) d = zipD ws vs ++ [(.str x, d)] := by
  unfold putDk
  rw [zip_no vs h]
  rfl
theorem i2_run {ws vs : List Str} {E B : Option Str} {h : Sl} (H : HdD ws E B) (l : vs.length = ws.length) (M : Mn m) (d : DwOk (n + 10) s) : ∃ (s' : Dw) (kv : List (D × D)) (rest : Option (List Str)) (m' : Sl), DwOk n s' ∧ Mn m' ∧
    ((rest = none ∧ kv = zipD ws vs) ∨ ∃ x rs, E = some x ∧ rest = some rs ∧ rs ≠ [] ∧ rs.length ≤ 3 ∧ (∀ v ∈ rs, v ∈ menu) ∧ kv = zipD ws vs ++ [(.str x, .lst (rs.map D.str))]) ∧
    I2 (LS sc s k h (.sh (K58.eD E)) b m so k8 (.ow none (.dct (zipD ws vs))) .no .no .no .no .no) = .nx (LS sc s' k h (.sh (K58.eD E)) b m' so k8 (.ow none (.dct kv)) .no .no .no .no .no) := by
  cases E with
  | none => exact ⟨s, zipD ws vs, none, m, d.le (by omega), M, .inl ⟨rfl, rfl⟩, i2_none⟩
  | some x =>
    obtain ⟨r, s1, hr, d1, e1⟩ := takeN (n := n + 9) (t := none) (3 : Int) d (by omega) (by omega)
    have q0 := eq0 r
    by_cases h0 : r = 0
    · rw [decide_eq_true h0] at q0
      obtain ⟨y, s2, hy, d2, e2⟩ := takeN (n := n + 8) (t := none) (3 : Int) d1 (by omega) (by omega)
      have ad : fAdd (.int 1) (.int (y : Int)) = some (.int ((1 + y : Nat) : Int)) := by
        have : (1 : Int) + (y : Int) = ((1 + y : Nat) : Int) := by omega
        simp only [fAdd, this]
      have rg := range1N (k := 1 + y) (by omega)
      have rl : ((List.range (1 + y)).map fun i => D.int (0 + (i : Nat))).length = 1 + y := by simp
      obtain ⟨R, hR⟩ : ∃ R, R = (List.range (1 + y)).map fun i => D.int (0 + (i : Nat)) := ⟨_, rfl⟩
      rw [← hR] at rg rl
      clear hR
      have hz : (zipD ws vs).length < PySem.sizeLine := by
        have := H.len
        rw [sz]
        unfold zipD
        rw [List.length_zipWith, l, Nat.min_self]
        omega
      obtain ⟨s3, rs, m', L, lr, hm, d3, M'⟩ := p2_run (sc := sc) (k := k) (h := h) (e := .sh (.str x)) (b := b) (so := so) (k8 := k8) (on := .ow none (.dct (zipD ws vs))) R [] n s2 m (by simp; omega) (d2.le (by omega)) M
      rw [List.map_nil, List.nil_append] at L
      have S := i2_put e1 q0 e2 ad rg hz L
      rw [put_zip (H.hd.ne x rfl)] at S
      exact ⟨s3, _, some rs, m', d3, M', .inr ⟨x, rs, rfl, rfl, (fun z => by rw [z] at lr; simp at lr; omega), by omega, hm, rfl⟩, S⟩
    · rw [decide_eq_false h0] at q0
      exact ⟨s1, zipD ws vs, none, m, d1.le (by omega), M, .inl ⟨rfl, rfl⟩, i2_skip e1 q0⟩
theorem lap1 {ws : List Str} {E B : Option Str} {acc : List D} (H : HdD ws E B) (M : Mn m) (ha : acc.length ≤ 1000) (d : DwOk (n + 30) s) : ∃ (s' : Dw) (r : Rec) (m' on' : Sl), RecD ws E r ∧ DwOk n s' ∧ Mn m' ∧ shOr (some on') = .no ∧
    l1_law (LS sc s k (.sh (.tup (ws.map D.str))) (.sh (K58.eD E)) b m (.ow none (.lst acc)) k8 on .no .no .no .no .no) = .nx (LS sc s' k (.sh (.tup (ws.map D.str))) (.sh (K58.eD E)) b m' (.ow none (.lst (acc ++ [.dct r.1]))) k8 on' .no .no .no .no .no) := by
  have hl := H.len
  obtain ⟨s1, vs, m1, l, hv, d1, M1, S1⟩ := i1_run (n := n + 20) (sc := sc) (k := k) (e := .sh (K58.eD E)) (b := b) (so := .ow none (.lst acc)) (k8 := k8) (on := on) (ws := ws) (by omega) H.nd M (d.le (by omega))
  obtain ⟨s2, kv, rest, m2, d2, M2, hk, S2⟩ := i2_run (n := n + 10) (sc := sc) (k := k) (h := .sh (.tup (ws.map D.str))) (b := b) (so := .ow none (.lst acc)) (k8 := k8) H l M1 d1
  obtain ⟨kd, ent, rd0⟩ := rec_mk H l hv hk (List.Perm.refl kv)
  have lk : kv.length ≤ 8 := rd0.len
  obtain ⟨s3, es, e3, d3, pm⟩ := shD_run (cs := kv.map tupP) (n := n) (s := s2) (t := none) (fun c hc => by obtain ⟨p, hp, rfl⟩ := List.mem_map.mp hc; exact ent_shf (ent p hp)) (d2.le (by simp; omega)) (by simp; omega)
  obtain ⟨kv', p', rfl⟩ := perm_tup pm
  have dp := dic_kd kv' [] (by rw [List.nil_append]; exact kd_perm kd p')
  obtain ⟨_, _, rd⟩ := rec_mk H l hv hk p'
  have S3 := i3_run (sc := sc) (k := k) (h := .sh (.tup (ws.map D.str))) (e := .sh (K58.eD E)) (b := b) (m := m2) (k8 := k8) (acc := acc) (keys_ok ent) e3 dp (by rw [sz]; omega)
  rw [List.nil_append] at S3
  refine ⟨s3, (kv', vs, rest), m2, .ow none (.dct kv), rd, d3, M2, rfl, ?_⟩
  rw [I_eq, sSeq_nx S1, sSeq_nx S2]
  exact S3
theorem laps1 {ws : List Str} {E B : Option Str} (H : HdD ws E B) : ∀ (ds : List D) (rs : List Rec) (n : Nat) (s : Dw) (m on : Sl), rs.length + ds.length ≤ 100 → Mn m → shOr (some on) = .no → DwOk (n + 30 * ds.length) s → (∀ r ∈ rs, RecD ws E r) → ∃ (s' : Dw) (rs' : List Rec) (m' on' : Sl), DwOk n s' ∧ Mn m' ∧ shOr (some on') = .no ∧ (∀ r ∈ rs', RecD ws E r) ∧ rs'.length = rs.length + ds.length ∧
    sEach (gN 8) l1_law [8, 14] ds (LS sc s k (.sh (.tup (ws.map D.str))) (.sh (K58.eD E)) b m (.ow none (.lst (dicts rs))) .no on .no .no .no .no .no) = .nx (LS sc s' k (.sh (.tup (ws.map D.str))) (.sh (K58.eD E)) b m' (.ow none (.lst (dicts rs'))) .no on' .no .no .no .no .no)
  | [], rs, n, s, m, on, _, M, so, d, hr => ⟨s, rs, m, on, d, M, so, hr, rfl, rfl⟩
  | z :: ds, rs, n, s, m, on, hl, M, so, d, hr => by
    obtain ⟨s1, r, m1, on1, hr1, d1, M1, so1, S⟩ := lap1 (n := n + 30 * ds.length) (sc := sc) (k := k) (b := b) (k8 := .sh z) (on := on) (acc := dicts rs) H M (by simp [dicts] at hl ⊢; omega) (d.le (by simp only [List.length_cons]; omega))
    have e : dicts rs ++ [.dct r.1] = dicts (rs ++ [r]) := by simp [dicts]
    rw [e] at S
    obtain ⟨s2, rs', m2, on2, d2, M2, so2, hr2, l2, L⟩ := laps1 H ds (rs ++ [r]) n s1 m1 on1 (by simp at hl ⊢; omega) M1 so1 d1 fun x hx => by
      rcases List.mem_append.mp hx with hx | hx
      · exact hr x hx
      · rw [List.mem_singleton] at hx; subst hx; exact hr1
    refine ⟨s2, rs', m2, on2, d2, M2, so2, hr2, by rw [l2]; simp; omega, ?_⟩
    have gg : gN 8 z (LS sc s k (.sh (.tup (ws.map D.str))) (.sh (K58.eD E)) b m (.ow none (.lst (dicts rs))) .no on .no .no .no .no .no) = some (LS sc s k (.sh (.tup (ws.map D.str))) (.sh (K58.eD E)) b m (.ow none (.lst (dicts rs))) (.sh z) on .no .no .no .no .no) := rfl
    rw [sEach_nx gg S]
    exact L
end
end K57
set_option Elab.async false
set_option linter.all false
set_option maxRecDepth 100000
set_option maxHeartbeats 4000000
namespace K57
open DS DS.Drw RD CMA CME CMI
open PySem (Str)
noncomputable def J1 : MS := (sSet 3 (dSh (d1 fTupOf (dSl (dFz (dCall F__law_shuffled [some 1, none] (dRef 1 (dCons (dFz (dLst (dCons (DS.ret (.str ("a" : Str))) (dCons (DS.ret (.str ("b" : Str))) (dCons (DS.ret (.str ("c" : Str))) (dCons (DS.ret (.str ("" : Str))) (dCons (DS.ret (.str ("name" : Str))) (dCons (DS.ret (.str ("x y" : Str))) (dCons (DS.ret (.str ("size" : Str))) dNil))))))))) dNil)))) (DS.ret none) (dPart (dFz (dCall F__law_take [some 1, none] (dRef 1 (dCons (DS.ret (.int 7)) dNil)))))))))
noncomputable def J2 : MS := (sParN [4, 5] (sCons (dCall F__law_pick [some 1, none] (dRef 1 (dCons (dFz (dLst (dCons (DS.ret .non) (dCons (DS.ret (.str ("rest" : Str))) (dCons (DS.ret (.str ("more" : Str))) dNil))))) dNil))) (sCons (dCall F__law_pick [some 1, none] (dRef 1 (dCons (dFz (dLst (dCons (DS.ret (.str ("" : Str))) (dCons (DS.ret (.str ("-" : Str))) (dCons (DS.ret .non) (dCons (DS.ret (.str ("x" : Str))) dNil)))))) dNil))) (DS.ret []))))
noncomputable def J3 : MS := (sParN [6, 7] (sCons (dLst (dCons (DS.ret (.str ("" : Str))) (dCons (DS.ret (.str ("-" : Str))) (dCons (DS.ret (.str ("x" : Str))) (dCons (DS.ret (.str ("1" : Str))) (dCons (DS.ret (.str ("a\n" : Str))) (dCons (DS.ret (.str ("\"" : Str))) dNil))))))) (sCons (dLst dNil) (DS.ret []))))
noncomputable def J4 : MS := (sFor (lRange fRange1 (dCons (d2 fMul (dFz (dCall F__law_take [some 1, none] (dRef 1 (dCons (DS.ret (.int 7)) dNil)))) (d1 fInt (d2 fNe (dVar 3) (dTup dNil)))) dNil)) (gN 8) l1_law [8, 14])
noncomputable def J5 : MS := (sSet 10 (dSh (d1 fReprK (dVarB 7))))
noncomputable def J6 : MS := (sSet 11 (dKw F_unrecorded 2 2 (fun l => perm [0, 1, 2, 3] (l ++ ([] : List (Str × D)).map (·.2))) (dCons (dVar 3) (dCons (dVar 7) dNil)) (dCons (dVar 4) (dCons (dVar 5) dNil))))
noncomputable def J7 : MS := (sSet 12 (dSh (d2 fAdd (d2 fMul (dFz (dLst (dCons (dVar 3) dNil))) (d1 fInt (d2 fNe (dVar 3) (dTup dNil)))) (dFz (dLc (lItems (dVar 7)) (gN 9) (DS.ret true) e1_law [9])))))
noncomputable def J8 : MS := (sIf (dOrT (dB (d2 fNe (dVarB 11) (dVarB 12))) (dOrT (dNotT (dB (d1 (fIsi ["list"]) (dVarB 11)))) (dB (d2 fNe (d1 fReprK (dVarB 7)) (dVarB 10))))) (sRet (dSh (DS.ret (.bl false)))) sNil)
noncomputable def J9 : MS := (sIf (dB (d2 fNeV (dFz (dKw F_records 1 2 (fun l => perm [0, 1, 2] (l ++ ([] : List (Str × D)).map (·.2))) (dCons (dVar 11) dNil) (dCons (dVar 4) (dCons (dVar 5) dNil)))) (dVarB 7))) (sRet (dSh (DS.ret (.bl false)))) sNil)
noncomputable def J10 : MS := (sIf (dB (d2 fNe (dFz (dKw F_unrecorded 0 4 (fun l => perm [3, 2, 1, 0] (l ++ ([] : List (Str × D)).map (·.2))) dNil (dCons (dVar 5) (dCons (dVar 4) (dCons (d1 fTupOf (dVarB 7)) (dCons (dVar 3) dNil)))))) (dVarB 12))) (sRet (dSh (DS.ret (.bl false)))) sNil)
theorem J_eq : l2_law = sSeq J1 (sSeq J2 (sSeq J3 (sSeq J4 (sSeq J5 (sSeq J6 (sSeq J7 (sSeq J8 (sSeq J9 J10)))))))) := rfl
section
variable {sc : D} {s : Dw} {k : Sl} {n : Nat} {x9 x13 : Sl}
def extL : List D := [.non, .str "rest", .str "more"]
def blkL : List D := [.str "", .str "-", .non, .str "x"]
theorem ext_mk {d : D} (h : d ∈ extL) : ∃ e : Option Str, d = K58.eD e ∧ (e = none ∨ e = some ("rest" : Str) ∨ e = some ("more" : Str)) := by
  simp only [extL, List.mem_cons, List.not_mem_nil, or_false] at h
  rcases h with rfl | rfl | rfl
  · exact ⟨none, rfl, .inl rfl⟩
  · exact ⟨some ("rest" : Str), rfl, .inr (.inl rfl)⟩
  · exact ⟨some ("more" : Str), rfl, .inr (.inr rfl)⟩
theorem blk_mk {d : D} (h : d ∈ blkL) : ∃ e : Option Str, d = K58.eD e ∧ (e = some ("" : Str) ∨ e = some ("-" : Str) ∨ e = none ∨ e = some ("x" : Str)) := by
  simp only [blkL, List.mem_cons, List.not_mem_nil, or_false] at h
  rcases h with rfl | rfl | rfl | rfl
  · exact ⟨some ("" : Str), rfl, .inl rfl⟩
  · exact ⟨some ("-" : Str), rfl, .inr (.inl rfl)⟩
  · exact ⟨none, rfl, .inr (.inr (.inl rfl))⟩
  · exact ⟨some ("x" : Str), rfl, .inr (.inr (.inr rfl))⟩
theorem j1_run (dk : DwOk (n + 8) s) : ∃ (s' : Dw) (ws : List Str), DwOk n s' ∧ ws.Nodup ∧ ws.length ≤ 6 ∧ (∀ w ∈ ws, w ∈ nm7) ∧ J1 (LS sc s k .no .no .no .no .no .no x9 .no .no .no x13 .no) = .nx (LS sc s' k (.sh (.tup (ws.map D.str))) .no .no .no .no .no x9 .no .no .no x13 .no) := by
  obtain ⟨s1, es, e1, d1, pm⟩ := shD_run (cs := nm7.map D.str) (n := n + 1) (s := s) (t := none) (fun c hc => by obtain ⟨w, _, rfl⟩ := List.mem_map.mp hc; exact ⟨rfl, by simp [D.dep]⟩) (dk.le (by simp [nm7])) (by simp [nm7])
  obtain ⟨es, pm2, rfl⟩ : ∃ es' : List Str, es'.Perm nm7 ∧ es = es'.map D.str := by
    refine ⟨es.map fun d => match d with | .str x => x | _ => "", ?_, ?_⟩
    · have := pm.map fun d : D => match d with | .str x => x | _ => ("" : Str)
      rw [List.map_map] at this
      have e : ((fun d : D => match d with | .str x => x | _ => ("" : Str)) ∘ D.str) = id := rfl
      rw [e, List.map_id] at this
      exact this
    · rw [List.map_map]
      refine Eq.symm ((List.map_congr_left fun x hx => ?_).trans (List.map_id _))
      obtain ⟨q, _, rfl⟩ := List.mem_map.mp (pm.mem_iff.mp hx)
      rfl
  obtain ⟨r, s2, hr, d2, e2⟩ := takeN (n := n) (t := none) (7 : Int) d1 (by omega) (by omega)
  have nd : nm7.Nodup := by decide +kernel
  refine ⟨s2, es.take r, d2, (pm2.nodup_iff.mpr nd).sublist (List.take_sublist _ _), ?_, fun w hw => pm2.mem_iff.mp (List.mem_of_mem_take hw), ?_⟩
  · rw [List.length_take]
    omega
  have sl : fSl (.lst (es.map D.str)) none (some (r : Int)) = some (.lst ((es.take r).map D.str)) := by
    have h : cut (es.map D.str) none (some (r : Int)) = (es.map D.str).take r := by
      simp only [cut, HT.sIx_nat, HT.sIx_none]
      rw [List.drop_zero, Nat.sub_zero]
      rcases Nat.le_total r (es.map D.str).length with h | h
      · rw [Nat.min_eq_left h]
      · rw [Nat.min_eq_right h, List.take_of_length_le (Nat.le_refl _), List.take_of_length_le h]
    simp only [fSl, h, List.map_take]
  have to : fTupOf (.lst ((es.take r).map D.str)) = some (.tup ((es.take r).map D.str)) := by simp [fTupOf]
  have e1 : F__law_shuffled [.rs none s, .sh (.lst [.str "a", .str "b", .str "c", .str "", .str "name", .str "x y", .str "size"])] = .ok (.ow none (.lst (es.map D.str))) [.rs none s1, .no] := e1
  generalize (es.take r).map D.str = W at *
  generalize es.map D.str = E at *
  generalize (r : Int) = z at *
  have el := sz
  unfold LS
  simp [J1, e1, e2, sl, to, el]
theorem j2_run {h : Sl} (dk : DwOk (n + 2) s) : ∃ (s' : Dw) (e b : Option Str), DwOk n s' ∧ (e = none ∨ e = some ("rest" : Str) ∨ e = some ("more" : Str)) ∧ (b = some ("" : Str) ∨ b = some ("-" : Str) ∨ b = none ∨ b = some ("x" : Str)) ∧
    J2 (LS sc s k h .no .no .no .no .no x9 .no .no .no x13 .no) = .nx (LS sc s' k h (.sh (K58.eD e)) (.sh (K58.eD b)) .no .no .no x9 .no .no .no x13 .no) := by
  obtain ⟨e, s1, he, d1, e1⟩ := pick_run (n := n + 1) (t := none) (d := .lst extL) (ds := extL) dk rfl (by simp [extL]) (by simp [extL])
  obtain ⟨b, s2, hb, d2, e2⟩ := pick_run (n := n) (t := none) (d := .lst blkL) (ds := blkL) d1 rfl (by simp [blkL]) (by simp [blkL])
  obtain ⟨E, rfl, hE⟩ := ext_mk he
  obtain ⟨B, rfl, hB⟩ := blk_mk hb
  refine ⟨s2, E, B, d2, hE, hB, ?_⟩
  generalize K58.eD E = EE at *
  generalize K58.eD B = BB at *
  have el : PySem.sizeLine = 16777216 := sz
  unfold extL at e1
  unfold blkL at e2
  unfold LS
  simp [J2, e1, e2, el]
theorem j3_run {h e b : Sl} : J3 (LS sc s k h e b .no .no .no x9 .no .no .no x13 .no) = .nx (LS sc s k h e b (.ow none menuD) (.ow none (.lst [])) .no x9 .no .no .no x13 .no) := by
  have el : PySem.sizeLine = 16777216 := sz
  unfold LS
  simp [J3, el, menuD, menu]
theorem j4_abs {s1 : Dw} {W R : List D} {e b m : Sl} {z y w : Int} {c : Bool} {r : SR} (e1 : F__law_take [.rs none s, .sh (.int 7)] = .ok (.sh (.int z)) [.rs none s1, .no]) (nm : fNe (.tup W) (.tup []) = some (.bl c)) (fi : fInt (.bl c) = some (.int y)) (mu : fMul (.int z) (.int y) = some (.int w)) (rg : fRange1 [.int w] = some R)
    (L : sEach (gN 8) l1_law [8, 14] R (LS sc s1 k (.sh (.tup W)) e b m (.ow none (.lst [])) .no x9 .no .no .no x13 .no) = r) :
    J4 (LS sc s k (.sh (.tup W)) e b m (.ow none (.lst [])) .no x9 .no .no .no x13 .no) = r := by
  unfold J4
  refine sFor_to (ds := R) (ρ1 := LS sc s1 k (.sh (.tup W)) e b m (.ow none (.lst [])) .no x9 .no .no .no x13 .no) ?_ L
  unfold LS
  simp [e1, nm, fi, mu, rg]
end
section
variable {sc : D} {s : Dw} {k : Sl} {n : Nat} {on x10 x11 x12 x13 x14 m : Sl} (so : shOr (some on) = .no) {ws : List Str} {e b : Option Str}
abbrev L4 (sc : D) (s : Dw) (k : Sl) (ws : List Str) (e b : Option Str) (m so on x10 x11 x12 x13 : Sl) : List Sl := LS sc s k (.sh (.tup (ws.map D.str))) (.sh (K58.eD e)) (.sh (K58.eD b)) m so .no on x10 x11 x12 x13 .no
theorem j5_run {rs : List Rec} {x : Str} (R : fReprK (.lst (dicts rs)) = some (.str x)) : J5 (L4 sc s k ws e b m (.ow none (.lst (dicts rs))) on .no .no .no x13) = .nx (L4 sc s k ws e b m (.ow none (.lst (dicts rs))) on (.sh (.str x)) .no .no x13) := by
  unfold L4 LS
  generalize K58.eD e = E at *
  generalize K58.eD b = B at *
  generalize ws.map D.str = W at *
  generalize dicts rs = DD at *
  simp [J5, R]
theorem j6_run {T : List D} {rs : List Rec} (U : F_unrecorded [.sh (.tup (ws.map D.str)), .sh (.lst (dicts rs)), .sh (K58.eD e), .sh (K58.eD b)] = .ok (.sh (.lst T)) [.no, .no, .no, .no]) :
    J6 (L4 sc s k ws e b m (.ow none (.lst (dicts rs))) on x10 .no .no x13) = .nx (L4 sc s k ws e b m (.sh (.lst (dicts rs))) on x10 (.sh (.lst T)) .no x13) := by
  unfold L4 LS
  generalize K58.eD e = E at *
  generalize K58.eD b = B at *
  generalize ws.map D.str = W at *
  generalize dicts rs = DD at *
  simp [J6, U, perm, finC, dKw]
theorem rows_lc2 {x13 : Sl} (H : Hd ws e b) (rs : List Rec) (hl : rs.length ≤ 100) (hr : ∀ r ∈ rs, r.ok ws e) :
    lcRun (gN 9) (ret true) e1_law [9] (dicts rs) [] (L4 sc s k ws e b m (.sh (.lst (dicts rs))) .no x10 x11 .no x13) = some (rowsD b rs, L4 sc s k ws e b m (.sh (.lst (dicts rs))) .no x10 x11 .no x13) := by
  obtain ⟨Z, hZ⟩ : ∃ Z, Z = Sl.sh (.lst (dicts rs)) := ⟨_, rfl⟩
  rw [← hZ]
  clear hZ
  have key : ∀ (rs : List Rec) (acc : List D), acc.length + rs.length ≤ 1000 → (∀ r ∈ rs, r.ok ws e) → lcRun (gN 9) (ret true) e1_law [9] (dicts rs) acc (L4 sc s k ws e b m Z .no x10 x11 .no x13) = some (acc ++ rowsD b rs, L4 sc s k ws e b m Z .no x10 x11 .no x13) := by
    intro rs
    induction rs with
    | nil => intro acc _ _; simp [dicts, rowsD, lcRun]
    | cons r rs ih =>
      intro acc ha hr
      have f := lawf_run (b := b) (hr r List.mem_cons_self) (by have := H.len; omega)
      have b0 := big0
      have st : e1_law (L4 sc s k ws e b m Z (.sh (.dct r.1)) x10 x11 .no x13) = .ok (.tup ((rowR b r.2.1 r.2.2).map D.str)) (L4 sc s k ws e b m Z (.sh (.dct r.1)) x10 x11 .no x13) := by
        unfold L4 LS
        generalize (rowR b r.2.1 r.2.2).map D.str = RR at *
        generalize ws.map D.str = W at *
        generalize K58.eD e = E at *
        generalize K58.eD b = B at *
        simp [e1_law, f]
      have ih := ih (acc ++ [.tup ((rowR b r.2.1 r.2.2).map D.str)]) (by simp at ha ⊢; omega) fun x hx => hr x (List.mem_cons_of_mem _ hx)
      show lcRun (gN 9) (ret true) e1_law [9] (.dct r.1 :: dicts rs) acc _ = some (acc ++ (.tup ((rowR b r.2.1 r.2.2).map D.str) :: rowsD b rs), _)
      rw [List.append_cons]
      rw [← ih]
      have gx : gN 9 (.dct r.1) (L4 sc s k ws e b m Z .no x10 x11 .no x13) = some (L4 sc s k ws e b m Z (.sh (.dct r.1)) x10 x11 .no x13) := rfl
      have hz : acc.length < PySem.sizeLine := by simp at ha; omega
      simp only [lcRun, gx, ret, st, hz, if_true]
      rfl
  have := key rs [] (by simp; omega) hr
  simpa using this
include so in
theorem j7_abs {W DD RW O MM : List D} {E B : D} {y : Int} {c : Bool} (nm : fNe (.tup W) (.tup []) = some (.bl c)) (fi : fInt (.bl c) = some (.int y)) (m1 : fMul (.lst [.tup W]) (.int y) = some (.lst MM)) (m2 : fAdd (.lst MM) (.lst RW) = some (.lst O))
    (L : lcRun (gN 9) (ret true) e1_law [9] DD [] (LS sc s k (.sh (.tup W)) (.sh E) (.sh B) m (.sh (.lst DD)) .no .no x10 x11 .no x13 .no) = some (RW, LS sc s k (.sh (.tup W)) (.sh E) (.sh B) m (.sh (.lst DD)) .no .no x10 x11 .no x13 .no)) :
    J7 (LS sc s k (.sh (.tup W)) (.sh E) (.sh B) m (.sh (.lst DD)) .no on x10 x11 .no x13 .no) = .nx (LS sc s k (.sh (.tup W)) (.sh E) (.sh B) m (.sh (.lst DD)) .no .no x10 x11 (.sh (.lst O)) x13 .no) := by
  have el : PySem.sizeLine = 16777216 := sz
  have it : (D.lst DD).items = some DD := rfl
  unfold LS at L ⊢
  simp [J7, nm, fi, m1, m2, it, L, el, so]
include so in
theorem j7_run (H : Hd ws e b) (rs : List Rec) (hl : rs.length ≤ 10) (h0 : ws = [] → rs = []) (hr : ∀ r ∈ rs, r.ok ws e) :
    J7 (L4 sc s k ws e b m (.sh (.lst (dicts rs))) on x10 x11 .no x13) = .nx (L4 sc s k ws e b m (.sh (.lst (dicts rs))) .no x10 x11 (.sh (.lst (hdr ws ++ rowsD b rs))) x13) := by
  have L := rows_lc2 (sc := sc) (s := s) (k := k) (m := m) (x10 := x10) (x11 := x11) (x13 := x13) H rs (by omega) hr
  have nm := K58.ne_emp ws
  have rl : (rowsD b rs).length ≤ 10 := by simp [rowsD]; omega
  have fi : ∀ c : Bool, fInt (.bl c) = some (.int (if c then 1 else 0)) := fun c => by cases c <;> rfl
  have b0 := big0
  by_cases hw : ws = []
  · have hrs := h0 hw
    subst hw
    subst hrs
    exact j7_abs so (y := 0) (c := false) (MM := []) nm (fi false) (by simp [fMul, fOr, fMulI, fRep, fI, small64]) (by simp [fAdd, rowsD, hdr]) L
  · have ie : ws.isEmpty = false := by cases ws <;> first | exact absurd rfl hw | rfl
    rw [ie] at nm
    have nm : fNe (.tup (ws.map D.str)) (.tup []) = some (.bl true) := nm
    have m1 : fMul (.lst [.tup (ws.map D.str)]) (.int 1) = some (.lst [.tup (ws.map D.str)]) := by
      have : 1 ≤ PySem.sizeLine := by omega
      simp [fMul, fOr, fMulI, fRep, fI, small64, this]
    have m2 : fAdd (.lst [.tup (ws.map D.str)]) (.lst (rowsD b rs)) = some (.lst (hdr ws ++ rowsD b rs)) := by
      simp only [fAdd]
      rw [if_pos (by simp only [List.length_cons, List.length_nil]; omega)]
      simp [hdr, ie]
    exact j7_abs so (y := 1) (c := true) nm (fi true) m1 m2 L
theorem j8_run {rs : List Rec} {x : Str} {T : List D} (R : fReprK (.lst (dicts rs)) = some (.str x)) (f : (D.lst T).flat = true) : J8 (L4 sc s k ws e b m (.sh (.lst (dicts rs))) .no (.sh (.str x)) (.sh (.lst T)) (.sh (.lst T)) x13) = .nx (L4 sc s k ws e b m (.sh (.lst (dicts rs))) .no (.sh (.str x)) (.sh (.lst T)) (.sh (.lst T)) x13) := by
  have n1 := ne_self f
  have n2 : fNe (.str x) (.str x) = some (.bl false) := ne_self (flat_str x)
  have i1 : fIsi ["list"] (.lst T) = some (.bl true) := isi_ty rfl (by decide +kernel)
  unfold L4 LS
  generalize K58.eD e = E at *
  generalize K58.eD b = B at *
  generalize ws.map D.str = W at *
  generalize dicts rs = DD at *
  simp [J8, n1, n2, i1, R]
theorem j9_run {rs : List Rec} {x : Sl} {T T12 : List D} {o : Sl} {O : D} (U : F_records [.sh (.lst T), .sh (K58.eD e), .sh (K58.eD b)] = .ok o [.no, .no, .no]) (od : o.d = some O) (q : fNeV O (.lst (dicts rs)) = some (.bl false)) :
    J9 (L4 sc s k ws e b m (.sh (.lst (dicts rs))) .no x (.sh (.lst T)) (.sh (.lst T12)) x13) = .nx (L4 sc s k ws e b m (.sh (.lst (dicts rs))) .no x (.sh (.lst T)) (.sh (.lst T12)) x13) := by
  unfold L4 LS
  generalize K58.eD e = E at *
  generalize K58.eD b = B at *
  generalize ws.map D.str = W at *
  generalize dicts rs = DD at *
  simp [J9, U, od, q, perm, finC, dKw]
theorem j10_run {rs : List Rec} {x x11 : Sl} {T : List D} (U : F_unrecorded [.sh (.tup (ws.map D.str)), .sh (.tup (dicts rs)), .sh (K58.eD e), .sh (K58.eD b)] = .ok (.sh (.lst T)) [.no, .no, .no, .no]) (f : (D.lst T).flat = true) :
    J10 (L4 sc s k ws e b m (.sh (.lst (dicts rs))) .no x x11 (.sh (.lst T)) x13) = .nx (L4 sc s k ws e b m (.sh (.lst (dicts rs))) .no x x11 (.sh (.lst T)) x13) := by
  have n1 := ne_self f
  have to : fTupOf (.lst (dicts rs)) = some (.tup (dicts rs)) := by simp [fTupOf]
  unfold L4 LS
  generalize K58.eD e = E at *
  generalize K58.eD b = B at *
  generalize ws.map D.str = W at *
  generalize dicts rs = DD at *
  simp [J10, U, to, n1, perm, finC, dKw]
end
theorem mul1 (z : Int) : fMul (.int z) (.int 1) = some (.int z) := by
  have : small64 1 = true := rfl
  simp [fMul, fMulI, fI, fOr, this]
theorem j4_mid {sc : D} {s s3 : Dw} {k : Sl} {n : Nat} {ws : List Str} {e b : Option Str} {R : List D} {z y w : Int} {c : Bool} (H : HdD ws e b) (rl : R.length ≤ 6) (h0 : ws = [] → R = []) (d3 : DwOk (n + 180) s3)
    (e3 : F__law_take [.rs none s, .sh (.int 7)] = .ok (.sh (.int z)) [.rs none s3, .no]) (nm : fNe (.tup (ws.map D.str)) (.tup []) = some (.bl c)) (fi : fInt (.bl c) = some (.int y)) (mu : fMul (.int z) (.int y) = some (.int w)) (rg : fRange1 [.int w] = some R) : ∃ (s' : Dw) (rs : List Rec) (m' on' : Sl), DwOk n s' ∧ Mn m' ∧ shOr (some on') = .no ∧ (∀ r ∈ rs, RecD ws e r) ∧ rs.length ≤ 6 ∧ (ws = [] → rs = []) ∧
    J4 (L4 sc s k ws e b (.ow none menuD) (.ow none (.lst [])) .no .no .no .no .no) = .nx (L4 sc s' k ws e b m' (.ow none (.lst (dicts rs))) on' .no .no .no .no) := by
  obtain ⟨s4, rs, m', on', d4, M4, so, hrs, lrs, L⟩ := laps1 (sc := sc) (k := k) (b := .sh (K58.eD b)) H R [] n s3 (.ow none menuD) .no (by simp; omega) (.inl rfl) rfl (d3.le (by omega)) (fun r hr => nomatch hr)
  exact ⟨s4, rs, m', on', d4, M4, so, hrs, by rw [lrs]; simp; omega, fun z => List.length_eq_zero_iff.mp (by rw [lrs, h0 z]; rfl), j4_abs e3 nm fi mu rg L⟩
theorem fi_f : fInt (.bl false) = some (.int 0) := rfl
theorem fi_t : fInt (.bl true) = some (.int 1) := rfl
theorem mul0 (z : Int) : fMul (.int z) (.int 0) = some (.int 0) := by
  have : small64 0 = true := rfl
  simp [fMul, fMulI, fI, fOr, this]
theorem rg0 : fRange1 [.int 0] = some [] := by have := range1N (k := 0) (by omega); simpa using this
theorem j4_run {sc : D} {s : Dw} {k : Sl} {n : Nat} {ws : List Str} {e b : Option Str} (H : HdD ws e b) (dk : DwOk (n + 200) s) : ∃ (s' : Dw) (rs : List Rec) (m' on' : Sl), DwOk n s' ∧ Mn m' ∧ shOr (some on') = .no ∧ (∀ r ∈ rs, RecD ws e r) ∧ rs.length ≤ 6 ∧ (ws = [] → rs = []) ∧
    J4 (L4 sc s k ws e b (.ow none menuD) (.ow none (.lst [])) .no .no .no .no .no) = .nx (L4 sc s' k ws e b m' (.ow none (.lst (dicts rs))) on' .no .no .no .no) := by
  obtain ⟨r, s3, hr, d3, e3⟩ := takeN (n := n + 199) (t := none) (7 : Int) dk (by omega) (by omega)
  have nm := K58.ne_emp ws
  by_cases hw : ws = []
  · subst hw
    exact j4_mid H (by simp) (fun _ => rfl) (d3.le (by omega)) e3 nm fi_f (mul0 _) rg0
  · have ie : ws.isEmpty = false := by cases ws <;> first | exact absurd rfl hw | rfl
    rw [ie] at nm
    exact j4_mid (c := true) H (by simp; omega) (fun z => absurd z hw) (d3.le (by omega)) e3 nm fi_t (mul1 _) (range1N (k := r) (by omega))
theorem lap {sc : D} {s : Dw} {k : Sl} {n : Nat} (dk : DwOk (n + 400) s) : ∃ (s' : Dw) (a1 a2 a3 a4 a5 a6 a8 a9 a10 : Sl), l2_law (LS sc s k .no .no .no .no .no .no .no .no .no .no .no .no) = .nx (LS sc s' k a1 a2 a3 a4 a5 a6 .no a8 a9 a10 .no .no) ∧ DwOk n s' := by
  obtain ⟨s1, ws, d1, nd, wl, wn, S1⟩ := j1_run (n := n + 390) (sc := sc) (k := k) (x9 := .no) (x13 := .no) (dk.le (by omega))
  obtain ⟨s2, e, b, d2, he, hb, S2⟩ := j2_run (n := n + 380) (sc := sc) (k := k) (x9 := .no) (x13 := .no) (h := .sh (.tup (ws.map D.str))) (d1.le (by omega))
  have S3 := j3_run (sc := sc) (s := s2) (k := k) (x9 := .no) (x13 := .no) (h := .sh (.tup (ws.map D.str))) (e := .sh (K58.eD e)) (b := .sh (K58.eD b))
  have H : HdD ws e b := ⟨nd, wl, wn, he, hb⟩
  obtain ⟨s4, rs, m', on', d4, M4, so', hrs, lrs, h0, S4⟩ := j4_run (n := n + 100) (sc := sc) (k := k) H (d2.le (by omega))
  obtain ⟨x, hx⟩ := repr_recs rs (by omega) fun r hr => ⟨(hrs r hr).len, (hrs r hr).ent⟩
  have ok : ∀ r ∈ rs, r.ok ws e := fun r hr => (hrs r hr).ok
  have S5 := j5_run (sc := sc) (s := s4) (k := k) (ws := ws) (e := e) (b := b) (m := m') (on := on') (x13 := .no) hx
  have S6 := j6_run (sc := sc) (s := s4) (k := k) (m := m') (on := on') (x10 := .sh (.str x)) (x13 := .no) (unrec_run H.hd rs (.inl rfl) (by omega) h0 ok)
  have S7 := j7_run so' (sc := sc) (s := s4) (k := k) (m := m') (on := on') (x10 := .sh (.str x)) (x11 := .sh (.lst (hdr ws ++ rowsD b rs))) (x13 := .no) H.hd rs (by omega) h0 ok
  have f := tab_flat (ws := ws) (b := b) (rs := rs)
  have S8 := j8_run (sc := sc) (s := s4) (k := k) (ws := ws) (e := e) (b := b) (m := m') (x13 := .no) hx f
  obtain ⟨o, U9, od⟩ := recs_run H.hd rs (by omega) h0 ok
  have S9 := j9_run (sc := sc) (s := s4) (k := k) (ws := ws) (e := e) (b := b) (m := m') (x := .sh (.str x)) (T12 := hdr ws ++ rowsD b rs) (x13 := .no) U9 od (same_recs rs ok)
  have S10 := j10_run (sc := sc) (s := s4) (k := k) (m := m') (x := .sh (.str x)) (x11 := .sh (.lst (hdr ws ++ rowsD b rs))) (x13 := .no) (unrec_run H.hd rs (.inr rfl) (by omega) h0 ok) f
  suffices R : l2_law (LS sc s k .no .no .no .no .no .no .no .no .no .no .no .no) = .nx (L4 sc s4 k ws e b m' (.sh (.lst (dicts rs))) .no (.sh (.str x)) (.sh (.lst (hdr ws ++ rowsD b rs))) (.sh (.lst (hdr ws ++ rowsD b rs))) .no) by
    exact ⟨s4, _, _, _, _, _, _, _, _, _, R, d4.le (by omega)⟩
  rw [J_eq, sSeq_nx S1, sSeq_nx S2, sSeq_nx S3, sSeq_nx (show J4 _ = _ from S4), sSeq_nx (show J5 _ = _ from S5), sSeq_nx (show J6 _ = _ from S6), sSeq_nx (show J7 _ = _ from S7), sSeq_nx (show J8 _ = _ from S8), sSeq_nx (show J9 _ = _ from S9)]
  exact S10
theorem laps {sc : D} : ∀ (ds : List D) (n : Nat) (s : Dw), DwOk (n + 400 * ds.length) s → ∃ s', sEach (gN 2) l2_law [2, 3, 4, 5, 6, 7, 8, 10, 11, 12, 14] ds (LS sc s .no .no .no .no .no .no .no .no .no .no .no .no .no) = .nx (LS sc s' .no .no .no .no .no .no .no .no .no .no .no .no .no) ∧ DwOk n s'
  | [], n, s, h => ⟨s, rfl, h⟩
  | d :: ds, n, s, h => by
    simp only [List.length_cons] at h
    obtain ⟨s1, a1, a2, a3, a4, a5, a6, a8, a9, a10, e1, h1⟩ := lap (n := n + 400 * ds.length) (sc := sc) (k := .sh d) (h.le (by omega))
    obtain ⟨s2, e2, h2⟩ := laps (sc := sc) ds n s1 h1
    refine ⟨s2, ?_, h2⟩
    rw [sEach_nx (ρ1 := LS sc s (.sh d) .no .no .no .no .no .no .no .no .no .no .no .no) rfl e1]
    exact e2
theorem end_run {sc : D} {s s' : Dw} {nl z : Int} {ds : List D} (e : F__law_begun [.sh sc] = .ok (.rs none s) [.no]) (ln : fLen sc = some (.int nl)) (mn : fMin (.int nl) (.int 24) = some (.int z)) {w : Int} (ad : fAdd (.int 8) (.int z) = some (.int w)) (e2 : fRange1 [.int w] = some ds)
    (e3 : sEach (gN 2) l2_law [2, 3, 4, 5, 6, 7, 8, 10, 11, 12, 14] ds (LS sc s .no .no .no .no .no .no .no .no .no .no .no .no .no) = .nx (LS sc s' .no .no .no .no .no .no .no .no .no .no .no .no .no))
    (u1 : F_unrecorded [.sh (.tup []), .sh (.lst []), .sh .non, .sh (.str "")] = .ok (.sh (.lst [])) [.no, .no, .no, .no])
    (u2 : F_unrecorded [.sh (.tup [.str "a", .str "b"]), .sh (.lst [.dct [(.str "b", .str ""), (.str "a", .str "")]]), .sh .non, .sh (.str "")] = .ok (.sh (.lst [.tup [.str "a", .str "b"], .tup [.str ""]])) [.no, .no, .no, .no]) :
    F_law [.sh sc] = .ok (.sh (.bl true)) [.no] := by
  have q1 : fEq (.lst []) (.lst []) = some (.bl true) := rfl
  have q2 : fEq (.lst [.tup [.str "a", .str "b"], .tup [.str ""]]) (.lst [.tup [.str "a", .str "b"], .tup [.str ""]]) = some (.bl true) := eq_self (by simp [D.flat, D.pur, D.dep, purL, depL])
  have el : PySem.sizeLine = 16777216 := sz
  have dk : dispK [] [(.str "b", .str ""), (.str "a", .str "")] = some [(.str "b", .str ""), (.str "a", .str "")] := by
    have k1 : kOf (.str ("b" : Str)) = some (.inr ("b" : Str)) := rfl
    have k2 : kOf (.str ("a" : Str)) = some (.inr ("a" : Str)) := rfl
    have p1 : putDk [] (.inr ("b" : Str)) (.str "") = [(.str "b", .str "")] := rfl
    have p2 : putDk [(.str ("b" : Str), .str "")] (.inr ("a" : Str)) (.str "") = [(.str "b", .str ""), (.str "a", .str "")] := put_zip (ws := ["b"]) (vs := [""]) (by decide +kernel)
    simp only [dispK, k1, k2, p1, p2]
  unfold LS at e3
  simp [F_law, mkF_eq, b_law, e, e2, e3, ln, mn, ad, perm, finC, dKw, u1, u2, q1, q2, el, dk]
theorem law_true : ∀ ns : List Int, ns.length ≤ 63 → ∃ ss, F_law [.sh (.scr ns)] = .ok (.sh (.bl true)) ss := by
  intro ns hn
  obtain ⟨s, h, e⟩ := begun_run hn
  have ln : fLen (.scr ns) = some (.int (ns.length : Nat)) := rfl
  obtain ⟨j, hm, hj⟩ : ∃ j : Nat, fMin (.int (ns.length : Nat)) (.int 24) = some (.int (j : Nat)) ∧ j ≤ 24 := by
    by_cases q : ns.length ≤ 24
    · exact ⟨ns.length, by simp only [fMin, fI]; rw [if_neg (by omega)]; rfl, q⟩
    · exact ⟨24, by simp only [fMin, fI]; rw [if_pos (by omega)]; rfl, by omega⟩
  have ad : fAdd (.int 8) (.int (j : Int)) = some (.int ((8 + j : Nat) : Int)) := by
    have : (8 : Int) + (j : Int) = ((8 + j : Nat) : Int) := by omega
    simp only [fAdd, this]
  have e2 := range1N (k := 8 + j) (by omega)
  obtain ⟨s', e3, h'⟩ := laps (sc := .scr ns) ((List.range (8 + j)).map fun i => D.int (0 + (i : Nat))) 1 s (h.le (by simp; omega))
  have H0 : HdD [] none (some ("" : Str)) := ⟨List.nodup_nil, by simp, fun w hw => (nomatch hw), .inl rfl, .inl rfl⟩
  have u1 := unrec_run (e := none) (b := some ("" : Str)) (ws := []) (X := .lst []) H0.hd [] (.inl rfl) (by simp) (fun _ => rfl) (fun r hr => nomatch hr)
  have H1 : HdD ["a", "b"] none (some ("" : Str)) := ⟨by decide +kernel, by simp, by decide +kernel, .inl rfl, .inl rfl⟩
  have u2 := unrec_run (e := none) (b := some ("" : Str)) (ws := ["a", "b"]) (X := .lst [.dct [(.str "b", .str ""), (.str "a", .str "")]]) H1.hd [([(.str "b", .str ""), (.str "a", .str "")], ["", ""], none)] (.inl rfl) (by simp) (fun z => nomatch z) (fun r hr => by
    rw [List.mem_singleton] at hr
    subst hr
    have kd : Kd [(.str "b", .str ""), (.str "a", .str "")] := ⟨by
      show [D.str ("b" : Str), D.str ("a" : Str)].Nodup
      exact List.Pairwise.map _ (fun a b hne q => hne (by injection q)) (show [("b" : Str), ("a" : Str)].Nodup by decide +kernel), fun p hp => by
      simp only [List.mem_cons, List.not_mem_nil, or_false] at hp
      rcases hp with rfl | rfl <;> exact ⟨_, rfl⟩⟩
    exact ⟨gets kd ["a", "b"] ["", ""] rfl (fun p hp => by
      have hp : p ∈ [(D.str ("a" : Str), D.str ("" : Str)), (D.str "b", D.str "")] := hp
      simp only [List.mem_cons, List.not_mem_nil, or_false] at hp ⊢
      exact hp.symm), fun v hv => by
      have this : v = "" := by simpa using hv
      subst this
      exact txm (by simp [menu]), ⟨(fun x hx => nomatch hx), rfl⟩⟩)
  exact ⟨_, end_run e ln hm ad e2 e3 u1 u2⟩
end K57
set_option Elab.async false
set_option linter.all false
set_option maxRecDepth 100000
set_option maxHeartbeats 0
namespace K57
open PySem PySem.W PySem.Calls PyProof.Rows HandSHeadRun
abbrev R : OpenRow := OpenLaw.row PySem.Challenge.rw_fieldfence_k57_whole_tables_of_records
def KK : Params → Frag := fun P =>
  (nat_lit 1, ⟨.type "dict", none, .dict (List.toArray [⟨PySem.PyData.keyHash P "builtins", .str "builtins" 162, .ref 4⟩, ⟨PySem.PyData.keyHash P "__main__", .str "__main__" 163, .ref 5⟩]) 2, #[]⟩) ::
  (nat_lit 2, ⟨.none, none, .dict (List.toArray []) 0, #[]⟩) ::
  (nat_lit 3, ⟨.type "dict", none, .dict (List.toArray [⟨PySem.PyData.keyHash P "__name__", .str "__name__" 165, .str "law_fieldfence_k57_whole_tables_of_records" 412⟩, ⟨PySem.PyData.keyHash P "__doc__", .str "__doc__" 166, .none⟩, ⟨PySem.PyData.keyHash P "__package__", .str "__package__" 167, .none⟩, ⟨PySem.PyData.keyHash P "__loader__", .str "__loader__" 168, .builtin "__main__.__loader__#opaque"⟩, ⟨PySem.PyData.keyHash P "__spec__", .str "__spec__" 169, .none⟩, ⟨PySem.PyData.keyHash P "__annotations__", .str "__annotations__" 170, .ref 6⟩, ⟨PySem.PyData.keyHash P "__builtins__", .str "__builtins__" 171, .ref 4⟩, ⟨PySem.PyData.keyHash P "__file__", .str "__file__" 173, .str "/claim/cut.py" 172⟩, ⟨PySem.PyData.keyHash P "__cached__", .str "__cached__" 174, .none⟩, ⟨PySem.PyData.keyHash P "FieldError", .str "FieldError" 206, .ref 24⟩, ⟨PySem.PyData.keyHash P "BadText", .str "BadText" 222, .ref 37⟩, ⟨PySem.PyData.keyHash P "BadTable", .str "BadTable" 238, .ref 49⟩, ⟨PySem.PyData.keyHash P "Ragged", .str "Ragged" 265, .ref 70⟩, ⟨PySem.PyData.keyHash P "BadHeader", .str "BadHeader" 292, .ref 91⟩, ⟨PySem.PyData.keyHash P "BadRecord", .str "BadRecord" 319, .ref 112⟩, ⟨PySem.PyData.keyHash P "LETTERS", .str "LETTERS" 323, .str "ABCDEFGHIJKLMNOPQRSTUVWXYZ[\\]^_`abcdefghijklmnopqrstuvwxyz{|}~" 322⟩, ⟨PySem.PyData.keyHash P "ALPHABET", .str "ALPHABET" 326, .str "\t\n !\"#$&'()*+,-./0123456789:;<=>?@ABCDEFGHIJKLMNOPQRSTUVWXYZ[\\]^_`abcdefghijklmnopqrstuvwxyz{|}~" 325⟩, ⟨PySem.PyData.keyHash P "MOST_SIGNS", .str "MOST_SIGNS" 328, .int (4000) 327⟩, ⟨PySem.PyData.keyHash P "is_text", .str "is_text" 334, .ref 119⟩, ⟨PySem.PyData.keyHash P "need_text", .str "need_text" 341, .ref 126⟩, ⟨PySem.PyData.keyHash P "is_table", .str "is_table" 349, .ref 131⟩, ⟨PySem.PyData.keyHash P "need_table", .str "need_table" 356, .ref 138⟩, ⟨PySem.PyData.keyHash P "need_choice", .str "need_choice" 365, .ref 145⟩, ⟨PySem.PyData.keyHash P "need_names", .str "need_names" 375, .ref 152⟩, ⟨PySem.PyData.keyHash P "record_of", .str "record_of" 381, .ref 157⟩, ⟨PySem.PyData.keyHash P "records", .str "records" 390, .ref 163⟩, ⟨PySem.PyData.keyHash P "is_record", .str "is_record" 396, .ref 168⟩, ⟨PySem.PyData.keyHash P "fields_of", .str "fields_of" 402, .ref 173⟩, ⟨PySem.PyData.keyHash P "unrecorded", .str "unrecorded" 411, .ref 179⟩, ⟨PySem.PyData.keyHash P "_law_begun", .str "_law_begun" 419, .ref 184⟩, ⟨PySem.PyData.keyHash P "_law_mixed", .str "_law_mixed" 431, .ref 191⟩, ⟨PySem.PyData.keyHash P "_law_take", .str "_law_take" 440, .ref 198⟩, ⟨PySem.PyData.keyHash P "_law_pick", .str "_law_pick" 448, .ref 205⟩, ⟨PySem.PyData.keyHash P "_law_shuffled", .str "_law_shuffled" 458, .ref 212⟩, ⟨PySem.PyData.keyHash P "_law_fields", .str "_law_fields" 464, .ref 217⟩, ⟨PySem.PyData.keyHash P "law", .str "law" 470, .ref 222⟩]) 36, #[]⟩) ::
  (nat_lit 15, ⟨.type "tuple", none, .seq #[.type "ValueError"] 0, #[]⟩) ::
  (nat_lit 22, ⟨.type "tuple", none, .seq #[] 0, #[]⟩) ::
  (nat_lit 23, ⟨.type "dict", none, .dict (List.toArray [⟨PySem.PyData.keyHash P "__module__", .str "__module__" 196, .str "fieldfence.errors" 187⟩, ⟨PySem.PyData.keyHash P "__firstlineno__", .str "__firstlineno__" 200, .int (2) 199⟩, ⟨PySem.PyData.keyHash P "__static_attributes__", .str "__static_attributes__" 201, .ref 22⟩, ⟨PySem.PyData.keyHash P "__weakref__", .str "__weakref__" 203, .ref 25⟩, ⟨PySem.PyData.keyHash P "__doc__", .str "__doc__" 204, .none⟩]) 3, #[]⟩) ::
  (nat_lit 24, ⟨.type "type", none, .cls { name := "FieldError", bases := [.type "ValueError"], mro := [.ref 24, .type "ValueError", .type "Exception", .type "BaseException", .type "object"], ns := 23, qualname := "FieldError", hasDict := true, slotNames := [], subclasses := [.ref 37, .ref 49, .ref 70, .ref 91, .ref 112], abstract := false, collection := none, hasDel := false }, #[(some (.ref 15)), none, (some (.str "FieldError" 189)), (some (.str "FieldError" 197)), (some (.builtin "ValueError.__new__")), (some (.bool true))]⟩) ::
  (nat_lit 25, ⟨.type "getset_descriptor", none, .fields #[.str "__weakref__" 202, .ref 24, .builtin "ExceptionGroup.__weakref__", .none], #[]⟩) ::
  (nat_lit 28, ⟨.type "tuple", none, .seq #[.ref 24] 0, #[]⟩) ::
  (nat_lit 35, ⟨.type "tuple", none, .seq #[] 0, #[]⟩) ::
  (nat_lit 36, ⟨.type "dict", none, .dict (List.toArray [⟨PySem.PyData.keyHash P "__module__", .str "__module__" 214, .str "fieldfence.errors" 187⟩, ⟨PySem.PyData.keyHash P "__firstlineno__", .str "__firstlineno__" 218, .int (4) 217⟩, ⟨PySem.PyData.keyHash P "__static_attributes__", .str "__static_attributes__" 219, .ref 35⟩, ⟨PySem.PyData.keyHash P "__doc__", .str "__doc__" 220, .none⟩]) 2, #[]⟩) ::
  (nat_lit 37, ⟨.type "type", none, .cls { name := "BadText", bases := [.ref 24], mro := [.ref 37, .ref 24, .type "ValueError", .type "Exception", .type "BaseException", .type "object"], ns := 36, qualname := "BadText", hasDict := true, slotNames := [], subclasses := [], abstract := false, collection := none, hasDel := false }, #[(some (.ref 28)), none, (some (.str "BadText" 207)), (some (.str "BadText" 215)), (some (.builtin "ValueError.__new__")), (some (.bool true))]⟩) ::
  (nat_lit 40, ⟨.type "tuple", none, .seq #[.ref 24] 0, #[]⟩) ::
  (nat_lit 47, ⟨.type "tuple", none, .seq #[] 0, #[]⟩) ::
  (nat_lit 48, ⟨.type "dict", none, .dict (List.toArray [⟨PySem.PyData.keyHash P "__module__", .str "__module__" 230, .str "fieldfence.errors" 187⟩, ⟨PySem.PyData.keyHash P "__firstlineno__", .str "__firstlineno__" 234, .int (6) 233⟩, ⟨PySem.PyData.keyHash P "__static_attributes__", .str "__static_attributes__" 235, .ref 47⟩, ⟨PySem.PyData.keyHash P "__doc__", .str "__doc__" 236, .none⟩]) 2, #[]⟩) ::
  (nat_lit 49, ⟨.type "type", none, .cls { name := "BadTable", bases := [.ref 24], mro := [.ref 49, .ref 24, .type "ValueError", .type "Exception", .type "BaseException", .type "object"], ns := 48, qualname := "BadTable", hasDict := true, slotNames := [], subclasses := [], abstract := false, collection := none, hasDel := false }, #[(some (.ref 40)), none, (some (.str "BadTable" 223)), (some (.str "BadTable" 231)), (some (.builtin "ValueError.__new__")), (some (.bool true))]⟩) ::
  (nat_lit 52, ⟨.type "tuple", none, .seq #[.ref 24] 0, #[]⟩) ::
  (nat_lit 55, ⟨.type "cell", none, .cell (some (.ref 70)), #[]⟩) ::
  (nat_lit 60, ⟨.type "tuple", none, .seq #[.ref 55] 0, #[]⟩) ::
  (nat_lit 61, ⟨.type "tuple", none, .seq #[.str "__class__" 254] 0, #[]⟩) ::
  (nat_lit 63, ⟨.type "tuple", none, .seq #[.str "self" 255, .str "row" 256] 0, #[]⟩) ::
  (nat_lit 64, ⟨.type "tuple", none, .seq #[] 0, #[]⟩) ::
  (nat_lit 66, ⟨.type "code", none, .fields #[.str "__init__" 251, .str "Ragged.__init__" 252, .str "/claim/cut.py" 253, .int (10) 0, .int (2) 0, .int (0) 0, .int (0) 0, .int (3) 0, .ref 61, .bool true, .int (181) 0, .ref 62, .none, .ref 63, .ref 64, .ref 65, .int (257) 0, .int (10) 0, .str "/claim/cut.py" 258], #[]⟩) ::
  (nat_lit 67, ⟨.type "function", none, .func ⟨"__init__", "Ragged.__init__", L2.defArgs (L2.inClass (top 4) 0), .stmts (L2.defBody (L2.inClass (top 4) 0)), L2.defScope (L2.inClass (top 4) 0), 3, [("__class__", 55)], .none, .none, .none, .str "fieldfence.errors" 187, none, .ref 66, .ref 60, 0⟩, #[]⟩) ::
  (nat_lit 68, ⟨.type "tuple", none, .seq #[.str "row" 260] 0, #[]⟩) ::
  (nat_lit 69, ⟨.type "dict", none, .dict (List.toArray [⟨PySem.PyData.keyHash P "__module__", .str "__module__" 246, .str "fieldfence.errors" 187⟩, ⟨PySem.PyData.keyHash P "__firstlineno__", .str "__firstlineno__" 250, .int (8) 249⟩, ⟨PySem.PyData.keyHash P "__init__", .str "__init__" 259, .ref 67⟩, ⟨PySem.PyData.keyHash P "__static_attributes__", .str "__static_attributes__" 261, .ref 68⟩, ⟨PySem.PyData.keyHash P "__doc__", .str "__doc__" 263, .none⟩]) 3, #[]⟩) ::
  (nat_lit 70, ⟨.type "type", none, .cls { name := "Ragged", bases := [.ref 24], mro := [.ref 70, .ref 24, .type "ValueError", .type "Exception", .type "BaseException", .type "object"], ns := 69, qualname := "Ragged", hasDict := true, slotNames := [], subclasses := [], abstract := false, collection := none, hasDel := false }, #[(some (.ref 52)), none, (some (.str "Ragged" 239)), (some (.str "Ragged" 247)), (some (.builtin "ValueError.__new__")), (some (.bool true))]⟩) ::
  (nat_lit 73, ⟨.type "tuple", none, .seq #[.ref 24] 0, #[]⟩) ::
  (nat_lit 76, ⟨.type "cell", none, .cell (some (.ref 91)), #[]⟩) ::
  (nat_lit 81, ⟨.type "tuple", none, .seq #[.ref 76] 0, #[]⟩) ::
  (nat_lit 82, ⟨.type "tuple", none, .seq #[.str "__class__" 281] 0, #[]⟩) ::
  (nat_lit 84, ⟨.type "tuple", none, .seq #[.str "self" 282, .str "column" 283] 0, #[]⟩) ::
  (nat_lit 85, ⟨.type "tuple", none, .seq #[] 0, #[]⟩) ::
  (nat_lit 87, ⟨.type "code", none, .fields #[.str "__init__" 278, .str "BadHeader.__init__" 279, .str "/claim/cut.py" 280, .int (15) 0, .int (2) 0, .int (0) 0, .int (0) 0, .int (3) 0, .ref 82, .bool true, .int (181) 0, .ref 83, .none, .ref 84, .ref 85, .ref 86, .int (284) 0, .int (15) 0, .str "/claim/cut.py" 285], #[]⟩) ::
  (nat_lit 88, ⟨.type "function", none, .func ⟨"__init__", "BadHeader.__init__", L2.defArgs (L2.inClass (top 5) 0), .stmts (L2.defBody (L2.inClass (top 5) 0)), L2.defScope (L2.inClass (top 5) 0), 3, [("__class__", 76)], .none, .none, .none, .str "fieldfence.errors" 187, none, .ref 87, .ref 81, 0⟩, #[]⟩) ::
  (nat_lit 89, ⟨.type "tuple", none, .seq #[.str "column" 287] 0, #[]⟩) ::
  (nat_lit 90, ⟨.type "dict", none, .dict (List.toArray [⟨PySem.PyData.keyHash P "__module__", .str "__module__" 273, .str "fieldfence.errors" 187⟩, ⟨PySem.PyData.keyHash P "__firstlineno__", .str "__firstlineno__" 277, .int (13) 276⟩, ⟨PySem.PyData.keyHash P "__init__", .str "__init__" 286, .ref 88⟩, ⟨PySem.PyData.keyHash P "__static_attributes__", .str "__static_attributes__" 288, .ref 89⟩, ⟨PySem.PyData.keyHash P "__doc__", .str "__doc__" 290, .none⟩]) 3, #[]⟩) ::
  (nat_lit 91, ⟨.type "type", none, .cls { name := "BadHeader", bases := [.ref 24], mro := [.ref 91, .ref 24, .type "ValueError", .type "Exception", .type "BaseException", .type "object"], ns := 90, qualname := "BadHeader", hasDict := true, slotNames := [], subclasses := [], abstract := false, collection := none, hasDel := false }, #[(some (.ref 73)), none, (some (.str "BadHeader" 266)), (some (.str "BadHeader" 274)), (some (.builtin "ValueError.__new__")), (some (.bool true))]⟩) ::
  (nat_lit 94, ⟨.type "tuple", none, .seq #[.ref 24] 0, #[]⟩) ::
  (nat_lit 97, ⟨.type "cell", none, .cell (some (.ref 112)), #[]⟩) ::
  (nat_lit 102, ⟨.type "tuple", none, .seq #[.ref 97] 0, #[]⟩) ::
  (nat_lit 103, ⟨.type "tuple", none, .seq #[.str "__class__" 308] 0, #[]⟩) ::
  (nat_lit 105, ⟨.type "tuple", none, .seq #[.str "self" 309, .str "index" 310] 0, #[]⟩) ::
  (nat_lit 106, ⟨.type "tuple", none, .seq #[] 0, #[]⟩) ::
  (nat_lit 108, ⟨.type "code", none, .fields #[.str "__init__" 305, .str "BadRecord.__init__" 306, .str "/claim/cut.py" 307, .int (20) 0, .int (2) 0, .int (0) 0, .int (0) 0, .int (3) 0, .ref 103, .bool true, .int (181) 0, .ref 104, .none, .ref 105, .ref 106, .ref 107, .int (311) 0, .int (20) 0, .str "/claim/cut.py" 312], #[]⟩) ::
  (nat_lit 109, ⟨.type "function", none, .func ⟨"__init__", "BadRecord.__init__", L2.defArgs (L2.inClass (top 6) 0), .stmts (L2.defBody (L2.inClass (top 6) 0)), L2.defScope (L2.inClass (top 6) 0), 3, [("__class__", 97)], .none, .none, .none, .str "fieldfence.errors" 187, none, .ref 108, .ref 102, 0⟩, #[]⟩) ::
  (nat_lit 110, ⟨.type "tuple", none, .seq #[.str "index" 314] 0, #[]⟩) ::
  (nat_lit 111, ⟨.type "dict", none, .dict (List.toArray [⟨PySem.PyData.keyHash P "__module__", .str "__module__" 300, .str "fieldfence.errors" 187⟩, ⟨PySem.PyData.keyHash P "__firstlineno__", .str "__firstlineno__" 304, .int (18) 303⟩, ⟨PySem.PyData.keyHash P "__init__", .str "__init__" 313, .ref 109⟩, ⟨PySem.PyData.keyHash P "__static_attributes__", .str "__static_attributes__" 315, .ref 110⟩, ⟨PySem.PyData.keyHash P "__doc__", .str "__doc__" 317, .none⟩]) 3, #[]⟩) ::
  (nat_lit 112, ⟨.type "type", none, .cls { name := "BadRecord", bases := [.ref 24], mro := [.ref 112, .ref 24, .type "ValueError", .type "Exception", .type "BaseException", .type "object"], ns := 111, qualname := "BadRecord", hasDict := true, slotNames := [], subclasses := [], abstract := false, collection := none, hasDel := false }, #[(some (.ref 94)), none, (some (.str "BadRecord" 293)), (some (.str "BadRecord" 301)), (some (.builtin "ValueError.__new__")), (some (.bool true))]⟩) ::
  (nat_lit 115, ⟨.type "tuple", none, .seq #[] 0, #[]⟩) ::
  (nat_lit 118, ⟨.type "code", none, .fields #[.str "is_text" 329, .str "is_text" 330, .str "/claim/cut.py" 331, .int (27) 0, .int (1) 0, .int (0) 0, .int (0) 0, .int (3) 0, .ref 115, .bool true, .int (181) 0, .ref 116, .none, .none, .none, .ref 117, .int (332) 0, .int (27) 0, .str "/claim/cut.py" 333], #[]⟩) ::
  (nat_lit 119, ⟨.type "function", none, .func (PySem.W.fnOf "is_text" "is_text" (L2.defArgs (top 11)) (L2.defBody (top 11)) (L2.defScope (top 11)) (.none) (.none) (.none) (.str "fieldfence.dialects" 320) none (.ref 118) (.none)), #[]⟩) ::
  (nat_lit 120, ⟨.type "tuple", none, .seq #[] 0, #[]⟩) ::
  (nat_lit 122, ⟨.type "tuple", none, .seq #[.str "value" 338] 0, #[]⟩) ::
  (nat_lit 123, ⟨.type "tuple", none, .seq #[] 0, #[]⟩) ::
  (nat_lit 125, ⟨.type "code", none, .fields #[.str "need_text" 335, .str "need_text" 336, .str "/claim/cut.py" 337, .int (29) 0, .int (1) 0, .int (0) 0, .int (0) 0, .int (3) 0, .ref 120, .bool true, .int (181) 0, .ref 121, .none, .ref 122, .ref 123, .ref 124, .int (339) 0, .int (29) 0, .str "/claim/cut.py" 340], #[]⟩) ::
  (nat_lit 126, ⟨.type "function", none, .func (PySem.W.fnOf "need_text" "need_text" (L2.defArgs (top 12)) (L2.defBody (top 12)) (L2.defScope (top 12)) (.none) (.none) (.none) (.str "fieldfence.dialects" 320) none (.ref 125) (.none)), #[]⟩) ::
  (nat_lit 127, ⟨.type "tuple", none, .seq #[] 0, #[]⟩) ::
  (nat_lit 130, ⟨.type "code", none, .fields #[.str "is_table" 344, .str "is_table" 345, .str "/claim/cut.py" 346, .int (33) 0, .int (1) 0, .int (0) 0, .int (0) 0, .int (3) 0, .ref 127, .bool true, .int (181) 0, .ref 128, .none, .none, .none, .ref 129, .int (347) 0, .int (33) 0, .str "/claim/cut.py" 348], #[]⟩) ::
  (nat_lit 131, ⟨.type "function", none, .func (PySem.W.fnOf "is_table" "is_table" (L2.defArgs (top 14)) (L2.defBody (top 14)) (L2.defScope (top 14)) (.none) (.none) (.none) (.str "fieldfence.reader" 342) none (.ref 130) (.none)), #[]⟩) ::
  (nat_lit 132, ⟨.type "tuple", none, .seq #[] 0, #[]⟩) ::
  (nat_lit 134, ⟨.type "tuple", none, .seq #[.str "value" 353] 0, #[]⟩) ::
  (nat_lit 135, ⟨.type "tuple", none, .seq #[] 0, #[]⟩) ::
  (nat_lit 137, ⟨.type "code", none, .fields #[.str "need_table" 350, .str "need_table" 351, .str "/claim/cut.py" 352, .int (37) 0, .int (1) 0, .int (0) 0, .int (0) 0, .int (3) 0, .ref 132, .bool true, .int (181) 0, .ref 133, .none, .ref 134, .ref 135, .ref 136, .int (354) 0, .int (37) 0, .str "/claim/cut.py" 355], #[]⟩) ::
  (nat_lit 138, ⟨.type "function", none, .func (PySem.W.fnOf "need_table" "need_table" (L2.defArgs (top 15)) (L2.defBody (top 15)) (L2.defScope (top 15)) (.none) (.none) (.none) (.str "fieldfence.reader" 342) none (.ref 137) (.none)), #[]⟩) ::
  (nat_lit 139, ⟨.type "tuple", none, .seq #[] 0, #[]⟩) ::
  (nat_lit 141, ⟨.type "tuple", none, .seq #[.str "value" 362] 0, #[]⟩) ::
  (nat_lit 142, ⟨.type "tuple", none, .seq #[] 0, #[]⟩) ::
  (nat_lit 144, ⟨.type "code", none, .fields #[.str "need_choice" 359, .str "need_choice" 360, .str "/claim/cut.py" 361, .int (41) 0, .int (1) 0, .int (0) 0, .int (0) 0, .int (3) 0, .ref 139, .bool true, .int (181) 0, .ref 140, .none, .ref 141, .ref 142, .ref 143, .int (363) 0, .int (41) 0, .str "/claim/cut.py" 364], #[]⟩) ::
  (nat_lit 145, ⟨.type "function", none, .func (PySem.W.fnOf "need_choice" "need_choice" (L2.defArgs (top 17)) (L2.defBody (top 17)) (L2.defScope (top 17)) (.none) (.none) (.none) (.str "fieldfence.records" 357) none (.ref 144) (.none)), #[]⟩) ::
  (nat_lit 146, ⟨.type "tuple", none, .seq #[] 0, #[]⟩) ::
  (nat_lit 148, ⟨.type "tuple", none, .seq #[.str "names" 369, .str "rest" 370, .str "column" 371, .str "name" 372] 0, #[]⟩) ::
  (nat_lit 149, ⟨.type "tuple", none, .seq #[] 0, #[]⟩) ::
  (nat_lit 151, ⟨.type "code", none, .fields #[.str "need_names" 366, .str "need_names" 367, .str "/claim/cut.py" 368, .int (44) 0, .int (2) 0, .int (0) 0, .int (0) 0, .int (3) 0, .ref 146, .bool true, .int (181) 0, .ref 147, .none, .ref 148, .ref 149, .ref 150, .int (373) 0, .int (44) 0, .str "/claim/cut.py" 374], #[]⟩) ::
  (nat_lit 152, ⟨.type "function", none, .func (PySem.W.fnOf "need_names" "need_names" (L2.defArgs (top 18)) (L2.defBody (top 18)) (L2.defScope (top 18)) (.none) (.none) (.none) (.str "fieldfence.records" 357) none (.ref 151) (.none)), #[]⟩) ::
  (nat_lit 153, ⟨.type "tuple", none, .seq #[] 0, #[]⟩) ::
  (nat_lit 156, ⟨.type "code", none, .fields #[.str "record_of" 376, .str "record_of" 377, .str "/claim/cut.py" 378, .int (48) 0, .int (5) 0, .int (0) 0, .int (0) 0, .int (3) 0, .ref 153, .bool true, .int (181) 0, .ref 154, .none, .none, .none, .ref 155, .int (379) 0, .int (48) 0, .str "/claim/cut.py" 380], #[]⟩) ::
  (nat_lit 157, ⟨.type "function", none, .func (PySem.W.fnOf "record_of" "record_of" (L2.defArgs (top 19)) (L2.defBody (top 19)) (L2.defScope (top 19)) (.none) (.none) (.none) (.str "fieldfence.records" 357) none (.ref 156) (.none)), #[]⟩) ::
  (nat_lit 158, ⟨.type "dict", none, .dict (List.toArray [⟨PySem.PyData.keyHash P "rest", .str "rest" 383, .none⟩, ⟨PySem.PyData.keyHash P "missing", .str "missing" 384, .str "" 382⟩]) 2, #[]⟩) ::
  (nat_lit 159, ⟨.type "tuple", none, .seq #[] 0, #[]⟩) ::
  (nat_lit 162, ⟨.type "code", none, .fields #[.str "records" 385, .str "records" 386, .str "/claim/cut.py" 387, .int (55) 0, .int (1) 0, .int (0) 0, .int (2) 0, .int (3) 0, .ref 159, .bool true, .int (181) 0, .ref 160, .none, .none, .none, .ref 161, .int (388) 0, .int (55) 0, .str "/claim/cut.py" 389], #[]⟩) ::
  (nat_lit 163, ⟨.type "function", none, .func (PySem.W.fnOf "records" "records" (L2.defArgs (top 20)) (L2.defBody (top 20)) (L2.defScope (top 20)) (.none) (.ref 158) (.none) (.str "fieldfence.records" 357) none (.ref 162) (.none)), #[]⟩) ::
  (nat_lit 164, ⟨.type "tuple", none, .seq #[] 0, #[]⟩) ::
  (nat_lit 167, ⟨.type "code", none, .fields #[.str "is_record" 391, .str "is_record" 392, .str "/claim/cut.py" 393, .int (65) 0, .int (3) 0, .int (0) 0, .int (0) 0, .int (3) 0, .ref 164, .bool true, .int (181) 0, .ref 165, .none, .none, .none, .ref 166, .int (394) 0, .int (65) 0, .str "/claim/cut.py" 395], #[]⟩) ::
  (nat_lit 168, ⟨.type "function", none, .func (PySem.W.fnOf "is_record" "is_record" (L2.defArgs (top 21)) (L2.defBody (top 21)) (L2.defScope (top 21)) (.none) (.none) (.none) (.str "fieldfence.records" 357) none (.ref 167) (.none)), #[]⟩) ::
  (nat_lit 169, ⟨.type "tuple", none, .seq #[] 0, #[]⟩) ::
  (nat_lit 172, ⟨.type "code", none, .fields #[.str "fields_of" 397, .str "fields_of" 398, .str "/claim/cut.py" 399, .int (75) 0, .int (4) 0, .int (0) 0, .int (0) 0, .int (3) 0, .ref 169, .bool true, .int (181) 0, .ref 170, .none, .none, .none, .ref 171, .int (400) 0, .int (75) 0, .str "/claim/cut.py" 401], #[]⟩) ::
  (nat_lit 173, ⟨.type "function", none, .func (PySem.W.fnOf "fields_of" "fields_of" (L2.defArgs (top 22)) (L2.defBody (top 22)) (L2.defScope (top 22)) (.none) (.none) (.none) (.str "fieldfence.records" 357) none (.ref 172) (.none)), #[]⟩) ::
  (nat_lit 174, ⟨.type "dict", none, .dict (List.toArray [⟨PySem.PyData.keyHash P "rest", .str "rest" 404, .none⟩, ⟨PySem.PyData.keyHash P "missing", .str "missing" 405, .str "" 403⟩]) 2, #[]⟩) ::
  (nat_lit 175, ⟨.type "tuple", none, .seq #[] 0, #[]⟩) ::
  (nat_lit 178, ⟨.type "code", none, .fields #[.str "unrecorded" 406, .str "unrecorded" 407, .str "/claim/cut.py" 408, .int (82) 0, .int (2) 0, .int (0) 0, .int (2) 0, .int (3) 0, .ref 175, .bool true, .int (181) 0, .ref 176, .none, .none, .none, .ref 177, .int (409) 0, .int (82) 0, .str "/claim/cut.py" 410], #[]⟩) ::
  (nat_lit 179, ⟨.type "function", none, .func (PySem.W.fnOf "unrecorded" "unrecorded" (L2.defArgs (top 23)) (L2.defBody (top 23)) (L2.defScope (top 23)) (.none) (.ref 174) (.none) (.str "fieldfence.records" 357) none (.ref 178) (.none)), #[]⟩) ::
  (nat_lit 180, ⟨.type "tuple", none, .seq #[] 0, #[]⟩) ::
  (nat_lit 183, ⟨.type "code", none, .fields #[.str "_law_begun" 414, .str "_law_begun" 415, .str "/claim/cut.py" 416, .int (98) 0, .int (1) 0, .int (0) 0, .int (0) 0, .int (3) 0, .ref 180, .bool true, .int (181) 0, .ref 181, .none, .none, .none, .ref 182, .int (417) 0, .int (98) 0, .str "/claim/cut.py" 418], #[]⟩) ::
  (nat_lit 184, ⟨.type "function", none, .func (PySem.W.fnOf "_law_begun" "_law_begun" (L2.defArgs (top 25)) (L2.defBody (top 25)) (L2.defScope (top 25)) (.none) (.none) (.none) (.str "law_fieldfence_k57_whole_tables_of_records" 412) none (.ref 183) (.none)), #[]⟩) ::
  (nat_lit 185, ⟨.type "tuple", none, .seq #[] 0, #[]⟩) ::
  (nat_lit 187, ⟨.type "tuple", none, .seq #[.str "_law_draw" 423, .str "_law_turn" 424, .str "_law_found" 425, .str "_law_prime" 426, .str "_law_blend" 427, .str "_law_cell" 428] 0, #[]⟩) ::
  (nat_lit 188, ⟨.type "tuple", none, .seq #[] 0, #[]⟩) ::
  (nat_lit 190, ⟨.type "code", none, .fields #[.str "_law_mixed" 420, .str "_law_mixed" 421, .str "/claim/cut.py" 422, .int (101) 0, .int (1) 0, .int (0) 0, .int (0) 0, .int (3) 0, .ref 185, .bool true, .int (181) 0, .ref 186, .none, .ref 187, .ref 188, .ref 189, .int (429) 0, .int (101) 0, .str "/claim/cut.py" 430], #[]⟩) ::
  (nat_lit 191, ⟨.type "function", none, .func (PySem.W.fnOf "_law_mixed" "_law_mixed" (L2.defArgs (top 26)) (L2.defBody (top 26)) (L2.defScope (top 26)) (.none) (.none) (.none) (.str "law_fieldfence_k57_whole_tables_of_records" 412) none (.ref 190) (.none)), #[]⟩) ::
  (nat_lit 192, ⟨.type "tuple", none, .seq #[] 0, #[]⟩) ::
  (nat_lit 194, ⟨.type "tuple", none, .seq #[.str "_law_draw" 435, .str "_law_size" 436, .str "_law_found" 437] 0, #[]⟩) ::
  (nat_lit 195, ⟨.type "tuple", none, .seq #[] 0, #[]⟩) ::
  (nat_lit 197, ⟨.type "code", none, .fields #[.str "_law_take" 432, .str "_law_take" 433, .str "/claim/cut.py" 434, .int (111) 0, .int (2) 0, .int (0) 0, .int (0) 0, .int (3) 0, .ref 192, .bool true, .int (181) 0, .ref 193, .none, .ref 194, .ref 195, .ref 196, .int (438) 0, .int (111) 0, .str "/claim/cut.py" 439], #[]⟩) ::
  (nat_lit 198, ⟨.type "function", none, .func (PySem.W.fnOf "_law_take" "_law_take" (L2.defArgs (top 27)) (L2.defBody (top 27)) (L2.defScope (top 27)) (.none) (.none) (.none) (.str "law_fieldfence_k57_whole_tables_of_records" 412) none (.ref 197) (.none)), #[]⟩) ::
  (nat_lit 199, ⟨.type "tuple", none, .seq #[] 0, #[]⟩) ::
  (nat_lit 201, ⟨.type "tuple", none, .seq #[.str "_law_draw" 444, .str "_law_items" 445] 0, #[]⟩) ::
  (nat_lit 202, ⟨.type "tuple", none, .seq #[] 0, #[]⟩) ::
  (nat_lit 204, ⟨.type "code", none, .fields #[.str "_law_pick" 441, .str "_law_pick" 442, .str "/claim/cut.py" 443, .int (119) 0, .int (2) 0, .int (0) 0, .int (0) 0, .int (3) 0, .ref 199, .bool true, .int (181) 0, .ref 200, .none, .ref 201, .ref 202, .ref 203, .int (446) 0, .int (119) 0, .str "/claim/cut.py" 447], #[]⟩) ::
  (nat_lit 205, ⟨.type "function", none, .func (PySem.W.fnOf "_law_pick" "_law_pick" (L2.defArgs (top 28)) (L2.defBody (top 28)) (L2.defScope (top 28)) (.none) (.none) (.none) (.str "law_fieldfence_k57_whole_tables_of_records" 412) none (.ref 204) (.none)), #[]⟩) ::
  (nat_lit 206, ⟨.type "tuple", none, .seq #[] 0, #[]⟩) ::
  (nat_lit 208, ⟨.type "tuple", none, .seq #[.str "_law_draw" 452, .str "_law_items" 453, .str "_law_left" 454, .str "_law_found" 455] 0, #[]⟩) ::
  (nat_lit 209, ⟨.type "tuple", none, .seq #[] 0, #[]⟩) ::
  (nat_lit 211, ⟨.type "code", none, .fields #[.str "_law_shuffled" 449, .str "_law_shuffled" 450, .str "/claim/cut.py" 451, .int (121) 0, .int (2) 0, .int (0) 0, .int (0) 0, .int (3) 0, .ref 206, .bool true, .int (181) 0, .ref 207, .none, .ref 208, .ref 209, .ref 210, .int (456) 0, .int (121) 0, .str "/claim/cut.py" 457], #[]⟩) ::
  (nat_lit 212, ⟨.type "function", none, .func (PySem.W.fnOf "_law_shuffled" "_law_shuffled" (L2.defArgs (top 29)) (L2.defBody (top 29)) (L2.defScope (top 29)) (.none) (.none) (.none) (.str "law_fieldfence_k57_whole_tables_of_records" 412) none (.ref 211) (.none)), #[]⟩) ::
  (nat_lit 213, ⟨.type "tuple", none, .seq #[] 0, #[]⟩) ::
  (nat_lit 216, ⟨.type "code", none, .fields #[.str "_law_fields" 459, .str "_law_fields" 460, .str "/claim/cut.py" 461, .int (126) 0, .int (4) 0, .int (0) 0, .int (0) 0, .int (3) 0, .ref 213, .bool true, .int (181) 0, .ref 214, .none, .none, .none, .ref 215, .int (462) 0, .int (126) 0, .str "/claim/cut.py" 463], #[]⟩) ::
  (nat_lit 217, ⟨.type "function", none, .func (PySem.W.fnOf "_law_fields" "_law_fields" (L2.defArgs (top 30)) (L2.defBody (top 30)) (L2.defScope (top 30)) (.none) (.none) (.none) (.str "law_fieldfence_k57_whole_tables_of_records" 412) none (.ref 216) (.none)), #[]⟩) ::
  (nat_lit 218, ⟨.type "tuple", none, .seq #[] 0, #[]⟩) ::
  (nat_lit 221, ⟨.type "code", none, .fields #[.str "law" 465, .str "law" 466, .str "/claim/cut.py" 467, .int (131) 0, .int (1) 0, .int (0) 0, .int (0) 0, .int (3) 0, .ref 218, .bool true, .int (181) 0, .ref 219, .none, .none, .none, .ref 220, .int (468) 0, .int (131) 0, .str "/claim/cut.py" 469], #[]⟩) ::
  (nat_lit 222, ⟨.type "function", none, .func (PySem.W.fnOf "law" "law" (L2.defArgs (top 31)) (L2.defBody (top 31)) (L2.defScope (top 31)) (.none) (.none) (.none) (.str "law_fieldfence_k57_whole_tables_of_records" 412) none (.ref 221) (.none)), #[]⟩) :: []
def KA : List Addr := [1, 2, 3, 15, 22, 23, 24, 25, 28, 35, 36, 37, 40, 47, 48, 49, 52, 55, 60, 61, 63, 64, 66, 67, 68, 69, 70, 73, 76, 81, 82, 84, 85, 87, 88, 89, 90, 91, 94, 97, 102, 103, 105, 106, 108, 109, 110, 111, 112, 115, 118, 119, 120, 122, 123, 125, 126, 127, 130, 131, 132, 134, 135, 137, 138, 139, 141, 142, 144, 145, 146, 148, 149, 151, 152, 153, 156, 157, 158, 159, 162, 163, 164, 167, 168, 169, 172, 173, 174, 175, 178, 179, 180, 183, 184, 185, 187, 188, 190, 191, 192, 194, 195, 197, 198, 199, 201, 202, 204, 205, 206, 208, 209, 211, 212, 213, 216, 217, 218, 221, 222]
theorem KA_eq : ∀ P, KA = (KK P).map (·.1) := fun _ => by kernel_rfl
abbrev qv : Program := view R.prog [31]
def nms : List PySem.Str := (["FieldError", "BadText", "BadTable", "Ragged", "BadHeader", "BadRecord", "LETTERS", "ALPHABET", "MOST_SIGNS", "is_text", "need_text", "is_table", "need_table", "need_choice", "need_names", "record_of", "records", "is_record", "fields_of", "unrecorded", "_law_begun", "_law_mixed", "_law_take", "_law_pick", "_law_shuffled", "_law_fields"] : List PySem.Str)
theorem run (w : World) : RunEq R qv (kHook KK KA KA_eq) (fun s => KA.map (HandSHeadRun.getT s)) 40000 nms w := by
  intro os
  kernel_rfl
end K57
set_option Elab.async false
set_option linter.all false
open PySem PySem.W PyProof.Rows in
set_option maxRecDepth 100000 in
set_option maxHeartbeats 0 in
theorem PySem.Challenge.cw_fieldfence_k57_whole_tables_of_records_holds : PySem.Challenge.rw_fieldfence_k57_whole_tables_of_records.Holds := by
  w_on; o_law
  refine HandSHeadRun.head_any (r := OpenLaw.row PySem.Challenge.rw_fieldfence_k57_whole_tables_of_records) (q := K57.qv) (H := kHook K57.KK K57.KA K57.KA_eq) (ob := fun s => K57.KA.map (HandSHeadRun.getT s)) (M := 40000) (loose := K57.nms) (d := HandSHeadRun.topDef (OpenLaw.row PySem.Challenge.rw_fieldfence_k57_whole_tables_of_records).prog 31) (kwd := []) (fun s => List.map_congr_left fun a _ => HandSHeadRun.getT_eq s a)
    (by kernel_rfl) (fun s => by kernel_rfl) K57.run (by kernel_rfl) (by kernel_rfl) (by kernel_rfl) (by rfl) (by first | assumption | decide +kernel) (by decide +kernel) ⟨rfl, rfl, rfl, rfl, rfl, by decide +kernel⟩ ?hw ?hc
  case hw => w_witness2
  k_fill
  refine DS.walk_ds (l := PySem.Challenge.rw_fieldfence_k57_whole_tables_of_records) (n := 63) (k := 10) (x := "_law_script") (Fn := K57.F_law) rfl (by decide) rfl ⟨rfl, by decide, by decide⟩ (fun w h Y => PySem.W.kIn_of Y) ?F K57.law_true
  case F =>
    intro w mg fa h KX G hmg
    refine' K57.head KX G hmg ?zb_abs ?zb_all ?zb_dict ?zb_enumerate ?zb_int ?zb_isinstance ?zb_len ?zb_list ?zb_min ?zb_range ?zb_repr ?zb_str ?zb_tuple ?zg_ALPHABET ?zg_MOST_SIGNS ?z_super ?z_third ?a_BadText ?a_BadTable ?a_Ragged ?a_BadHeader ?a_BadRecord ?eb_BadText ?ic_BadText ?ty_BadText ?kp_BadText ?ga_BadText ?gg_BadText ?hd_BadText ?zx_BadText ?eb_BadTable ?ic_BadTable ?ty_BadTable ?kp_BadTable ?ga_BadTable ?gg_BadTable ?hd_BadTable ?zx_BadTable ?eb_Ragged ?ic_Ragged ?ty_Ragged ?kp_Ragged ?ga_Ragged ?gg_Ragged ?hd_Ragged ?no_Ragged_row ?x_Ragged ?sa_Ragged ?ii_Ragged ?ti_Ragged ?ve_Ragged ?li_Ragged ?ci_Ragged ?up_Ragged ?ow_Ragged ?ce_Ragged ?cd_Ragged ?cv_Ragged ?cf_Ragged ?tp_Ragged ?eb_BadHeader ?ic_BadHeader ?ty_BadHeader ?kp_BadHeader ?ga_BadHeader ?gg_BadHeader ?hd_BadHeader ?no_BadHeader_column ?x_BadHeader ?sa_BadHeader ?ii_BadHeader ?ti_BadHeader ?ve_BadHeader ?li_BadHeader ?ci_BadHeader ?up_BadHeader ?ow_BadHeader ?ce_BadHeader ?cd_BadHeader ?cv_BadHeader ?cf_BadHeader ?tp_BadHeader ?eb_BadRecord ?ic_BadRecord ?ty_BadRecord ?kp_BadRecord ?ga_BadRecord ?gg_BadRecord ?hd_BadRecord ?no_BadRecord_index ?x_BadRecord ?sa_BadRecord ?ii_BadRecord ?ti_BadRecord ?ve_BadRecord ?li_BadRecord ?ci_BadRecord ?up_BadRecord ?ow_BadRecord ?ce_BadRecord ?cd_BadRecord ?cv_BadRecord ?cf_BadRecord ?tp_BadRecord ?z_sys ?fa_is_text ?fl_is_text ?fc_is_text ?fk_is_text ?fa_need_text ?fl_need_text ?fc_need_text ?fk_need_text ?fa_is_table ?fl_is_table ?fc_is_table ?fk_is_table ?fa_need_table ?fl_need_table ?fc_need_table ?fk_need_table ?fa_need_choice ?fl_need_choice ?fc_need_choice ?fk_need_choice ?fa_need_names ?fl_need_names ?fc_need_names ?fk_need_names ?fa_record_of ?fl_record_of ?fc_record_of ?fk_record_of ?fa_records ?fl_records ?fc_records ?fk_records ?fw_records_rest ?fw_records_missing ?fa_is_record ?fl_is_record ?fc_is_record ?fk_is_record ?fa_fields_of ?fl_fields_of ?fc_fields_of ?fk_fields_of ?fa_unrecorded ?fl_unrecorded ?fc_unrecorded ?fk_unrecorded ?fw_unrecorded_rest ?fw_unrecorded_missing ?fa__law_begun ?fl__law_begun ?fc__law_begun ?fk__law_begun ?fa__law_mixed ?fl__law_mixed ?fc__law_mixed ?fk__law_mixed ?fa__law_take ?fl__law_take ?fc__law_take ?fk__law_take ?fa__law_pick ?fl__law_pick ?fc__law_pick ?fk__law_pick ?fa__law_shuffled ?fl__law_shuffled ?fc__law_shuffled ?fk__law_shuffled ?fa__law_fields ?fl__law_fields ?fc__law_fields ?fk__law_fields ?fa_law ?fl_law ?fc_law ?fk_law
    (case zb_abs => k_is)
    (case zb_all => k_is)
    (case zb_dict => k_is)
    (case zb_enumerate => k_is)
    (case zb_int => k_is)
    (case zb_isinstance => k_is)
    (case zb_len => k_is)
    (case zb_list => k_is)
    (case zb_min => k_is)
    (case zb_range => k_is)
    (case zb_repr => k_is)
    (case zb_str => k_is)
    (case zb_tuple => k_is)
    (case zg_ALPHABET => k_is)
    (case zg_MOST_SIGNS => k_is)
    (case z_super => k_is)
    (case z_third => k_is)
    (case a_BadText => k_is)
    (case a_BadTable => k_is)
    (case a_Ragged => k_is)
    (case a_BadHeader => k_is)
    (case a_BadRecord => k_is)
    (case eb_BadText => k_is)
    (case ic_BadText => k_is)
    (case ty_BadText => k_is)
    (case kp_BadText => k_is)
    (case ga_BadText => k_is)
    (case gg_BadText => k_is)
    (case hd_BadText => k_is)
    (case zx_BadText => first | k_exc | kx_is | k_is)
    (case eb_BadTable => k_is)
    (case ic_BadTable => k_is)
    (case ty_BadTable => k_is)
    (case kp_BadTable => k_is)
    (case ga_BadTable => k_is)
    (case gg_BadTable => k_is)
    (case hd_BadTable => k_is)
    (case zx_BadTable => first | k_exc | kx_is | k_is)
    (case eb_Ragged => k_is)
    (case ic_Ragged => k_is)
    (case ty_Ragged => k_is)
    (case kp_Ragged => k_is)
    (case ga_Ragged => k_is)
    (case gg_Ragged => k_is)
    (case hd_Ragged => k_is)
    (case no_Ragged_row => k_is)
    (case x_Ragged => k_is)
    (case sa_Ragged => k_is)
    (case ii_Ragged => k_is)
    (case ti_Ragged => k_is)
    (case ve_Ragged => k_is)
    (case li_Ragged => k_is)
    (case ci_Ragged => k_is)
    (case up_Ragged => first | ks_is | k_is)
    (case ow_Ragged => k_is)
    (case ce_Ragged => k_is)
    (case cd_Ragged => k_is)
    (case cv_Ragged => rfl)
    (case cf_Ragged => first | rfl | decide +kernel)
    (case tp_Ragged => first | rfl | decide +kernel)
    (case eb_BadHeader => k_is)
    (case ic_BadHeader => k_is)
    (case ty_BadHeader => k_is)
    (case kp_BadHeader => k_is)
    (case ga_BadHeader => k_is)
    (case gg_BadHeader => k_is)
    (case hd_BadHeader => k_is)
    (case no_BadHeader_column => k_is)
    (case x_BadHeader => k_is)
    (case sa_BadHeader => k_is)
    (case ii_BadHeader => k_is)
    (case ti_BadHeader => k_is)
    (case ve_BadHeader => k_is)
    (case li_BadHeader => k_is)
    (case ci_BadHeader => k_is)
    (case up_BadHeader => first | ks_is | k_is)
    (case ow_BadHeader => k_is)
    (case ce_BadHeader => k_is)
    (case cd_BadHeader => k_is)
    (case cv_BadHeader => rfl)
    (case cf_BadHeader => first | rfl | decide +kernel)
    (case tp_BadHeader => first | rfl | decide +kernel)
    (case eb_BadRecord => k_is)
    (case ic_BadRecord => k_is)
    (case ty_BadRecord => k_is)
    (case kp_BadRecord => k_is)
    (case ga_BadRecord => k_is)
    (case gg_BadRecord => k_is)
    (case hd_BadRecord => k_is)
    (case no_BadRecord_index => k_is)
    (case x_BadRecord => k_is)
    (case sa_BadRecord => k_is)
    (case ii_BadRecord => k_is)
    (case ti_BadRecord => k_is)
    (case ve_BadRecord => k_is)
    (case li_BadRecord => k_is)
    (case ci_BadRecord => k_is)
    (case up_BadRecord => first | ks_is | k_is)
    (case ow_BadRecord => k_is)
    (case ce_BadRecord => k_is)
    (case cd_BadRecord => k_is)
    (case cv_BadRecord => rfl)
    (case cf_BadRecord => first | rfl | decide +kernel)
    (case tp_BadRecord => first | rfl | decide +kernel)
    (case z_sys => k_is)
    (case fa_is_text => k_is)
    (case fl_is_text => k_is)
    (case fc_is_text => k_is)
    (case fk_is_text => k_is)
    (case fa_need_text => k_is)
    (case fl_need_text => k_is)
    (case fc_need_text => k_is)
    (case fk_need_text => k_is)
    (case fa_is_table => k_is)
    (case fl_is_table => k_is)
    (case fc_is_table => k_is)
    (case fk_is_table => k_is)
    (case fa_need_table => k_is)
    (case fl_need_table => k_is)
    (case fc_need_table => k_is)
    (case fk_need_table => k_is)
    (case fa_need_choice => k_is)
    (case fl_need_choice => k_is)
    (case fc_need_choice => k_is)
    (case fk_need_choice => k_is)
    (case fa_need_names => k_is)
    (case fl_need_names => k_is)
    (case fc_need_names => k_is)
    (case fk_need_names => k_is)
    (case fa_record_of => k_is)
    (case fl_record_of => k_is)
    (case fc_record_of => k_is)
    (case fk_record_of => k_is)
    (case fa_records => k_is)
    (case fl_records => k_is)
    (case fc_records => k_is)
    (case fk_records => k_is)
    (case fw_records_rest => k_is)
    (case fw_records_missing => k_is)
    (case fa_is_record => k_is)
    (case fl_is_record => k_is)
    (case fc_is_record => k_is)
    (case fk_is_record => k_is)
    (case fa_fields_of => k_is)
    (case fl_fields_of => k_is)
    (case fc_fields_of => k_is)
    (case fk_fields_of => k_is)
    (case fa_unrecorded => k_is)
    (case fl_unrecorded => k_is)
    (case fc_unrecorded => k_is)
    (case fk_unrecorded => k_is)
    (case fw_unrecorded_rest => k_is)
    (case fw_unrecorded_missing => k_is)
    (case fa__law_begun => k_is)
    (case fl__law_begun => k_is)
    (case fc__law_begun => k_is)
    (case fk__law_begun => k_is)
    (case fa__law_mixed => k_is)
    (case fl__law_mixed => k_is)
    (case fc__law_mixed => k_is)
    (case fk__law_mixed => k_is)
    (case fa__law_take => k_is)
    (case fl__law_take => k_is)
    (case fc__law_take => k_is)
    (case fk__law_take => k_is)
    (case fa__law_pick => k_is)
    (case fl__law_pick => k_is)
    (case fc__law_pick => k_is)
    (case fk__law_pick => k_is)
    (case fa__law_shuffled => k_is)
    (case fl__law_shuffled => k_is)
    (case fc__law_shuffled => k_is)
    (case fk__law_shuffled => k_is)
    (case fa__law_fields => k_is)
    (case fl__law_fields => k_is)
    (case fc__law_fields => k_is)
    (case fk__law_fields => k_is)
    (case fa_law => k_is)
    (case fl_law => k_is)
    (case fc_law => k_is)
    (case fk_law => k_is)
